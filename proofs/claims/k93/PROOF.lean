import PyProof.Rows.All
import Wide.All
import OpenK.AllK
import Wide.FinOn
import HandS.ForMost
import HandS.Wide
import HandS.WideBits
import HandS.IsInst
import HandS.TupAny
import HandS.TupMul
import HandS.Deep
import HandS.Zip
import HandS.Flow
import HandS.Style
import HandS.TupLe
import HandS.RaiseMore
import KE.DatumIndex
import KE.DataCmp
import KE.DataMinMax
import KE.KTupSum
import ObjForm.LawKit
import KE.GoesEnum
import KE.GoesZip
import HandS.Conv
import HandS.Ends
import KE.SortData
import KE.KStateDown
import HandS.Words
import HandS.Defaults
import HandS.Head0
import HandS.Head1
import HandS.Head2
import HandS.HeadEnd
import HandS.HeadHook1
import HandS.HeadHook2
import PySem.Challenge.RW_promisedhall_k93_whole_pieces_and_machin
section
set_option Elab.async false
set_option linter.all false
set_option maxRecDepth 100000
/-! A small interpreter over data: terms, their evaluation. No walk here. -/
namespace Iv
open PySem PySem.Spec PyProof.Rows L2
abbrev D := PyData
/-! ### equality of data, decided -/
mutual
def same : D → D → Bool
  | .none, .none => true
  | .bool a, .bool b => a == b
  | .int a, .int b => a == b
  | .str a, .str b => a == b
  | .list a, .list b => sames a b
  | .tuple a, .tuple b => sames a b
  | _, _ => false
def sames : List D → List D → Bool
  | [], [] => true
  | a :: r, b :: t => same a b && sames r t
  | _, _ => false
end
mutual
theorem same_eq : ∀ {a b : D}, same a b = true → a = b
  | .none, b, h => by cases b <;> simp [same] at h ⊢
  | .bool x, b, h => by cases b <;> simp [same] at h ⊢; exact h
  | .int x, b, h => by cases b <;> simp [same] at h ⊢; exact h
  | .str x, b, h => by cases b <;> simp [same] at h ⊢; exact h
  | .list x, b, h => by
    cases b <;> simp only [same, Bool.false_eq_true] at h
    rw [sames_eq h]
  | .tuple x, b, h => by
    cases b <;> simp only [same, Bool.false_eq_true] at h
    rw [sames_eq h]
  | .dict x, b, h => by cases b <;> simp [same] at h
theorem sames_eq : ∀ {a b : List D}, sames a b = true → a = b
  | [], [], _ => rfl
  | [], _ :: _, h => by simp [sames] at h
  | _ :: _, [], h => by simp [sames] at h
  | x :: r, y :: t, h => by
    rw [sames, Bool.and_eq_true] at h
    rw [same_eq h.1, sames_eq h.2]
end
/-! ### slots -/
/-- a name's slot: nothing, a value that never changes, a list of one's own (fz: it may become a value; else it belongs to the caller) -/
inductive Sl where
  | un
  | sh (d : D)
  | own (fz : Bool) (ds : List D)
abbrev Ev := List Sl
inductive Bo where | add | sub | mul | fdv | mod | pow
  deriving DecidableEq
inductive Co where | eq | ne | lt | le | gt | ge | is | isn | inn | nin
  deriving DecidableEq
/-- builtins of one argument, of two -/
inductive B1 where | len | abs | max | min | sum | all | any | int | str | repr | list | tup | sorted
  deriving DecidableEq
inductive B2 where | max | min | dvm
  deriving DecidableEq
inductive M1 where | lrng | fr | join
  deriving DecidableEq
/-- how a thing is walked -/
inductive Ik where | walk | enm | zip | rng | rng2
  deriving DecidableEq
/-- a target: a name, an item of a name's list; a tuple of targets -/
inductive Tg where
  | nm (i : Nat)
  | tp (is : List Nat)
inductive Ex where
  | var (i : Nat)
  | mu (i : Nat)
  | cst (d : D)
  | glo (x : Str) (d : D)
  | bin (o : Bo) (a b : Ex)
  | neg (a : Ex)
  | nt (a : Ex)
  | and (a b : Ex)
  | or (a b : Ex)
  | cmp (o : Co) (a b : Ex)
  | chn (o p : Co) (a b c : Ex)
  | ite (c a b : Ex)
  | tup (as : Ex)
  | lst (as : Ex)
  | rep (as n : Ex)
  | nil
  | cons (a as : Ex)
  | idx (a i : Ex)
  | slc (a lo hi : Ex)
  | noe
  | call (j : Nat) (as : Ex)
  | calk (j : Nat) (as ks : Ex) (perm : List Nat)
  | b1 (b : B1) (a : Ex)
  | b2 (b : B2) (a c : Ex)
  | isi (a : Ex) (ts : List String)
  | m1 (m : M1) (a b : Ex)
  | cf (j : Nat) (a : Ex)
  | lc (own : List (Str × Nat)) (g : Tg) (k : Ik) (a b : Ex) (c e : Ex)
/-! ### operations on data -/
def tyName : D → String
  | .none => "NoneType" | .bool _ => "bool" | .int _ => "int" | .str _ => "str" | .list _ => "list" | .tuple _ => "tuple" | .dict _ => "dict"
def isaD (d : D) (t : String) : Option Bool :=
  match t with
  | "int" => some (match d with | .int _ => true | .bool _ => true | _ => false)
  | "bool" => some (match d with | .bool _ => true | _ => false)
  | "str" => some (match d with | .str _ => true | _ => false)
  | "tuple" => some (match d with | .tuple _ => true | _ => false)
  | "list" => some (match d with | .list _ => true | _ => false)
  | _ => none
def isaAny (d : D) : List String → Option Bool
  | [] => some false
  | t :: r => match isaD d t with
    | some true => some true
    | some false => isaAny d r
    | none => none
def truth : D → Option Bool
  | .none => some false
  | .bool b => some b
  | .int i => some (i != 0)
  | .str x => if x.length ≤ sizeLine then some ((x.length : Int) != 0) else none
  | .list ds => some (!ds.isEmpty)
  | .tuple ds => some (!ds.isEmpty)
  | .dict _ => none
/-- what is known of the size of ints -/
def mulOk (i j : Int) : Bool := decide (i.natAbs.log2 + j.natAbs.log2 < 1000000)
def divOk (j : Int) : Bool := decide (0 < j) && decide (j.natAbs.log2 < 9000)
def addD : D → D → Option D
  | .int i, .int j => some (.int (i + j))
  | .str a, .str b => if a.length + b.length ≤ sizeLine then some (.str (a ++ b)) else none
  | .list a, .list b => if a.length + b.length ≤ sizeLine then some (.list (a ++ b)) else none
  | .tuple a, .tuple b => if a.length + b.length ≤ sizeLine then some (.tuple (a ++ b)) else none
  | _, _ => none
def mulD : D → D → Option D
  | .int i, .int j => if mulOk i j then some (.int (i * j)) else none
  | _, _ => none
/-- [..] * n -/
def repD : D → D → Option D
  | .list a, .int k => if -(2 ^ 63) ≤ k ∧ k < 2 ^ 63 ∧ a.length * k.toNat ≤ sizeLine then some (.list (List.replicate k.toNat a).flatten) else none
  | _, _ => none
def binD : Bo → D → D → Option D
  | .add, a, b => addD a b
  | .mul, a, b => mulD a b
  | .sub, .int i, .int j => some (.int (i - j))
  | .fdv, .int i, .int j => if divOk j then some (.int (i / j)) else none
  | .mod, .int i, .int j => if 0 < j then some (.int (i % j)) else none
  | .pow, .int i, .int j => if 0 ≤ j ∧ j ≤ 1000000 ∧ i.natAbs < 2 ^ 64 then some (.int (i ^ j.toNat)) else none
  | _, _, _ => none
def flat : D → Bool
  | .none => true | .bool _ => true | .int _ => true | .str _ => true | _ => false
def eqD (a b : D) : Option Bool :=
  match a, b with
  | .int i, .int j => some (decide (i = j))
  | .str i, .str j => some (decide (i = j))
  | _, _ => if SeqAt.shaped a && SeqAt.shaped b then some (PyData.eqv a b) else none
/-- two rows of ints in their order -/
def intsOf : List D → Option (List Int)
  | [] => some []
  | .int i :: r => (intsOf r).map (i :: ·)
  | _ :: _ => none
def ltD : D → D → Option Bool
  | .int i, .int j => some (decide (i < j))
  | .tuple a, .tuple b => match intsOf a, intsOf b with
    | some x, some y => some (HT.lexLt x y)
    | _, _ => none
  | _, _ => none
/-- two rows in their order, the greater one first -/
def gtD (a b : D) : Option Bool := if PySem.W.alike a b && decide (a.depth ≤ 60) then some (PySem.W.dataLt b a) else none
def inD (x : D) : D → Option Bool
  | .list ds => if flat x && ds.all flat then some (ds.any fun y => PyData.eqv y x)
    else if SeqAt.shaped x && SeqAt.shaped (.list ds) then some (ds.any fun y => PyData.eqv y x) else none
  | .tuple ds => if flat x && ds.all flat then some (ds.any fun y => PyData.eqv y x) else none
  | .str z => match x with
    | .str y => some (!(Builtin.Str.occurrences z y 0 z.length 1).isEmpty)
    | _ => none
  | _ => none
def isNone : D → Bool
  | .none => true
  | _ => false
def cmpD : Co → D → D → Option Bool
  | .eq, a, b => eqD a b
  | .ne, a, b => (eqD a b).map (!·)
  | .lt, a, b => ltD a b
  | .gt, .int i, .int j => some (decide (j < i))
  | .gt, .tuple a, .tuple b => gtD (.tuple a) (.tuple b)
  | .le, .int i, .int j => some (decide (i ≤ j))
  | .ge, .int i, .int j => some (decide (j ≤ i))
  | .is, a, .none => some (isNone a)
  | .isn, a, .none => some (!isNone a)
  | .is, .bool a, .bool b => some (decide (a = b))
  | .isn, .bool a, .bool b => some (!decide (a = b))
  | .inn, a, b => inD a b
  | .nin, a, b => (inD a b).map (!·)
  | _, _, _ => none
def idxD : D → D → Option D
  | .list ds, .int i => atI ds i
  | .tuple ds, .int i => atI ds i
  | .str z, .int i => if z.length ≤ sizeLine then (atI z.cps.toList i).map fun c => .str ⟨#[c]⟩ else none
  | _, _ => none
def partOf (t : Ex) (d : D) : Option (Option Int) := match t with
  | .noe => some none
  | _ => match d with
    | .int i => some (some i)
    | _ => none
/-- xs[lo:hi] -/
def cutL {α : Type} (xs : List α) (lo hi : Option Int) : List α := (xs.drop (HT.sIx xs.length 0 lo)).take (HT.sIx xs.length xs.length hi - HT.sIx xs.length 0 lo)
def slcD (l h : Option Int) : D → Option D
  | .list ds => some (.list (cutL ds l h))
  | .tuple ds => some (.tuple (cutL ds l h))
  | .str z => if z.length ≤ sizeLine then some (.str (cutS z l h)) else none
  | _ => none
def boolsOf : List D → Option (List Bool)
  | [] => some []
  | .bool b :: r => (boolsOf r).map (b :: ·)
  | _ :: _ => none
def itemsOf : D → Option (List D)
  | .list ds => some ds
  | .tuple ds => some ds
  | .str z => some (z.cps.toList.map fun c => .str ⟨#[c]⟩)
  | _ => none
def b1D : B1 → D → Option D
  | .len, .list ds => some (.int ds.length)
  | .len, .tuple ds => some (.int ds.length)
  | .len, .str z => if z.length ≤ sizeLine then some (.int z.length) else none
  | .abs, .int i => some (.int (if i < 0 then -i else i))
  | .int, .int i => some (.int i)
  | .int, .bool b => some (.int (if b then 1 else 0))
  | .all, .list ds => (boolsOf ds).map fun bs => .bool (bs.all id)
  | .any, .list ds => (boolsOf ds).map fun bs => .bool (bs.any id)
  | .sum, .list ds => (intsOf ds).map fun ns => .int ns.sum
  | .max, .list ds => match intsOf ds with
    | some (n :: ns) => some (.int (ns.foldl (fun m x => if x > m then x else m) n))
    | _ => none
  | .min, .list ds => match intsOf ds with
    | some (n :: ns) => some (.int (ns.foldl (fun m x => if x < m then x else m) n))
    | _ => none
  | .sum, .tuple ds => (intsOf ds).map fun ns => .int ns.sum
  | .max, .tuple ds => match intsOf ds with
    | some (n :: ns) => some (.int (ns.foldl (fun m x => if x > m then x else m) n))
    | _ => none
  | .min, .tuple ds => match intsOf ds with
    | some (n :: ns) => some (.int (ns.foldl (fun m x => if x < m then x else m) n))
    | _ => none
  | .str, .int i => if i.natAbs.log2 < 1920 then some (.str (toString i)) else none
  | .str, .str z => some (.str z)
  | .list, .list ds => some (.list ds)
  | .list, .tuple ds => some (.list ds)
  | .tup, .list ds => some (.tuple ds)
  | .tup, .tuple ds => some (.tuple ds)
  | .repr, d => if d.showable && !d.hasDict && decide (d.depth ≤ 60) && decide (d.shown.length ≤ sizeLine) then some (.str d.shown) else none
  | _, _ => none
def b2D : B2 → D → D → Option D
  | .max, .int i, .int j => some (.int (if j > i then j else i))
  | .min, .int i, .int j => some (.int (if j < i then j else i))
  | .dvm, .int i, .int j => if 0 < j ∧ Builtin.divisionGoesByPylong i j = false then some (.tuple [.int (i / j), .int (i % j)]) else none
  | _, _, _ => none
def rngD (lo hi : Int) : List D := (List.range (hi - lo).toNat).map fun i => .int (lo + (i : Nat))
def small62 (i : Int) : Bool := decide (-(2 ^ 62) ≤ i) && decide (i < 2 ^ 62)
/-- the items that a walk gives -/
def walkD : Ik → D → D → Option (List D)
  | .walk, a, _ => itemsOf a
  | .enm, a, _ => (itemsOf a).map fun ds => ds.zipIdx.map fun p => .tuple [.int (p.2 : Nat), p.1]
  | .zip, a, b => match itemsOf a, itemsOf b with
    | some x, some y => some ((x.zip y).map fun p => .tuple [p.1, p.2])
    | _, _ => none
  | .rng, .int i, _ => if small62 i then some (rngD 0 i) else none
  | .rng2, .int i, .int j => if small62 i && small62 j then some (rngD i j) else none
  | _, _, _ => none
/-! ### evaluation -/
abbrev Fn := Nat → List Sl → Option (D × List Sl)
/-- an operand: a value, or the list at a name, read when it is wanted -/
inductive Op where
  | v (d : D)
  | s (i : Nat)
def res (e : Ev) : Op → Option D
  | .v d => some d
  | .s i => match e[i]? with
    | some (.sh d) => some d
    | some (.own _ ds) => some (.list ds)
    | _ => none
def opd (a : Ex) (r : Option (D × Ev)) (e : Ev) : Option (Op × Ev) :=
  match a with
  | .var i => match e[i]? with
    | some (.sh _) => some (.s i, e)
    | some (.own _ _) => some (.s i, e)
    | _ => none
  | _ => match r with
    | some (d, e') => some (.v d, e')
    | none => none
/-- a name read as a value: a list of one's own becomes a value -/
def rdv (e : Ev) (i : Nat) : Option (D × Ev) :=
  match e[i]? with
  | some (.sh d) => some (d, e)
  | some (.own true ds) => some (.list ds, e.set i (.sh (.list ds)))
  | _ => none
def wipeE (e : Ev) : List Nat → Ev
  | [] => e
  | i :: r => (wipeE e r).set i .un
def setAll : Ev → List Nat → List D → Option Ev
  | e, [], [] => some e
  | e, i :: is, d :: ds => setAll (e.set i (.sh d)) is ds
  | _, _, _ => none
def bindT (g : Tg) (d : D) (e : Ev) : Option Ev :=
  match g with
  | .nm i => some (e.set i (.sh d))
  | .tp is => match d with
    | .tuple ds => setAll e is ds
    | _ => none
def backE (e0 e : Ev) : List Nat → Ev
  | [] => e
  | i :: r => (backE e0 e r).set i (e0.getD i .un)
/-- a call's arguments: the values, the lists lent -/
def argSl : Ex → List D → Ev → Option (List Sl)
  | .nil, [], _ => some []
  | .cons a r, d :: ds, e => match argSl r ds e with
    | some t => match a with
      | .mu i => match e[i]? with
        | some (.own _ xs) => some (.own false xs :: t)
        | some (.sh x) => some (.sh x :: t)
        | _ => none
      | _ => some (.sh d :: t)
    | none => none
  | _, _, _ => none
def musOf : Ex → List Nat
  | .cons (.mu i) r => i :: musOf r
  | .cons _ r => musOf r
  | _ => []
def nodupB : List Nat → Bool
  | [] => true
  | a :: r => !r.contains a && nodupB r
/-- behind a call: the lent lists as they are now -/
def wbk : Ex → List Sl → Ev → Option Ev
  | .nil, [], e => some e
  | .cons a r, o :: os, e => match a with
    | .mu i => match e[i]?, o with
      | some (.own fz _), .own _ ys => wbk r os (e.set i (.own fz ys))
      | some (.sh _), .sh _ => wbk r os e
      | _, _ => none
    | _ => wbk r os e
  | _, _, _ => none
def permL {α : Type} (perm : List Nat) (xs : List α) : Option (List α) := perm.mapM fun i => xs[i]?
/-- the turns of a comprehension -/
def lcGo (own : List Nat) (g : Tg) (c : Ev → Option (Bool × Ev)) (f : Ev → Option (D × Ev)) : List D → Ev → List D → Option (List D × Ev)
  | [], e, acc => some (acc, e)
  | d :: ds, e, acc =>
    match bindT g d (wipeE e own) with
    | none => none
    | some e1 => match c e1 with
      | none => none
      | some (false, e2) => lcGo own g c f ds e2 acc
      | some (true, e2) => match f e2 with
        | none => none
        | some (y, e3) => if acc.length < sizeLine then lcGo own g c f ds e3 (acc ++ [y]) else none
def op1 (a : Ex) (fa : Ev → Option (D × Ev)) (k : D → Option D) (e : Ev) : Option (D × Ev) :=
  match opd a (fa e) e with
  | some (x, e1) => match res e1 x with
    | some p => (k p).map fun d => (d, e1)
    | none => none
  | none => none
def op2 (a : Ex) (fa : Ev → Option (D × Ev)) (b : Ex) (fb : Ev → Option (D × Ev)) (k : D → D → Option D) (e : Ev) : Option (D × Ev) :=
  match opd a (fa e) e with
  | some (x, e1) => match opd b (fb e1) e1 with
    | some (y, e2) => match res e2 x, res e2 y with
      | some p, some q => (k p q).map fun d => (d, e2)
      | _, _ => none
    | none => none
  | none => none
/-- a test -/
def opT (a : Ex) (fa : Ev → Option (D × Ev)) (e : Ev) : Option (Bool × Ev) :=
  match opd a (fa e) e with
  | some (x, e1) => match res e1 x with
    | some p => (truth p).map fun d => (d, e1)
    | none => none
  | none => none
/-- a comprehension's test, if there is one -/
def lcT (c : Ex) (fc : Ev → Option (D × Ev)) (e : Ev) : Option (Bool × Ev) :=
  match c with
  | .noe => some (true, e)
  | _ => opT c fc e
def negD : D → Option D
  | .int i => some (.int (-i))
  | _ => none
def ev (Φ : Fn) : Ex → Ev → Option (D × Ev)
  | .var i, e => rdv e i
  | .mu i, e => match e[i]? with
    | some (.sh _) => some (.none, e)
    | some (.own _ _) => some (.none, e)
    | _ => none
  | .cst d, e => some (d, e)
  | .glo _ d, e => some (d, e)
  | .bin o a b, e => op2 a (ev Φ a) b (ev Φ b) (binD o) e
  | .neg a, e => op1 a (ev Φ a) negD e
  | .nt a, e => op1 a (ev Φ a) (fun d => (truth d).map fun b => .bool (!b)) e
  | .and a b, e => match ev Φ a e with
    | some (.bool true, e1) => match ev Φ b e1 with
      | some (.bool t, e2) => some (.bool t, e2)
      | _ => none
    | some (.bool false, e1) => some (.bool false, e1)
    | _ => none
  | .or a b, e => match ev Φ a e with
    | some (.bool true, e1) => some (.bool true, e1)
    | some (.bool false, e1) => match ev Φ b e1 with
      | some (.bool t, e2) => some (.bool t, e2)
      | _ => none
    | _ => none
  | .cmp o a b, e => op2 a (ev Φ a) b (ev Φ b) (fun p q => (cmpD o p q).map .bool) e
  | .chn o p a b c, e => match ev Φ a e with
    | some (x, e1) => match ev Φ b e1 with
      | some (y, e2) => match cmpD o x y with
        | some true => match ev Φ c e2 with
          | some (z, e3) => (cmpD p y z).map fun d => (.bool d, e3)
          | none => none
        | some false => some (.bool false, e2)
        | none => none
      | none => none
    | none => none
  | .ite c a b, e => match opT c (ev Φ c) e with
    | some (true, e1) => ev Φ a e1
    | some (false, e1) => ev Φ b e1
    | none => none
  | .tup as, e => match ev Φ as e with
    | some (.tuple ds, e1) => if ds.length ≤ sizeLine then some (.tuple ds, e1) else none
    | _ => none
  | .lst as, e => match ev Φ as e with
    | some (.tuple ds, e1) => if ds.length ≤ sizeLine then some (.list ds, e1) else none
    | _ => none
  | .rep as n, e => match ev Φ as e with
    | some (.tuple ds, e1) => if ds.length ≤ sizeLine then match ev Φ n e1 with
        | some (k, e2) => (repD (.list ds) k).map fun d => (d, e2)
        | none => none
      else none
    | _ => none
  | .nil, e => some (.tuple [], e)
  | .cons a r, e => match ev Φ a e with
    | some (d, e1) => match ev Φ r e1 with
      | some (.tuple ds, e2) => some (.tuple (d :: ds), e2)
      | _ => none
    | none => none
  | .idx a i, e => op2 a (ev Φ a) i (ev Φ i) idxD e
  | .slc a lo hi, e => match opd a (ev Φ a e) e with
    | some (x, e1) => match ev Φ lo e1 with
      | some (l, e2) => match ev Φ hi e2 with
        | some (h, e3) => match res e3 x, partOf lo l, partOf hi h with
          | some p, some pl, some ph => (slcD pl ph p).map fun d => (d, e3)
          | _, _, _ => none
        | none => none
      | none => none
    | none => none
  | .noe, e => some (.none, e)
  | .call j as, e => match ev Φ as e with
    | some (.tuple ds, e1) => match argSl as ds e1 with
      | some sl => if nodupB (musOf as) then match Φ j sl with
          | some (d, os) => (wbk as os e1).map fun e2 => (d, e2)
          | none => none
        else none
      | none => none
    | _ => none
  | .calk j as ks perm, e => match ev Φ as e with
    | some (.tuple ds, e1) => match ev Φ ks e1 with
      | some (.tuple es, e2) => match permL perm ((ds ++ es).map Sl.sh) with
        | some sl => (Φ j sl).map fun p => (p.1, e2)
        | none => none
      | _ => none
    | _ => none
  | .b1 b a, e => op1 a (ev Φ a) (b1D b) e
  | .b2 b a c, e => op2 a (ev Φ a) c (ev Φ c) (b2D b) e
  | .isi a ts, e => op1 a (ev Φ a) (fun d => (isaAny d ts).map .bool) e
  | .m1 m a b, e => match m with
    | .lrng => match ev Φ a e with
      | some (.int i, e1) => if small62 i && decide (i ≤ 16777216) then some (.list (rngD 0 i), e1) else none
      | _ => none
    | .fr => match ev Φ a e with
      | some (.list ds, e1) => some (.list ds, e1)
      | _ => none
    | _ => none
  | .cf j a, e => match ev Φ a e with
    | some (.list ds, e1) => (Φ j [.own false ds]).map fun p => (p.1, e1)
    | _ => none
  | .lc own g k a b c f, e => match ev Φ a e with
    | some (x, e1) => match ev Φ b e1 with
      | some (y, e2) => match walkD k x y with
        | some ds =>
          match lcGo (own.map (·.2)) g (lcT c (ev Φ c)) (ev Φ f) ds e2 [] with
          | some (acc, e3) => some (.list acc, backE e2 e3 (own.map (·.2)))
          | none => none
        | none => none
      | none => none
    | none => none
/-! ### statements -/
inductive Sm where
  | nilB
  | consB (s b : Sm)
  | pass
  | nev
  | asg (g : Tg) (e : Ex)
  | aso (i : Nat) (e : Ex)
  | asp (is : List Nat) (os : List Bool) (as : Ex)
  | ast (i : Nat) (k : Ex) (j : Nat) (e : Ex)
  | sub (i : Nat) (k e : Ex)
  | aug (i : Nat) (k : Ex) (o : Bo) (e : Ex)
  | app (i : Nat) (e : Ex)
  | ext (i : Nat) (e : Ex)
  | exp (e : Ex)
  | ifs (c : Ex) (a b : Sm)
  | for_ (g : Tg) (k : Ik) (a b : Ex) (s : Sm)
  | whl (c : Ex) (s : Sm)
  | ret (e : Ex)
  | retn
  | retv (i : Nat)
  | brk
  | cnt
inductive Out where
  | nx (e : Ev)
  | rt (d : D) (e : Ev)
  | bk (e : Ev)
  | ct (e : Ev)
def tst (Φ : Fn) (c : Ex) (e : Ev) : Option (Bool × Ev) := opT c (ev Φ c) e
/-- a name may be stored: what is not the caller's list -/
def putOk (e : Ev) (i : Nat) : Bool := match e[i]? with
  | some (.own false _) => false
  | some _ => true
  | none => false
def tgIxs : Tg → List Nat
  | .nm i => [i]
  | .tp is => is
def tgOk (e : Ev) (g : Tg) : Bool := (tgIxs g).all (putOk e)
def putSl : Ev → List Nat → List Bool → List D → Option Ev
  | e, [], [], [] => some e
  | e, i :: is, o :: os, d :: ds => match o, d with
    | true, .list xs => if putOk e i then putSl (e.set i (.own true xs)) is os ds else none
    | false, d => if putOk e i then putSl (e.set i (.sh d)) is os ds else none
    | _, _ => none
  | _, _, _, _ => none
def ownAt (e : Ev) (i : Nat) : Option (Bool × List D) := match e[i]? with
  | some (.own fz ds) => some (fz, ds)
  | _ => none
def setAt (e : Ev) (i : Nat) (k v : D) : Option Ev :=
  match ownAt e i, k with
  | some (fz, ds), .int n => match ixN ds.length n with
    | some j => some (e.set i (.own fz (ds.set j v)))
    | none => none
  | _, _ => none
def forGo (g : Tg) (f : Ev → Option Out) : List D → Ev → Option Out
  | [], e => some (.nx e)
  | d :: ds, e =>
    if tgOk e g then match bindT g d e with
      | none => none
      | some e1 => match f e1 with
        | none => none
        | some (.nx e2) => forGo g f ds e2
        | some (.ct e2) => forGo g f ds e2
        | some (.bk e2) => some (.nx e2)
        | some (.rt v e2) => some (.rt v e2)
    else none
def whlGo (c : Ev → Option (Bool × Ev)) (f : Ev → Option Out) : Nat → Ev → Option Out
  | 0, _ => none
  | n + 1, e => match c e with
    | none => none
    | some (false, e1) => some (.nx e1)
    | some (true, e1) => match f e1 with
      | none => none
      | some (.nx e2) => whlGo c f n e2
      | some (.ct e2) => whlGo c f n e2
      | some (.bk e2) => some (.nx e2)
      | some (.rt v e2) => some (.rt v e2)
/-- more turns than any loop takes -/
def turns : Nat := 1000000
def exs (Φ : Fn) : Sm → Ev → Option Out
  | .nilB, e => some (.nx e)
  | .consB s b, e => match exs Φ s e with
    | some (.nx e1) => exs Φ b e1
    | some o => some o
    | none => none
  | .pass, e => some (.nx e)
  | .nev, _ => none
  | .asg g x, e => match ev Φ x e with
    | some (d, e1) => if tgOk e1 g then (bindT g d e1).map .nx else none
    | none => none
  | .aso i x, e => match ev Φ x e with
    | some (.list ds, e1) => if putOk e1 i then some (.nx (e1.set i (.own true ds))) else none
    | _ => none
  | .asp is os as, e => match ev Φ as e with
    | some (.tuple ds, e1) => (putSl e1 is os ds).map .nx
    | _ => none
  | .ast i k j x, e => match ev Φ x e with
    | some (.tuple [d1, d2], e1) => if (ownAt e1 i).isSome then match ev Φ k e1 with
        | some (n, e2) => match setAt e2 i n d1 with
          | some e3 => if putOk e3 j then some (.nx (e3.set j (.sh d2))) else none
          | none => none
        | none => none
      else none
    | _ => none
  | .sub i k x, e => match ev Φ x e with
    | some (d, e1) => if (ownAt e1 i).isSome then match ev Φ k e1 with
        | some (n, e2) => (setAt e2 i n d).map .nx
        | none => none
      else none
    | none => none
  | .aug i k o x, e => if (ownAt e i).isSome then match ev Φ k e with
      | some (.int n, e1) => match ownAt e1 i with
        | some (_, ds) => match atI ds n with
          | some (.int v) => match ev Φ x e1 with
            | some (.int d, e2) => match o with
              | .add => (setAt e2 i (.int n) (.int (v + d))).map .nx
              | _ => none
            | _ => none
          | _ => none
        | none => none
      | _ => none
    else none
  | .app i x, e => if (ownAt e i).isSome then match ev Φ x e with
      | some (d, e1) => match ownAt e1 i with
        | some (fz, ds) => if ds.length < sizeLine then some (.nx (e1.set i (.own fz (ds ++ [d])))) else none
        | none => none
      | none => none
    else none
  | .ext i x, e => if (ownAt e i).isSome then match ev Φ x e with
      | some (.list xs, e1) => match ownAt e1 i with
        | some (fz, ds) => if ds.length + xs.length ≤ sizeLine then some (.nx (e1.set i (.own fz (ds ++ xs)))) else none
        | none => none
      | _ => none
    else none
  | .exp x, e => match ev Φ x e with
    | some (_, e1) => some (.nx e1)
    | none => none
  | .ifs c a b, e => match tst Φ c e with
    | some (true, e1) => exs Φ a e1
    | some (false, e1) => exs Φ b e1
    | none => none
  | .for_ g k a b s, e => match ev Φ a e with
    | some (x, e1) => match ev Φ b e1 with
      | some (y, e2) => match walkD k x y with
        | some ds => forGo g (exs Φ s) ds e2
        | none => none
      | none => none
    | none => none
  | .whl c s, e => whlGo (tst Φ c) (exs Φ s) turns e
  | .ret x, e => match ev Φ x e with
    | some (d, e1) => some (.rt d e1)
    | none => none
  | .retn, e => some (.rt .none e)
  | .retv i, e => match e[i]? with
    | some (.own true ds) => some (.rt (.list ds) (e.set i .un))
    | _ => none
  | .brk, e => some (.bk e)
  | .cnt, e => some (.ct e)
/-- a def: how many parameters, how many names, its body -/
structure Df where
  np : Nat
  nn : Nat
  body : Sm
/-- what the caller finds in the lent lists -/
def outs : List Sl → Ev → Option (List Sl)
  | [], _ => some []
  | .own _ _ :: r, .own false ys :: t => (outs r t).map (.own false ys :: ·)
  | .sh d :: r, _ :: t => (outs r t).map (.sh d :: ·)
  | _, _ => none
def run (Φ : Fn) (f : Df) (args : List Sl) : Option (D × List Sl) :=
  if args.length = f.np then
    match exs Φ f.body (args ++ List.replicate (f.nn - f.np) .un) with
    | some (.rt d e) => (outs args e).map fun o => (d, o)
    | some (.nx e) => (outs args e).map fun o => (.none, o)
    | _ => none
  else none
/-- the defs of a text, the last one first: each calls such as stand behind it -/
def tab : List Df → Fn
  | [], _, _ => none
  | f :: r, j, a => if j = r.length then run (tab r) f a else tab r j a
end Iv
end
section
set_option Elab.async false
set_option linter.all false
set_option maxRecDepth 100000
/-! The interpreter's states held against the layer's heaps. -/
namespace Iv
open PySem PySem.Spec PyProof.Rows L2
/-! ### data stay as the heap grows -/
mutual
theorem dp_mono {K : PySem.W.Frag} {F H : Hp} (e : Same F H) : ∀ {d : D} {v : V}, Dp K F v d → Dp K H v d
  | .none, _, h => by cases h; exact .non
  | .bool _, _, h => by cases h; exact .bl _
  | .int _, _, h => by cases h; exact .int _
  | .str _, _, h => by cases h; exact .str _
  | .list ds, _, h => by
    cases h with
    | lst h1 h2 => exact .lst (e.seq h1) (dps_mono e h2)
  | .tuple ds, _, h => by
    cases h with
    | tup h1 h2 => exact .tup (by
        rcases h1 with (h | ⟨o, h⟩) | h
        · exact .inl (.inl (e _ _ h))
        · exact .inl (.inr ⟨o, e _ _ h⟩)
        · exact .inr h) (dps_mono e h2)
  | .dict _, _, h => by cases h
theorem dps_mono {K : PySem.W.Frag} {F H : Hp} (e : Same F H) : ∀ {ds : List D} {vs : List V}, DpAll K F vs ds → DpAll K H vs ds
  | [], _, h => by cases h; exact .nil
  | d :: ds, _, h => by
    cases h with
    | cons h1 h2 => exact .cons (dp_mono e h1) (dps_mono e h2)
end
theorem dps_len {K : PySem.W.Frag} {F : Hp} : ∀ {ds : List D} {vs : List V}, DpAll K F vs ds → vs.length = ds.length
  | [], _, h => by cases h; rfl
  | d :: ds, _, h => by
    cases h with
    | cons h1 h2 => simp [dps_len h2]
theorem dps_get {K : PySem.W.Frag} {F : Hp} : ∀ {ds : List D} {vs : List V} {j : Nat} {d : D}, DpAll K F vs ds → ds[j]? = some d → ∃ v, vs[j]? = some v ∧ Dp K F v d
  | [], _, _, _, _, e => by simp at e
  | d :: ds, _, 0, _, h, e => by
    cases h with
    | cons h1 h2 =>
      simp at e
      subst e
      exact ⟨_, rfl, h1⟩
  | d :: ds, _, j + 1, _, h, e => by
    cases h with
    | cons h1 h2 => exact dps_get (j := j) h2 (by simpa using e)
theorem dps_app {K : PySem.W.Frag} {F : Hp} : ∀ {ds es : List D} {vs us : List V}, DpAll K F vs ds → DpAll K F us es → DpAll K F (vs ++ us) (ds ++ es)
  | [], _, _, _, h, h' => by cases h; exact h'
  | d :: ds, _, _, _, h, h' => by
    cases h with
    | cons h1 h2 => exact .cons h1 (dps_app h2 h')
theorem dps_set {K : PySem.W.Frag} {F : Hp} {d : D} {v : V} (q : Dp K F v d) : ∀ {ds : List D} {vs : List V} (j : Nat), DpAll K F vs ds → DpAll K F (vs.set j v) (ds.set j d)
  | [], _, _, h => by cases h; exact .nil
  | _ :: _, _, 0, h => by
    cases h with
    | cons h1 h2 => exact .cons q h2
  | _ :: _, _, j + 1, h => by
    cases h with
    | cons h1 h2 => exact .cons h1 (dps_set q j h2)
theorem dps_drop {K : PySem.W.Frag} {F : Hp} : ∀ {ds : List D} {vs : List V} (n : Nat), DpAll K F vs ds → DpAll K F (vs.drop n) (ds.drop n)
  | _, _, 0, h => h
  | [], _, _ + 1, h => by cases h; exact .nil
  | _ :: _, _, n + 1, h => by
    cases h with
    | cons h1 h2 => exact dps_drop n h2
theorem dps_take {K : PySem.W.Frag} {F : Hp} : ∀ {ds : List D} {vs : List V} (n : Nat), DpAll K F vs ds → DpAll K F (vs.take n) (ds.take n)
  | _, _, 0, h => .nil
  | [], _, _ + 1, h => by cases h; exact .nil
  | _ :: _, _, n + 1, h => by
    cases h with
    | cons h1 h2 => exact .cons h1 (dps_take n h2)
theorem dps_rep {K : PySem.W.Frag} {F : Hp} {ds : List D} {vs : List V} (h : DpAll K F vs ds) : ∀ n : Nat, DpAll K F (List.replicate n vs).flatten (List.replicate n ds).flatten
  | 0 => .nil
  | n + 1 => by
    rw [List.replicate_succ, List.replicate_succ, List.flatten_cons, List.flatten_cons]
    exact dps_app h (dps_rep h n)
theorem dps_cut {K : PySem.W.Frag} {F : Hp} {ds : List D} {vs : List V} (h : DpAll K F vs ds) (lo hi : Option Int) : DpAll K F (cutV vs lo hi) (cutL ds lo hi) := by
  have e := dps_len h
  unfold cutV cutL
  rw [e]
  exact dps_take _ (dps_drop _ h)
/-! ### a state -/
def OwnAt (fz : Bool) (e : Ev) (σ : L2.St) (b : Addr) : Prop := ∃ (i : Nat) (ds : List D), e[i]? = some (.own fz ds) ∧ σ[i]? = some (some (.ref b))
structure Rel (K : PySem.W.Frag) (z : L2.St) (e : Ev) (σ : L2.St) (F H : Hp) : Prop where
  len : e.length = σ.length
  sub : Same F H
  sh : ∀ (i : Nat) (d : D), e[i]? = some (.sh d) → ∃ v, σ[i]? = some (some v) ∧ Dp K F v d
  own : ∀ (i : Nat) (fz : Bool) (ds : List D), e[i]? = some (.own fz ds) → ∃ a vs, σ[i]? = some (some (.ref a)) ∧ H a = some (.lst vs) ∧ F a = none ∧ DpAll K F vs ds
  inj : ∀ (i j : Nat) (fz fz' : Bool) (ds ds' : List D) (a : Addr), e[i]? = some (.own fz ds) → e[j]? = some (.own fz' ds') → σ[i]? = some (some (.ref a)) → σ[j]? = some (some (.ref a)) → i = j
  io : ∀ (i : Nat) (ds : List D), e[i]? = some (.own false ds) → σ[i]? = z[i]?
structure Stp (e : Ev) (σ : L2.St) (F H : Hp) (e' : Ev) (σ' : L2.St) (F' H' : Hp) : Prop where
  fs : Same F F'
  keep : ∀ b o, H b = some o → (∀ fz, ¬ OwnAt fz e σ b) → H' b = some o
  there : ∀ b, H b ≠ none → H' b ≠ none
  new : ∀ b, F' b ≠ none → F b ≠ none ∨ H b = none ∨ OwnAt true e σ b
  owT : ∀ b, OwnAt true e' σ' b → OwnAt true e σ b
  owF : ∀ b, OwnAt false e' σ' b → OwnAt false e σ b
theorem Stp.refl {e : Ev} {σ : L2.St} {F H : Hp} : Stp e σ F H e σ F H :=
  ⟨Same.refl _, fun _ _ h _ => h, fun _ h => h, fun _ h => .inl h, fun _ h => h, fun _ h => h⟩
theorem Stp.trans {e e1 e2 : Ev} {σ σ1 σ2 : L2.St} {F F1 F2 H H1 H2 : Hp} (a : Stp e σ F H e1 σ1 F1 H1) (b : Stp e1 σ1 F1 H1 e2 σ2 F2 H2) : Stp e σ F H e2 σ2 F2 H2 where
  fs := a.fs.trans b.fs
  keep := fun x o h n => b.keep x o (a.keep x o h n) fun fz q => by
    cases fz with
    | false => exact n false (a.owF x q)
    | true => exact n true (a.owT x q)
  there := fun x h => b.there x (a.there x h)
  new := fun x h => by
    have back : H1 x = none → H x = none := fun q => by
      cases r : H x with
      | none => rfl
      | some o => exact absurd q (a.there x (by rw [r]; simp))
    rcases b.new x h with q | q | q
    · exact a.new x q
    · exact .inr (.inl (back q))
    · exact .inr (.inr (a.owT x q))
  owT := fun x q => a.owT x (b.owT x q)
  owF := fun x q => a.owF x (b.owF x q)
theorem Rel.frees {K : PySem.W.Frag} {z : L2.St} {e : Ev} {σ : L2.St} {F H : Hp} (R : Rel K z e σ F H) {p : Addr} (h : H p = none) : F p = none := by
  cases q : F p with
  | none => rfl
  | some o => rw [R.sub p o q] at h; cases h
section
variable {K : PySem.W.Frag} {z : L2.St} {e : Ev} {σ : L2.St} {F H : Hp} {p : Addr} {o : HO}
theorem Same.upd2 (h : Same F H) (n : H p = none) : Same (upd F p o) (upd H p o) := fun b u q => by
  by_cases hb : b = p
  · subst hb; rw [upd_same] at q ⊢; exact q
  · rw [upd_ne hb] at q ⊢; exact h b u q
theorem Same.fresh (n : H p = none) : Same H (upd H p o) := fun b u q => by
  rw [upd_ne (ne_of_none q n)]; exact q
/-- a new object, known at once -/
theorem Rel.new (R : Rel K z e σ F H) (n : H p = none) : Rel K z e σ (upd F p o) (upd H p o) where
  len := R.len
  sub := Same.upd2 R.sub n
  sh := fun i d h => by
    obtain ⟨v, h1, h2⟩ := R.sh i d h
    exact ⟨v, h1, dp_mono (Same.fresh (R.frees n)) h2⟩
  own := fun i fz ds h => by
    obtain ⟨a, vs, h1, h2, h3, h4⟩ := R.own i fz ds h
    have ne : a ≠ p := ne_of_none h2 n
    exact ⟨a, vs, h1, by rw [upd_ne ne]; exact h2, by rw [upd_ne ne]; exact h3, dps_mono (Same.fresh (R.frees n)) h4⟩
  inj := R.inj
  io := R.io
theorem Stp.new1 (R : Rel K z e σ F H) (n : H p = none) : Stp e σ F H e σ (upd F p o) (upd H p o) where
  fs := Same.fresh (R.frees n)
  keep := fun b u h _ => Same.fresh n b u h
  there := fun b h => by
    by_cases hb : b = p
    · subst hb; exact absurd n h
    · rw [upd_ne hb]; exact h
  new := fun b h => by
    by_cases hb : b = p
    · subst hb; exact .inr (.inl n)
    · rw [upd_ne hb] at h; exact .inl h
  owT := fun _ h => h
  owF := fun _ h => h
/-- a new object, not known yet -/
theorem Rel.newH (R : Rel K z e σ F H) (n : H p = none) : Rel K z e σ F (upd H p o) where
  len := R.len
  sub := fun b u q => Same.fresh n b u (R.sub b u q)
  sh := R.sh
  own := fun i fz ds h => by
    obtain ⟨a, vs, h1, h2, h3, h4⟩ := R.own i fz ds h
    exact ⟨a, vs, h1, by rw [upd_ne (ne_of_none h2 n)]; exact h2, h3, h4⟩
  inj := R.inj
  io := R.io
theorem Stp.newH (n : H p = none) : Stp e σ F H e σ F (upd H p o) where
  fs := Same.refl _
  keep := fun b u h _ => Same.fresh n b u h
  there := fun b h => by
    by_cases hb : b = p
    · subst hb; exact absurd n h
    · rw [upd_ne hb]; exact h
  new := fun b h => .inl h
  owT := fun _ h => h
  owF := fun _ h => h
/-- what is known not yet, becomes known -/
theorem Rel.know (R : Rel K z e σ F H) (h : H p = some o) (hF : F p = none) (no : ∀ fz, ¬ OwnAt fz e σ p) : Rel K z e σ (upd F p o) H where
  len := R.len
  sub := fun b u q => by
    by_cases hb : b = p
    · subst hb; rw [upd_same] at q; rw [h]; exact q
    · rw [upd_ne hb] at q; exact R.sub b u q
  sh := fun i d q => by
    obtain ⟨v, h1, h2⟩ := R.sh i d q
    exact ⟨v, h1, dp_mono (Same.fresh hF) h2⟩
  own := fun i fz ds q => by
    obtain ⟨a, vs, h1, h2, h3, h4⟩ := R.own i fz ds q
    have ne : a ≠ p := fun w => no fz ⟨i, ds, q, by rw [h1, w]⟩
    exact ⟨a, vs, h1, h2, by rw [upd_ne ne]; exact h3, dps_mono (Same.fresh hF) h4⟩
  inj := R.inj
  io := R.io
end
theorem lt_of_get {α : Type} {l : List α} {i : Nat} {x : α} (h : l[i]? = some x) : i < l.length := (List.getElem?_eq_some_iff.mp h).1
theorem set_get {α : Type} {l : List α} {i j : Nat} {x y : α} (h : (l.set i x)[j]? = some y) : (j = i ∧ y = x) ∨ (j ≠ i ∧ l[j]? = some y) := by
  by_cases e : j = i
  · subst e
    have hl := lt_of_get h
    rw [List.length_set] at hl
    rw [List.getElem?_set_self hl] at h
    exact .inl ⟨rfl, (Option.some.inj h).symm⟩
  · rw [List.getElem?_set_ne (Ne.symm e)] at h
    exact .inr ⟨e, h⟩
section
variable {K : PySem.W.Frag} {z : L2.St} {e : Ev} {σ : L2.St} {F H : Hp} {i : Nat} {ds : List D}
/-- a list of one's own becomes a value -/
theorem Rel.freeze (R : Rel K z e σ F H) (h : e[i]? = some (.own true ds)) : ∃ a vs, σ[i]? = some (some (.ref a)) ∧ H a = some (.lst vs) ∧ F a = none ∧ DpAll K F vs ds ∧
    Rel K z (e.set i (.sh (.list ds))) σ (upd F a (.lst vs)) H ∧ Stp e σ F H (e.set i (.sh (.list ds))) σ (upd F a (.lst vs)) H ∧ Dp K (upd F a (.lst vs)) (.ref a) (.list ds) := by
  obtain ⟨a, vs, h1, h2, h3, h4⟩ := R.own i true ds h
  have mono : Same F (upd F a (.lst vs)) := Same.fresh h3
  have dp : Dp K (upd F a (.lst vs)) (.ref a) (.list ds) := .lst (.inl (.inl upd_same)) (dps_mono mono h4)
  refine ⟨a, vs, h1, h2, h3, h4, ⟨by rw [List.length_set]; exact R.len, ?_, ?_, ?_, ?_, ?_⟩, ⟨mono, fun _ _ q _ => q, fun _ q => q, ?_, ?_, ?_⟩, dp⟩
  · intro b u q
    by_cases hb : b = a
    · subst hb; rw [upd_same] at q; rw [h2]; exact q
    · rw [upd_ne hb] at q; exact R.sub b u q
  · intro j d q
    rcases set_get q with ⟨rfl, e1⟩ | ⟨ne, q⟩
    · cases e1
      exact ⟨_, h1, dp⟩
    · obtain ⟨v, g1, g2⟩ := R.sh j d q
      exact ⟨v, g1, dp_mono mono g2⟩
  · intro j fz es q
    rcases set_get q with ⟨rfl, e1⟩ | ⟨ne, q⟩
    · cases e1
    · obtain ⟨b, us, g1, g2, g3, g4⟩ := R.own j fz es q
      have nb : b ≠ a := fun w => ne (R.inj j i fz true es ds a q h (by rw [g1, w]) h1)
      exact ⟨b, us, g1, g2, by rw [upd_ne nb]; exact g3, dps_mono mono g4⟩
  · intro j k fz fz' es es' b q q' g g'
    rcases set_get q with ⟨rfl, e1⟩ | ⟨ne, q⟩
    · cases e1
    · rcases set_get q' with ⟨rfl, e1⟩ | ⟨ne', q'⟩
      · cases e1
      · exact R.inj j k fz fz' es es' b q q' g g'
  · intro j es q
    rcases set_get q with ⟨rfl, e1⟩ | ⟨ne, q⟩
    · cases e1
    · exact R.io j es q
  · intro b q
    by_cases hb : b = a
    · subst hb; exact .inr (.inr ⟨i, ds, h, h1⟩)
    · rw [upd_ne hb] at q; exact .inl q
  · rintro b ⟨j, es, q, g⟩
    rcases set_get q with ⟨rfl, e1⟩ | ⟨ne, q⟩
    · cases e1
    · exact ⟨j, es, q, g⟩
  · rintro b ⟨j, es, q, g⟩
    rcases set_get q with ⟨rfl, e1⟩ | ⟨ne, q⟩
    · cases e1
    · exact ⟨j, es, q, g⟩
end
/-! ### operands -/
def OpRel (K : PySem.W.Frag) (F : Hp) (σ : L2.St) (v : V) : Op → Prop
  | .v d => Dp K F v d
  | .s i => σ[i]? = some (some v)
theorem OpRel.mono {K : PySem.W.Frag} {F F' : Hp} {σ : L2.St} {v : V} {o : Op} (e : Same F F') (h : OpRel K F σ v o) : OpRel K F' σ v o := by
  cases o with
  | v d => exact dp_mono e h
  | s i => exact h
/-- a value that is read: its items are known -/
inductive Rdp (K : PySem.W.Frag) (F H : Hp) : V → D → Prop
  | non : Rdp K F H .non .none
  | bl (b : Bool) : Rdp K F H (.bl b) (.bool b)
  | int (i : Int) : Rdp K F H (.int i) (.int i)
  | str (x : Str) : Rdp K F H (.str x) (.str x)
  | lst {a : Addr} {xs : List V} {ds : List D} : SqL K H a xs → DpAll K F xs ds → Rdp K F H (.ref a) (.list ds)
  | tup {a : Addr} {xs : List V} {ds : List D} : SqT K H a xs → SqT K F a xs → DpAll K F xs ds → Rdp K F H (.ref a) (.tuple ds)
theorem same_t {K : PySem.W.Frag} {F H : Hp} {a : Addr} {xs : List V} (e : Same F H) (h1 : SqT K F a xs) : SqT K H a xs := by
  rcases h1 with (h | ⟨o, h⟩) | h
  · exact .inl (.inl (e _ _ h))
  · exact .inl (.inr ⟨o, e _ _ h⟩)
  · exact .inr h
theorem Rdp.of {K : PySem.W.Frag} {F H : Hp} (e : Same F H) {v : V} {d : D} (h : Dp K F v d) : Rdp K F H v d := by
  cases h with
  | non => exact .non
  | bl b => exact .bl b
  | int i => exact .int i
  | str x => exact .str x
  | lst h1 h2 => exact .lst (e.seq h1) h2
  | tup h1 h2 => exact .tup (same_t e h1) h1 h2
theorem Rdp.dp {K : PySem.W.Frag} {F H : Hp} (e : Same F H) {v : V} {d : D} (h : Rdp K F H v d) : Dp K H v d := by
  cases h with
  | non => exact .non
  | bl b => exact .bl b
  | int i => exact .int i
  | str x => exact .str x
  | lst h1 h2 => exact .lst h1 (dps_mono e h2)
  | tup h1 _ h2 => exact .tup h1 (dps_mono e h2)
theorem Rel.res {K : PySem.W.Frag} {z : L2.St} {e : Ev} {σ : L2.St} {F H : Hp} (R : Rel K z e σ F H) {v : V} {o : Op} {d : D} (h : OpRel K F σ v o) (r : res e o = some d) : Rdp K F H v d := by
  cases o with
  | v d' =>
    have e1 : d' = d := Option.some.inj r
    subst e1
    exact .of R.sub h
  | s i =>
    have h : σ[i]? = some (some v) := h
    have r : (match e[i]? with
      | some (.sh d) => some d
      | some (.own _ ds) => some (PyData.list ds)
      | _ => none) = some d := r
    cases q : e[i]? with
    | none => rw [q] at r; cases r
    | some w =>
      rw [q] at r
      cases w with
      | un => cases r
      | sh d' =>
        cases r
        obtain ⟨w, g1, g2⟩ := R.sh i _ q
        rw [h] at g1
        cases g1
        exact .of R.sub g2
      | own fz ds =>
        cases r
        obtain ⟨a, vs, g1, g2, g3, g4⟩ := R.own i _ _ q
        rw [h] at g1
        cases g1
        exact .lst (.inl (.inl g2)) g4
end Iv
end
section
set_option Elab.async false
set_option linter.all false
set_option maxRecDepth 100000
set_option maxHeartbeats 1000000
/-! Operators: what the layer's rules ask, answered from data. -/
namespace Iv
open PySem PySem.Spec PyProof.Rows L2
theorem pe_imp {X : Cx} {e : Expr} {t t' : TE} (h : PE X e t) (w : ∀ σ H Q, t' σ H Q → t σ H Q) : PE X e t' := ⟨fun pins s σ H Q I q => h.run pins s σ H Q I (w _ _ _ q)⟩
theorem pt_imp {X : Cx} {e : Expr} {t t' : TT} (h : PT X e t) (w : ∀ σ H Q, t' σ H Q → t σ H Q) : PT X e t' := ⟨fun pins s σ H Q I q => h.run pins s σ H Q I (w _ _ _ q)⟩
theorem pw_imp {X : Cx} {e : Expr} {t t' : TT} (h : PW X e t) (w : ∀ σ H Q, t' σ H Q → t σ H Q) : PW X e t' := ⟨fun wh pins s σ H Q I q => h.run wh pins s σ H Q I (w _ _ _ q)⟩
theorem pa_imp {X : Cx} {es : List Expr} {t t' : TA} (h : PA X es t) (w : ∀ σ H Q, t' σ H Q → t σ H Q) : PA X es t' := ⟨fun pos pins s σ H Q I q => h.run pos pins s σ H Q I (w _ _ _ q)⟩
theorem ps_imp {X : Cx} {st : Stmt} {t t' : TS} (h : PS X st t) (w : ∀ D σ H, t' D σ H → t D σ H) : PS X st t' := ⟨fun pins s σ H D I q => h.run pins s σ H D I (w _ _ _ q)⟩
theorem pss_imp {X : Cx} {st : List Stmt} {t t' : TS} (h : PSs X st t) (w : ∀ D σ H, t' D σ H → t D σ H) : PSs X st t' := ⟨fun pins s σ H D I q => h.run pins s σ H D I (w _ _ _ q)⟩
theorem opr_or {X : Cx} {f : Value → Value → Sem Value} {r r' : R2} (h : OpR X f r) (h' : OpR X f r') : OpR X f (fun x y H Q => r x y H Q ∨ r' x y H Q) := by
  intro pins s σ H x y v u Q I rx ry q
  rcases q with q | q
  · exact h pins s σ H x y v u Q I rx ry q
  · exact h' pins s σ H x y v u Q I rx ry q
/-! ### what a term's reading is -/
/-- the end of a reading: the value d, known -/
def Fin (K : PySem.W.Frag) (z : L2.St) (e : Ev) (σ : L2.St) (F H : Hp) (e' : Ev) (d : D) (Q : VK) : Prop :=
  ∀ v F' H', Rel K z e' σ F' H' → Stp e σ F H e' σ F' H' → Dp K F' v d → Q v H'
def SemE (Φ : Fn) (K : PySem.W.Frag) (z : L2.St) (t : Ex) : TE := fun σ H Q => ∃ e F d e', Rel K z e σ F H ∧ ev Φ t e = some (d, e') ∧ Fin K z e σ F H e' d Q
def SemO (Φ : Fn) (K : PySem.W.Frag) (z : L2.St) (t : Ex) : TE := fun σ H Q => ∃ e F o e', Rel K z e σ F H ∧ opd t (ev Φ t e) e = some (o, e') ∧
  ∀ v F' H', Rel K z e' σ F' H' → Stp e σ F H e' σ F' H' → OpRel K F' σ v o → Q v H'
def SemT (Φ : Fn) (K : PySem.W.Frag) (z : L2.St) (t : Ex) : TT := fun σ H Q => ∃ e F b e', Rel K z e σ F H ∧ opT t (ev Φ t) e = some (b, e') ∧
  ∀ F' H', Rel K z e' σ F' H' → Stp e σ F H e' σ F' H' → Q b H'
/-- a value at a state that is as it was -/
theorem Fin.val {K : PySem.W.Frag} {z : L2.St} {e : Ev} {σ : L2.St} {F H : Hp} {d : D} {Q : VK} (q : Fin K z e σ F H e d Q) (R : Rel K z e σ F H) {v : V} (h : Dp K F v d) : Q v H := q v F H R Stp.refl h
theorem Fin.lst {K : PySem.W.Frag} {z : L2.St} {e : Ev} {σ : L2.St} {F H : Hp} {ds : List D} {vs : List V} {Q : VK} (q : Fin K z e σ F H e (.list ds) Q) (R : Rel K z e σ F H) (h : DpAll K F vs ds) : ∀ p, H p = none → Q (.ref p) (upd H p (.lst vs)) := fun p n =>
  q (.ref p) (upd F p (.lst vs)) (upd H p (.lst vs)) (R.new n) (Stp.new1 R n) (.lst (.inl (.inl upd_same)) (dps_mono (Same.fresh (R.frees n)) h))
theorem Fin.tup {K : PySem.W.Frag} {z : L2.St} {e : Ev} {σ : L2.St} {F H : Hp} {ds : List D} {vs : List V} {Q : VK} (q : Fin K z e σ F H e (.tuple ds) Q) (R : Rel K z e σ F H) (h : DpAll K F vs ds) : ∀ p, H p = none → Q (.ref p) (upd H p (.tup vs)) := fun p n =>
  q (.ref p) (upd F p (.tup vs)) (upd H p (.tup vs)) (R.new n) (Stp.new1 R n) (.tup (.inl (.inl upd_same)) (dps_mono (Same.fresh (R.frees n)) h))
/-- what an operation on values answers -/
def Ans2 (K : PySem.W.Frag) (r : R2) (k : D → D → Option D) : Prop := ∀ (z : L2.St) (e : Ev) (σ : L2.St) (F H : Hp) (x y : V) (p q d : D) (Q : VK), Rel K z e σ F H → Rdp K F H x p → Rdp K F H y q → k p q = some d → Fin K z e σ F H e d Q → r x y H Q
def Ans1 (K : PySem.W.Frag) (r : V → Hp → VK → Prop) (k : D → Option D) : Prop := ∀ (z : L2.St) (e : Ev) (σ : L2.St) (F H : Hp) (x : V) (p d : D) (Q : VK), Rel K z e σ F H → Rdp K F H x p → k p = some d → Fin K z e σ F H e d Q → r x H Q
theorem op2_get {a b : Ex} {fa fb : Ev → Option (D × Ev)} {k : D → D → Option D} {e e' : Ev} {d : D} (h : op2 a fa b fb k e = some (d, e')) :
    ∃ x e1 y p q, opd a (fa e) e = some (x, e1) ∧ opd b (fb e1) e1 = some (y, e') ∧ res e' x = some p ∧ res e' y = some q ∧ k p q = some d := by
  unfold op2 at h
  cases h1 : opd a (fa e) e with
  | none => rw [h1] at h; cases h
  | some w =>
    obtain ⟨x, e1⟩ := w
    rw [h1] at h
    simp only at h
    cases h2 : opd b (fb e1) e1 with
    | none => rw [h2] at h; cases h
    | some w =>
      obtain ⟨y, e2⟩ := w
      rw [h2] at h
      simp only at h
      cases h3 : res e2 x with
      | none => rw [h3] at h; cases h
      | some p =>
        cases h4 : res e2 y with
        | none => rw [h3, h4] at h; cases h
        | some q =>
          rw [h3, h4] at h
          simp only at h
          cases h5 : k p q with
          | none => rw [h5] at h; cases h
          | some d' =>
            rw [h5] at h
            simp only [Option.map_some, Option.some.injEq, Prod.mk.injEq] at h
            obtain ⟨rfl, rfl⟩ := h
            exact ⟨x, e1, y, p, q, rfl, h2, h3, h4, h5⟩
theorem op1_get {a : Ex} {fa : Ev → Option (D × Ev)} {k : D → Option D} {e e' : Ev} {d : D} (h : op1 a fa k e = some (d, e')) :
    ∃ x p, opd a (fa e) e = some (x, e') ∧ res e' x = some p ∧ k p = some d := by
  unfold op1 at h
  cases h1 : opd a (fa e) e with
  | none => rw [h1] at h; cases h
  | some w =>
    obtain ⟨x, e1⟩ := w
    rw [h1] at h
    simp only at h
    cases h3 : res e1 x with
    | none => rw [h3] at h; cases h
    | some p =>
      rw [h3] at h
      simp only at h
      cases h5 : k p with
      | none => rw [h5] at h; cases h
      | some d' =>
        rw [h5] at h
        simp only [Option.map_some, Option.some.injEq, Prod.mk.injEq] at h
        obtain ⟨rfl, rfl⟩ := h
        exact ⟨x, p, rfl, h3, h5⟩
theorem opT_get {a : Ex} {fa : Ev → Option (D × Ev)} {e e' : Ev} {b : Bool} (h : opT a fa e = some (b, e')) :
    ∃ x p, opd a (fa e) e = some (x, e') ∧ res e' x = some p ∧ truth p = some b := by
  unfold opT at h
  cases h1 : opd a (fa e) e with
  | none => rw [h1] at h; cases h
  | some w =>
    obtain ⟨x, e1⟩ := w
    rw [h1] at h
    simp only at h
    cases h3 : res e1 x with
    | none => rw [h3] at h; cases h
    | some p =>
      rw [h3] at h
      simp only at h
      cases h5 : truth p with
      | none => rw [h5] at h; cases h
      | some d' =>
        rw [h5] at h
        simp only [Option.map_some, Option.some.injEq, Prod.mk.injEq] at h
        obtain ⟨rfl, rfl⟩ := h
        exact ⟨x, p, rfl, h3, h5⟩
/-- two operands, then an operation -/
theorem sem2 {Φ : Fn} {K : PySem.W.Frag} {z : L2.St} {a b : Ex} {k : D → D → Option D} {r : R2} (hr : Ans2 K r k) {σ : L2.St} {H : Hp} {Q : VK}
    (h : ∃ e F d e', Rel K z e σ F H ∧ op2 a (ev Φ a) b (ev Φ b) k e = some (d, e') ∧ Fin K z e σ F H e' d Q) : tOp r (SemO Φ K z a) (SemO Φ K z b) σ H Q := by
  obtain ⟨e, F, d, e', R, h, q⟩ := h
  obtain ⟨x, e1, y, p, p', h1, h2, h3, h4, h5⟩ := op2_get h
  refine ⟨e, F, x, e1, R, h1, fun v F1 H1 R1 S1 o1 => ⟨e1, F1, y, e', R1, h2, fun u F2 H2 R2 S2 o2 => ?_⟩⟩
  exact hr z e' σ F2 H2 v u p p' d Q R2 (R2.res (o1.mono S2.fs) h3) (R2.res o2 h4) h5 fun w F3 H3 R3 S3 dp => q w F3 H3 R3 ((S1.trans S2).trans S3) dp
theorem sem1 {Φ : Fn} {K : PySem.W.Frag} {z : L2.St} {a : Ex} {k : D → Option D} {r : V → Hp → VK → Prop} (hr : Ans1 K r k) {σ : L2.St} {H : Hp} {Q : VK}
    (h : ∃ e F d e', Rel K z e σ F H ∧ op1 a (ev Φ a) k e = some (d, e') ∧ Fin K z e σ F H e' d Q) : SemO Φ K z a σ H (fun x H1 => r x H1 Q) := by
  obtain ⟨e, F, d, e', R, h, q⟩ := h
  obtain ⟨x, p, h1, h3, h5⟩ := op1_get h
  refine ⟨e, F, x, e', R, h1, fun v F1 H1 R1 S1 o1 => ?_⟩
  exact hr z e' σ F1 H1 v p d Q R1 (R1.res o1 h3) h5 fun w F3 H3 R3 S3 dp => q w F3 H3 R3 (S1.trans S3) dp
/-! ### operators -/
section
variable {X : Cx}
/-- list + list, of any lists that are read -/
def rCatG (K : PySem.W.Frag) : R2 := fun x y H Q => ∃ l b xs zs, x = .ref l ∧ y = .ref b ∧ SqL K H l xs ∧ SqL K H b zs ∧ xs.length + zs.length ≤ sizeLine ∧ ∀ p, H p = none → Q (.ref p) (upd H p (.lst (xs ++ zs)))
theorem op_catG : OpR X (binaryOp .Add) (rCatG X.K) := by
  intro pins s σ H x y v u Q I rx ry h
  obtain ⟨l, b, xs, zs, rfl, rfl, hl, hb, hz, q⟩ := h
  cases rx
  cases ry
  obtain ⟨its, r, ⟨⟨c1, d1, t1, s1⟩, n1, g1, k1, k2, k3⟩, _⟩ := I.list hl
  obtain ⟨its2, r2, ⟨⟨c2, d2, t2, s2⟩, n2, g2, m1, m2, m3⟩, _⟩ := I.list hb
  simp only at k1 k2 k3 m1 m2 m3
  subst k1 k2 k3 m1 m2 m3
  have e1 := r.length
  have e2 := r2.length
  refine concat_meets ⟨_, g1, rfl⟩ ⟨_, g2, rfl⟩ noFill_list_add seq_list_add PySem.F.slot_list_add PySem.F.entry_list_add (PySem.F.args_list_add_2 _ _) (list_addW l b its.toArray its2.toArray n1 n2 none none s1 s2 (by rw [List.size_toArray, List.size_toArray]; omega)) ⟨g1, g2, ?_⟩
  rw [show its.toArray ++ its2.toArray = (its ++ its2).toArray by simp]
  exact ⟨.ref _, _, I.lnew (t' := s.toks) (r.append r2) (by rw [List.length_append]; omega), rfl, q _ I.fresh⟩
def rStr : R2 := fun x y H Q => ∃ i j, x = .str i ∧ y = .str j ∧ i.length + j.length ≤ sizeLine ∧ Q (.str (i ++ j)) H
def rBin (K : PySem.W.Frag) : Bo → R2
  | .add => fun x y H Q => rI0 (fun i j => .int (i + j)) x y H Q ∨ rStr x y H Q ∨ rCatG K x y H Q ∨ rCatA K x y H Q
  | .sub => rI0 fun i j => .int (i - j)
  | .mul => rI CMulW fun i j => .int (i * j)
  | .fdv => rI CDivW fun i j => .int (i / j)
  | .mod => rI (fun _ j => 0 < j) fun i j => .int (i % j)
  | .pow => rI CPow fun i j => .int (i ^ j.toNat)
def boOp : Bo → Operator
  | .add => .Add | .sub => .Sub | .mul => .Mult | .fdv => .FloorDiv | .mod => .Mod | .pow => .Pow
theorem op_bin : ∀ o : Bo, OpR X (binaryOp (boOp o)) (rBin X.K o)
  | .add => opr_or op_add (opr_or op_add_str (opr_or op_catG op_catA))
  | .sub => op_sub
  | .mul => op_mulW
  | .fdv => op_fdivW
  | .mod => op_mod
  | .pow => op_pow
theorem ans_bin {K : PySem.W.Frag} : ∀ o : Bo, Ans2 K (rBin K o) (binD o) := by
  intro o z e σ F H x y p q d Q R hx hy hk hq
  cases o with
  | add =>
    have hk : addD p q = some d := hk
    cases hx with
    | int i =>
      cases hy with
      | int j =>
        cases hk
        exact .inl ⟨i, j, rfl, rfl, hq.val R (.int _)⟩
      | _ => simp [addD] at hk
    | str i =>
      cases hy with
      | str j =>
        simp only [addD] at hk
        split at hk
        · rename_i hz
          cases hk
          exact .inr (.inl ⟨i, j, rfl, rfl, hz, hq.val R (.str _)⟩)
        · cases hk
      | _ => simp [addD] at hk
    | lst h1 h2 =>
      cases hy with
      | lst g1 g2 =>
        simp only [addD] at hk
        split at hk
        · rename_i hz
          cases hk
          exact .inr (.inr (.inl ⟨_, _, _, _, rfl, rfl, h1, g1, by rw [dps_len h2, dps_len g2]; exact hz, hq.lst R (dps_app h2 g2)⟩))
        · cases hk
      | _ => simp [addD] at hk
    | tup h1 h1' h2 =>
      cases hy with
      | tup g1 g1' g2 =>
        simp only [addD] at hk
        split at hk
        · rename_i hz
          cases hk
          refine .inr (.inr (.inr ⟨_, _, _, _, rfl, rfl, h1, g1, by rw [dps_len h2, dps_len g2]; exact hz, fun n => ?_, fun n m => ?_, fun n m => ?_⟩))
          · subst n
            cases h2
            exact hq.val R (.tup g1' g2)
          · subst m
            cases g2
            refine hq.val R ?_
            rw [List.append_nil]
            exact .tup h1' h2
          · exact hq.tup R (dps_app h2 g2)
        · cases hk
      | _ => simp [addD] at hk
    | _ => simp [addD] at hk
  | sub =>
    cases hx with
    | int i =>
      cases hy with
      | int j =>
        cases hk
        exact ⟨i, j, rfl, rfl, hq.val R (.int _)⟩
      | _ => simp [binD] at hk
    | _ => simp [binD] at hk
  | mul =>
    cases hx with
    | int i =>
      cases hy with
      | int j =>
        simp only [binD, mulD] at hk
        split at hk
        · rename_i hz
          cases hk
          exact ⟨i, j, rfl, rfl, (show i.natAbs.log2 + j.natAbs.log2 < 1000000 from of_decide_eq_true hz), hq.val R (.int _)⟩
        · cases hk
      | _ => simp [binD, mulD] at hk
    | _ => simp [binD, mulD] at hk
  | fdv =>
    cases hx with
    | int i =>
      cases hy with
      | int j =>
        simp only [binD] at hk
        split at hk
        · rename_i hz
          cases hk
          unfold divOk at hz
          rw [Bool.and_eq_true] at hz
          exact ⟨i, j, rfl, rfl, ⟨of_decide_eq_true hz.1, of_decide_eq_true hz.2⟩, hq.val R (.int _)⟩
        · cases hk
      | _ => simp [binD] at hk
    | _ => simp [binD] at hk
  | mod =>
    cases hx with
    | int i =>
      cases hy with
      | int j =>
        simp only [binD] at hk
        split at hk
        · rename_i hz
          cases hk
          exact ⟨i, j, rfl, rfl, hz, hq.val R (.int _)⟩
        · cases hk
      | _ => simp [binD] at hk
    | _ => simp [binD] at hk
  | pow =>
    cases hx with
    | int i =>
      cases hy with
      | int j =>
        simp only [binD] at hk
        split at hk
        · rename_i hz
          cases hk
          exact ⟨i, j, rfl, rfl, hz, hq.val R (.int _)⟩
        · cases hk
      | _ => simp [binD] at hk
    | _ => simp [binD] at hk
/-! ### subscripts -/
theorem ans_idx {K : PySem.W.Frag} : Ans2 K (rIx K) idxD := by
  intro z e σ F H x y p q d Q R hx hy hk hq
  cases hy with
  | int i =>
    cases hx with
    | lst h1 h2 =>
      have hk : atI _ i = some d := hk
      unfold atI at hk
      rw [← dps_len h2] at hk
      cases e1 : ixN _ i with
      | none => rw [e1] at hk; cases hk
      | some j =>
        rw [e1] at hk
        obtain ⟨v, g1, g2⟩ := dps_get h2 hk
        exact .inl ⟨_, _, i, v, rfl, rfl, h1, by unfold atI; rw [e1]; exact g1, hq.val R g2⟩
    | tup h1 h1' h2 =>
      have hk : atI _ i = some d := hk
      unfold atI at hk
      rw [← dps_len h2] at hk
      cases e1 : ixN _ i with
      | none => rw [e1] at hk; cases hk
      | some j =>
        rw [e1] at hk
        obtain ⟨v, g1, g2⟩ := dps_get h2 hk
        exact .inr (.inl ⟨_, _, i, v, rfl, rfl, h1, by unfold atI; rw [e1]; exact g1, hq.val R g2⟩)
    | str w =>
      simp only [idxD] at hk
      split at hk
      · rename_i hz
        cases e1 : atI w.cps.toList i with
        | none => rw [e1] at hk; cases hk
        | some c =>
          rw [e1] at hk
          cases hk
          exact .inr (.inr ⟨w, i, c, rfl, rfl, hz, e1, hq.val R (.str _)⟩)
      · cases hk
    | _ => simp [idxD] at hk
  | _ => cases hx <;> simp [idxD] at hk
/-! ### comparisons -/
theorem decide_inj_int {i j : Int} : decide (V.int i = V.int j) = decide (i = j) := by
  by_cases h : i = j
  · subst h; simp
  · rw [decide_eq_false h, decide_eq_false fun q => h (V.int.inj q)]
theorem decide_inj_str {i j : Str} : decide (V.str i = V.str j) = decide (i = j) := by
  by_cases h : i = j
  · subst h; simp
  · rw [decide_eq_false h, decide_eq_false fun q => h (V.str.inj q)]
def rEqA (K : PySem.W.Frag) : R2 := fun x y H Q => rEq x y H Q ∨ rEqD K x y H Q
def rNeA (K : PySem.W.Frag) : R2 := fun x y H Q => rNe x y H Q ∨ rNeD K x y H Q
theorem dp_of {K : PySem.W.Frag} {z : L2.St} {e : Ev} {σ : L2.St} {F H : Hp} {x : V} {p : D} (R : Rel K z e σ F H) (h : Rdp K F H x p) : Dp K H x p := h.dp R.sub
theorem eqD_cases {a b : D} {r : Bool} (h : eqD a b = some r) : (∃ i j, a = .int i ∧ b = .int j ∧ r = decide (i = j)) ∨ (∃ i j, a = .str i ∧ b = .str j ∧ r = decide (i = j)) ∨ (SeqAt.shaped a = true ∧ SeqAt.shaped b = true ∧ r = PyData.eqv a b) := by
  unfold eqD at h
  split at h
  · exact .inl ⟨_, _, rfl, rfl, (Option.some.inj h).symm⟩
  · exact .inr (.inl ⟨_, _, rfl, rfl, (Option.some.inj h).symm⟩)
  · split at h
    · rename_i hz
      rw [Bool.and_eq_true] at hz
      exact .inr (.inr ⟨hz.1, hz.2, (Option.some.inj h).symm⟩)
    · cases h
theorem ans_eq {K : PySem.W.Frag} {z : L2.St} {e : Ev} {σ : L2.St} {F H : Hp} {x y : V} {p q : D} {b : Bool} {Q : VK} (R : Rel K z e σ F H) (hx : Rdp K F H x p) (hy : Rdp K F H y q) (hk : eqD p q = some b) (hq : Q (.bl b) H) : rEqA K x y H Q := by
  rcases eqD_cases hk with ⟨i, j, rfl, rfl, rfl⟩ | ⟨i, j, rfl, rfl, rfl⟩ | ⟨h1, h2, rfl⟩
  · cases hx
    cases hy
    exact .inl ⟨rfl, by rw [decide_inj_int]; exact hq⟩
  · cases hx
    cases hy
    exact .inl ⟨rfl, by rw [decide_inj_str]; exact hq⟩
  · exact .inr ⟨p, q, dp_of R hx, dp_of R hy, h1, h2, hq⟩
theorem ans_ne {K : PySem.W.Frag} {z : L2.St} {e : Ev} {σ : L2.St} {F H : Hp} {x y : V} {p q : D} {b : Bool} {Q : VK} (R : Rel K z e σ F H) (hx : Rdp K F H x p) (hy : Rdp K F H y q) (hk : eqD p q = some b) (hq : Q (.bl (!b)) H) : rNeA K x y H Q := by
  rcases eqD_cases hk with ⟨i, j, rfl, rfl, rfl⟩ | ⟨i, j, rfl, rfl, rfl⟩ | ⟨h1, h2, rfl⟩
  · cases hx
    cases hy
    exact .inl ⟨rfl, by rw [decide_inj_int]; exact hq⟩
  · cases hx
    cases hy
    exact .inl ⟨rfl, by rw [decide_inj_str]; exact hq⟩
  · exact .inr ⟨p, q, dp_of R hx, dp_of R hy, h1, h2, hq⟩
theorem ints_vs {K : PySem.W.Frag} {F : Hp} : ∀ {ds : List D} {vs : List V} {ns : List Int}, DpAll K F vs ds → intsOf ds = some ns → vs = ns.map V.int
  | [], _, _, h, e => by
    cases h
    cases e
    rfl
  | d :: ds, _, ns, h, e => by
    cases h with
    | cons h1 h2 =>
      cases d with
      | int i =>
        cases h1
        simp only [intsOf] at e
        cases e1 : intsOf ds with
        | none => rw [e1] at e; cases e
        | some ms =>
          rw [e1] at e
          cases e
          rw [ints_vs h2 e1]
          rfl
      | _ => simp [intsOf] at e
theorem eqv_flat {K : PySem.W.Frag} {F : Hp} {x y : V} {d c : D} (h : Dp K F x d) (g : Dp K F y c) (f : flat d = true) (f' : flat c = true) : eqV y x = PyData.eqv c d := by
  cases h <;> cases g <;> first | rfl | (simp [flat] at f) | (simp [flat] at f') | simp [eqV, PyData.eqv]
theorem flat_v {K : PySem.W.Frag} {F : Hp} {x : V} {d : D} (h : Dp K F x d) (f : flat d = true) : flatV x = true := by
  cases h <;> first | rfl | (simp [flat] at f)
theorem flats_v {K : PySem.W.Frag} {F : Hp} : ∀ {vs : List V} {ds : List D}, DpAll K F vs ds → ds.all flat = true → vs.all flatV = true
  | _, [], h, _ => by cases h; rfl
  | _, d :: ds, h, f => by
    cases h with
    | cons h1 h2 =>
      rw [List.all_cons, Bool.and_eq_true] at f
      rw [List.all_cons, flat_v h1 f.1, flats_v h2 f.2]
      rfl
theorem in_flat {K : PySem.W.Frag} {F : Hp} {x : V} {d : D} (h : Dp K F x d) (f : flat d = true) : ∀ {vs : List V} {ds : List D}, DpAll K F vs ds → ds.all flat = true → inV x vs = ds.any fun y => PyData.eqv y d
  | _, [], g, _ => by cases g; rfl
  | _, c :: ds, g, f' => by
    cases g with
    | cons g1 g2 =>
      rw [List.all_cons, Bool.and_eq_true] at f'
      have ih := in_flat h f g2 f'.2
      unfold inV at ih ⊢
      rw [List.any_cons, List.any_cons, ih, eqv_flat h g1 f f'.1]
def rInS (neg : Bool) : R2 := fun x y H Q => ∃ i j, x = .str i ∧ y = .str j ∧ Q (.bl (if neg then !(!(Builtin.Str.occurrences j i 0 j.length 1).isEmpty) else !(Builtin.Str.occurrences j i 0 j.length 1).isEmpty)) H
def rInA (K : PySem.W.Frag) : R2 := fun x y H Q => rIn K false x y H Q ∨ rInD K x y H Q ∨ rInS false x y H Q
def rNinA (K : PySem.W.Frag) : R2 := fun x y H Q => rIn K true x y H Q ∨ rNotInD K x y H Q ∨ rInS true x y H Q
theorem flat_dp {K : PySem.W.Frag} {F H : Hp} {x : V} {d : D} (h : Rdp K F H x d) (f : flat d = true) : Dp K F x d := by
  cases h with
  | non => exact .non
  | bl b => exact .bl b
  | int i => exact .int i
  | str i => exact .str i
  | _ => simp [flat] at f
theorem ans_in {K : PySem.W.Frag} {z : L2.St} {e : Ev} {σ : L2.St} {F H : Hp} {x y : V} {p q : D} {b : Bool} {Q : VK} (R : Rel K z e σ F H) (hx : Rdp K F H x p) (hy : Rdp K F H y q) (hk : inD p q = some b) : (Q (.bl b) H → rInA K x y H Q) ∧ (Q (.bl (!b)) H → rNinA K x y H Q) := by
  cases hy with
  | lst h1 h2 =>
    simp only [inD] at hk
    split at hk
    · rename_i hf
      rw [Bool.and_eq_true] at hf
      cases hk
      have hd := flat_dp hx hf.1
      exact ⟨fun hq => .inl ⟨_, _, rfl, .inl h1, flat_v hd hf.1, flats_v h2 hf.2, by rw [in_flat hd hf.1 h2 hf.2]; exact hq⟩,
        fun hq => .inl ⟨_, _, rfl, .inl h1, flat_v hd hf.1, flats_v h2 hf.2, by rw [in_flat hd hf.1 h2 hf.2]; exact hq⟩⟩
    · split at hk
      · rename_i hf
        rw [Bool.and_eq_true] at hf
        cases hk
        exact ⟨fun hq => .inr (.inl ⟨_, _, dp_of R hx, dp_of R (.lst h1 h2), hf.1, hf.2, hq⟩), fun hq => .inr (.inl ⟨_, _, dp_of R hx, dp_of R (.lst h1 h2), hf.1, hf.2, hq⟩)⟩
      · cases hk
  | tup h1 h1' h2 =>
    simp only [inD] at hk
    split at hk
    · rename_i hf
      rw [Bool.and_eq_true] at hf
      cases hk
      have hd := flat_dp hx hf.1
      exact ⟨fun hq => .inl ⟨_, _, rfl, .inr h1, flat_v hd hf.1, flats_v h2 hf.2, by rw [in_flat hd hf.1 h2 hf.2]; exact hq⟩,
        fun hq => .inl ⟨_, _, rfl, .inr h1, flat_v hd hf.1, flats_v h2 hf.2, by rw [in_flat hd hf.1 h2 hf.2]; exact hq⟩⟩
    · cases hk
  | str w =>
    simp only [inD] at hk
    cases hx with
    | str i =>
      cases hk
      exact ⟨fun hq => .inr (.inr ⟨i, w, rfl, rfl, hq⟩), fun hq => .inr (.inr ⟨i, w, rfl, rfl, hq⟩)⟩
    | _ => simp at hk
  | _ => simp [inD] at hk
/-- t > u, rows of ints -/
def rGtT (K : PySem.W.Frag) : R2 := fun x y H Q => ∃ a b ns ms, x = .ref a ∧ y = .ref b ∧ SqT K H a (ns.map V.int) ∧ SqT K H b (ms.map V.int) ∧ Q (.bl (HT.lexLt ms ns)) H
def rLtA (K : PySem.W.Frag) : R2 := fun x y H Q => rI0 (fun i j => .bl (decide (i < j))) x y H Q ∨ rLtT K x y H Q
def rIsA (K : PySem.W.Frag) : R2 := fun x y H Q => (y = .non ∧ Q (.bl (decide (x = .non))) H) ∨ ∃ a b, x = .bl a ∧ y = .bl b ∧ Q (.bl (decide (a = b))) H
def rIsnA (K : PySem.W.Frag) : R2 := fun x y H Q => (y = .non ∧ Q (.bl (!decide (x = .non))) H) ∨ ∃ a b, x = .bl a ∧ y = .bl b ∧ Q (.bl (!decide (a = b))) H
def rGtD (K : PySem.W.Frag) : R2 := fun x y H Q => ∃ d e, Dp K H x d ∧ Dp K H y e ∧ PySem.W.alike d e = true ∧ d ≠ .none ∧ d.depth ≤ 60 ∧ Q (.bl (PySem.W.dataLt e d)) H
def rGtA (K : PySem.W.Frag) : R2 := fun x y H Q => rI0 (fun i j => .bl (decide (j < i))) x y H Q ∨ rGtD K x y H Q
theorem op_gtD (hu : X.A.units + 64 < cLine) : OpR X (compareOp .Gt) (rGtD X.K) := by
  intro pins s σ H x y v u Q I rx ry h
  obtain ⟨d, e, hd, he, sd, se, hz, q⟩ := h
  obtain ⟨as, r1⟩ := Dp.reads I d x v hd rx
  obtain ⟨bs, r2⟩ := Dp.reads I e y u he ry
  exact PySem.W.gt_data r1 r2 sd se (by omega) ⟨.bl _, H, I, rfl, q⟩
def rCmp (K : PySem.W.Frag) : Co → R2
  | .eq => rEqA K
  | .ne => rNeA K
  | .lt => rLtA K
  | .le => rI0 fun i j => .bl (decide (i ≤ j))
  | .gt => rGtA K
  | .ge => rI0 fun i j => .bl (decide (j ≤ i))
  | .is => rIsA K
  | .isn => rIsnA K
  | .inn => rInA K
  | .nin => rNinA K
def coOp : Co → CmpOp
  | .eq => .Eq | .ne => .NotEq | .lt => .Lt | .le => .LtE | .gt => .Gt | .ge => .GtE | .is => .Is | .isn => .IsNot | .inn => .In | .nin => .NotIn
theorem op_cmp (hu : X.A.units + 65 < cLine) : ∀ o : Co, OpR X (compareOp (coOp o)) (rCmp X.K o)
  | .eq => opr_or op_eq (op_eqD (by omega))
  | .ne => opr_or op_ne (op_neD (by omega))
  | .lt => opr_or op_lt (op_ltT (by omega))
  | .le => op_le
  | .gt => opr_or op_gt (op_gtD (by omega))
  | .ge => op_ge
  | .is => opr_or op_isN op_is_bl
  | .isn => opr_or op_notN op_isnot_bl
  | .inn => opr_or op_in_seq (opr_or (op_inD hu) op_in_str)
  | .nin => opr_or op_notIn_seq (opr_or (op_notInD hu) op_notIn_str)
theorem isn_v {K : PySem.W.Frag} {F H : Hp} {x : V} {d : D} (h : Rdp K F H x d) : decide (x = .non) = isNone d := by
  cases h <;> simp [isNone]
theorem ans_cmp {K : PySem.W.Frag} : ∀ o : Co, Ans2 K (rCmp K o) (fun p q => (cmpD o p q).map .bool) := by
  intro o z e σ F H x y p q d Q R hx hy hk hq
  obtain ⟨b, hk', rfl⟩ := Option.map_eq_some_iff.mp hk
  clear hk
  have hk : cmpD o p q = some b := hk'
  have fin : Q (.bl b) H := hq.val R (.bl b)
  cases o with
  | eq => exact ans_eq R hx hy hk fin
  | ne =>
    obtain ⟨c, hc, rfl⟩ := Option.map_eq_some_iff.mp (show (eqD p q).map (!·) = some b from hk)
    exact ans_ne R hx hy hc fin
  | lt =>
    have hk : ltD p q = some b := hk
    cases hx with
    | int i =>
      cases hy with
      | int j =>
        cases hk
        exact .inl ⟨i, j, rfl, rfl, fin⟩
      | _ => simp [ltD] at hk
    | tup h1 h1' h2 =>
      cases hy with
      | tup g1 g1' g2 =>
        simp only [ltD] at hk
        split at hk
        · rename_i ns ms e1 e2
          cases hk
          have v1 := ints_vs h2 e1
          have v2 := ints_vs g2 e2
          subst v1 v2
          exact .inr ⟨_, _, ns, ms, rfl, rfl, h1, g1, fin⟩
        · cases hk
      | _ => simp [ltD] at hk
    | _ => simp [ltD] at hk
  | le =>
    cases hx <;> cases hy <;> first | (simp [cmpD] at hk; done) | skip
    cases hk
    exact ⟨_, _, rfl, rfl, fin⟩
  | gt =>
    cases hx with
    | int i =>
      cases hy with
      | int j =>
        cases hk
        exact .inl ⟨i, j, rfl, rfl, fin⟩
      | _ => simp [cmpD] at hk
    | tup h1 h1' h2 =>
      cases hy with
      | tup g1 g1' g2 =>
        have hk : gtD (.tuple _) (.tuple _) = some b := hk
        unfold gtD at hk
        split at hk
        · rename_i hc
          rw [Bool.and_eq_true] at hc
          cases hk
          exact .inr ⟨_, _, dp_of R (.tup h1 h1' h2), dp_of R (.tup g1 g1' g2), hc.1, (fun q => by cases q), of_decide_eq_true hc.2, fin⟩
        · cases hk
      | _ => simp [cmpD] at hk
    | _ => cases hy <;> simp [cmpD] at hk
  | ge =>
    cases hx <;> cases hy <;> first | (simp [cmpD] at hk; done) | skip
    cases hk
    exact ⟨_, _, rfl, rfl, fin⟩
  | is =>
    cases hy with
    | non =>
      have hk : some (isNone p) = some b := by
        cases p <;> exact hk
      cases hk
      exact .inl ⟨rfl, by rw [isn_v hx]; exact fin⟩
    | bl c =>
      cases hx with
      | bl a =>
        cases hk
        exact .inr ⟨a, c, rfl, rfl, fin⟩
      | _ => simp [cmpD] at hk
    | _ => cases hx <;> simp [cmpD] at hk
  | isn =>
    cases hy with
    | non =>
      have hk : some (!isNone p) = some b := by
        cases p <;> exact hk
      cases hk
      exact .inl ⟨rfl, by rw [isn_v hx]; exact fin⟩
    | bl c =>
      cases hx with
      | bl a =>
        cases hk
        exact .inr ⟨a, c, rfl, rfl, fin⟩
      | _ => simp [cmpD] at hk
    | _ => cases hx <;> simp [cmpD] at hk
  | inn => exact (ans_in R hx hy hk).1 fin
  | nin =>
    obtain ⟨c, hc, rfl⟩ := Option.map_eq_some_iff.mp (show (inD p q).map (!·) = some b from hk)
    exact (ans_in R hx hy hc).2 fin
/-! ### truth -/
theorem tru_v {K : PySem.W.Frag} {z : L2.St} {e : Ev} {σ : L2.St} {F H : Hp} {x : V} {p : D} {b : Bool} (R : Rel K z e σ F H) (hx : Rdp K F H x p) (h : truth p = some b) : TruV K x H b := by
  have emp : ∀ {vs : List V} {ds : List D}, DpAll K F vs ds → vs.isEmpty = ds.isEmpty := fun {vs ds} h => by
    have e := dps_len h
    cases vs <;> cases ds <;> first | rfl | (simp at e)
  cases hx with
  | non => cases h; rfl
  | bl c => cases h; rfl
  | int i => cases h; rfl
  | str w =>
    simp only [truth] at h
    split at h
    · rename_i hz
      cases h
      exact ⟨hz, rfl⟩
    · cases h
  | lst h1 h2 =>
    cases h
    exact .inl ⟨_, h1, by rw [emp h2]⟩
  | tup h1 h1' h2 =>
    cases h
    exact .inr (.inl ⟨_, h1, by rw [emp h2]⟩)
theorem ans_neg {K : PySem.W.Frag} : Ans1 K (rU fun i => .int (-i)) negD := by
  intro z e σ F H x p d Q R hx hk hq
  cases hx <;> first | (simp [negD] at hk; done) | skip
  cases hk
  exact ⟨_, rfl, hq.val R (.int _)⟩
theorem ans_nt {K : PySem.W.Frag} : Ans1 K (fun x H Q => ∃ k, TruV K x H k ∧ Q (.bl (!k)) H) (fun d => (truth d).map fun b => .bool (!b)) := by
  intro z e σ F H x p d Q R hx hk hq
  obtain ⟨b, hb, rfl⟩ := Option.map_eq_some_iff.mp hk
  exact ⟨b, tru_v R hx hb, hq.val R (.bl _)⟩
end
end Iv
end
section
set_option Elab.async false
set_option linter.all false
set_option maxRecDepth 100000
set_option maxHeartbeats 1000000
/-! Builtins by their names, answered from data. -/
namespace Iv
open PySem PySem.Spec PyProof.Rows L2
def AnsL1 (K : PySem.W.Frag) (r : List V → Hp → VK → Prop) (k : D → Option D) : Prop := Ans1 K (fun x H Q => r [x] H Q) k
def AnsL2 (K : PySem.W.Frag) (r : List V → Hp → VK → Prop) (k : D → D → Option D) : Prop := Ans2 K (fun x y H Q => r [x, y] H Q) k
section
variable {X : Cx}
theorem dep_ints : ∀ ns : List Int, PyData.depthAll (ns.map PyData.int) ≤ 1
  | [] => by simp [PyData.depthAll]
  | n :: ns => by
    have := dep_ints ns
    simp only [List.map_cons, PyData.depthAll, PyData.depth]
    omega
theorem alk_ints (ns : List Int) : PySem.W.AlikeAll (ns.map PyData.int) := by
  refine ⟨fun x hx y hy => ?_, fun x hx => ?_⟩
  · obtain ⟨i, _, rfl⟩ := List.mem_map.mp hx
    obtain ⟨j, _, rfl⟩ := List.mem_map.mp hy
    simp only [PySem.W.alike]
  · obtain ⟨i, _, rfl⟩ := List.mem_map.mp hx
    intro e; cases e
theorem maxD_ints : ∀ (ns : List Int) (n : Int), PySem.W.maxD (.int n) (ns.map PyData.int) = .int (ns.foldl (fun m x => if x > m then x else m) n)
  | [], n => rfl
  | a :: ns, n => by
    show List.foldl _ (if PySem.W.dataLt (.int n) (.int a) = true then PyData.int a else .int n) (ns.map PyData.int) = _
    rw [PySem.W.dataLt_int, List.foldl_cons]
    by_cases h : a > n
    · rw [if_pos (by simpa using h), if_pos h]
      exact maxD_ints ns a
    · rw [if_neg (by simpa using h), if_neg h]
      exact maxD_ints ns n
theorem minD_ints : ∀ (ns : List Int) (n : Int), PySem.W.minD (.int n) (ns.map PyData.int) = .int (ns.foldl (fun m x => if x < m then x else m) n)
  | [], n => rfl
  | a :: ns, n => by
    show List.foldl _ (if PySem.W.dataLt (.int a) (.int n) = true then PyData.int a else .int n) (ns.map PyData.int) = _
    rw [PySem.W.dataLt_int, List.foldl_cons]
    by_cases h : a < n
    · rw [if_pos (by simpa using h), if_pos h]
      exact minD_ints ns a
    · rw [if_neg (by simpa using h), if_neg h]
      exact minD_ints ns n
/-- what a built-in says of a tuple of ints -/
def rTI (K : PySem.W.Frag) (f : List Int → Option Int) : List V → Hp → VK → Prop := fun vs H Q => ∃ x ns m, vs = [x] ∧ Dp K H x (.tuple (ns.map .int)) ∧ f ns = some m ∧ Q (.int m) H
def maxI : List Int → Option Int
  | [] => none
  | n :: ns => some (ns.foldl (fun m x => if x > m then x else m) n)
def minI : List Int → Option Int
  | [] => none
  | n :: ns => some (ns.foldl (fun m x => if x < m then x else m) n)
theorem tup_in {s : Shared} {pins : List (Addr × Obj)} {σ : L2.St} {H : Hp} {x : V} {u : Value} {ns : List Int} (I : L2.Inv X pins σ H s) (r : RelV x u) (h : Dp X.K H x (.tuple (ns.map .int))) : ∃ a vs, u = .ref a ∧ s.heap.IsTuple a vs ∧ IntsAre vs.toList ns := by
  obtain ⟨as, r1⟩ := Dp.reads I _ x u h r
  cases r1 with
  | tuple g1 g2 g3 g4 => exact ⟨_, _, rfl, ⟨_, g1, g2, _, g3⟩, (readsAll_intsAre0 g4).1⟩
theorem cr_maxT (hc : X.calm = true) (hu : X.A.units + 64 < cLine) : CallR X (.builtin "max") (rTI X.K maxI) := by
  intro pins s σ H vs us Q I r h
  obtain ⟨x, ns, m, rfl, hd, e, q⟩ := h
  cases r with
  | cons r1 r2 =>
    cases r2
    obtain ⟨a, its, rfl, ht, hi⟩ := tup_in I r1 hd
    cases ns with
    | nil => cases e
    | cons n ns =>
      cases e
      have dp := dep_ints (n :: ns)
      refine PySem.W.max_tuple_data (x := .int n) (xs := ns.map .int) (I.ok.hd hc) ht (ints_readAll _ hi) (alk_ints (n :: ns)) (by show _ + PyData.depthAll ((n :: ns).map PyData.int) < _; omega) fun i v h' tk bs _ rd k => ?_
      rw [maxD_ints] at rd
      cases rd
      exact ⟨.int _, H, I.kept k, ⟨_, rfl⟩, q⟩
theorem cr_minT (hc : X.calm = true) (hu : X.A.units + 64 < cLine) : CallR X (.builtin "min") (rTI X.K minI) := by
  intro pins s σ H vs us Q I r h
  obtain ⟨x, ns, m, rfl, hd, e, q⟩ := h
  cases r with
  | cons r1 r2 =>
    cases r2
    obtain ⟨a, its, rfl, ht, hi⟩ := tup_in I r1 hd
    cases ns with
    | nil => cases e
    | cons n ns =>
      cases e
      have dp := dep_ints (n :: ns)
      refine PySem.W.min_tuple_data (x := .int n) (xs := ns.map .int) (I.ok.hd hc) ht (ints_readAll _ hi) (alk_ints (n :: ns)) (by show _ + PyData.depthAll ((n :: ns).map PyData.int) < _; omega) fun i v h' tk bs _ rd k => ?_
      rw [minD_ints] at rd
      cases rd
      exact ⟨.int _, H, I.kept k, ⟨_, rfl⟩, q⟩
theorem ints_num : ∀ {vs : List Value} {ns : List Int}, IntsAre vs ns → ∃ xs : Array (Int × Tok), vs.toArray = intItems xs ∧ xs.toList.map (·.1) = ns
  | _, _, .nil => ⟨#[], by simp [intItems], rfl⟩
  | _, _, .cons n t h => by
    obtain ⟨xs, e1, e2⟩ := ints_num h
    refine ⟨⟨(n, t) :: xs.toList⟩, ?_, by simp [e2]⟩
    apply Array.ext'
    have := congrArg Array.toList e1
    simp [intItems] at this ⊢
    exact this
theorem cr_sumT (hc : X.calm = true) : CallR X (.builtin "sum") (rTI X.K fun ns => some ns.sum) := by
  intro pins s σ H vs us Q I r h
  obtain ⟨x, ns, m, rfl, hd, e, q⟩ := h
  cases r with
  | cons r1 r2 =>
    cases r2
    obtain ⟨a, its, rfl, ht, hi⟩ := tup_in I r1 hd
    cases e
    obtain ⟨xs, e1, e2⟩ := ints_num hi
    have e1 : its = intItems xs := by rw [← e1]
    rw [e1] at ht
    refine PySem.W.ktm_sumG (I.ok.hd hc) ht fun h' tk t' k => ⟨.int _, H, I.kept k, ⟨t', ?_⟩, q⟩
    rw [preSum_eq, List.take_of_length_le (by simp), ← e2, ]
end
theorem ints_map : ∀ {ds : List D} {ns : List Int}, intsOf ds = some ns → ds = ns.map .int
  | [], ns, e => by cases e; rfl
  | d :: ds, ns, e => by
    cases d with
    | int i =>
      simp only [intsOf] at e
      cases e1 : intsOf ds with
      | none => rw [e1] at e; cases e
      | some ms =>
        rw [e1] at e
        cases e
        rw [ints_map e1]
        rfl
    | _ => simp [intsOf] at e
section
variable {K : PySem.W.Frag}
def rLenA (K : PySem.W.Frag) : List V → Hp → VK → Prop := fun xs H Q => (∃ p ys, xs = [.ref p] ∧ (SqL K H p ys ∨ SqT K H p ys) ∧ Q (.int ys.length) H) ∨ (∃ z, xs = [.str z] ∧ z.length ≤ sizeLine ∧ Q (.int z.length) H)
theorem ans_len : AnsL1 K (rLenA K) (b1D .len) := by
  intro z e σ F H x p d Q R hx hk hq
  cases hx with
  | lst h1 h2 =>
    cases hk
    exact .inl ⟨_, _, rfl, .inl h1, by rw [dps_len h2]; exact hq.val R (.int _)⟩
  | tup h1 h1' h2 =>
    cases hk
    exact .inl ⟨_, _, rfl, .inr h1, by rw [dps_len h2]; exact hq.val R (.int _)⟩
  | str w =>
    simp only [b1D] at hk
    split at hk
    · rename_i hz
      cases hk
      exact .inr ⟨w, rfl, hz, hq.val R (.int _)⟩
    · cases hk
  | _ => simp [b1D] at hk
theorem ans_abs : AnsL1 K (fun xs H Q => ∃ i, xs = [.int i] ∧ Q (.int (if i < 0 then -i else i)) H) (b1D .abs) := by
  intro z e σ F H x p d Q R hx hk hq
  cases hx <;> first | (simp [b1D] at hk; done) | skip
  cases hk
  exact ⟨_, rfl, hq.val R (.int _)⟩
theorem ans_int : AnsL1 K (fun xs H Q => (∃ i, xs = [.int i] ∧ Q (.int i) H) ∨ ∃ k, xs = [.bl k] ∧ Q (.int (if k then 1 else 0)) H) (b1D .int) := by
  intro z e σ F H x p d Q R hx hk hq
  cases hx with
  | int i =>
    cases hk
    exact .inl ⟨i, rfl, hq.val R (.int _)⟩
  | bl b =>
    cases hk
    exact .inr ⟨b, rfl, hq.val R (.int _)⟩
  | _ => simp [b1D] at hk
theorem bools_vs {F : Hp} : ∀ {ds : List D} {vs : List V} {ns : List Bool}, DpAll K F vs ds → boolsOf ds = some ns → vs = ns.map V.bl
  | [], _, _, h, e => by
    cases h
    cases e
    rfl
  | d :: ds, _, ns, h, e => by
    cases h with
    | cons h1 h2 =>
      cases d with
      | bool i =>
        cases h1
        simp only [boolsOf] at e
        cases e1 : boolsOf ds with
        | none => rw [e1] at e; cases e
        | some ms =>
          rw [e1] at e
          cases e
          rw [bools_vs h2 e1]
          rfl
      | _ => simp [boolsOf] at e
theorem ans_all : AnsL1 K (rAll K) (b1D .all) := by
  intro z e σ F H x p d Q R hx hk hq
  cases hx with
  | lst h1 h2 =>
    obtain ⟨bs, e1, rfl⟩ := Option.map_eq_some_iff.mp (show (boolsOf _).map (fun bs => PyData.bool (bs.all id)) = some d from hk)
    have v := bools_vs h2 e1
    subst v
    exact ⟨_, bs, rfl, h1, hq.val R (.bl _)⟩
  | _ => simp [b1D] at hk
theorem ans_any : AnsL1 K (rAny K) (b1D .any) := by
  intro z e σ F H x p d Q R hx hk hq
  cases hx with
  | lst h1 h2 =>
    obtain ⟨bs, e1, rfl⟩ := Option.map_eq_some_iff.mp (show (boolsOf _).map (fun bs => PyData.bool (bs.any id)) = some d from hk)
    have v := bools_vs h2 e1
    subst v
    exact ⟨_, bs, rfl, h1, hq.val R (.bl _)⟩
  | _ => simp [b1D] at hk
theorem ans_sum : AnsL1 K (fun xs H Q => rSum K xs H Q ∨ rTI K (fun ns => some ns.sum) xs H Q) (b1D .sum) := by
  intro z e σ F H x p d Q R hx hk hq
  cases hx with
  | lst h1 h2 =>
    obtain ⟨bs, e1, rfl⟩ := Option.map_eq_some_iff.mp (show (intsOf _).map (fun ns => PyData.int ns.sum) = some d from hk)
    have v := ints_vs h2 e1
    subst v
    exact .inl ⟨_, bs, rfl, h1, hq.val R (.int _)⟩
  | tup h1 h1' h2 =>
    obtain ⟨bs, e1, rfl⟩ := Option.map_eq_some_iff.mp (show (intsOf _).map (fun ns => PyData.int ns.sum) = some d from hk)
    have v := ints_map e1
    subst v
    exact .inr ⟨_, bs, _, rfl, dp_of R (.tup h1 h1' h2), rfl, hq.val R (.int _)⟩
  | _ => simp [b1D] at hk
theorem foldmax : ∀ (ns : List Int) (n : Int), (ns.foldl (fun m x => if x > m then x else m) n ∈ n :: ns) ∧ ∀ y ∈ n :: ns, y ≤ ns.foldl (fun m x => if x > m then x else m) n
  | [], n => ⟨by simp, by simp⟩
  | a :: ns, n => by
    rw [List.foldl_cons]
    obtain ⟨h1, h2⟩ := foldmax ns (if a > n then a else n)
    generalize List.foldl _ _ ns = M at h1 h2
    by_cases h : a > n
    · rw [if_pos h] at h1 h2
      refine ⟨List.mem_cons_of_mem _ h1, fun y hy => ?_⟩
      rcases List.mem_cons.mp hy with rfl | hy
      · have := h2 a List.mem_cons_self
        omega
      · exact h2 y hy
    · rw [if_neg h] at h1 h2
      refine ⟨?_, fun y hy => ?_⟩
      · rcases List.mem_cons.mp h1 with e | h1
        · rw [e]; exact List.mem_cons_self
        · exact List.mem_cons_of_mem _ (List.mem_cons_of_mem _ h1)
      · rcases List.mem_cons.mp hy with rfl | hy
        · exact h2 y List.mem_cons_self
        · rcases List.mem_cons.mp hy with rfl | hy
          · have := h2 n List.mem_cons_self
            omega
          · exact h2 y (List.mem_cons_of_mem _ hy)
theorem foldmin : ∀ (ns : List Int) (n : Int), (ns.foldl (fun m x => if x < m then x else m) n ∈ n :: ns) ∧ ∀ y ∈ n :: ns, ns.foldl (fun m x => if x < m then x else m) n ≤ y
  | [], n => ⟨by simp, by simp⟩
  | a :: ns, n => by
    rw [List.foldl_cons]
    obtain ⟨h1, h2⟩ := foldmin ns (if a < n then a else n)
    generalize List.foldl _ _ ns = M at h1 h2
    by_cases h : a < n
    · rw [if_pos h] at h1 h2
      refine ⟨List.mem_cons_of_mem _ h1, fun y hy => ?_⟩
      rcases List.mem_cons.mp hy with rfl | hy
      · have := h2 a List.mem_cons_self
        omega
      · exact h2 y hy
    · rw [if_neg h] at h1 h2
      refine ⟨?_, fun y hy => ?_⟩
      · rcases List.mem_cons.mp h1 with e | h1
        · rw [e]; exact List.mem_cons_self
        · exact List.mem_cons_of_mem _ (List.mem_cons_of_mem _ h1)
      · rcases List.mem_cons.mp hy with rfl | hy
        · exact h2 y List.mem_cons_self
        · rcases List.mem_cons.mp hy with rfl | hy
          · have := h2 n List.mem_cons_self
            omega
          · exact h2 y (List.mem_cons_of_mem _ hy)
theorem ans_max : AnsL1 K (fun xs H Q => rMax K xs H Q ∨ rTI K maxI xs H Q) (b1D .max) := by
  intro z e σ F H x p d Q R hx hk hq
  cases hx with
  | lst h1 h2 =>
    simp only [b1D] at hk
    split at hk
    · rename_i n ns e1
      cases hk
      have v := ints_vs h2 e1
      subst v
      obtain ⟨g1, g2⟩ := foldmax ns n
      exact .inl ⟨_, n :: ns, rfl, h1, Nat.zero_lt_succ _, fun m hm hb => by
        have e2 : m = ns.foldl (fun m x => if x > m then x else m) n := Int.le_antisymm (g2 m hm) (hb _ g1)
        rw [e2]
        exact hq.val R (.int _)⟩
    · cases hk
  | tup h1 h1' h2 =>
    simp only [b1D] at hk
    split at hk
    · rename_i n ns e1
      cases hk
      have v := ints_map e1
      subst v
      exact .inr ⟨_, n :: ns, _, rfl, dp_of R (.tup h1 h1' h2), rfl, hq.val R (.int _)⟩
    · cases hk
  | _ => simp [b1D] at hk
theorem ans_min : AnsL1 K (fun xs H Q => rMin K xs H Q ∨ rTI K minI xs H Q) (b1D .min) := by
  intro z e σ F H x p d Q R hx hk hq
  cases hx with
  | lst h1 h2 =>
    simp only [b1D] at hk
    split at hk
    · rename_i n ns e1
      cases hk
      have v := ints_vs h2 e1
      subst v
      obtain ⟨g1, g2⟩ := foldmin ns n
      exact .inl ⟨_, n :: ns, rfl, h1, Nat.zero_lt_succ _, fun m hm hb => by
        have e2 : m = ns.foldl (fun m x => if x < m then x else m) n := Int.le_antisymm (hb _ g1) (g2 m hm)
        rw [e2]
        exact hq.val R (.int _)⟩
    · cases hk
  | tup h1 h1' h2 =>
    simp only [b1D] at hk
    split at hk
    · rename_i n ns e1
      cases hk
      have v := ints_map e1
      subst v
      exact .inr ⟨_, n :: ns, _, rfl, dp_of R (.tup h1 h1' h2), rfl, hq.val R (.int _)⟩
    · cases hk
  | _ => simp [b1D] at hk
theorem ans_str : AnsL1 K (fun xs H Q => (∃ i, xs = [.int i] ∧ i.natAbs.log2 < 1920 ∧ Q (.str (toString i)) H) ∨ ∃ a, xs = [.str a] ∧ Q (.str a) H) (b1D .str) := by
  intro z e σ F H x p d Q R hx hk hq
  cases hx with
  | int i =>
    simp only [b1D] at hk
    split at hk
    · rename_i hz
      cases hk
      exact .inl ⟨i, rfl, hz, hq.val R (.str _)⟩
    · cases hk
  | str w =>
    cases hk
    exact .inr ⟨w, rfl, hq.val R (.str _)⟩
  | _ => simp [b1D] at hk
theorem ans_list : AnsL1 K (fun xs H Q => ∃ p ys, xs = [.ref p] ∧ (SqL K H p ys ∨ SqT K H p ys) ∧ ∀ l, H l = none → Q (.ref l) (upd H l (.lst ys))) (b1D .list) := by
  intro z e σ F H x p d Q R hx hk hq
  cases hx with
  | lst h1 h2 =>
    cases hk
    exact ⟨_, _, rfl, .inl h1, hq.lst R h2⟩
  | tup h1 h1' h2 =>
    cases hk
    exact ⟨_, _, rfl, .inr h1, hq.lst R h2⟩
  | _ => simp [b1D] at hk
theorem ans_tup : AnsL1 K (fun xs H Q => ∃ p ys, xs = [.ref p] ∧ ((SqL K H p ys ∧ ∀ l, H l = none → Q (.ref l) (upd H l (.tup ys))) ∨ (SqT K H p ys ∧ Q (.ref p) H))) (b1D .tup) := by
  intro z e σ F H x p d Q R hx hk hq
  cases hx with
  | lst h1 h2 =>
    cases hk
    exact ⟨_, _, rfl, .inl ⟨h1, hq.tup R h2⟩⟩
  | tup h1 h1' h2 =>
    cases hk
    exact ⟨_, _, rfl, .inr ⟨h1, hq.val R (.tup h1' h2)⟩⟩
  | _ => simp [b1D] at hk
def rRepr (K : PySem.W.Frag) : List V → Hp → VK → Prop := fun xs H Q => ∃ x d, xs = [x] ∧ Dp K H x d ∧ d.showable = true ∧ d.hasDict = false ∧ d.depth ≤ 60 ∧ d.shown.length ≤ sizeLine ∧ Q (.str d.shown) H
theorem ans_repr : AnsL1 K (rRepr K) (b1D .repr) := by
  intro z e σ F H x p d Q R hx hk hq
  have hk : (if p.showable && !p.hasDict && decide (p.depth ≤ 60) && decide (p.shown.length ≤ sizeLine) then some (PyData.str p.shown) else none) = some d := by
    cases p <;> exact hk
  split at hk
  · rename_i hz
    cases hk
    simp only [Bool.and_eq_true, Bool.not_eq_true', decide_eq_true_eq] at hz
    exact ⟨x, p, rfl, dp_of R hx, hz.1.1.1, hz.1.1.2, hz.1.2, hz.2, hq.val R (.str _)⟩
  · cases hk
theorem call_repr {X : Cx} (hg : X.A.guards = some []) (hu : X.A.units + 64 < cLine) : CallR X (.builtin "repr") (rRepr X.K) := by
  intro pins s σ H xs us Q I r h
  obtain ⟨x, d, rfl, dp, h1, h2, h3, h4, q⟩ := h
  obtain ⟨u, rfl, rx⟩ := vals1 r
  obtain ⟨as, rd⟩ := dp.reads I _ _ _ rx
  cases dp with
  | non =>
    cases rx
    exact PySem.P.repr_of_none ⟨.str _, H, I.tok _, ⟨_, rfl⟩, by simpa only [PyData.shown] using q⟩
  | bl b =>
    cases rx
    exact PySem.P.repr_of_bool ⟨.str _, H, I.tok _, ⟨_, rfl⟩, by simpa only [PyData.shown] using q⟩
  | int i =>
    obtain ⟨t, rfl⟩ := rx
    exact PySem.P.repr_of_int (by simpa [PyData.showable] using h1) ⟨.str _, H, I.tok _, ⟨_, rfl⟩, by simpa only [PyData.shown] using q⟩
  | str w =>
    obtain ⟨t, rfl⟩ := rx
    exact PySem.P.repr_of_str ⟨.str _, H, I.tok _, ⟨_, rfl⟩, by simpa only [PyData.shown] using q⟩ (by simpa only [PyData.shown] using h4)
  | lst g1 g2 =>
    cases rx
    exact repr_of_reads' rd h1 (PyData.noDict_hsm h2) hg (by omega) (fun _ _ e => e) (fun h' u tk hk => ⟨.str _, H, I.kept hk, ⟨_, rfl⟩, q⟩) h4
  | tup g1 g2 =>
    cases rx
    exact repr_of_reads' rd h1 (PyData.noDict_hsm h2) hg (by omega) (fun _ _ e => e) (fun h' u tk hk => ⟨.str _, H, I.kept hk, ⟨_, rfl⟩, q⟩) h4
theorem ans_max2 : AnsL2 K (fun xs H Q => ∃ i j, xs = [.int i, .int j] ∧ Q (.int (if j > i then j else i)) H) (b2D .max) := by
  intro z e σ F H x y p q d Q R hx hy hk hq
  cases hx <;> cases hy <;> first | (simp [b2D] at hk; done) | skip
  cases hk
  exact ⟨_, _, rfl, hq.val R (.int _)⟩
theorem ans_min2 : AnsL2 K (fun xs H Q => ∃ i j, xs = [.int i, .int j] ∧ Q (.int (if j < i then j else i)) H) (b2D .min) := by
  intro z e σ F H x y p q d Q R hx hy hk hq
  cases hx <;> cases hy <;> first | (simp [b2D] at hk; done) | skip
  cases hk
  exact ⟨_, _, rfl, hq.val R (.int _)⟩
theorem ans_dvm : AnsL2 K (fun xs H Q => ∃ i j, xs = [.int i, .int j] ∧ CDivP i j ∧ ∀ p, H p = none → Q (.ref p) (upd H p (.tup [.int (i / j), .int (i % j)]))) (b2D .dvm) := by
  intro z e σ F H x y p q d Q R hx hy hk hq
  cases hx with
  | int i =>
    cases hy with
    | int j =>
      simp only [b2D] at hk
      split at hk
      · rename_i hz
        cases hk
        exact ⟨i, j, rfl, hz, hq.tup R (.cons (.int _) (.cons (.int _) .nil))⟩
      · cases hk
    | _ => simp [b2D] at hk
  | _ => simp [b2D] at hk
/-! ### isinstance -/
theorem tyx {F H : Hp} {z : L2.St} {e : Ev} {σ : L2.St} {x : V} {d : D} (R : Rel K z e σ F H) (h : Rdp K F H x d) : TyX K H x (.type (tyName d)) := by
  cases h with
  | non => exact .base .non
  | bl b => exact .base (.bl b)
  | int i => exact .base (.int i)
  | str w => exact .base (.str w)
  | lst h1 h2 =>
    rcases h1 with (h | ⟨o, h⟩) | ⟨o, its, n, hk, hc, _⟩
    · exact .base (.lst h)
    · exact .base (.frz h)
    · exact .kList hk hc
  | tup h1 h1' h2 =>
    rcases h1 with (h | ⟨o, h⟩) | ⟨o, its, n, hk, hc, _⟩
    · exact .base (.tup h)
    · exact .fTuple h
    · exact .kTuple hk hc
theorem kit_one {d : D} {t : String} {b : Bool} (nd : ∀ k, d ≠ .dict k) (h : isaD d t = some b) : PySem.W.kitOne K (.type (tyName d)) (.type t) = some b := by
  unfold isaD at h
  split at h
  all_goals first
    | (cases h; cases d <;> first
        | (exact absurd rfl (nd _))
        | exact kit_ty (a := "NoneType") (r := false) (by decide +kernel)
        | exact kit_ty (a := "bool") (r := false) (by decide +kernel)
        | exact kit_ty (a := "bool") (r := true) (by decide +kernel)
        | exact kit_ty (a := "int") (r := false) (by decide +kernel)
        | exact kit_ty (a := "int") (r := true) (by decide +kernel)
        | exact kit_ty (a := "str") (r := false) (by decide +kernel)
        | exact kit_ty (a := "str") (r := true) (by decide +kernel)
        | exact kit_ty (a := "list") (r := false) (by decide +kernel)
        | exact kit_ty (a := "list") (r := true) (by decide +kernel)
        | exact kit_ty (a := "tuple") (r := false) (by decide +kernel)
        | exact kit_ty (a := "tuple") (r := true) (by decide +kernel))
    | cases h
theorem kit_any {d : D} (nd : ∀ k, d ≠ .dict k) : ∀ {ts : List String} {b : Bool}, isaAny d ts = some b → PySem.W.kitAny K (.type (tyName d)) (ts.map .type) = some b
  | [], b, h => by
    cases h
    rfl
  | t :: ts, b, h => by
    unfold isaAny at h
    cases e : isaD d t with
    | none => rw [e] at h; cases h
    | some c =>
      rw [e] at h
      cases c with
      | true =>
        cases h
        exact kitAny_cons (kit_one nd e) (fun z => nomatch z) fun _ => rfl
      | false => exact kitAny_cons (kit_one nd e) (fun _ => kit_any nd h) fun z => nomatch z
theorem nodict {F H : Hp} {x : V} {d : D} (h : Rdp K F H x d) : ∀ k, d ≠ .dict k := by
  cases h <;> exact fun _ z => nomatch z
end
end Iv
end
section
set_option Elab.async false
set_option linter.all false
set_option maxRecDepth 100000
set_option maxHeartbeats 1000000
/-! zip and enumerate over lists, tuples and texts in any mix, as things that the layer's loops walk. -/
namespace Iv
open PySem PySem.Spec PyProof.Rows L2
/-! ### what is walked -/
inductive Kd where
  | l (a : Addr) (vs : List V)
  | t (a : Addr) (vs : List V)
  | s (z : Str) (tk : Tok)
def Kd.items : Kd → List V
  | .l _ vs => vs
  | .t _ vs => vs
  | .s z _ => z.cps.toList.map fun c => .str ⟨#[c]⟩
def Kd.val : Kd → Value
  | .l a _ => .ref a
  | .t a _ => .ref a
  | .s z tk => .str z tk
def Kd.G (K : PySem.W.Frag) (H : Hp) : Kd → Prop
  | .l a vs => SqL K H a vs
  | .t a vs => SqT K H a vs
  | .s _ _ => True
/-- its iterator's own state -/
def Kd.ow (it : Addr) (i : Nat) (h : Heap) : Kd → Prop
  | .l a _ => h.IsListIter it a i
  | .t a _ => h.IsTupleIter it a i
  | .s z tk => h.IsStrIter it (strIterType z) z tk i
def Kd.ob : Kd → Obj
  | .l a _ => { cls := .type "list_iterator", data := .fields #[.ref a, .int 0 0] }
  | .t a _ => { cls := .type "tuple_iterator", data := .fields #[.ref a, .int 0 0] }
  | .s z tk => { cls := .type (strIterType z), data := .fields #[.str z tk, .int 0 0] }
def Kd.ex : Kd → List Addr
  | .l a _ => [a]
  | .t a _ => [a]
  | .s _ _ => []
theorem kd_obj {k : Kd} {it : Addr} {i : Nat} {h : Heap} (w : k.ow it i h) : ∃ o, h.get? it = some o ∧ ∀ v, o.data ≠ .cell v := by
  cases k with
  | l a vs => obtain ⟨o, e, c, d⟩ := w; exact ⟨o, e, fun v q => by rw [d] at q; cases q⟩
  | t a vs => obtain ⟨o, e, c, d⟩ := w; exact ⟨o, e, fun v q => by rw [d] at q; cases q⟩
  | s z tk => obtain ⟨o, e, c, d⟩ := w; exact ⟨o, e, fun v q => by rw [d] at q; cases q⟩
theorem kd_keep {k : Kd} {it : Addr} {i : Nat} {h h' : Heap} (w : k.ow it i h) (e : ∀ o, h.get? it = some o → h'.get? it = some o) : k.ow it i h' := by
  cases k with
  | l a vs => exact Heap.IsListIter.at w e
  | t a vs => exact Heap.IsTupleIter.at w e
  | s z tk => obtain ⟨o, g, r⟩ := w; exact ⟨o, e o g, r⟩
theorem kd_ob {k : Kd} {it : Addr} {h : Heap} (e : h.get? it = some k.ob) : k.ow it 0 h := by
  cases k with
  | l a vs => exact ⟨_, e, rfl, rfl⟩
  | t a vs => exact ⟨_, e, rfl, rfl⟩
  | s z tk => exact ⟨_, e, rfl, rfl⟩
section
variable {X : Cx} {pins : List (Addr × Obj)} {σ : L2.St} {H : Hp} {s : Shared}
/-- what the iterator draws, as things stand -/
theorem kd_draw {k : Kd} {it : Addr} {A : Around} (I : Inv X pins σ H s) (g : k.G X.K H) (hh : A.handled = none) (hne : it ∉ k.ex) :
    ∃ (P : Nat → Value → Prop) (St : Nat → Heap → Prop), Draws X.prog X.w A it (it :: k.ex) k.items.length P St ∧ (∀ i, k.ow it i s.heap → St i s.heap) ∧ (∀ i h, St i h → k.ow it i h) ∧ ∀ i x, P i x → ∃ v, k.items[i]? = some v ∧ RelV v x := by
  cases k with
  | l a vs =>
    obtain ⟨its, r, p, _⟩ := I.list g
    have ne : a ≠ it := fun e => hne (by simp [Kd.ex, e])
    refine ⟨fun i v => its.toArray[i]? = some v, fun i h => h.IsListIter it a i ∧ h.IsList a its.toArray, ?_, fun i w => ⟨w, p.isList⟩, fun i h st => st.1, fun i x hx => ?_⟩
    · have D := Draws.list (prog := X.prog) (w := X.w) (A := A) hh it a ne its.toArray
      rw [List.size_toArray, ← r.length] at D
      exact D
    · have hx : its[i]? = some x := by simpa using hx
      have hi := lt_of_get hx
      rw [← r.length] at hi
      obtain ⟨y, e1, e2⟩ := r.get (List.getElem?_eq_getElem hi)
      rw [hx] at e1
      cases e1
      exact ⟨_, List.getElem?_eq_getElem hi, e2⟩
  | t a vs =>
    obtain ⟨its, r, p, _⟩ := I.tuple g
    have ne : a ≠ it := fun e => hne (by simp [Kd.ex, e])
    refine ⟨fun i v => its.toArray[i]? = some v, fun i h => h.IsTupleIter it a i ∧ h.IsTuple a its.toArray, ?_, fun i w => ⟨w, p⟩, fun i h st => st.1, fun i x hx => ?_⟩
    · have D := Draws.tuple (prog := X.prog) (w := X.w) (A := A) hh it a ne its.toArray
      rw [List.size_toArray, ← r.length] at D
      exact D
    · have hx : its[i]? = some x := by simpa using hx
      have hi := lt_of_get hx
      rw [← r.length] at hi
      obtain ⟨y, e1, e2⟩ := r.get (List.getElem?_eq_getElem hi)
      rw [hx] at e1
      cases e1
      exact ⟨_, List.getElem?_eq_getElem hi, e2⟩
  | s z tk =>
    refine ⟨fun i v => ∃ c u, z.cps[i]? = some c ∧ v = .str ⟨#[c]⟩ u, fun i h => h.IsStrIter it (strIterType z) z tk i, ?_, fun i w => w, fun i h st => st, fun i x ⟨c, t, hc, e⟩ => ?_⟩
    · have D := Draws.text (prog := X.prog) (w := X.w) (A := A) hh it z tk
      show Draws X.prog X.w A it [it] (z.cps.toList.map _).length _ _
      rw [List.length_map, Array.length_toList]
      exact D
    · subst e
      refine ⟨.str ⟨#[c]⟩, ?_, ⟨t, rfl⟩⟩
      show (z.cps.toList.map _)[i]? = _
      rw [List.getElem?_map, Array.getElem?_toList, hc]
      rfl
theorem kd_begins {k : Kd} (I : Inv X pins σ H s) (g : k.G X.K H) : ∃ F : Heap → Prop, Begins k.val k.ob F ∧ F s.heap := by
  cases k with
  | l a vs =>
    obtain ⟨its, r, p, _⟩ := I.list g
    exact ⟨_, begins_list a its.toArray, p.isList⟩
  | t a vs =>
    obtain ⟨its, r, p, _⟩ := I.tuple g
    exact ⟨_, begins_tuple a its.toArray, p⟩
  | s z tk => exact ⟨_, begins_text z tk, trivial⟩
theorem kd_ex {k : Kd} (I : Inv X pins σ H s) (g : k.G X.K H) : ∀ b ∈ k.ex, b < s.heap.objs.size := by
  intro b hb
  cases k with
  | l a vs =>
    obtain ⟨its, r, p, _⟩ := I.list g
    have e : b = a := by simpa [Kd.ex] using hb
    subst e
    exact p.lt
  | t a vs =>
    obtain ⟨its, r, p, _⟩ := I.tuple g
    have e : b = a := by simpa [Kd.ex] using hb
    subst e
    exact p.lt
  | s z tk => simp [Kd.ex] at hb
end
/-! ### pairs -/
/-- n turns; each lays a pair -/
def ItP (n : Nat) (G : Hp → Prop) (f g : Nat → Option V) : It :=
  ⟨fun i H => i < n ∧ G H, fun i H v H' => ∃ T x y, v = .ref T ∧ H T = none ∧ H' = upd H T (.tup [x, y]) ∧ f i = some x ∧ g i = some y, fun i H => i = n ∧ G H⟩
theorem turn_zipK {P : Program} {w : World} {K : PySem.W.Frag} {elts : List Expr} {kk : Nat} {tpos : Pos} {k1 k2 : Kd} {z TI TO i1 i2 : Addr} (S : ZipSep2 z TI TO i1 i2 (i1 :: k1.ex) (i2 :: k2.ex)) (n1 : i1 ∉ k1.ex) (n2 : i2 ∉ k2.ex) :
    Turn P w K (.Tuple elts kk tpos) (ItP (min k1.items.length k2.items.length) (fun H => k1.G K H ∧ k2.G K H) (fun i => k1.items[i]?) (fun i => k2.items[i]?)) [z, TI, TO, i1, i2] z
      (fun i h => IsZip h z TI TO .none ∧ IsTupOf2 h TI (.ref i1) (.ref i2) ∧ (∃ a1 a2, IsTupOf2 h TO a1 a2) ∧ k1.ow i1 i h ∧ k2.ow i2 i h) := by
  have obj : ∀ (i : Nat) (h : Heap), (IsZip h z TI TO .none ∧ IsTupOf2 h TI (.ref i1) (.ref i2) ∧ (∃ a1 a2, IsTupOf2 h TO a1 a2) ∧ k1.ow i1 i h ∧ k2.ow i2 i h) → ∀ b ∈ [z, TI, TO, i1, i2], ∃ o, h.get? b = some o ∧ ∀ v, o.data ≠ .cell v := by
    intro i h st b hb
    obtain ⟨hz, hTI, ⟨x, y, hTO⟩, h1, h2⟩ := st
    simp only [List.mem_cons, List.not_mem_nil, or_false] at hb
    rcases hb with rfl | rfl | rfl | rfl | rfl
    · exact ⟨_, hz, fun v q => nomatch q⟩
    · exact ⟨_, hTI, fun v q => nomatch q⟩
    · exact ⟨_, hTO, fun v q => nomatch q⟩
    · exact kd_obj h1
    · exact kd_obj h2
  have sub : ∀ b, b ∉ [z, TI, TO, i1, i2] → b ∉ [z, TO, i1, i2] := fun b h q => h (by
    simp only [List.mem_cons, List.not_mem_nil, or_false] at q ⊢
    rcases q with q | q | q | q
    · exact .inl q
    · exact .inr (.inr (.inl q))
    · exact .inr (.inr (.inr (.inl q)))
    · exact .inr (.inr (.inr (.inr q))))
  refine ⟨by simp, obj, fun i h h' st k => ?_, ?_, ?_, fun A i s Q E st h => wpAny_pyIter_zip st.1 h⟩
  · obtain ⟨hz, hTI, ⟨x, y, hTO⟩, h1, h2⟩ := st
    exact ⟨k z (by simp) _ hz, k TI (by simp) _ hTI, ⟨x, y, k TO (by simp) _ hTO⟩, kd_keep h1 fun o q => k i1 (by simp) o q, kd_keep h2 fun o q => k i2 (by simp) o q⟩
  · intro X hP hw hK hc i pins s σ H E I hf st hg
    subst hP hw hK
    have ob := obj i s.heap st
    obtain ⟨hz, hTI, hTO, h1, h2⟩ := st
    obtain ⟨hi, g1, g2⟩ := hg
    have hh : X.A.in1.handled = none := I.ok.hd hc
    obtain ⟨P1, S1, D1, a1, b1, c1⟩ := kd_draw (A := X.A.in1) I g1 hh n1
    obtain ⟨P2, S2, D2, a2, b2, c2⟩ := kd_draw (A := X.A.in1) I g2 hh n2
    have W := WalksT.zipD2 S D1 D2
    refine W.item i s _ _ hi ⟨hz, hTI, hTO, a1 i h1, a2 i h2⟩ fun T vals h' tk hP hT hTup hM hk => ⟨.ref T, rfl, ?_⟩
    refine W.go elts kk tpos i T { s with heap := h', toks := tk } _ _ hM fun h2' st' hk2 => ?_
    obtain ⟨x1, x2, p1, p2, rfl⟩ := hP
    obtain ⟨v1, e1, r1⟩ := c1 i x1 p1
    obtain ⟨v2, e2, r2⟩ := c2 i x2 p2
    have hap := W.apart i T h' hM
    have tup2 : h2'.IsTuple T #[x1, x2] := Heap.IsTuple.at hTup fun o e => hk2 T o hap e
    have I1 : Inv X pins σ (upd H T (.tup [v1, v2])) { s with heap := h2', toks := tk } :=
      I.turnedNew (t' := tk) (ch := [z, TI, TO, i1, i2]) (fun c o hb q => hk2 c o (sub c hb) (hk c o (sub c hb) q)) hf hT ⟨by show 2 ≤ sizeLine; decide, [x1, x2], .cons r1 (.cons r2 .nil), tup2⟩
    obtain ⟨s1, s2, s3, s4, s5⟩ := st'
    refine ⟨.ref T, _, I1, rfl, ⟨T, v1, v2, rfl, I.hok.fresh hT, rfl, e1, e2⟩, ⟨s1, s2, s3, b1 _ _ s4, b2 _ _ s5⟩, fun c hcm => ?_⟩
    obtain ⟨o, eo, _⟩ := ob c hcm
    rw [upd_ne (Nat.ne_of_lt (Nat.lt_of_lt_of_le (Heap.lt_size eo) hT))]
    exact (hf c hcm).1
  · intro X hP hw hK hc i pins s σ H E I hf st hg
    subst hP hw hK
    obtain ⟨hz, hTI, hTO, h1, h2⟩ := st
    obtain ⟨rfl, g1, g2⟩ := hg
    have hh : X.A.in1.handled = none := I.ok.hd hc
    obtain ⟨P1, S1, D1, a1, b1, c1⟩ := kd_draw (A := X.A.in1) I g1 hh n1
    obtain ⟨P2, S2, D2, a2, b2, c2⟩ := kd_draw (A := X.A.in1) I g2 hh n2
    have W := WalksT.zipD2 S D1 D2
    exact W.done s _ _ ⟨hz, hTI, hTO, a1 _ h1, a2 _ h2⟩ fun h' tk hk => ⟨rfl, I.turnedL (t' := tk) (ch := [z, TI, TO, i1, i2]) (fun c o hb q => hk c o (sub c hb) q) hf⟩
theorem turn_enumK {P : Program} {w : World} {K : PySem.W.Frag} {elts : List Expr} {kk : Nat} {tpos : Pos} {k : Kd} {e it : Addr} (he : e ≠ it) (ne : e ∉ k.ex) (ni : it ∉ k.ex) :
    Turn P w K (.Tuple elts kk tpos) (ItP k.items.length (fun H => k.G K H) (fun i => some (.int (i : Nat))) (fun i => k.items[i]?)) [e, it] e
      (fun i h => (∃ old, IsEnum h e it (0 + (i : Int)) old) ∧ k.ow it i h) := by
  have obj : ∀ (i : Nat) (h : Heap), ((∃ old, IsEnum h e it (0 + (i : Int)) old) ∧ k.ow it i h) → ∀ b ∈ [e, it], ∃ o, h.get? b = some o ∧ ∀ v, o.data ≠ .cell v := by
    intro i h st b hb
    obtain ⟨⟨old, g⟩, w⟩ := st
    simp only [List.mem_cons, List.not_mem_nil, or_false] at hb
    rcases hb with rfl | rfl
    · exact ⟨_, g, fun v q => nomatch q⟩
    · exact kd_obj w
  refine ⟨by simp, obj, fun i h h' st k => ?_, ?_, ?_, fun A i s Q E st h => let ⟨⟨_, g⟩, _⟩ := st; wpAny_pyIter_enum g h⟩
  · obtain ⟨⟨old, g⟩, w⟩ := st
    exact ⟨⟨old, k e (by simp) _ g⟩, kd_keep w fun o q => k it (by simp) o q⟩
  · intro X hP hw hK hc i pins s σ H E I hf st hg
    subst hP hw hK
    have ob := obj i s.heap st
    obtain ⟨g, w⟩ := st
    obtain ⟨hi, g1⟩ := hg
    have hh : X.A.in1.handled = none := I.ok.hd hc
    obtain ⟨P1, S1, D1, a1, b1, c1⟩ := kd_draw (A := X.A.in1) I g1 hh ni
    have W := WalksT.enumFrom 0 D1 e he (fun q => (List.mem_cons.mp q).elim he ne) List.mem_cons_self
    refine W.item i s _ _ hi ⟨g, a1 i w⟩ fun T vals h' tk hP hT hTup hM hk => ⟨.ref T, rfl, ?_⟩
    refine W.go elts kk tpos i T { s with heap := h', toks := tk } _ _ hM fun h2' st' hk2 => ?_
    obtain ⟨t, x2, p2, rfl⟩ := hP
    obtain ⟨v2, e2, r2⟩ := c1 i x2 p2
    have hap := W.apart i T h' hM
    have tup2 : h2'.IsTuple T #[.int (0 + (i : Int)) t, x2] := Heap.IsTuple.at hTup fun o q => hk2 T o hap q
    have I1 : Inv X pins σ (upd H T (.tup [.int (i : Nat), v2])) { s with heap := h2', toks := tk } :=
      I.turnedNew (t' := tk) (ch := [e, it]) (fun c o hb q => hk2 c o hb (hk c o hb q)) hf hT ⟨by show 2 ≤ sizeLine; decide, [.int (0 + (i : Int)) t, x2], .cons ⟨t, by rw [Int.zero_add]⟩ (.cons r2 .nil), tup2⟩
    obtain ⟨s1, s2⟩ := st'
    refine ⟨.ref T, _, I1, rfl, ⟨T, .int (i : Nat), v2, rfl, I.hok.fresh hT, rfl, rfl, e2⟩, ⟨s1, b1 _ _ s2⟩, fun c hcm => ?_⟩
    obtain ⟨o, eo, _⟩ := ob c hcm
    rw [upd_ne (Nat.ne_of_lt (Nat.lt_of_lt_of_le (Heap.lt_size eo) hT))]
    exact (hf c hcm).1
  · intro X hP hw hK hc i pins s σ H E I hf st hg
    subst hP hw hK
    obtain ⟨g, w⟩ := st
    obtain ⟨rfl, g1⟩ := hg
    have hh : X.A.in1.handled = none := I.ok.hd hc
    obtain ⟨P1, S1, D1, a1, b1, c1⟩ := kd_draw (A := X.A.in1) I g1 hh ni
    have W := WalksT.enumFrom 0 D1 e he (fun q => (List.mem_cons.mp q).elim he ne) List.mem_cons_self
    exact W.done s _ _ ⟨g, a1 _ w⟩ fun h' tk hk => ⟨rfl, I.turnedL (t' := tk) (ch := [e, it]) (fun c o hb q => hk c o hb q) hf⟩
/-! ### enumerate(v) begins, whatever v is -/
theorem meets_enum1 {v : Value} {o : Obj} {F : Heap → Prop} (B : Begins v o F) :
    Meets (Builtin.«enumerate.__new__» ⟨[.type "enumerate", v], []⟩) (fun _ R s => F s.heap ∧
      R (.ok (.ret (.ref (s.heap.push o).objs.size))) { s with heap := (s.heap.push o).push { cls := .type "enumerate", data := .fields #[.none, .bool false, .ref s.heap.objs.size, rawInt 0, .none, .none] } }) :=
  .of_wp fun prog w A R s h => by
    obtain ⟨hp, g, d, tk, os⟩ := s
    obtain ⟨h1, h⟩ := h
    have hsub := sub_enumerate
    have q1 : ∀ {A' : Around} {E : Value → Shared → Prop} {Q : Value → Shared → Prop}, Q (.ref hp.objs.size) ⟨hp.push o, g, d, tk, os⟩ → wpAny (model prog w) A' (pyIter v) Q E ⟨hp, g, d, tk, os⟩ := fun q => B.iter prog w _ _ ⟨hp, g, d, tk, os⟩ _ h1 q
    wp_walk using q1
    refine wpAny_stack_any fun st => wpAny_pure ?_
    split
    · rename_i c _ _ _ _ _
      cases (c == Value.type "enumerate") <;> (wp_walk using q1; exact ⟨_, rfl, h⟩)
    · wp_walk using q1
      exact ⟨_, rfl, h⟩
theorem enum1_begins {prog : Program} {w : World} {A : Around} {E : Value → Shared → Prop} {s : Shared} {v : Value} {o : Obj} {Fh : Heap → Prop} {Q : Value → Shared → Prop} (B : Begins v o Fh) (h1 : Fh s.heap)
    (h : ∀ h', IsEnum h' (s.heap.objs.size + 1) s.heap.objs.size 0 .none → h'.get? s.heap.objs.size = some o →
      (∀ b o, s.heap.get? b = some o → h'.get? b = some o) → Q (.ref (s.heap.objs.size + 1)) { s with heap := h' }) :
    wpAny (model prog w) A (call (.type "enumerate") [v]) Q E s := by
  refine callType_new PySem.F.called_enumerate (by decide) (PySem.F.typeCall_enumerate_1 _) (PySem.F.newCall_enumerate_1 _) (fun obj => PySem.F.args_object_init_2 obj _) PySem.F.entry_enumerate_new (meets_enum1 B) ⟨h1, ?_⟩
  have hz : (s.heap.push o).objs.size = s.heap.objs.size + 1 := Heap.size_push ..
  have he := Heap.get?_push_size (s.heap.push o) (o := { cls := .type "enumerate", data := .fields #[.none, .bool false, .ref s.heap.objs.size, rawInt 0, .none, .none] }) rfl
  rw [hz] at he
  show _ ∧ _
  rw [hz]
  exact ⟨⟨_, he, rfl⟩, h _ he (Heap.get?_push_of_some _ (Heap.get?_push_size _ B.free)) fun b o x => Heap.get?_push_of_some _ (Heap.get?_push_of_some _ x)⟩
/-! ### what a loop over data is told -/
structure ItOk (K : PySem.W.Frag) (J : It) (F0 : Hp) (ds : List D) : Prop where
  go : ∀ i F H, Same F0 F → Same F H → i < ds.length → J.go i H
  yld : ∀ i F H x H' d, Same F0 F → Same F H → ds[i]? = some d → J.yld i H x H' → (H' = H ∧ Dp K F x d) ∨ ∃ T o, H T = none ∧ H' = upd H T o ∧ Dp K (upd F T o) x d
  stop : ∀ F H, Same F0 F → Same F H → J.stop ds.length H
section
variable {K : PySem.W.Frag} {F : Hp} {a : Addr} {vs : List V} {ds : List D}
theorem it_list (h : SqL K F a vs) (g : DpAll K F vs ds) : ItOk K (Itl K a) F ds where
  go := fun i F1 H s1 s2 hi => ⟨vs, _, (s1.trans s2).seq h, List.getElem?_eq_getElem (by rw [dps_len g]; exact hi)⟩
  yld := fun i F1 H x H' d s1 s2 hd hy => by
    obtain ⟨rfl, hy⟩ := hy
    obtain ⟨v, e1, e2⟩ := dps_get g hd
    have e3 := hy vs ((s1.trans s2).seq h)
    rw [e1] at e3
    cases e3
    exact .inl ⟨rfl, dp_mono s1 e2⟩
  stop := fun F1 H s1 s2 => ⟨vs, (s1.trans s2).seq h, by rw [dps_len g]; exact Nat.le_refl _⟩
theorem it_tup (h : SqT K F a vs) (g : DpAll K F vs ds) : ItOk K (Itt K a) F ds where
  go := fun i F1 H s1 s2 hi => ⟨vs, _, same_t (s1.trans s2) h, List.getElem?_eq_getElem (by rw [dps_len g]; exact hi)⟩
  yld := fun i F1 H x H' d s1 s2 hd hy => by
    obtain ⟨rfl, hy⟩ := hy
    obtain ⟨v, e1, e2⟩ := dps_get g hd
    have e3 := hy vs (same_t (s1.trans s2) h)
    rw [e1] at e3
    cases e3
    exact .inl ⟨rfl, dp_mono s1 e2⟩
  stop := fun F1 H s1 s2 => ⟨vs, same_t (s1.trans s2) h, by rw [dps_len g]; exact Nat.le_refl _⟩
theorem it_str (z : Str) : ItOk K (Its z) F (z.cps.toList.map fun c => .str ⟨#[c]⟩) where
  go := fun i F1 H s1 s2 hi => by simpa [Its] using hi
  yld := fun i F1 H x H' d s1 s2 hd hy => by
    obtain ⟨rfl, c, hc, rfl⟩ := hy
    rw [List.getElem?_map, Array.getElem?_toList, hc] at hd
    cases hd
    exact .inl ⟨rfl, .str _⟩
  stop := fun F1 H s1 s2 => by simp [Its]
theorem it_rng (lo hi : Int) : ItOk K (Itr lo (hi - lo).toNat) F (rngD lo hi) where
  go := fun i F1 H s1 s2 h => by simpa [Itr, rngD] using h
  yld := fun i F1 H x H' d s1 s2 hd hy => by
    obtain ⟨rfl, rfl⟩ := hy
    have hi' := lt_of_get hd
    unfold rngD at hd hi'
    rw [List.length_map, List.length_range] at hi'
    rw [List.getElem?_map, List.getElem?_range hi'] at hd
    cases hd
    exact .inl ⟨rfl, .int _⟩
  stop := fun F1 H s1 s2 => by
    show (hi - lo).toNat ≤ (rngD lo hi).length
    unfold rngD
    rw [List.length_map, List.length_range]
    exact Nat.le_refl _
/-- pairs of things -/
theorem it_pair {n : Nat} {G : Hp → Prop} {f g : Nat → Option V} (hG : ∀ H, Same F H → G H) (hl : ds.length = n) (hd : ∀ i d, ds[i]? = some d → ∃ p q, d = .tuple [p, q] ∧ (∀ v, f i = some v → Dp K F v p) ∧ (∀ v, g i = some v → Dp K F v q)) : ItOk K (ItP n G f g) F ds where
  go := fun i F1 H s1 s2 h => ⟨by rw [← hl]; exact h, hG H (s1.trans s2)⟩
  yld := fun i F1 H u H' d s1 s2 h hy => by
    obtain ⟨T, v, w, rfl, hT, rfl, e1, e2⟩ := hy
    obtain ⟨p, q, rfl, g1, g2⟩ := hd i d h
    refine .inr ⟨T, .tup [v, w], hT, rfl, ?_⟩
    have m : Same F (upd F1 T (.tup [v, w])) := s1.trans (Same.fresh (by
      cases q : F1 T with
      | none => rfl
      | some o => rw [s2 T o q] at hT; cases hT))
    exact .tup (.inl (.inl upd_same)) (.cons (dp_mono m (g1 v e1)) (.cons (dp_mono m (g2 w e2)) .nil))
  stop := fun F1 H s1 s2 => ⟨hl, hG H (s1.trans s2)⟩
end
def evI (Φ : Fn) (k : Ik) (a b : Ex) (e : Ev) : Option (List D × Ev) :=
  match ev Φ a e with
  | some (x, e1) => match ev Φ b e1 with
    | some (y, e2) => (walkD k x y).map fun ds => (ds, e2)
    | none => none
  | none => none
def SemI (Φ : Fn) (K : PySem.W.Frag) (z : L2.St) (k : Ik) (a b : Ex) : TI := fun σ H R => ∃ e F ds e', Rel K z e σ F H ∧ evI Φ k a b e = some (ds, e') ∧
  ∀ J F' H', Rel K z e' σ F' H' → Stp e σ F H e' σ F' H' → ItOk K J F' ds → R J H'
theorem pi_imp {X : Cx} {tg it : Expr} {t t' : TI} (h : PI X tg it t) (w : ∀ σ H R, t' σ H R → t σ H R) : PI X tg it t' := ⟨fun pins s σ H R I q => h.run pins s σ H R I (w _ _ _ q)⟩
/-- what is iterated, of any of the three kinds -/
def Rdi (K : PySem.W.Frag) (F : Hp) (v : V) (ds : List D) : Prop := (∃ a vs, v = .ref a ∧ SqL K F a vs ∧ DpAll K F vs ds) ∨ (∃ a vs, v = .ref a ∧ SqT K F a vs ∧ DpAll K F vs ds) ∨ ∃ z, v = .str z ∧ ds = z.cps.toList.map fun c => .str ⟨#[c]⟩
theorem rdi_of {K : PySem.W.Frag} {F : Hp} {v : V} {d : D} {ds : List D} (h : Dp K F v d) (e : itemsOf d = some ds) : Rdi K F v ds := by
  cases h with
  | lst h1 h2 => cases e; exact .inl ⟨_, _, rfl, h1, h2⟩
  | tup h1 h2 => cases e; exact .inr (.inl ⟨_, _, rfl, h1, h2⟩)
  | str z => cases e; exact .inr (.inr ⟨z, rfl, rfl⟩)
  | _ => simp [itemsOf] at e
/-- for .. in a list, a tuple, a text -/
def iAny (K : PySem.W.Frag) (te : TE) : TI := fun σ H R => te σ H fun x H1 => (∃ a, x = .ref a ∧ (∃ xs, SqL K H1 a xs) ∧ R (Itl K a) H1) ∨ (∃ a, x = .ref a ∧ (∃ xs, SqT K H1 a xs) ∧ R (Itt K a) H1) ∨ ∃ z, x = .str z ∧ R (Its z) H1
theorem pi_any {X : Cx} {tg l : Expr} {te : TE} (hl : PE X l te) : PI X tg l (iAny X.K te) := by
  refine ⟨fun pins s σ H R I h => ?_⟩
  refine thn (hl.run pins s σ H _ I h) fun v s1 ⟨x, H1, I1, r1, q1⟩ => ?_
  have fp : ∀ b ∈ [s1.heap.objs.size], FpOk X pins H1 b := fun b hb => by
    have e : b = s1.heap.objs.size := by simpa using hb
    subst e
    exact I1.fpOk (Nat.le_refl _) (I1.hok.fresh (Nat.le_refl _))
  rcases q1 with ⟨a, rfl, ⟨xs, hq⟩, q⟩ | ⟨a, rfl, ⟨xs, hq⟩, q⟩ | ⟨w, rfl, q⟩
  · cases r1
    obtain ⟨its, rv, p, hz⟩ := I1.list hq
    exact wpAny_pyIter_list p.isList ⟨s1.heap.objs.size, [s1.heap.objs.size], _, _, H1, rfl, I1.kept (t' := s1.toks) fun b o e => Heap.get?_push_of_some _ e, turn_list a _, ⟨_, Heap.get?_push_size _ rfl, rfl, rfl⟩, fp, q⟩
  · cases r1
    obtain ⟨its, rv, p, hz⟩ := I1.tuple hq
    exact wpAny_pyIter_tuple (show s1.heap.IsTuple a its.toArray from p) ⟨s1.heap.objs.size, [s1.heap.objs.size], _, _, H1, rfl, I1.kept (t' := s1.toks) fun b o e => Heap.get?_push_of_some _ e, turn_tuple a _, ⟨_, Heap.get?_push_size _ rfl, rfl, rfl⟩, fp, q⟩
  · obtain ⟨t, rfl⟩ := r1
    refine wpAny_pyIter_strU ⟨s1.heap.objs.size, [s1.heap.objs.size], _, _, H1, rfl, I1.kept (t' := s1.toks) fun b o e => Heap.get?_push_of_some _ e, turn_str s1.heap.objs.size w t (strIterType w) ?_, ⟨_, Heap.get?_push_size _ rfl, rfl, rfl⟩, fp, q⟩
    unfold strIterType
    split
    · exact .inl rfl
    · exact .inr rfl
theorem s_walk {Φ : Fn} {X : Cx} {z : L2.St} {tg l : Expr} {a : Ex} (h : PE X l (SemE Φ X.K z a)) : PI X tg l (SemI Φ X.K z .walk a .noe) := by
  refine pi_imp (pi_any h) fun σ H R ⟨e, F, ds, e', Rl, he, q⟩ => ?_
  unfold evI at he
  cases h1 : ev Φ a e with
  | none => rw [h1] at he; cases he
  | some w =>
    obtain ⟨x, e1⟩ := w
    rw [h1] at he
    obtain ⟨ds', hw, ee⟩ := Option.map_eq_some_iff.mp he
    cases ee
    refine ⟨e, F, x, e', Rl, h1, fun v F1 H1 R1 S1 dp => ?_⟩
    rcases rdi_of dp hw with ⟨a, vs, rfl, g1, g2⟩ | ⟨a, vs, rfl, g1, g2⟩ | ⟨w, rfl, rfl⟩
    · exact .inl ⟨a, rfl, ⟨vs, R1.sub.seq g1⟩, q _ F1 H1 R1 S1 (it_list g1 g2)⟩
    · exact .inr (.inl ⟨a, rfl, ⟨vs, same_t R1.sub g1⟩, q _ F1 H1 R1 S1 (it_tup g1 g2)⟩)
    · exact .inr (.inr ⟨w, rfl, q _ F1 H1 R1 S1 (it_str w)⟩)
theorem kd_of {K : PySem.W.Frag} {F : Hp} {v : V} {ds : List D} {u : Value} (h : Rdi K F v ds) (r : RelV v u) : ∃ k : Kd, k.val = u ∧ DpAll K F k.items ds ∧ ∀ H, Same F H → k.G K H := by
  rcases h with ⟨a, vs, rfl, g1, g2⟩ | ⟨a, vs, rfl, g1, g2⟩ | ⟨w, rfl, rfl⟩
  · cases r
    exact ⟨.l a vs, rfl, g2, fun H m => m.seq g1⟩
  · cases r
    exact ⟨.t a vs, rfl, g2, fun H m => same_t m g1⟩
  · obtain ⟨t, rfl⟩ := r
    refine ⟨.s w t, rfl, ?_, fun _ _ => trivial⟩
    show DpAll K F (w.cps.toList.map fun c => V.str ⟨#[c]⟩) (w.cps.toList.map fun c => PyData.str ⟨#[c]⟩)
    induction w.cps.toList with
    | nil => exact .nil
    | cons c r ih => exact .cons (.str _) ih
/-- the pairs of enumerate -/
def enmL (ds : List D) : List D := ds.zipIdx.map fun p => .tuple [.int (p.2 : Nat), p.1]
def zipL (x y : List D) : List D := (x.zip y).map fun p => .tuple [p.1, p.2]
def iEnumA (K : PySem.W.Frag) (ta : TA) : TI := fun σ H R => ta σ H fun vs H1 => ∃ x, vs = [x] ∧ ∃ F ds, Same F H1 ∧ Rdi K F x ds ∧ ∀ J, ItOk K J F (enmL ds) → R J H1
theorem pi_enumA {X : Cx} {e : Expr} {ta : TA} {p pos tpos : Pos} {elts : List Expr} {kk : Nat} (hg : Gl X "enumerate") (hm : X.mg "enumerate" = none) (ha : PA X [e] ta) (hs : starEach [e] X.env = [(false, eval e X.env)]) :
    PI X (.Tuple elts kk tpos) (.Call (.Name "enumerate" p) [e] [] pos) (iEnumA X.K ta) := by
  refine ⟨fun pins s σ H R I h => ?_⟩
  refine Call_ (ld_blt I hg hm boot_enumerate (PyProof.Rows.callWith_type1 (thn (ha.run pos pins s σ H _ I h) fun us s1 ⟨vs, H1, I1, r1, q1⟩ => ?_) hs rfl))
  obtain ⟨x, rfl, F, ds, m, hr, q⟩ := q1
  obtain ⟨u, rfl, rx⟩ := vals1 r1
  obtain ⟨k, rfl, hd, hG⟩ := kd_of hr rx
  have g1 : k.G X.K H1 := hG H1 m
  obtain ⟨Fh, B, hb⟩ := kd_begins I1 g1
  refine enum1_begins B hb fun h' he hit hk => wpAny_pyIter_enum he ?_
  have I2 : Inv X pins σ H1 { s1 with heap := h' } := I1.kept (t' := s1.toks) hk
  have old := kd_ex I1 g1
  refine ⟨s1.heap.objs.size + 1, [s1.heap.objs.size + 1, s1.heap.objs.size], _, _, H1, rfl, I2, turn_enumK (k := k) (Nat.succ_ne_self _) (fun z => absurd (old _ z) (by show ¬ (s1.heap.objs.size + 1 : Nat) < _; omega)) (fun z => absurd (old _ z) (Nat.lt_irrefl _)), ⟨⟨.none, he⟩, kd_ob hit⟩, fun b hb => ?_, q _ (it_pair (F := F) hG ?_ fun i d hi => ?_)⟩
  · have e' : b = s1.heap.objs.size + 1 ∨ b = s1.heap.objs.size := by simpa using hb
    have hle : s1.heap.objs.size ≤ b := by
      rcases e' with z | z
      · rw [z]; exact Nat.le_add_right _ _
      · rw [z]; exact Nat.le_refl _
    exact I1.fpOk hle (I1.hok.fresh hle)
  · unfold enmL
    rw [List.length_map, List.length_zipIdx, dps_len hd]
  · unfold enmL at hi
    rw [List.getElem?_map, List.getElem?_zipIdx] at hi
    cases e1 : ds[i]? with
    | none => rw [e1] at hi; cases hi
    | some c =>
      rw [e1] at hi
      simp only [Option.map_some, Option.some.injEq, Nat.zero_add] at hi
      refine ⟨_, _, hi.symm, fun v e2 => ?_, fun v e2 => ?_⟩
      · cases e2
        exact .int _
      · obtain ⟨w, e3, e4⟩ := dps_get hd e1
        have e2 : k.items[i]? = some v := e2
        rw [e3] at e2
        cases e2
        exact e4
def iZipG (K : PySem.W.Frag) (ta : TA) : TI := fun σ H R => ta σ H fun vs H1 => ∃ x y, vs = [x, y] ∧ ∃ F ds es, Same F H1 ∧ Rdi K F x ds ∧ Rdi K F y es ∧ ∀ J, ItOk K J F (zipL ds es) → R J H1
theorem pi_zipG {X : Cx} {e e2 : Expr} {ta : TA} {p pos tpos : Pos} {elts : List Expr} {kk : Nat} (hg : Gl X "zip") (hm : X.mg "zip" = none) (ha : PA X [e, e2] ta)
    (hs : starEach [e, e2] X.env = (false, eval e X.env) :: starEach [e2] X.env) (hpl : (backTo pos (starEach [e2] X.env)).any (·.1) = false) :
    PI X (.Tuple elts kk tpos) (.Call (.Name "zip" p) [e, e2] [] pos) (iZipG X.K ta) := by
  refine ⟨fun pins s σ H R I h => ?_⟩
  refine Call_ (ld_blt I hg hm PyProof.Rows.boot_zip (PyProof.Rows.callWith_type1 (thn (ha.run pos pins s σ H _ I h) fun us s1 ⟨vs, H1, I1, r1, q1⟩ => ?_) hs hpl))
  obtain ⟨x, y, rfl, F, ds, es, m, hr, hr2, q⟩ := q1
  obtain ⟨u, u2, rfl, rx, ry⟩ := vals2 r1
  obtain ⟨k, rfl, hd, hG⟩ := kd_of hr rx
  obtain ⟨k2, rfl, hd2, hG2⟩ := kd_of hr2 ry
  obtain ⟨Fh, B, hb⟩ := kd_begins I1 (hG H1 m)
  obtain ⟨Fh2, B2, hb2⟩ := kd_begins I1 (hG2 H1 m)
  have old := kd_ex I1 (hG H1 m)
  have old2 := kd_ex I1 (hG2 H1 m)
  refine zip_begins2 B B2 hb hb2 fun h' hz hTI hTO h1 h2 hsz hk => wpAny_pyIter_zip hz ?_
  have I2 : Inv X pins σ H1 { s1 with heap := h' } := I1.kept (t' := s1.toks) hk
  refine ⟨s1.heap.objs.size + 4, [s1.heap.objs.size + 4, s1.heap.objs.size + 2, s1.heap.objs.size + 3, s1.heap.objs.size, s1.heap.objs.size + 1], _, _, H1, rfl, I2,
    turn_zipK (k1 := k) (k2 := k2) (zip_sep2 old old2) (fun z => absurd (old _ z) (Nat.lt_irrefl _)) (fun z => absurd (old2 _ z) (by show ¬ (s1.heap.objs.size + 1 : Nat) < _; omega)), ⟨hz, hTI, ⟨_, _, hTO⟩, kd_ob h1, kd_ob h2⟩, fun b hb => ?_,
    q _ (it_pair (F := F) (fun H m => ⟨hG H m, hG2 H m⟩) ?_ fun i d hi => ?_)⟩
  · have e' : b = s1.heap.objs.size + 4 ∨ b = s1.heap.objs.size + 2 ∨ b = s1.heap.objs.size + 3 ∨ b = s1.heap.objs.size ∨ b = s1.heap.objs.size + 1 := by simpa using hb
    have hle : s1.heap.objs.size ≤ b := by
      rcases e' with z | z | z | z | z
      · rw [z]; exact Nat.le_add_right _ _
      · rw [z]; exact Nat.le_add_right _ _
      · rw [z]; exact Nat.le_add_right _ _
      · rw [z]; exact Nat.le_refl _
      · rw [z]; exact Nat.le_add_right _ _
    exact I1.fpOk hle (I1.hok.fresh hle)
  · unfold zipL
    rw [List.length_map, List.length_zip, dps_len hd, dps_len hd2]
  · unfold zipL at hi
    rw [List.getElem?_map] at hi
    obtain ⟨w, e1, rfl⟩ := Option.map_eq_some_iff.mp hi
    obtain ⟨g1, g2⟩ := List.getElem?_zip_eq_some.mp e1
    refine ⟨_, _, rfl, fun v e2 => ?_, fun v e2 => ?_⟩
    · obtain ⟨w1, e3, e4⟩ := dps_get hd g1
      have e2 : k.items[i]? = some v := e2
      rw [e3] at e2
      cases e2
      exact e4
    · obtain ⟨w1, e3, e4⟩ := dps_get hd2 g2
      have e2 : k2.items[i]? = some v := e2
      rw [e3] at e2
      cases e2
      exact e4
/-! ### the walks of the terms -/
theorem evI1 {Φ : Fn} {k : Ik} {a : Ex} {e e' : Ev} {ds : List D} (h : evI Φ k a .noe e = some (ds, e')) : ∃ x, ev Φ a e = some (x, e') ∧ walkD k x .none = some ds := by
  unfold evI at h
  cases h1 : ev Φ a e with
  | none => rw [h1] at h; cases h
  | some w =>
    obtain ⟨x, e1⟩ := w
    rw [h1] at h
    obtain ⟨ds', hw, ee⟩ := Option.map_eq_some_iff.mp h
    obtain ⟨rfl, rfl⟩ := Prod.mk.inj ee
    exact ⟨x, rfl, hw⟩
theorem evI2 {Φ : Fn} {k : Ik} {a b : Ex} {e e' : Ev} {ds : List D} (h : evI Φ k a b e = some (ds, e')) : ∃ x e1 y, ev Φ a e = some (x, e1) ∧ ev Φ b e1 = some (y, e') ∧ walkD k x y = some ds := by
  unfold evI at h
  cases h1 : ev Φ a e with
  | none => rw [h1] at h; cases h
  | some w =>
    obtain ⟨x, e1⟩ := w
    rw [h1] at h
    simp only at h
    cases h2 : ev Φ b e1 with
    | none => rw [h2] at h; cases h
    | some w =>
      obtain ⟨y, e2⟩ := w
      rw [h2] at h
      obtain ⟨ds', hw, ee⟩ := Option.map_eq_some_iff.mp h
      obtain ⟨rfl, rfl⟩ := Prod.mk.inj ee
      exact ⟨x, e1, y, rfl, h2, hw⟩
theorem s_enum {Φ : Fn} {X : Cx} {z : L2.St} {l : Expr} {a : Ex} {p pos tpos : Pos} {elts : List Expr} {kk : Nat} (h : PE X l (SemE Φ X.K z a)) (hg : Gl X "enumerate") (hm : X.mg "enumerate" = none) (hs : ∀ r, starEach (l :: r) X.env = (false, eval l X.env) :: starEach r X.env) :
    PI X (.Tuple elts kk tpos) (.Call (.Name "enumerate" p) [l] [] pos) (SemI Φ X.K z .enm a .noe) := by
  refine pi_imp (pi_enumA hg hm (pa_cons h pa_nil (hs [])) (hs [])) fun σ H R ⟨e, F, ds, e', Rl, he, q⟩ => ?_
  obtain ⟨x, h1, hw⟩ := evI1 he
  refine ⟨e, F, x, e', Rl, h1, fun v F1 H1 R1 S1 dp => ⟨v, rfl, F1, ?_⟩⟩
  obtain ⟨xs, hx, rfl⟩ := Option.map_eq_some_iff.mp (show (itemsOf x).map enmL = some ds from hw)
  exact ⟨xs, R1.sub, rdi_of dp hx, fun J hJ => q J F1 H1 R1 S1 hJ⟩
theorem s_zip {Φ : Fn} {X : Cx} {z : L2.St} {l m : Expr} {a b : Ex} {p pos tpos : Pos} {elts : List Expr} {kk : Nat} (h : PE X l (SemE Φ X.K z a)) (h2 : PE X m (SemE Φ X.K z b)) (hg : Gl X "zip") (hm : X.mg "zip" = none) (hs : ∀ r, starEach (l :: r) X.env = (false, eval l X.env) :: starEach r X.env)
    (hs2 : ∀ r, starEach (m :: r) X.env = (false, eval m X.env) :: starEach r X.env) : PI X (.Tuple elts kk tpos) (.Call (.Name "zip" p) [l, m] [] pos) (SemI Φ X.K z .zip a b) := by
  refine pi_imp (pi_zipG hg hm (pa_cons h (pa_cons h2 pa_nil (hs2 [])) (hs [m])) (hs [m]) (by rw [hs2 []]; rfl)) fun σ H R ⟨e, F, ds, e', Rl, he, q⟩ => ?_
  obtain ⟨x, e1, y, g1, g2, hw⟩ := evI2 he
  refine ⟨e, F, x, e1, Rl, g1, fun v F1 H1 R1 S1 dp => ⟨e1, F1, y, e', R1, g2, fun u F2 H2 R2 S2 dp2 => ⟨v, u, rfl, F2, ?_⟩⟩⟩
  simp only [walkD] at hw
  split at hw
  · rename_i xs ys hx hy
    cases hw
    exact ⟨xs, ys, R2.sub, rdi_of (dp_mono S2.fs dp) hx, rdi_of dp2 hy, fun J hJ => q J F2 H2 R2 (S1.trans S2) hJ⟩
  · cases hw
theorem small62_of {i : Int} (h : small62 i = true) : -(2 ^ 62) ≤ i ∧ i < 2 ^ 62 := by
  unfold small62 at h
  rw [Bool.and_eq_true] at h
  exact ⟨of_decide_eq_true h.1, of_decide_eq_true h.2⟩
theorem s_rng {Φ : Fn} {X : Cx} {z : L2.St} {tg l : Expr} {a : Ex} {p pos : Pos} (h : PE X l (SemE Φ X.K z a)) (hg : Gl X "range") (hm : X.mg "range" = none) (hs : ∀ r, starEach (l :: r) X.env = (false, eval l X.env) :: starEach r X.env) :
    PI X tg (.Call (.Name "range" p) [l] [] pos) (SemI Φ X.K z .rng a .noe) := by
  refine pi_imp (pi_range1 hg hm (pa_cons h pa_nil (hs [])) (hs [])) fun σ H R ⟨e, F, ds, e', Rl, he, q⟩ => ?_
  obtain ⟨x, h1, hw⟩ := evI1 he
  refine ⟨e, F, x, e', Rl, h1, fun v F1 H1 R1 S1 dp => ?_⟩
  cases x with
  | int i =>
    cases dp
    simp only [walkD] at hw
    split at hw
    · rename_i hi
      cases hw
      obtain ⟨b1, b2⟩ := small62_of hi
      refine ⟨i, rfl, b1, b2, q _ F1 H1 R1 S1 ?_⟩
      have k := it_rng (K := X.K) (F := F1) 0 i
      rw [Int.sub_zero] at k
      exact k
    · cases hw
  | _ => simp [walkD] at hw
theorem s_rng2 {Φ : Fn} {X : Cx} {z : L2.St} {tg l m : Expr} {a b : Ex} {p pos : Pos} (h : PE X l (SemE Φ X.K z a)) (h2 : PE X m (SemE Φ X.K z b)) (hg : Gl X "range") (hm : X.mg "range" = none) (hs : ∀ r, starEach (l :: r) X.env = (false, eval l X.env) :: starEach r X.env)
    (hs2 : ∀ r, starEach (m :: r) X.env = (false, eval m X.env) :: starEach r X.env) : PI X tg (.Call (.Name "range" p) [l, m] [] pos) (SemI Φ X.K z .rng2 a b) := by
  refine pi_imp (pi_range2 hg hm (pa_cons h (pa_cons h2 pa_nil (hs2 [])) (hs [m])) (by rw [hs [m], hs2 []]; rfl) (hs2 [])) fun σ H R ⟨e, F, ds, e', Rl, he, q⟩ => ?_
  obtain ⟨x, e1, y, g1, g2, hw⟩ := evI2 he
  refine ⟨e, F, x, e1, Rl, g1, fun v F1 H1 R1 S1 dp => ⟨e1, F1, y, e', R1, g2, fun u F2 H2 R2 S2 dp2 => ?_⟩⟩
  cases x with
  | int i =>
    cases y with
    | int j =>
      cases dp
      cases dp2
      simp only [walkD] at hw
      split at hw
      · rename_i hi
        cases hw
        rw [Bool.and_eq_true] at hi
        obtain ⟨b1, b2⟩ := small62_of hi.1
        obtain ⟨b3, b4⟩ := small62_of hi.2
        exact ⟨i, j, rfl, ⟨b1, b2, b3, b4⟩, q _ F2 H2 R2 (S1.trans S2) (it_rng (K := X.K) (F := F2) i j)⟩
      · cases hw
    | _ => simp [walkD] at hw
  | _ => simp [walkD] at hw
end Iv
end
section
set_option Elab.async false
set_option linter.all false
set_option maxRecDepth 100000
set_option maxHeartbeats 1000000
/-! Calls of defs, over data. -/
namespace Iv
open PySem PySem.Spec PyProof.Rows L2
/-! ### a def's promise, where nothing is being shown (guards) -/
structure FnG (P : Program) (w : World) (K : PySem.W.Frag) (mg : Str → Option Value) (base : Heap) (k : Nat) (f : Addr) (fd : FuncData) (ps : List Str) (sp : Sp) : Prop where
  len : ∀ vs H Q E, sp vs H Q E → vs.length = ps.length
  run : ∀ (A : Around) (outer : List Env) (s : Shared) (H : Hp) (args : Args) (us : List Value) (vs : List V) (Q : VK) (E : XK), Room k A → A.guards = some [] → Env0 P w K mg base A outer s H → BindsTo s fd args (ps.zip us) → Vals vs us → sp vs H Q E →
    codeAny (model P w) A (.call (.ref f) args) (CR CX0 outer P w H s Q E) s
theorem FnG.up {P : Program} {w : World} {K : PySem.W.Frag} {mg : Str → Option Value} {base : Heap} {j k : Nat} {f : Addr} {fd : FuncData} {ps : List Str} {sp : Sp} (F : FnG P w K mg base j f fd ps sp) (h : j ≤ k) : FnG P w K mg base k f fd ps sp :=
  ⟨F.len, fun A outer s H args us vs Q E hr => F.run A outer s H args us vs Q E (hr.mono h)⟩
section
variable {X : Cx} {k : Nat} {f : Addr} {fd : FuncData} {ps : List Str} {sp : Sp} {x : Str} {p pos : Pos}
theorem runG {pins : List (Addr × Obj)} {σ : L2.St} {H : Hp} {s : Shared} {Q : VK} {args : Args} {us : List Value} {vs : List V} (F : FnG X.prog X.w X.K X.mg X.base k f fd ps sp) (hr : Room k X.A) (hg : X.A.guards = some [])
    (hb : BindsTo s fd args (ps.zip us)) (I : Inv X pins σ H s) (r : Vals vs us) (h : sp vs H Q E0) : codeAny (model X.prog X.w) X.A (.call (.ref f) args) (fun r s' => ∃ u, r = .ok (.ret u) ∧ EP X pins σ Q u s') s := by
  refine codeAny_mono (F.run X.A X.stack s H args us vs Q E0 hr hg I.env0 hb r h) fun r s' hq => ?_
  cases r with
  | error e => exact hq.elim
  | ok fl =>
    cases fl with
    | ret u => exact ⟨u, rfl, I.after hq⟩
    | next => exact hq.elim
    | brk => exact hq.elim
    | cont => exact hq.elim
theorem callG {pins : List (Addr × Obj)} {σ : L2.St} {H : Hp} {s : Shared} {Q : VK} {us zs : List Value} {kw : List (Str × Value)} {vs : List V} (F : FnG X.prog X.w X.K X.mg X.base k f fd ps sp) (hr : Room k X.A) (hg : X.A.guards = some [])
    (hb : BindsTo s fd ⟨us, kw⟩ (ps.zip zs)) (I : Inv X pins σ H s) (r : Vals vs zs) (h : sp vs H Q E0) : wpAny (model X.prog X.w) X.A (call (.ref f) us kw) (EP X pins σ Q) X.xe s := by
  refine wpAny_call (codeAny_mono (runG F hr hg hb I r h) fun r s' hq => ?_)
  obtain ⟨u, rfl, q⟩ := hq
  exact q
/-- f(a, ..): all parameters given, by position -/
def tCallG (sp : Sp) (ta : TA) : TE := fun σ H Q => ta σ H fun vs H1 => sp vs H1 Q E0
theorem pe_callG {e : Expr} {es : List Expr} {ta : TA} (F : FnG X.prog X.w X.K X.mg X.base k f fd ps sp) (hr : Room k X.A) (hgd : X.A.guards = some []) (hg : Gl X x) (hm : X.mg x = some (.ref f)) (hk : PySem.W.keepIn X.K (.ref f) = true) (hb : Binds X.K fd ps [])
    (ha : PA X (e :: es) ta) (hdb : (x == ("__debug__" : Str)) = false) (he : starEach (e :: es) X.env = (false, eval e X.env) :: starEach es X.env) (hpl : (backTo pos (starEach es X.env)).any (·.1) = false) :
    PE X (.Call (.Name x p) (e :: es) [] pos) (tCallG sp ta) := by
  refine ⟨fun pins s σ H Q I h => wpAny_Call_Name_kw (ld_glob I hg hm ?_ hdb)⟩
  refine PySem.W.callWith_K (h₀ := X.base) I.ok.mod.kin hk (thn (ha.run pos pins s σ H _ I h) fun us s1 ⟨vs, H1, I1, r, q⟩ => ⟨I1.kIn, ?_⟩) he hpl
  have hl : us.length = ps.length := by rw [← r.length]; exact F.len _ _ _ _ q
  have b := hb s1 us I1.kIn (by rw [List.append_nil]; exact hl)
  rw [List.append_nil] at b
  exact callG F hr hgd b I1 r q
theorem pe_callG0 (F : FnG X.prog X.w X.K X.mg X.base k f fd ps sp) (hr : Room k X.A) (hgd : X.A.guards = some []) (hg : Gl X x) (hm : X.mg x = some (.ref f)) (hk : PySem.W.keepIn X.K (.ref f) = true) (hb : Binds X.K fd ps [])
    (hdb : (x == ("__debug__" : Str)) = false) : PE X (.Call (.Name x p) [] [] pos) (tCallG sp tNil) := by
  refine ⟨fun pins s σ H Q I h => wpAny_Call_Name_kw (ld_glob I hg hm ?_ hdb)⟩
  refine PySem.W.callWith_K0 I.kIn hk ?_
  have hl : ([] : List V).length = ps.length := F.len _ _ _ _ h
  have b := hb s [] I.kIn (by simpa using hl)
  exact callG F hr hgd b I .nil h
/-- how n values and keywords of these names are put: by their places -/
def KwOk (K : PySem.W.Frag) (fd : FuncData) (ps : List Str) (n : Nat) (ks : List Str) (perm : List Nat) : Prop :=
  ∀ (s : Shared) (us ws : List Value), K.In s.heap → us.length = n → ws.length = ks.length → ∃ zs, permL perm (us ++ ws) = some zs ∧ BindsTo s fd ⟨us, ks.zip ws⟩ (ps.zip zs)
def tCallKG (sp : Sp) (n m : Nat) (perm : List Nat) (ta tk : TA) : TE := fun σ H Q => ta σ H fun vs H1 => tk σ H1 fun ws H2 => vs.length = n ∧ ws.length = m ∧ ∃ zs, permL perm (vs ++ ws) = some zs ∧ sp zs H2 Q E0
theorem permL_nil {α : Type} {xs : List α} : permL [] xs = some [] := rfl
theorem permL_cons {α : Type} {i : Nat} {r : List Nat} {xs : List α} : permL (i :: r) xs = match xs[i]? with
    | some x => (permL r xs).map (x :: ·)
    | none => none := by
  unfold permL
  rw [List.mapM_cons]
  cases xs[i]? with
  | none => rfl
  | some x =>
    cases h : List.mapM (fun i => xs[i]?) r with
    | none => rfl
    | some y => rfl
theorem perm_vals : ∀ {perm : List Nat} {vs ys : List V} {us zs : List Value}, Vals vs us → permL perm vs = some ys → permL perm us = some zs → Vals ys zs
  | [], _, _, _, _, _, h, h' => by
    cases h
    cases h'
    exact .nil
  | i :: r, vs, ys, us, zs, hv, h, h' => by
    rw [permL_cons] at h h'
    cases e1 : vs[i]? with
    | none => rw [e1] at h; cases h
    | some v =>
      obtain ⟨u, e2, rv⟩ := hv.get e1
      rw [e1] at h
      rw [e2] at h'
      obtain ⟨y1, g1, rfl⟩ := Option.map_eq_some_iff.mp h
      obtain ⟨z1, g2, rfl⟩ := Option.map_eq_some_iff.mp h'
      exact .cons rv (perm_vals hv g1 g2)
theorem pe_callKG {e : Expr} {es : List Expr} {kws : List Keyword} {ks : List Str} {perm : List Nat} {n : Nat} {ta tk : TA} (F : FnG X.prog X.w X.K X.mg X.base k f fd ps sp) (hr : Room k X.A) (hgd : X.A.guards = some []) (hg : Gl X x) (hm : X.mg x = some (.ref f)) (hk : PySem.W.keepIn X.K (.ref f) = true)
    (hb : KwOk X.K fd ps n ks perm) (ha : PA X (e :: es) ta) (hkw : PK X kws tk) (hdb : (x == ("__debug__" : Str)) = false) (hall : (backToKw pos (keywordEach kws X.env)).all (·.1.isSome) = true) (hks : (backToKw pos (keywordEach kws X.env)).filterMap (·.1) = ks)
    (he : starEach (e :: es) X.env = (false, eval e X.env) :: starEach es X.env) (hpl : ((backTo pos (starEach (e :: es) X.env)).any (·.1) || (backToKw pos (keywordEach kws X.env)).any (·.1.isNone)) = false) :
    PE X (.Call (.Name x p) (e :: es) kws pos) (tCallKG sp n ks.length perm ta tk) := by
  refine ⟨fun pins s σ H Q I h => wpAny_Call_Name_kw (ld_glob I hg hm ?_ hdb)⟩
  refine PySem.W.callWith_KW (h₀ := X.base) I.ok.mod.kin hk hall (thn (ha.run pos pins s σ H _ I h) fun us s1 ⟨vs, H1, I1, r, q⟩ => ?_) hpl he
  refine thn (hkw.run pos pins s1 σ H1 _ I1 q) fun ws s2 ⟨zs, H2, I2, rz, q2⟩ => ⟨I2.kIn, ?_⟩
  obtain ⟨l1, l2, ys, hp, q3⟩ := q2
  rw [hks]
  obtain ⟨os, hp2, b⟩ := hb s2 us ws I2.kIn (by rw [← r.length]; exact l1) (by rw [← rz.length]; exact l2)
  exact callG F hr hgd b I2 (perm_vals (r.append rz) hp hp2) q3
theorem pe_callKG0 {kws : List Keyword} {ks : List Str} {perm : List Nat} {tk : TA} (F : FnG X.prog X.w X.K X.mg X.base k f fd ps sp) (hr : Room k X.A) (hgd : X.A.guards = some []) (hg : Gl X x) (hm : X.mg x = some (.ref f)) (hk : PySem.W.keepIn X.K (.ref f) = true)
    (hb : KwOk X.K fd ps 0 ks perm) (hkw : PK X kws tk) (hdb : (x == ("__debug__" : Str)) = false) (hall : (backToKw pos (keywordEach kws X.env)).all (·.1.isSome) = true) (hks : (backToKw pos (keywordEach kws X.env)).filterMap (·.1) = ks)
    (hpl : ((backTo pos (starEach [] X.env)).any (·.1) || (backToKw pos (keywordEach kws X.env)).any (·.1.isNone)) = false) :
    PE X (.Call (.Name x p) [] kws pos) (tCallKG sp 0 ks.length perm tNil tk) := by
  refine ⟨fun pins s σ H Q I h => wpAny_Call_Name_kw (ld_glob I hg hm ?_ hdb)⟩
  refine PySem.W.callWith_KW0 (h₀ := X.base) I.ok.mod.kin hk hall ?_ hpl
  refine thn (hkw.run pos pins s σ H _ I h) fun ws s2 ⟨zs, H2, I2, rz, q2⟩ => ⟨I2.kIn, ?_⟩
  obtain ⟨l1, l2, ys, hp, q3⟩ := q2
  rw [hks]
  obtain ⟨os, hp2, b⟩ := hb s2 [] ws I2.kIn rfl (by rw [← rz.length]; exact l2)
  exact callG F hr hgd b I2 (perm_vals (Vals.append .nil rz) hp hp2) q3
end
/-! ### what a def promises over data -/
def SpF (K : PySem.W.Frag) (Φ : Fn) (j : Nat) : Sp := fun vs H Q _ => ∃ (args : List Sl) (F : Hp) (d : D) (os : List Sl), Rel K (vs.map some) args (vs.map some) F H ∧ (∀ (i : Nat) (ds : List D), args[i]? ≠ some (Sl.own true ds)) ∧ Φ j args = some (d, os) ∧
  ∀ v F' H', Rel K (vs.map some) os (vs.map some) F' H' → Stp args (vs.map some) F H os (vs.map some) F' H' → Dp K F' v d → Q v H'
/-! ### arguments -/
def ArgRel (K : PySem.W.Frag) (F : Hp) (σ : L2.St) : Ex → List V → List D → Prop
  | .cons a r, v :: vs, d :: ds => (match a with
      | .mu i => σ[i]? = some (some v)
      | _ => Dp K F v d) ∧ ArgRel K F σ r vs ds
  | .nil, [], [] => True
  | _, _, _ => False
def SemA (Φ : Fn) (K : PySem.W.Frag) (z : L2.St) (as : Ex) : TA := fun σ H Q => ∃ e F ds e', Rel K z e σ F H ∧ ev Φ as e = some (.tuple ds, e') ∧
  ∀ vs F' H', Rel K z e' σ F' H' → Stp e σ F H e' σ F' H' → ArgRel K F' σ as vs ds → Q vs H'
theorem argRel_mono {K : PySem.W.Frag} {F F' : Hp} {σ : L2.St} (m : Same F F') : ∀ {as : Ex} {vs : List V} {ds : List D}, ArgRel K F σ as vs ds → ArgRel K F' σ as vs ds
  | .cons a r, v :: vs, d :: ds, h => by
    refine ⟨?_, argRel_mono m h.2⟩
    have h1 := h.1
    cases a <;> first | exact h1 | exact dp_mono m h1
  | .nil, [], [], _ => trivial
  | .cons _ _, [], _, h => h.elim
  | .cons _ _, _ :: _, [], h => h.elim
  | .nil, _ :: _, _, h => h.elim
  | .nil, [], _ :: _, h => h.elim
def noMu : Ex → Bool
  | .cons (.mu _) _ => false
  | .cons _ r => noMu r
  | _ => true
theorem argRel_dps {K : PySem.W.Frag} {F : Hp} {σ : L2.St} : ∀ {as : Ex} {vs : List V} {ds : List D}, noMu as = true → ArgRel K F σ as vs ds → DpAll K F vs ds
  | .cons a r, v :: vs, d :: ds, n, h => by
    have h1 := h.1
    cases a <;> first | (exact .cons h1 (argRel_dps (by simpa [noMu] using n) h.2)) | (simp [noMu] at n)
  | .nil, [], [], _, _ => .nil
  | .cons _ _, [], _, _, h => h.elim
  | .cons _ _, _ :: _, [], _, h => h.elim
  | .nil, _ :: _, _, _, h => h.elim
  | .nil, [], _ :: _, _, h => h.elim
def muAt : Ex → Nat → Option Nat
  | .cons a r, 0 => match a with
    | .mu i => some i
    | _ => none
  | .cons _ r, n + 1 => muAt r n
  | _, _ => none
theorem mem_mus : ∀ {as : Ex} {p i : Nat}, muAt as p = some i → i ∈ musOf as
  | .cons a r, 0, i, h => by
    cases a <;> first | (cases h; done) | skip
    have e : _ = i := Option.some.inj h
    subst e
    simp [musOf]
  | .cons a r, p + 1, i, h => by
    have ih := mem_mus (as := r) (p := p) h
    cases a <;> simp [musOf, ih]
theorem mus_inj : ∀ {as : Ex} {p q i : Nat}, nodupB (musOf as) = true → muAt as p = some i → muAt as q = some i → p = q
  | .cons a r, 0, 0, _, _, _, _ => rfl
  | .cons a r, p + 1, q + 1, i, n, h, h' => by
    have n' : nodupB (musOf r) = true := by
      cases a <;> first | (simpa [musOf] using n) | skip
      have n : nodupB (_ :: musOf r) = true := n
      unfold nodupB at n
      rw [Bool.and_eq_true] at n
      exact n.2
    rw [mus_inj (as := r) n' h h']
  | .cons a r, 0, q + 1, i, n, h, h' => by
    cases a <;> first | (cases h; done) | skip
    have e : _ = i := Option.some.inj h
    subst e
    have n : nodupB (_ :: musOf r) = true := n
    unfold nodupB at n
    rw [Bool.and_eq_true] at n
    have m := mem_mus (as := r) h'
    simp [m] at n
  | .cons a r, p + 1, 0, i, n, h', h => by
    cases a <;> first | (cases h; done) | skip
    have e : _ = i := Option.some.inj h
    subst e
    have n : nodupB (_ :: musOf r) = true := n
    unfold nodupB at n
    rw [Bool.and_eq_true] at n
    have m := mem_mus (as := r) h'
    simp [m] at n
theorem nodup_tail {a : Ex} {r : Ex} (n : nodupB (musOf (.cons a r)) = true) : nodupB (musOf r) = true := by
  cases a <;> first | (simpa [musOf] using n) | skip
  have n : nodupB (_ :: musOf r) = true := n
  unfold nodupB at n
  rw [Bool.and_eq_true] at n
  exact n.2
/-- what stands at each place of a call -/
theorem argSl_get {K : PySem.W.Frag} {z : L2.St} {e : Ev} {σ : L2.St} {F H : Hp} (R : Rel K z e σ F H) : ∀ {as : Ex} {vs : List V} {ds : List D} {sl : List Sl}, ArgRel K F σ as vs ds → argSl as ds e = some sl →
    sl.length = vs.length ∧ ∀ p s, sl[p]? = some s → ∃ v, vs[p]? = some v ∧ ((∃ d, s = .sh d ∧ Dp K F v d) ∨ ∃ i fz xs, muAt as p = some i ∧ e[i]? = some (.own fz xs) ∧ s = .own false xs ∧ σ[i]? = some (some v))
  | .nil, [], [], sl, _, h => by
    cases h
    exact ⟨rfl, fun p s q => by simp at q⟩
  | .cons a r, v :: vs, d :: ds, sl, g, h => by
    unfold argSl at h
    cases h1 : argSl r ds e with
    | none => rw [h1] at h; cases h
    | some t =>
      rw [h1] at h
      obtain ⟨l, ih⟩ := argSl_get R g.2 h1
      have step : ∀ s0, sl = s0 :: t → ((∃ d, s0 = .sh d ∧ Dp K F v d) ∨ ∃ i fz xs, muAt (.cons a r) 0 = some i ∧ e[i]? = some (.own fz xs) ∧ s0 = .own false xs ∧ σ[i]? = some (some v)) →
          sl.length = (v :: vs).length ∧ ∀ p s, sl[p]? = some s → ∃ w, (v :: vs)[p]? = some w ∧ ((∃ d, s = .sh d ∧ Dp K F w d) ∨ ∃ i fz xs, muAt (.cons a r) p = some i ∧ e[i]? = some (.own fz xs) ∧ s = .own false xs ∧ σ[i]? = some (some w)) := by
        rintro s0 rfl q
        refine ⟨by simp [l], fun p s hp => ?_⟩
        cases p with
        | zero =>
          have e0 : s0 = s := by simpa using hp
          subst e0
          exact ⟨v, rfl, q⟩
        | succ p =>
          obtain ⟨w, e1, e2⟩ := ih p s (by simpa using hp)
          exact ⟨w, by simpa using e1, e2⟩
      have g1 := g.1
      cases a with
      | mu i =>
        simp only at h g1
        cases h2 : e[i]? with
        | none => rw [h2] at h; cases h
        | some w =>
          rw [h2] at h
          cases w with
          | un => cases h
          | sh x =>
            obtain ⟨w, e1, e2⟩ := R.sh i x h2
            rw [g1] at e1
            cases e1
            exact step _ (Option.some.inj h).symm (.inl ⟨x, rfl, e2⟩)
          | own fz xs => exact step _ (Option.some.inj h).symm (.inr ⟨i, fz, xs, rfl, h2, rfl, g1⟩)
      | _ => exact step _ (Option.some.inj h).symm (.inl ⟨d, rfl, g1⟩)
  | .cons _ _, [], _, _, g, _ => g.elim
  | .cons _ _, _ :: _, [], _, g, _ => g.elim
  | .nil, _ :: _, _, _, g, _ => g.elim
  | .nil, [], _ :: _, _, g, _ => g.elim
/-- what stands in the names behind a call -/
theorem wbk_get : ∀ {as : Ex} {os : List Sl} {e e2 : Ev}, nodupB (musOf as) = true → wbk as os e = some e2 → e2.length = e.length ∧
    ∀ i : Nat, (∃ (p : Nat) (fz : Bool) (xs : List D) (g : Bool) (ys : List D), muAt as p = some i ∧ e[i]? = some (.own fz xs) ∧ os[p]? = some (.own g ys) ∧ e2[i]? = some (.own fz ys)) ∨ (e2[i]? = e[i]? ∧ ∀ p, muAt as p = some i → ∃ d, e[i]? = some (.sh d))
  | .nil, [], e, e2, _, h => by
    cases h
    exact ⟨rfl, fun i => .inr ⟨rfl, fun p q => by cases p <;> cases q⟩⟩
  | .cons a r, o :: os, e, e2, n, h => by
    have n' := nodup_tail n
    have plain : (∀ i, a ≠ .mu i) → wbk r os e = some e2 → e2.length = e.length ∧
        ∀ i : Nat, (∃ (p : Nat) (fz : Bool) (xs : List D) (g : Bool) (ys : List D), muAt (.cons a r) p = some i ∧ e[i]? = some (.own fz xs) ∧ (o :: os)[p]? = some (.own g ys) ∧ e2[i]? = some (.own fz ys)) ∨ (e2[i]? = e[i]? ∧ ∀ p, muAt (.cons a r) p = some i → ∃ d, e[i]? = some (.sh d)) := by
      intro na h
      obtain ⟨l, ih⟩ := wbk_get n' h
      refine ⟨l, fun i => ?_⟩
      rcases ih i with ⟨p, fz, xs, g, ys, h1, h2, h3, h4⟩ | ⟨h1, h2⟩
      · exact .inl ⟨p + 1, fz, xs, g, ys, h1, h2, by simpa using h3, h4⟩
      · refine .inr ⟨h1, fun p q => ?_⟩
        cases p with
        | zero =>
          cases a <;> first | (cases q; done) | exact absurd rfl (na _)
        | succ p => exact h2 p q
    unfold wbk at h
    cases a with
    | mu j =>
      simp only at h
      split at h
      · rename_i fz xs g ys h2
        obtain ⟨l, ih⟩ := wbk_get n' h
        have lj := lt_of_get h2
        have nj : j ∉ musOf r := fun m => by
          have n : nodupB (j :: musOf r) = true := n
          unfold nodupB at n
          simp [m] at n
        refine ⟨by rw [l, List.length_set], fun i => ?_⟩
        by_cases ei : i = j
        · subst ei
          rcases ih i with ⟨p, fz', xs', g', ys', h1, h3, h4, h5⟩ | ⟨h1, h3⟩
          · exact absurd (mem_mus h1) nj
          · rw [List.getElem?_set_self lj] at h1
            exact .inl ⟨0, fz, xs, g, ys, rfl, h2, rfl, h1⟩
        · rcases ih i with ⟨p, fz', xs', g', ys', h1, h3, h4, h5⟩ | ⟨h1, h3⟩
          · rw [List.getElem?_set_ne (Ne.symm ei)] at h3
            exact .inl ⟨p + 1, fz', xs', g', ys', h1, h3, by simpa using h4, h5⟩
          · rw [List.getElem?_set_ne (Ne.symm ei)] at h1 h3
            refine .inr ⟨h1, fun p q => ?_⟩
            cases p with
            | zero =>
              have e0 : j = i := Option.some.inj q
              exact absurd e0.symm ei
            | succ p => exact h3 p q
      · rename_i x y h2
        obtain ⟨l, ih⟩ := wbk_get n' h
        refine ⟨l, fun i => ?_⟩
        rcases ih i with ⟨p, fz', xs', g', ys', h1, h3, h4, h5⟩ | ⟨h1, h3⟩
        · exact .inl ⟨p + 1, fz', xs', g', ys', h1, h3, by simpa using h4, h5⟩
        · refine .inr ⟨h1, fun p q => ?_⟩
          cases p with
          | zero =>
            have e0 : j = i := Option.some.inj q
            subst e0
            exact ⟨_, h2⟩
          | succ p => exact h3 p q
      · cases h
    | _ => exact plain (fun i q => nomatch q) h
  | .nil, _ :: _, _, _, _, h => by cases h
  | .cons a r, [], _, _, _, h => by cases h
/-! ### the states around a call -/
section
variable {K : PySem.W.Frag} {z : L2.St} {e e2 : Ev} {σ : L2.St} {F H F' H' : Hp} {as : Ex} {vs : List V} {ds : List D} {sl os : List Sl}
theorem call_in (R : Rel K z e σ F H) (n : nodupB (musOf as) = true) (g : ArgRel K F σ as vs ds) (h : argSl as ds e = some sl) :
    Rel K (vs.map some) sl (vs.map some) F H ∧ (∀ (i : Nat) (ds : List D), sl[i]? ≠ some (Sl.own true ds)) := by
  obtain ⟨l, q⟩ := argSl_get R g h
  have at1 : ∀ {p : Nat} {v : V}, vs[p]? = some v → (vs.map some)[p]? = some (some v) := fun e => by rw [List.getElem?_map, e]; rfl
  refine ⟨⟨by rw [List.length_map]; exact l, R.sub, fun p d e1 => ?_, fun p fz xs e1 => ?_, fun p p' fz fz' xs xs' a e1 e2 g1 g2 => ?_, fun _ _ _ => rfl⟩, fun p xs e1 => ?_⟩
  · obtain ⟨v, h1, h2⟩ := q p _ e1
    rcases h2 with ⟨d', e3, h2⟩ | ⟨i, fz, xs, _, _, e3, _⟩
    · cases e3
      exact ⟨v, at1 h1, h2⟩
    · cases e3
  · obtain ⟨v, h1, h2⟩ := q p _ e1
    rcases h2 with ⟨d', e3, h2⟩ | ⟨i, fz', xs', h2, h3, e3, h4⟩
    · cases e3
    · cases e3
      obtain ⟨a, us, b1, b2, b3, b4⟩ := R.own i _ _ h3
      rw [h4] at b1
      cases b1
      exact ⟨a, us, at1 h1, b2, b3, b4⟩
  · obtain ⟨v, h1, h2⟩ := q p _ e1
    obtain ⟨v', h1', h2'⟩ := q p' _ e2
    rw [at1 h1] at g1
    rw [at1 h1'] at g2
    cases g1
    cases g2
    rcases h2 with ⟨d', e3, h2⟩ | ⟨i, fz1, xs1, h2, h3, e3, h4⟩
    · cases e3
    · rcases h2' with ⟨d', e3', h2'⟩ | ⟨i', fz2, xs2, h2', h3', e3', h4'⟩
      · cases e3'
      · have ei := R.inj i i' _ _ _ _ a h3 h3' h4 h4'
        subst ei
        exact mus_inj n h2 h2'
  · obtain ⟨v, h1, h2⟩ := q p _ e1
    rcases h2 with ⟨d', e3, h2⟩ | ⟨i, fz, xs', _, _, e3, _⟩
    · cases e3
    · cases e3
theorem call_out (R : Rel K z e σ F H) (n : nodupB (musOf as) = true) (g : ArgRel K F σ as vs ds) (h : argSl as ds e = some sl) (R2 : Rel K (vs.map some) os (vs.map some) F' H') (S2 : Stp sl (vs.map some) F H os (vs.map some) F' H')
    (hw : wbk as os e = some e2) : Rel K z e2 σ F' H' ∧ Stp e σ F H e2 σ F' H' := by
  obtain ⟨l, q⟩ := argSl_get R g h
  obtain ⟨R1, no⟩ := call_in R n g h
  obtain ⟨l2, w⟩ := wbk_get n hw
  have at1 : ∀ {p : Nat} {v : V}, (vs.map some)[p]? = some (some v) → vs[p]? = some v := fun {p v} e => by
    rw [List.getElem?_map] at e
    cases e3 : vs[p]? with
    | none => rw [e3] at e; cases e
    | some u => rw [e3] at e; cases e; rfl
  -- what is lent is the caller's
  have lent : ∀ fz b, OwnAt fz sl (vs.map some) b → ∃ p i fz' xs, muAt as p = some i ∧ e[i]? = some (.own fz' xs) ∧ σ[i]? = some (some (.ref b)) := by
    rintro fz b ⟨p, xs, e1, g1⟩
    obtain ⟨v, h1, h2⟩ := q p _ e1
    have e4 := at1 g1
    rw [h1] at e4
    cases e4
    rcases h2 with ⟨d', e3, h2⟩ | ⟨i, fz', xs', h2, h3, e3, h4⟩
    · cases e3
    · exact ⟨p, i, fz', xs', h2, h3, h4⟩
  -- a name's list: lent, or as it was
  have own2 : ∀ (i : Nat) fz ys, e2[i]? = some (.own fz ys) → ∃ xs, e[i]? = some (.own fz xs) := fun i fz ys e1 => by
    rcases w i with ⟨p, fz', xs, g', ys', h1, h2, h3, h4⟩ | ⟨h1, h2⟩
    · rw [h4] at e1
      cases e1
      exact ⟨xs, h2⟩
    · exact ⟨ys, by rw [← h1]; exact e1⟩
  have ownAt2 : ∀ fz b, OwnAt fz e2 σ b → OwnAt fz e σ b := fun fz b ⟨i, ys, e1, g1⟩ => by
    obtain ⟨xs, e3⟩ := own2 i fz ys e1
    exact ⟨i, xs, e3, g1⟩
  refine ⟨⟨by rw [l2]; exact R.len, R2.sub, fun i d e1 => ?_, fun i fz ys e1 => ?_, fun i j fz fz' xs xs' a e1 e3 g1 g3 => ?_, fun i xs e1 => ?_⟩, ⟨S2.fs, fun b o hb nb => ?_, S2.there, fun b hb => ?_, fun b hb => ownAt2 _ _ hb, fun b hb => ownAt2 _ _ hb⟩⟩
  · rcases w i with ⟨p, fz', xs, g', ys', h1, h2, h3, h4⟩ | ⟨h1, h2⟩
    · rw [h4] at e1
      cases e1
    · rw [h1] at e1
      obtain ⟨v, b1, b2⟩ := R.sh i d e1
      exact ⟨v, b1, dp_mono S2.fs b2⟩
  · rcases w i with ⟨p, fz', xs, g', ys', h1, h2, h3, h4⟩ | ⟨h1, h2⟩
    · rw [h4] at e1
      cases e1
      obtain ⟨a, us, b1, b2, b3, b4⟩ := R2.own p _ _ h3
      have hp := lt_of_get h3
      obtain ⟨a', us', c1, c2, c3, c4⟩ := R.own i _ _ h2
      -- the place p holds the name's own list
      have hsl : p < sl.length := by
        have e5 := R2.len
        rw [List.length_map] at e5
        omega
      obtain ⟨v, d1, d2⟩ := q p _ (List.getElem?_eq_getElem hsl)
      have e6 := at1 b1
      rw [d1] at e6
      cases e6
      rcases d2 with ⟨d', e7, d2⟩ | ⟨i', fz2, xs2, d3, d4, d5, d6⟩
      · -- a value stands there: not with a lent name
        exfalso
        have hm : ∀ {as : Ex} {vs : List V} {ds : List D} {sl : List Sl} {p i : Nat} {fz : Bool} {xs : List D}, argSl as ds e = some sl → muAt as p = some i → e[i]? = some (.own fz xs) → sl[p]? = some (.own false xs) := by
          intro as
          induction as with
          | cons a r _ ihr =>
            intro vs ds sl p i fz xs h1 h2 h3
            cases ds with
            | nil => simp [argSl] at h1
            | cons d ds =>
              unfold argSl at h1
              cases h4 : argSl r ds e with
              | none => rw [h4] at h1; cases h1
              | some t =>
                rw [h4] at h1
                cases p with
                | zero =>
                  cases a <;> first | (cases h2; done) | skip
                  have e0 : _ = i := Option.some.inj h2
                  subst e0
                  simp only [h3] at h1
                  cases h1
                  rfl
                | succ p =>
                  have ih := ihr (vs := vs) h4 h2 h3
                  cases a with
                  | mu j =>
                    simp only at h1
                    split at h1
                    · cases h1; simpa using ih
                    · cases h1; simpa using ih
                    · cases h1
                  | _ => (cases h1; simpa using ih)
          | _ =>
            intro vs ds sl p i fz xs h1 h2 h3
            cases p <;> simp [muAt] at h2
        have e8 := hm (vs := vs) h h1 h2
        rw [List.getElem?_eq_getElem hsl, e7] at e8
        cases e8
      · have hm2 : i' = i := Option.some.inj (d3.symm.trans h1)
        subst hm2
        exact ⟨a, us, d6, b2, b3, b4⟩
    · rw [h1] at e1
      obtain ⟨a, us, b1, b2, b3, b4⟩ := R.own i _ _ e1
      have nl : ∀ fz, ¬ OwnAt fz sl (vs.map some) a := fun fz' z => by
        obtain ⟨p, j, fz2, xs2, c1, c2, c3⟩ := lent fz' a z
        have ej := R.inj i j _ _ _ _ a e1 c2 b1 c3
        subst ej
        obtain ⟨d, c4⟩ := h2 p c1
        rw [e1] at c4
        cases c4
      refine ⟨a, us, b1, S2.keep a _ b2 nl, ?_, dps_mono S2.fs b4⟩
      cases q3 : F' a with
      | none => rfl
      | some o =>
        rcases S2.new a (by rw [q3]; simp) with c | c | c
        · exact absurd b3 c
        · rw [b2] at c; cases c
        · exact absurd c (nl true)
  · obtain ⟨xs1, c1⟩ := own2 i fz xs e1
    obtain ⟨xs2, c2⟩ := own2 j fz' xs' e3
    exact R.inj i j _ _ _ _ a c1 c2 g1 g3
  · obtain ⟨xs1, c1⟩ := own2 i false xs e1
    exact R.io i xs1 c1
  · exact S2.keep b o hb fun fz z => by
      obtain ⟨p, i, fz', xs, c1, c2, c3⟩ := lent fz b z
      exact nb fz' ⟨i, xs, c2, c3⟩
  · rcases S2.new b hb with c | c | c
    · exact .inl c
    · exact .inr (.inl c)
    · obtain ⟨p, xs, e1, _⟩ := c
      exact absurd e1 (no p xs)
end
/-! ### argument lists and calls as terms -/
section
variable {Φ : Fn} {X : Cx} {z : L2.St}
theorem s_anil : PA X [] (SemA Φ X.K z .nil) := pa_imp pa_nil fun σ H Q ⟨e, F, ds, e', R, h, q⟩ => by
  have h : some (PyData.tuple [], e) = some (.tuple ds, e') := h
  cases h
  exact q [] F H R Stp.refl trivial
theorem ev_cons {a r : Ex} {e e' : Ev} {ds : List D} (h : ev Φ (.cons a r) e = some (.tuple ds, e')) : ∃ d e1 ts, ev Φ a e = some (d, e1) ∧ ev Φ r e1 = some (.tuple ts, e') ∧ ds = d :: ts := by
  simp only [ev] at h
  cases h1 : ev Φ a e with
  | none => rw [h1] at h; cases h
  | some w =>
    obtain ⟨d, e1⟩ := w
    rw [h1] at h
    simp only at h
    split at h
    · rename_i ts e2 h2
      cases h
      exact ⟨d, e1, ts, rfl, h2, rfl⟩
    · cases h
theorem s_acons {a r : Ex} {x : Expr} {es : List Expr} (na : ∀ i, a ≠ .mu i) (ha : PE X x (SemE Φ X.K z a)) (hr : PA X es (SemA Φ X.K z r)) (hs : starEach (x :: es) X.env = (false, eval x X.env) :: starEach es X.env) : PA X (x :: es) (SemA Φ X.K z (.cons a r)) := by
  refine pa_imp (pa_cons ha hr hs) fun σ H Q ⟨e, F, ds, e', R, h, q⟩ => ?_
  obtain ⟨d, e1, ts, h1, h2, rfl⟩ := ev_cons h
  refine ⟨e, F, d, e1, R, h1, fun v F1 H1 R1 S1 dp => ⟨e1, F1, ts, e', R1, h2, fun vs F2 H2 R2 S2 g => q (v :: vs) F2 H2 R2 (S1.trans S2) ⟨?_, g⟩⟩⟩
  cases a <;> first | exact absurd rfl (na _) | exact dp_mono S2.fs dp
theorem s_amu {i : Nat} {r : Ex} {x : Str} {p : Pos} {es : List Expr} (hN : X.N[i]? = some x) (hv : Vis X.env.scope x) (hd : (x == ("__debug__" : Str)) = false) (hcd : (x == ("__classdict__" : Str)) = false) (hr : PA X es (SemA Φ X.K z r))
    (hs : starEach (Expr.Name x p :: es) X.env = (false, eval (Expr.Name x p) X.env) :: starEach es X.env) : PA X (Expr.Name x p :: es) (SemA Φ X.K z (.cons (.mu i) r)) := by
  refine pa_imp (pa_cons (pe_var hN hv hd hcd) hr hs) fun σ H Q ⟨e, F, ds, e', R, h, q⟩ => ?_
  obtain ⟨d, e1, ts, h1, h2, rfl⟩ := ev_cons h
  have hv : (∃ v, σ[i]? = some (some v)) ∧ e1 = e ∧ d = .none := by
    have h1 : (match e[i]? with
      | some (.sh _) => some (PyData.none, e)
      | some (.own _ _) => some (PyData.none, e)
      | _ => none) = some (d, e1) := h1
    cases h3 : e[i]? with
    | none => rw [h3] at h1; cases h1
    | some w =>
      rw [h3] at h1
      cases w with
      | un => cases h1
      | sh c =>
        cases h1
        obtain ⟨v, e5, _⟩ := R.sh i c h3
        exact ⟨⟨v, e5⟩, rfl, rfl⟩
      | own fz xs =>
        cases h1
        obtain ⟨a, us, e5, _⟩ := R.own i fz xs h3
        exact ⟨⟨_, e5⟩, rfl, rfl⟩
  obtain ⟨⟨v, hv⟩, rfl, rfl⟩ := hv
  exact ⟨v, hv, e1, F, ts, e', R, h2, fun vs F2 H2 R2 S2 g => q (v :: vs) F2 H2 R2 S2 ⟨hv, g⟩⟩
end
end Iv
end
section
set_option Elab.async false
set_option linter.all false
set_option maxRecDepth 100000
set_option maxHeartbeats 1000000
/-! Names stored; comprehensions. -/
namespace Iv
open PySem PySem.Spec PyProof.Rows L2
/-! ### a slot is stored, slots are forgotten -/
section
variable {K : PySem.W.Frag} {z : L2.St} {e : Ev} {σ : L2.St} {F H : Hp} {i : Nat}
theorem Rel.put (R : Rel K z e σ F H) {d : D} {v : V} (h : Dp K F v d) : Rel K z (e.set i (.sh d)) (σ.set i (some v)) F H where
  len := by rw [List.length_set, List.length_set]; exact R.len
  sub := R.sub
  sh := fun j c q => by
    rcases set_get q with ⟨rfl, e1⟩ | ⟨ne, q⟩
    · cases e1
      have hl := lt_of_get q
      rw [List.length_set, R.len] at hl
      exact ⟨v, List.getElem?_set_self hl, h⟩
    · obtain ⟨w, g1, g2⟩ := R.sh j c q
      exact ⟨w, by rw [List.getElem?_set_ne (Ne.symm ne)]; exact g1, g2⟩
  own := fun j fz ds q => by
    rcases set_get q with ⟨rfl, e1⟩ | ⟨ne, q⟩
    · cases e1
    · obtain ⟨a, vs, g1, g2⟩ := R.own j fz ds q
      exact ⟨a, vs, by rw [List.getElem?_set_ne (Ne.symm ne)]; exact g1, g2⟩
  inj := fun j k fz fz' ds ds' a q q' g g' => by
    rcases set_get q with ⟨rfl, e1⟩ | ⟨ne, q⟩
    · cases e1
    · rcases set_get q' with ⟨rfl, e1⟩ | ⟨ne', q'⟩
      · cases e1
      · rw [List.getElem?_set_ne (Ne.symm ne)] at g
        rw [List.getElem?_set_ne (Ne.symm ne')] at g'
        exact R.inj j k fz fz' ds ds' a q q' g g'
  io := fun j ds q => by
    rcases set_get q with ⟨rfl, e1⟩ | ⟨ne, q⟩
    · cases e1
    · rw [List.getElem?_set_ne (Ne.symm ne)]
      exact R.io j ds q
theorem ownAt_put {fz : Bool} {d : D} {o : Option V} {b : Addr} (h : OwnAt fz (e.set i (.sh d)) (σ.set i o) b) : OwnAt fz e σ b := by
  obtain ⟨j, ds, q, g⟩ := h
  rcases set_get q with ⟨rfl, e1⟩ | ⟨ne, q⟩
  · cases e1
  · rw [List.getElem?_set_ne (Ne.symm ne)] at g
    exact ⟨j, ds, q, g⟩
theorem Stp.of_own {e' : Ev} {σ' : L2.St} (h : ∀ fz b, OwnAt fz e' σ' b → OwnAt fz e σ b) : Stp e σ F H e' σ' F H :=
  ⟨Same.refl _, fun _ _ h _ => h, fun _ h => h, fun _ h => .inl h, fun b q => h _ b q, fun b q => h _ b q⟩
theorem wipeE_len : ∀ vs : List Nat, (wipeE e vs).length = e.length
  | [] => rfl
  | v :: vs => by unfold wipeE; rw [List.length_set, wipeE_len vs]
theorem wipeE_in {s : Sl} {j : Nat} : ∀ {vs : List Nat}, j ∈ vs → (wipeE e vs)[j]? = some s → s = .un
  | v :: vs, h, q => by
    unfold wipeE at q
    rcases set_get q with ⟨rfl, e1⟩ | ⟨ne, q⟩
    · exact e1
    · rcases List.mem_cons.mp h with e2 | h
      · exact absurd e2 ne
      · exact wipeE_in h q
theorem wipeE_out {j : Nat} : ∀ {vs : List Nat}, j ∉ vs → (wipeE e vs)[j]? = e[j]?
  | [], _ => rfl
  | v :: vs, h => by
    unfold wipeE
    rw [List.getElem?_set_ne (fun q => h (by rw [q]; exact List.mem_cons_self))]
    exact wipeE_out fun q => h (List.mem_cons_of_mem _ q)
theorem wipe_in {σ : L2.St} {j : Nat} : ∀ {vs : List Nat} {x : Option V}, j ∈ vs → (wipe σ vs)[j]? = some x → x = none
  | v :: vs, x, h, q => by
    unfold wipe at q
    rcases set_get q with ⟨rfl, e1⟩ | ⟨ne, q⟩
    · exact e1
    · rcases List.mem_cons.mp h with e2 | h
      · exact absurd e2 ne
      · exact wipe_in h q
theorem wipe_out' {σ : L2.St} {j : Nat} : ∀ {vs : List Nat}, j ∉ vs → (wipe σ vs)[j]? = σ[j]?
  | [], _ => rfl
  | v :: vs, h => by
    unfold wipe
    rw [List.getElem?_set_ne (fun q => h (by rw [q]; exact List.mem_cons_self))]
    exact wipe_out' fun q => h (List.mem_cons_of_mem _ q)
theorem wipe_of {σ σ' : L2.St} {vs : List Nat} (hl : σ'.length = σ.length) (h : ∀ j, j ∉ vs → σ'[j]? = σ[j]?) : wipe σ' vs = wipe σ vs := by
  refine List.ext_getElem? fun j => ?_
  by_cases hj : j ∈ vs
  · cases e1 : (wipe σ' vs)[j]? with
    | none =>
      have l1 := List.getElem?_eq_none_iff.mp e1
      rw [wipe_length, hl] at l1
      exact (List.getElem?_eq_none_iff.mpr (by rw [wipe_length]; exact l1)).symm
    | some x =>
      have l1 := lt_of_get e1
      rw [wipe_length, hl] at l1
      have l2 : j < (wipe σ vs).length := by rw [wipe_length]; exact l1
      have e2 := List.getElem?_eq_getElem l2
      rw [wipe_in hj e1, e2, wipe_in hj e2]
  · rw [wipe_out' hj, wipe_out' hj, h j hj]
theorem own_wipe {fz : Bool} {vs : List Nat} {b : Addr} (h : OwnAt fz (wipeE e vs) (wipe σ vs) b) : OwnAt fz e σ b := by
  obtain ⟨j, ds, q, g⟩ := h
  by_cases hj : j ∈ vs
  · cases wipeE_in hj q
  · rw [wipeE_out hj] at q
    rw [wipe_out' hj] at g
    exact ⟨j, ds, q, g⟩
theorem Rel.wipe (R : Rel K z e σ F H) (vs : List Nat) : Rel K z (wipeE e vs) (L2.wipe σ vs) F H where
  len := by rw [wipeE_len, wipe_length]; exact R.len
  sub := R.sub
  sh := fun j c q => by
    by_cases hj : j ∈ vs
    · cases wipeE_in hj q
    · rw [wipeE_out hj] at q
      rw [wipe_out' hj]
      exact R.sh j c q
  own := fun j fz ds q => by
    by_cases hj : j ∈ vs
    · cases wipeE_in hj q
    · rw [wipeE_out hj] at q
      rw [wipe_out' hj]
      exact R.own j fz ds q
  inj := fun j k fz fz' ds ds' a q q' g g' => by
    by_cases hj : j ∈ vs
    · cases wipeE_in hj q
    · by_cases hk : k ∈ vs
      · cases wipeE_in hk q'
      · rw [wipeE_out hj] at q
        rw [wipeE_out hk] at q'
        rw [wipe_out' hj] at g
        rw [wipe_out' hk] at g'
        exact R.inj j k fz fz' ds ds' a q q' g g'
  io := fun j ds q => by
    by_cases hj : j ∈ vs
    · cases wipeE_in hj q
    · rw [wipeE_out hj] at q
      rw [wipe_out' hj]
      exact R.io j ds q
/-- an object that is known to none is changed -/
theorem Rel.mut (R : Rel K z e σ F H) {p : Addr} {o : HO} (hF : F p = none) (no : ∀ fz, ¬ OwnAt fz e σ p) : Rel K z e σ F (upd H p o) where
  len := R.len
  sub := fun b u q => by
    by_cases hb : b = p
    · subst hb; rw [hF] at q; cases q
    · rw [upd_ne hb]; exact R.sub b u q
  sh := R.sh
  own := fun j fz ds q => by
    obtain ⟨a, vs, h1, h2, h3, h4⟩ := R.own j fz ds q
    have ne : a ≠ p := fun w => no fz ⟨j, ds, q, by rw [h1, w]⟩
    exact ⟨a, vs, h1, by rw [upd_ne ne]; exact h2, h3, h4⟩
  inj := R.inj
  io := R.io
theorem Stp.mut {e' : Ev} {σ' : L2.St} {F' H' : Hp} (S : Stp e σ F H e' σ' F' H') {p : Addr} {o : HO} (hp : H p = none) : Stp e σ F H e' σ' F' (upd H' p o) :=
  ⟨S.fs, fun b u h n => by
    have ne : b ≠ p := ne_of_none h hp
    rw [upd_ne ne]
    exact S.keep b u h n, fun b h => by
    by_cases hb : b = p
    · subst hb; rw [upd_same]; simp
    · rw [upd_ne hb]; exact S.there b h, S.new, S.owT, S.owF⟩
end
/-! ### targets -/
def gNames : List Nat → TGs
  | [] => gNil
  | i :: r => gCons (gName i) (gNames r)
def tgG (K : PySem.W.Frag) : Tg → TG
  | .nm i => gName i
  | .tp is => gTup K is.length (gNames is)
section
variable {K : PySem.W.Frag} {z : L2.St} {F H : Hp}
theorem gNames_ok : ∀ {is : List Nat} {ds : List D} {vs : List V} {e e1 : Ev} {σ : L2.St} {Q : L2.St → Hp → Prop}, Rel K z e σ F H → DpAll K F vs ds → setAll e is ds = some e1 →
    (∀ σ', Rel K z e1 σ' F H → Stp e σ F H e1 σ' F H → σ'.length = σ.length → (∀ j, j ∉ is → σ'[j]? = σ[j]?) → Q σ' H) → gNames is vs σ H Q
  | [], [], vs, e, e1, σ, Q, R, dp, h, q => by
    cases dp
    cases h
    exact ⟨rfl, q σ R Stp.refl rfl fun _ _ => rfl⟩
  | i :: is, d :: ds, vs, e, e1, σ, Q, R, dp, h, q => by
    cases dp with
    | cons d1 d2 =>
      refine ⟨_, _, rfl, ?_⟩
      refine gNames_ok (e := e.set i (.sh d)) (R.put d1) d2 h fun σ' R' S' hl hj => q σ' R' ((Stp.of_own fun fz b => ownAt_put).trans S') (by rw [hl, List.length_set]) fun j nj => ?_
      rw [hj j (fun m => nj (List.mem_cons_of_mem _ m)), List.getElem?_set_ne (fun m => nj (by rw [m]; exact List.mem_cons_self))]
  | [], _ :: _, _, _, _, _, _, _, _, h, _ => by cases h
  | _ :: _, [], _, _, _, _, _, _, _, h, _ => by cases h
theorem setAll_len : ∀ {is : List Nat} {ds : List D} {e e1 : Ev}, setAll e is ds = some e1 → is.length = ds.length
  | [], [], _, _, _ => rfl
  | _ :: is, _ :: ds, _, _, h => by rw [List.length_cons, List.length_cons, setAll_len (is := is) (ds := ds) h]
  | [], _ :: _, _, _, h => by cases h
  | _ :: _, [], _, _, h => by cases h
theorem tgG_ok {g : Tg} {d : D} {v : V} {e e1 : Ev} {σ : L2.St} {Q : L2.St → Hp → Prop} (R : Rel K z e σ F H) (dp : Dp K F v d) (h : bindT g d e = some e1)
    (q : ∀ σ', Rel K z e1 σ' F H → Stp e σ F H e1 σ' F H → σ'.length = σ.length → (∀ j, j ∉ tgIxs g → σ'[j]? = σ[j]?) → Q σ' H) : tgG K g v σ H Q := by
  cases g with
  | nm i =>
    cases h
    exact q _ (R.put dp) (Stp.of_own fun fz b => ownAt_put) (by rw [List.length_set]) fun j nj => List.getElem?_set_ne (fun m => nj (by simp [tgIxs, m]))
  | tp is =>
    cases dp with
    | tup h1 h2 =>
      have h : setAll e is _ = some e1 := h
      exact ⟨_, _, rfl, same_t R.sub h1, by rw [dps_len h2]; exact (setAll_len h).symm, gNames_ok R h2 h q⟩
    | _ => cases h
end
/-! ### comprehensions -/
def SemC (Φ : Fn) (K : PySem.W.Frag) (z : L2.St) (c : Ex) : TT := fun σ H Q => ∃ e F b e', Rel K z e σ F H ∧ lcT c (ev Φ c) e = some (b, e') ∧
  ∀ F' H', Rel K z e' σ F' H' → Stp e σ F H e' σ F' H' → Q b H'
/-- a fresh list, not known yet -/
def SemF (Φ : Fn) (K : PySem.W.Frag) (z : L2.St) (t : Ex) : TE := fun σ H Q => ∃ e F ds e', Rel K z e σ F H ∧ ev Φ t e = some (.list ds, e') ∧
  ∀ p us F' H', Rel K z e' σ F' H' → Stp e σ F H e' σ F' H' → H p = none → H' p = some (.lst us) → F' p = none → DpAll K F' us ds → Q (.ref p) H'
theorem Rel.noOwn {K : PySem.W.Frag} {z : L2.St} {e : Ev} {σ : L2.St} {F H : Hp} (R : Rel K z e σ F H) {p : Addr} (h : H p = none) : ∀ fz, ¬ OwnAt fz e σ p := by
  rintro fz ⟨i, ds, q, g⟩
  obtain ⟨a, vs, h1, h2, _⟩ := R.own i fz ds q
  rw [g] at h1
  cases h1
  rw [h] at h2
  cases h2
theorem Stp.noOwn {K : PySem.W.Frag} {z : L2.St} {e e' : Ev} {σ σ' : L2.St} {F H F' H' : Hp} (S : Stp e σ F H e' σ' F' H') (R : Rel K z e σ F H) {p : Addr} (h : H p = none) : ∀ fz, ¬ OwnAt fz e' σ' p := by
  rintro fz q
  cases fz with
  | true => exact R.noOwn h _ (S.owT p q)
  | false => exact R.noOwn h _ (S.owF p q)
theorem backE_len {e0 e : Ev} : ∀ vs : List Nat, (backE e0 e vs).length = e.length
  | [] => rfl
  | v :: vs => by unfold backE; rw [List.length_set, backE_len vs]
theorem backE_in {e0 e : Ev} {j : Nat} {s : Sl} : ∀ {vs : List Nat}, j ∈ vs → (backE e0 e vs)[j]? = some s → s = e0.getD j .un
  | v :: vs, h, q => by
    unfold backE at q
    rcases set_get q with ⟨rfl, e1⟩ | ⟨ne, q⟩
    · exact e1
    · rcases List.mem_cons.mp h with e2 | h
      · exact absurd e2 ne
      · exact backE_in h q
theorem backE_out {e0 e : Ev} {j : Nat} : ∀ {vs : List Nat}, j ∉ vs → (backE e0 e vs)[j]? = e[j]?
  | [], _ => rfl
  | v :: vs, h => by
    unfold backE
    rw [List.getElem?_set_ne (fun q => h (by rw [q]; exact List.mem_cons_self))]
    exact backE_out fun q => h (List.mem_cons_of_mem _ q)
theorem getD_some {e0 : Ev} {j : Nat} {s : Sl} (h : e0.getD j .un = s) (n : s ≠ .un) : e0[j]? = some s := by
  rw [List.getD_eq_getElem?_getD] at h
  cases q : e0[j]? with
  | none => rw [q] at h; exact absurd h.symm n
  | some w => rw [q] at h; rw [← h]; rfl
/-- behind a comprehension: its own names are as they were -/
theorem back_ok {K : PySem.W.Frag} {z : L2.St} {e2 en : Ev} {σ : L2.St} {F1 H1 F' H' : Hp} {vs : List Nat} (R1 : Rel K z e2 σ F1 H1) (Rn : Rel K z (wipeE en vs) (wipe σ vs) F' H') (S : Stp (wipeE e2 vs) (wipe σ vs) F1 H1 (wipeE en vs) (wipe σ vs) F' H') :
    Rel K z (backE e2 en vs) σ F' H' ∧ Stp e2 σ F1 H1 (backE e2 en vs) σ F' H' := by
  -- the own lists of the names that are back are no others
  have apart : ∀ j fz ds a, j ∈ vs → e2[j]? = some (.own fz ds) → σ[j]? = some (some (.ref a)) → ∀ fz', ¬ OwnAt fz' (wipeE e2 vs) (wipe σ vs) a := by
    rintro j fz ds a hj h g fz' ⟨k, ds', q, g'⟩
    by_cases hk : k ∈ vs
    · cases wipeE_in hk q
    · rw [wipeE_out hk] at q
      rw [wipe_out' hk] at g'
      have ejk := R1.inj j k fz fz' ds ds' a h q g g'
      subst ejk
      exact hk hj
  have ownS : ∀ j fz ds, (backE e2 en vs)[j]? = some (.own fz ds) → (j ∈ vs ∧ e2[j]? = some (.own fz ds)) ∨ (j ∉ vs ∧ (wipeE en vs)[j]? = some (.own fz ds)) := fun j fz ds q => by
    by_cases hj : j ∈ vs
    · exact .inl ⟨hj, getD_some (backE_in hj q).symm (fun z => nomatch z)⟩
    · rw [backE_out hj] at q
      exact .inr ⟨hj, by rw [wipeE_out hj]; exact q⟩
  have keepA : ∀ j fz ds a us, j ∈ vs → e2[j]? = some (.own fz ds) → σ[j]? = some (some (.ref a)) → H1 a = some (.lst us) → F1 a = none → H' a = some (.lst us) ∧ F' a = none := by
    intro j fz ds a us hj h g hH hF
    have ap := apart j fz ds a hj h g
    refine ⟨S.keep a _ hH ap, ?_⟩
    cases q : F' a with
    | none => rfl
    | some o =>
      rcases S.new a (by rw [q]; simp) with c | c | c
      · exact absurd hF c
      · rw [hH] at c; cases c
      · exact absurd c (ap true)
  have own2 : ∀ fz b, OwnAt fz (backE e2 en vs) σ b → OwnAt fz e2 σ b := by
    rintro fz b ⟨j, ds, q, g⟩
    rcases ownS j fz ds q with ⟨hj, h⟩ | ⟨hj, h⟩
    · exact ⟨j, ds, h, g⟩
    · have w : OwnAt fz (wipeE en vs) (wipe σ vs) b := ⟨j, ds, h, by rw [wipe_out' hj]; exact g⟩
      cases fz with
      | true => exact own_wipe (S.owT b w)
      | false => exact own_wipe (S.owF b w)
  refine ⟨⟨?_, Rn.sub, fun j d q => ?_, fun j fz ds q => ?_, fun j k fz fz' ds ds' a q q' g g' => ?_, fun j ds q => ?_⟩, ⟨S.fs, fun b o h n => S.keep b o h fun fz w => n fz (own_wipe w), S.there, fun b h => ?_, fun b => own2 _ b, fun b => own2 _ b⟩⟩
  · have l := Rn.len
    rw [wipeE_len, wipe_length] at l
    rw [backE_len]
    exact l
  · by_cases hj : j ∈ vs
    · have q2 := getD_some (backE_in hj q).symm (fun z => nomatch z)
      obtain ⟨v, g1, g2⟩ := R1.sh j d q2
      exact ⟨v, g1, dp_mono S.fs g2⟩
    · rw [backE_out hj] at q
      obtain ⟨v, g1, g2⟩ := Rn.sh j d (by rw [wipeE_out hj]; exact q)
      rw [wipe_out' hj] at g1
      exact ⟨v, g1, g2⟩
  · rcases ownS j fz ds q with ⟨hj, h⟩ | ⟨hj, h⟩
    · obtain ⟨a, us, g1, g2, g3, g4⟩ := R1.own j fz ds h
      obtain ⟨k1, k2⟩ := keepA j fz ds a us hj h g1 g2 g3
      exact ⟨a, us, g1, k1, k2, dps_mono S.fs g4⟩
    · obtain ⟨a, us, g1, g2⟩ := Rn.own j fz ds h
      rw [wipe_out' hj] at g1
      exact ⟨a, us, g1, g2⟩
  · rcases ownS j fz ds q with ⟨hj, h⟩ | ⟨hj, h⟩
    · rcases ownS k fz' ds' q' with ⟨hk, h'⟩ | ⟨hk, h'⟩
      · exact R1.inj j k _ _ _ _ a h h' g g'
      · exfalso
        have w : OwnAt fz' (wipeE en vs) (wipe σ vs) a := ⟨k, ds', h', by rw [wipe_out' hk]; exact g'⟩
        cases fz' with
        | true => exact apart j fz ds a hj h g _ (S.owT a w)
        | false => exact apart j fz ds a hj h g _ (S.owF a w)
    · rcases ownS k fz' ds' q' with ⟨hk, h'⟩ | ⟨hk, h'⟩
      · exfalso
        have w : OwnAt fz (wipeE en vs) (wipe σ vs) a := ⟨j, ds, h, by rw [wipe_out' hj]; exact g⟩
        cases fz with
        | true => exact apart k fz' ds' a hk h' g' _ (S.owT a w)
        | false => exact apart k fz' ds' a hk h' g' _ (S.owF a w)
      · exact Rn.inj j k _ _ _ _ a h h' (by rw [wipe_out' hj]; exact g) (by rw [wipe_out' hk]; exact g')
  · rcases ownS j _ ds q with ⟨hj, h⟩ | ⟨hj, h⟩
    · exact R1.io j ds h
    · have w := Rn.io j ds h
      rw [wipe_out' hj] at w
      exact w
  · rcases S.new b h with c | c | c
    · exact .inl c
    · exact .inr (.inl c)
    · exact .inr (.inr (own_wipe c))
end Iv
end
section
set_option Elab.async false
set_option linter.all false
set_option maxRecDepth 100000
set_option maxHeartbeats 1000000
/-! Terms: each construct's reading. -/
namespace Iv
open PySem PySem.Spec PyProof.Rows L2
/-! ### a comprehension -/
theorem lcGo_cons {own : List Nat} {g : Tg} {c : Ev → Option (Bool × Ev)} {f : Ev → Option (D × Ev)} {d : D} {ds acc r : List D} {e e3 : Ev} (h : lcGo own g c f (d :: ds) e acc = some (r, e3)) :
    ∃ e1 b e2, bindT g d (wipeE e own) = some e1 ∧ c e1 = some (b, e2) ∧ ((b = false ∧ lcGo own g c f ds e2 acc = some (r, e3)) ∨ (b = true ∧ ∃ y e4, f e2 = some (y, e4) ∧ acc.length < sizeLine ∧ lcGo own g c f ds e4 (acc ++ [y]) = some (r, e3))) := by
  unfold lcGo at h
  cases h1 : bindT g d (wipeE e own) with
  | none => rw [h1] at h; cases h
  | some e1 =>
    rw [h1] at h
    simp only at h
    cases h2 : c e1 with
    | none => rw [h2] at h; cases h
    | some w =>
      obtain ⟨b, e2⟩ := w
      rw [h2] at h
      cases b with
      | false => exact ⟨e1, false, e2, rfl, h2, .inl ⟨rfl, h⟩⟩
      | true =>
        simp only at h
        cases h3 : f e2 with
        | none => rw [h3] at h; cases h
        | some w =>
          obtain ⟨y, e4⟩ := w
          rw [h3] at h
          simp only at h
          split at h
          · rename_i hz
            exact ⟨e1, true, e2, rfl, h2, .inr ⟨rfl, y, e4, h3, hz, h⟩⟩
          · cases h
theorem lc_loop {Φ : Fn} {K : PySem.W.Frag} {z : L2.St} {g : Tg} {c f : Ex} {vs : List Nat} {ds : List D} {J : It} {σ : L2.St} {e2 e3 : Ev} {F1 H1 : Hp} {r : List D} {Q : VK} {P : Addr} (hg : ∀ j ∈ tgIxs g, j ∈ vs) (R1 : Rel K z e2 σ F1 H1) (it : ItOk K J F1 ds) (nP : H1 P = none)
    (h : lcGo vs g (lcT c (ev Φ c)) (ev Φ f) ds e2 [] = some (r, e3))
    (q : ∀ us F' H', Rel K z (backE e2 e3 vs) σ F' H' → Stp e2 σ F1 H1 (backE e2 e3 vs) σ F' H' → H' P = some (.lst us) → F' P = none → DpAll K F' us r → Q (.ref P) H') :
    ∃ W : Nat → Nat → Hp → Prop, (∃ m, W 0 m (upd H1 P (.lst []))) ∧ ∀ i m H, W i m H →
      (J.stop i H ∧ Q (.ref P) H) ∨ (J.go i H ∧ ∃ Nx : Hp → Prop, (∀ H', Nx H' → ∃ m', m' < m ∧ W (i + 1) m' H') ∧ ∀ x H', J.yld i H x H' → tgG K g x (wipe σ vs) H' fun σ2 H2 => wipe σ2 vs = wipe σ vs ∧ SemC Φ K z c σ2 H2 fun b H3 =>
        if b = true then SemE Φ K z f σ2 H3 fun y H4 => ∃ acc, H4 P = some (.lst acc) ∧ acc.length < sizeLine ∧ Nx (upd H4 P (.lst (acc ++ [y]))) else Nx H3) := by
  let Wv : Nat → Hp → Prop := fun i H => ∃ en F us acc, Rel K z (wipeE en vs) (wipe σ vs) F H ∧ Stp (wipeE e2 vs) (wipe σ vs) F1 H1 (wipeE en vs) (wipe σ vs) F H ∧ H P = some (.lst us) ∧ F P = none ∧ DpAll K F us acc ∧
    lcGo vs g (lcT c (ev Φ c)) (ev Φ f) (ds.drop i) en acc = some (r, e3)
  have Rw := R1.wipe vs
  have fP : F1 P = none := R1.frees nP
  refine ⟨fun i m H => m = ds.length - i ∧ i ≤ ds.length ∧ Wv i H, ⟨ds.length, by simp, Nat.zero_le _, e2, F1, [], [], Rw.mut fP (Rw.noOwn nP), Stp.refl.mut nP, upd_same, fP, .nil, h⟩, ?_⟩
  rintro i m H ⟨rfl, hi, en, F, us, acc, R, S, hP, hF, dp, hgo⟩
  by_cases hlt : i < ds.length
  · refine .inr ⟨it.go i F H S.fs R.sub hlt, Wv (i + 1), fun H' w => ⟨ds.length - (i + 1), by omega, rfl, hlt, w⟩, fun x H' hy => ?_⟩
    have hd := List.getElem?_eq_getElem hlt
    rw [List.drop_eq_getElem_cons hlt] at hgo
    obtain ⟨e1, b, e4, hb, hc, hrest⟩ := lcGo_cons hgo
    -- the item comes, perhaps as a new pair
    have item : ∃ Fi, Rel K z (wipeE en vs) (wipe σ vs) Fi H' ∧ Stp (wipeE en vs) (wipe σ vs) F H (wipeE en vs) (wipe σ vs) Fi H' ∧ Dp K Fi x ds[i] := by
      rcases it.yld i F H x H' _ S.fs R.sub hd hy with ⟨rfl, d1⟩ | ⟨T, o, hT, rfl, d1⟩
      · exact ⟨F, R, Stp.refl, d1⟩
      · exact ⟨_, R.new hT, Stp.new1 R hT, d1⟩
    obtain ⟨Fi, Ri, Si, di⟩ := item
    refine tgG_ok Ri di hb fun σ2 R2 S2 hl hj => ⟨?_, ?_⟩
    · have w := wipe_of (vs := vs) hl fun j nj => hj j fun m => nj (hg j m)
      rw [w]
      exact wipe_of (by rw [wipe_length]) fun j nj => wipe_out' nj
    have ww : wipe σ2 vs = wipe σ vs := by
      have w := wipe_of (vs := vs) hl fun j nj => hj j fun m => nj (hg j m)
      rw [w]
      exact wipe_of (by rw [wipe_length]) fun j nj => wipe_out' nj
    refine ⟨e1, Fi, b, e4, R2, hc, fun F3 H3 R3 S3 => ?_⟩
    have S13 := (S.trans Si).trans (S2.trans S3)
    have noP3 : ∀ fz, ¬ OwnAt fz (wipeE e2 vs) (wipe σ vs) P := Rw.noOwn nP
    have keepP : ∀ {ea : Ev} {sa : L2.St} {Fa Ha : Hp} {eb : Ev} {sb : L2.St} {Fb Hb : Hp}, Stp (wipeE e2 vs) (wipe σ vs) F1 H1 ea sa Fa Ha → Stp ea sa Fa Ha eb sb Fb Hb → Ha P = some (.lst us) → Fa P = none → Hb P = some (.lst us) ∧ Fb P = none := by
      intro ea sa Fa Ha eb sb Fb Hb A B hA fA
      have no := A.noOwn Rw nP
      refine ⟨B.keep P _ hA no, ?_⟩
      cases q3 : Fb P with
      | none => rfl
      | some o =>
        rcases B.new P (by rw [q3]; simp) with c | c | c
        · exact absurd fA c
        · rw [hA] at c; cases c
        · exact absurd c (no true)
    obtain ⟨hP3, hF3⟩ := keepP S (Si.trans (S2.trans S3)) hP hF
    have dp3 : DpAll K F3 us acc := dps_mono (Si.trans (S2.trans S3)).fs dp
    rcases hrest with ⟨rfl, hgo'⟩ | ⟨rfl, y, e5, hf, hz, hgo'⟩
    · refine iteF ?_
      have Rw3 := R3.wipe vs
      rw [ww] at Rw3
      refine ⟨e4, F3, us, acc, Rw3, ?_, hP3, hF3, dp3, hgo'⟩
      refine S13.trans (Stp.of_own fun fz b w => ?_)
      rw [← ww] at w
      exact own_wipe w
    · refine iteT ?_
      refine ⟨e4, F3, y, e5, R3, hf, fun v F4 H4 R4 S4 d4 => ?_⟩
      obtain ⟨hP4, hF4⟩ := keepP S13 S4 hP3 hF3
      have dp4 : DpAll K F4 us acc := dps_mono S4.fs dp3
      refine ⟨us, hP4, by rw [dps_len dp4]; exact hz, ?_⟩
      have S14 := S13.trans S4
      have Rw4 := R4.wipe vs
      rw [ww] at Rw4
      have no4 : ∀ fz, ¬ OwnAt fz (wipeE e5 vs) (wipe σ vs) P := fun fz w => by
        rw [← ww] at w
        exact S14.noOwn Rw nP fz (own_wipe w)
      refine ⟨e5, F4, us ++ [v], acc ++ [y], Rw4.mut hF4 no4, ?_, upd_same, hF4, dps_app dp4 (.cons d4 .nil), hgo'⟩
      refine Stp.mut (S14.trans (Stp.of_own fun fz b w => ?_)) nP
      rw [← ww] at w
      exact own_wipe w
  · have e : i = ds.length := by omega
    subst e
    rw [List.drop_length] at hgo
    have hgo : some (acc, en) = some (r, e3) := hgo
    cases hgo
    obtain ⟨Rb, Sb⟩ := back_ok R1 R S
    exact .inl ⟨it.stop F H S.fs R.sub, q us F H Rb Sb hP hF dp⟩
theorem ev_lc {Φ : Fn} {own : List (Str × Nat)} {g : Tg} {k : Ik} {a b c f : Ex} {e e' : Ev} {d : D} (h : ev Φ (.lc own g k a b c f) e = some (d, e')) :
    ∃ ds e2 r e3, evI Φ k a b e = some (ds, e2) ∧ lcGo (own.map (·.2)) g (lcT c (ev Φ c)) (ev Φ f) ds e2 [] = some (r, e3) ∧ d = .list r ∧ e' = backE e2 e3 (own.map (·.2)) := by
  simp only [ev] at h
  cases h1 : ev Φ a e with
  | none => rw [h1] at h; cases h
  | some w =>
    obtain ⟨x, e1⟩ := w
    rw [h1] at h
    simp only at h
    cases h2 : ev Φ b e1 with
    | none => rw [h2] at h; cases h
    | some w =>
      obtain ⟨y, e2⟩ := w
      rw [h2] at h
      simp only at h
      cases h3 : walkD k x y with
      | none => rw [h3] at h; cases h
      | some ds =>
        rw [h3] at h
        simp only at h
        split at h
        · rename_i acc e3 h4
          cases h
          exact ⟨ds, e2, acc, e3, by unfold evI; rw [h1]; simp only [h2, h3, Option.map_some], h4, rfl, rfl⟩
        · cases h
section
variable {Φ : Fn} {X : Cx} {z : L2.St}
theorem f_lc {elt tg iter : Expr} {ifs : List Expr} {scope : Scope} {own : List (Str × Nat)} {pos : Pos} {g : Tg} {k : Ik} {a b c f : Ex} (hc : X.calm = true) (hN : X.N.Nodup) (hi : PI X tg iter (SemI Φ X.K z k a b)) (ok : BlkOk X.N X.env.scope scope own) (hin : ∀ j ∈ tgIxs g, j ∈ own.map (·.2))
    (hg : ∀ (s : Shared) (H : Hp) (C : Addr) (cl : List (Str × Addr)) (fp : List Addr), PG (X.blk s H scope (compEnvC scope cl C X.env) fp) tg (tgG X.K g))
    (ht : ∀ (s : Shared) (H : Hp) (C : Addr) (cl : List (Str × Addr)) (fp : List Addr), PTs (X.blk s H scope (compEnvC scope cl C X.env) fp) ifs (SemC Φ X.K z c))
    (he : ∀ (s : Shared) (H : Hp) (C : Addr) (cl : List (Str × Addr)) (fp : List Addr), PE (X.blk s H scope (compEnvC scope cl C X.env) fp) elt (SemE Φ X.K z f)) (hs : ∀ x, foldedSetIterable iter X.env x = pure x) :
    PE X (.ListComp elt [⟨tg, iter, ifs, 0⟩] scope pos) (SemF Φ X.K z (.lc own g k a b c f)) := by
  refine pe_imp (pe_lc hc hN hi ok hg ht he hs) fun σ H Q ⟨e, F, ds', e', R, h, q⟩ => ?_
  obtain ⟨ds, e2, r, e3, h1, h2, e4, rfl⟩ := ev_lc h
  cases e4
  refine ⟨e, F, ds, e2, R, h1, fun J F1 H1 R1 S1 it P nP => ?_⟩
  refine lc_loop hin R1 it nP h2 fun us F' H' R' S' hP hF dp => q P us F' H' R' (S1.trans S') ?_ hP hF dp
  cases q2 : H P with
  | none => rfl
  | some o => exact absurd nP (S1.there P (by rw [q2]; simp))
theorem fp_lc {elt tg iter : Expr} {ifs : List Expr} {scope : Scope} {own : List (Str × Nat)} {pos spos py : Pos} {y : Str} {i : Nat} {g : Tg} {k : Ik} {a b c f : Ex} (hc : X.calm = true) (hN : X.N.Nodup) (hy : X.N[i]? = some y) (hyl : X.env.scope.names.lookup y = some .local)
    (hsw : swapsWith (.ListComp elt [⟨tg, iter, ifs, 0⟩] scope pos) (some (.Name y py)) spos.line X.env = pure true) (hi : PI X tg iter (SemI Φ X.K z k a b)) (ok : BlkOk X.N X.env.scope scope own) (hin : ∀ j ∈ tgIxs g, j ∈ own.map (·.2))
    (hg : ∀ (s : Shared) (H : Hp) (C : Addr) (cl : List (Str × Addr)) (fp : List Addr), PG (X.blk s H scope (compEnvC scope cl C X.env) fp) tg (tgG X.K g))
    (ht : ∀ (s : Shared) (H : Hp) (C : Addr) (cl : List (Str × Addr)) (fp : List Addr), PTs (X.blk s H scope (compEnvC scope cl C X.env) fp) ifs (SemC Φ X.K z c))
    (he : ∀ (s : Shared) (H : Hp) (C : Addr) (cl : List (Str × Addr)) (fp : List Addr), PE (X.blk s H scope (compEnvC scope cl C X.env) fp) elt (SemE Φ X.K z f)) (hs : ∀ x, foldedSetIterable iter X.env x = pure x) :
    PS X (.Assign [.Name y py] (.ListComp elt [⟨tg, iter, ifs, 0⟩] scope pos) spos) (tAsg (SemF Φ X.K z (.lc own g k a b c f)) (gName i)) := by
  refine ps_imp (ps_setLc hc hN hy hyl hsw hi ok hg ht he hs) fun D σ H ⟨e, F, ds', e', R, h, q⟩ => ?_
  obtain ⟨ds, e2, r, e3, h1, h2, e4, rfl⟩ := ev_lc h
  cases e4
  refine ⟨e, F, ds, e2, R, h1, fun J F1 H1 R1 S1 it P nP => ?_⟩
  refine lc_loop (Q := fun x H1 => gName i x σ H1 D.nx) hin R1 it nP h2 fun us F' H' R' S' hP hF dp => q P us F' H' R' (S1.trans S') ?_ hP hF dp
  cases q2 : H P with
  | none => rfl
  | some o => exact absurd nP (S1.there P (by rw [q2]; simp))
/-- a fresh list becomes a value -/
theorem semE_of_F {t : Ex} {x : Expr} (h : PE X x (SemF Φ X.K z t)) (hl : ∀ e d e', ev Φ t e = some (d, e') → ∃ ds, d = .list ds) : PE X x (SemE Φ X.K z t) := by
  refine pe_imp h fun σ H Q ⟨e, F, d, e', R, he, q⟩ => ?_
  obtain ⟨ds, rfl⟩ := hl e d e' he
  refine ⟨e, F, ds, e', R, he, fun p us F' H' R' S' hp hP hF dp => ?_⟩
  have m : Same F' (upd F' p (.lst us)) := Same.fresh hF
  refine q (.ref p) (upd F' p (.lst us)) H' (R'.know hP hF (S'.noOwn R hp)) ⟨S'.fs.trans m, S'.keep, S'.there, fun b hb => ?_, S'.owT, S'.owF⟩ (.lst (.inl (.inl upd_same)) (dps_mono m dp))
  by_cases e1 : b = p
  · subst e1
    exact .inr (.inl hp)
  · rw [upd_ne e1] at hb
    exact S'.new b hb
end
end Iv
end
section
set_option Elab.async false
set_option linter.all false
set_option maxRecDepth 100000
set_option maxHeartbeats 1000000
/-! The look that holds a term against the text. -/
namespace Iv
open PySem PySem.Spec PyProof.Rows L2
/-- what a def's text may speak of: its names, the module's constants, the builtins, the defs, how they may be called by keywords -/
structure Cc where
  N : List Str
  glo : List (Str × D)
  bis : List Str
  fns : List (Str × List Str)
  kws : List (Nat × Nat × List Str × List Nat)
  frs : List Nat
def plainN (x : Str) : Bool := !(x == ("__debug__" : Str)) && !(x == ("__classdict__" : Str))
def visB (sc : Scope) (x : Str) : Bool := match sc.names.lookup x with
  | some .local => true | some .cell => true | some .free => true | _ => false
def locB (sc : Scope) (x : Str) : Bool := match sc.names.lookup x with
  | some .local => true | some .cell => true | _ => false
def gloB (sc : Scope) (x : Str) : Bool := decide (sc.names.lookup x = some .globalImplicit) && plainN x
def nmB (C : Cc) (sc : Scope) (i : Nat) (x : Str) : Bool := decide (C.N[i]? = some x) && visB sc x && plainN x
def notStar : Expr → Bool
  | .Starred _ _ => false
  | _ => true
def notSet : Expr → Bool
  | .Set _ _ _ => false
  | _ => true
def notSlice : Expr → Bool
  | .Slice _ _ _ _ => false
  | _ => true
def cstB : D → Const → Bool
  | .none, .none => true
  | .bool a, .bool b => a == b
  | .int a, .int b => a == b
  | .str a, .str b => decide (a = b)
  | _, _ => false
def isNoe : Ex → Bool
  | .noe => true
  | _ => false
def memG (x : Str) (d : D) : List (Str × D) → Bool
  | [] => false
  | (y, c) :: r => (decide (x = y) && same d c) || memG x d r
def b1N : B1 → Str
  | .len => "len" | .abs => "abs" | .max => "max" | .min => "min" | .sum => "sum" | .all => "all" | .any => "any" | .int => "int" | .str => "str" | .repr => "repr" | .list => "list" | .tup => "tuple" | .sorted => "sorted"
def b2N : B2 → Str
  | .max => "max" | .min => "min" | .dvm => "divmod"
def bltB (C : Cc) (sc : Scope) (x y : Str) : Bool := decide (x = y) && gloB sc y && C.bis.contains y
/-- a built-in type by its name -/
def tyNB (C : Cc) (sc : Scope) (t : String) : Expr → Bool
  | .Name y _ => decide (y = Str.ofString t) && gloB sc y && C.bis.contains y && ["int", "bool", "str", "tuple", "list"].contains t
  | _ => false
def tyNsB (C : Cc) (sc : Scope) : List String → List Expr → Bool
  | [], [] => true
  | t :: ts, e :: es => tyNB C sc t e && notStar e && tyNsB C sc ts es
  | _, _ => false
def tyB (C : Cc) (sc : Scope) (ts : List String) (e : Expr) : Bool := match e with
  | .Tuple es _ _ => tyNsB C sc ts es && decide (ts.length ≤ 9)
  | _ => match ts with
    | [t] => tyNB C sc t e
    | _ => false
def tgB (C : Cc) (ok : Str → Bool) : Tg → Expr → Bool
  | .nm i, .Name x _ => decide (C.N[i]? = some x) && ok x
  | .tp is, .Tuple es _ _ => decide (is.length = es.length) && (is.zip es).all fun p => match p.2 with
      | .Name x _ => decide (C.N[p.1]? = some x) && ok x
      | _ => false
  | _, _ => false
def isTupE : Expr → Bool
  | .Tuple _ _ _ => true
  | _ => false
def tOk : Ex → Bool
  | .ite _ _ _ => false
  | .mu _ => false
  | _ => true
/-- a comprehension's own names are stored where they are its own -/
def ownB (scope sc : Scope) (x : Str) : Bool := match (relS scope sc).names.lookup x with
  | some .local => true
  | some .cell => decide (scope.names.lookup x = some .cell)
  | _ => false
mutual
def chk (C : Cc) : Ex → Scope → Expr → Bool
  | .var i, sc, e => match e with
    | .Name x _ => nmB C sc i x
    | _ => false
  | .cst d, _, e => match e with
    | .Constant c _ _ => cstB d c
    | _ => false
  | .glo x d, sc, e => match e with
    | .Name y _ => decide (x = y) && gloB sc y && memG x d C.glo
    | _ => false
  | .bin o a b, sc, e => match e with
    | .BinOp l op r _ => decide (op = boOp o) && chk C a sc l && chk C b sc r
    | _ => false
  | .neg a, sc, e => match e with
    | .UnaryOp .USub x _ => chk C a sc x
    | _ => false
  | .nt a, sc, e => match e with
    | .UnaryOp .Not x _ => chk C a sc x && tOk a
    | _ => false
  | .and a b, sc, e => match e with
    | .BoolOp .And (x :: y :: rest) pos => chk C a sc x && tOk a && tOk b && (match rest with
      | [] => chk C b sc y
      | _ => chk C b sc (.BoolOp .And (y :: rest) pos))
    | _ => false
  | .or a b, sc, e => match e with
    | .BoolOp .Or (x :: y :: rest) pos => chk C a sc x && tOk a && tOk b && (match rest with
      | [] => chk C b sc y
      | _ => chk C b sc (.BoolOp .Or (y :: rest) pos))
    | _ => false
  | .cmp o a b, sc, e => match e with
    | .Compare l [op] [r] _ => decide (op = coOp o) && chk C a sc l && chk C b sc r && notSet r
    | _ => false
  | .chn o p a b c, sc, e => match e with
    | .Compare l [op, op'] [m, r] _ => decide (op = coOp o) && decide (op' = coOp p) && chk C a sc l && chk C b sc m && chk C c sc r && notSet r
    | _ => false
  | .ite c a b, sc, e => match e with
    | .IfExp t x y _ => chk C c sc t && tOk c && chk C a sc x && chk C b sc y
    | _ => false
  | .tup as, sc, e => match e with
    | .Tuple es _ _ => noMu as && chkL C as sc es
    | _ => false
  | .lst as, sc, e => match e with
    | .List es _ => noMu as && chkL C as sc es
    | _ => false
  | .rep as n, sc, e => match e with
    | .BinOp (.List es _) .Mult r _ => noMu as && chkL C as sc es && chk C n sc r
    | _ => false
  | .idx a i, sc, e => match e with
    | .Subscript v s _ => notSlice s && chk C a sc v && chk C i sc s
    | _ => false
  | .slc a lo hi, sc, e => match e with
    | .Subscript v (.Slice l h none _) _ => chk C a sc v && (match l with
      | none => isNoe lo
      | some x => chk C lo sc x && !isNoe lo) && (match h with
      | none => isNoe hi
      | some x => chk C hi sc x && !isNoe hi)
    | _ => false
  | .call j as, sc, e => match e with
    | .Call (.Name x _) es [] _ => (match C.fns[j]? with
      | some (y, ps) => decide (x = y)
      | none => false) && gloB sc x && es.all notStar && chkL C as sc es
    | _ => false
  | .calk j as ks perm, sc, e => match e with
    | .Call (.Name x _) es kws _ => (match C.fns[j]? with
      | some (y, ps) => decide (x = y)
      | none => false) && gloB sc x && es.all notStar && noMu as && noMu ks && chkL C as sc es && chkL C ks sc (kws.map (·.value)) && kws.all (·.arg.isSome) && decide ((j, es.length, kws.filterMap (·.arg), perm) ∈ C.kws)
    | _ => false
  | .b1 b a, sc, e => match e with
    | .Call (.Name x _) [y] [] _ => bltB C sc (b1N b) x && chk C a sc y && notStar y
    | _ => false
  | .b2 b a c, sc, e => match e with
    | .Call (.Name x _) [y, w] [] _ => bltB C sc (b2N b) x && chk C a sc y && chk C c sc w && notStar y && notStar w
    | _ => false
  | .isi a ts, sc, e => match e with
    | .Call (.Name x _) [y, w] [] _ => bltB C sc "isinstance" x && chk C a sc y && tyB C sc ts w && notStar y && notStar w
    | _ => false
  | .lc own g k a b c f, sc, e => match e with
    | .ListComp elt [⟨tg, iter, ifs, asy⟩] scope _ => decide (asy = 0) && blkC C.N sc scope own && tgB C (ownB scope sc) g tg && ((tgIxs g).all fun j => (own.map (·.2)).contains j) && notSet iter &&
      (match k with
        | .walk => chk C a sc iter && isNoe b
        | .enm => isTupE tg && isNoe b && (match iter with
          | .Call (.Name x _) [y] [] _ => bltB C sc "enumerate" x && chk C a sc y && notStar y
          | _ => false)
        | .zip => isTupE tg && (match iter with
          | .Call (.Name x _) [y, w] [] _ => bltB C sc "zip" x && chk C a sc y && chk C b sc w && notStar y && notStar w
          | _ => false)
        | .rng => isNoe b && (match iter with
          | .Call (.Name x _) [y] [] _ => bltB C sc "range" x && chk C a sc y && notStar y
          | _ => false)
        | .rng2 => (match iter with
          | .Call (.Name x _) [y, w] [] _ => bltB C sc "range" x && chk C a sc y && chk C b sc w && notStar y && notStar w
          | _ => false)) &&
      (match ifs with
        | [] => isNoe c
        | [t] => chk C c (relS scope sc) t && tOk c && !isNoe c
        | _ => false) && chk C f (relS scope sc) elt
    | _ => false
  | .cf j a, sc, e => match e with
    | .Call (.Name x _) [y] [] _ => (match C.fns[j]? with
      | some (y, ps) => decide (x = y)
      | none => false) && gloB sc x && notStar y && (match a with
      | .call j _ => C.frs.contains j
      | .calk j _ _ _ => C.frs.contains j
      | _ => false) && chk C a sc y
    | _ => false
  | .m1 m a b, sc, e => match m with
    | .lrng => match e with
      | .Call (.Name x _) [.Call (.Name y _) [w] [] _] [] _ => isNoe b && bltB C sc "list" x && bltB C sc "range" y && chk C a sc w && notStar w
      | _ => false
    | .fr => (match a with
      | .call j _ => C.frs.contains j
      | .calk j _ _ _ => C.frs.contains j
      | _ => false) && chk C a sc e
    | _ => false
  | _, _, _ => false
def chkL (C : Cc) : Ex → Scope → List Expr → Bool
  | .nil, _, es => es.isEmpty
  | .cons a r, sc, es => match es with
    | e :: t => notStar e && (match a with
      | .mu i => (match e with
        | .Name x _ => nmB C sc i x
        | _ => false)
      | _ => chk C a sc e) && chkL C r sc t
    | [] => false
  | _, _, _ => false
end
end Iv
end
section
set_option Elab.async false
set_option linter.all false
set_option maxRecDepth 100000
set_option maxHeartbeats 1000000
/-! What passes the look is read as its term is evaluated: expressions. -/
namespace Iv
open PySem PySem.Spec PyProof.Rows L2
def FrAt (K : PySem.W.Frag) (H : Hp) (e' : Ev) (σ' : L2.St) (F' H' : Hp) (v : V) (d : D) : Prop :=
  ∃ p us ds, v = .ref p ∧ d = .list ds ∧ H' p = some (.lst us) ∧ F' p = none ∧ DpAll K F' us ds ∧ (∀ fz, ¬ OwnAt fz e' σ' p) ∧ H p = none
/-- .. where it gives a list of its own -/
def SpR (K : PySem.W.Frag) (Φ : Fn) (j : Nat) : Sp := fun vs H Q _ => ∃ (args : List Sl) (F : Hp) (d : D) (os : List Sl), Rel K (vs.map some) args (vs.map some) F H ∧ (∀ (i : Nat) (ds : List D), args[i]? ≠ some (Sl.own true ds)) ∧ Φ j args = some (d, os) ∧ (∃ xs, d = .list xs) ∧
  ∀ v F' H', Rel K (vs.map some) os (vs.map some) F' H' → Stp args (vs.map some) F H os (vs.map some) F' H' → FrAt K H os (vs.map some) F' H' v d → Q v H'
structure COk (C : Cc) (Φ : Fn) (k : Nat) (X : Cx) : Prop where
  N : X.N = C.N
  nd : C.N.Nodup
  calm : X.calm = true
  room : Room k X.A
  gd : X.A.guards = some []
  glo : ∀ x d, (x, d) ∈ C.glo → ∃ v u, X.mg x = some u ∧ RelV v u ∧ Dp X.K (fun _ => none) v d
  bis : ∀ x, C.bis.contains x = true → X.mg x = none
  fns : ∀ j x ps, C.fns[j]? = some (x, ps) → ∃ f fd, X.mg x = some (.ref f) ∧ PySem.W.keepIn X.K (.ref f) = true ∧ Binds X.K fd ps [] ∧ FnG X.prog X.w X.K X.mg X.base k f fd ps (SpF X.K Φ j) ∧
    (∀ n ks perm, (j, n, ks, perm) ∈ C.kws → KwOk X.K fd ps n ks perm) ∧ (C.frs.contains j = true → FnG X.prog X.w X.K X.mg X.base k f fd ps (SpR X.K Φ j))
theorem COk.blk {C : Cc} {Φ : Fn} {k : Nat} {X : Cx} (h : COk C Φ k X) (s : Shared) (H : Hp) (scope : Scope) (cenv : Env) (fp : List Addr) : COk C Φ k (X.blk s H scope cenv fp) :=
  ⟨h.N, h.nd, h.calm, h.room, h.gd, h.glo, h.bis, h.fns⟩
/-! ### small facts of the text -/
theorem star_of {e : Expr} {env : Env} (h : notStar e = true) (r : List Expr) : starEach (e :: r) env = (false, eval e env) :: starEach r env := by
  cases e <;> first | rfl | cases h
theorem nostar_any {env : Env} {pos : Pos} : ∀ {es : List Expr}, es.all notStar = true → (backTo pos (starEach es env)).any (·.1) = false
  | [], _ => rfl
  | e :: r, h => by
    rw [List.all_cons, Bool.and_eq_true] at h
    rw [star_of h.1]
    show (false || (backTo pos (starEach r env)).any (·.1)) = false
    rw [nostar_any h.2]
    rfl
theorem folded_of {e : Expr} {env : Env} (h : notSet e = true) : ∀ x, foldedSetIterable e env x = pure x := by
  intro x
  cases e <;> first | rfl | cases h
theorem marks_of {e : Expr} {op : CmpOp} (h : notSet e = true) : behindInMarks op e = false := by
  cases e <;> first | rfl | cases h
theorem ix_of {e : Expr} (h : notSlice e = true) : PlainIx e := by
  intro o i
  cases e <;> first | rfl | cases h
def plainHead : Expr → Bool
  | .Name _ _ => true | .Constant _ _ _ => true | .BinOp _ _ _ _ => true | .Call _ _ _ _ => true | .Subscript _ _ _ => true | .Tuple _ _ _ => true | .List _ _ => true | .ListComp _ _ _ _ => true | .UnaryOp .USub _ _ => true
  | _ => false
theorem he_of {e : Expr} {env : Env} (h : plainHead e = true) : ∀ whole, isTrue e env whole = (do let v ← whole; standAt e.pos; holding [v] (truthy v)) := by
  intro whole
  cases e with
  | UnaryOp op x pos => cases op <;> first | rfl | cases h
  | _ => first | rfl | cases h
theorem kw_some {env : Env} {pos : Pos} : ∀ {kws : List Keyword}, kws.all (·.arg.isSome) = true → (backToKw pos (keywordEach kws env)).all (·.1.isSome) = true ∧ (backToKw pos (keywordEach kws env)).any (·.1.isNone) = false
  | [], _ => ⟨rfl, rfl⟩
  | ⟨n, v, p⟩ :: r, h => by
    rw [List.all_cons, Bool.and_eq_true] at h
    obtain ⟨a, b⟩ := kw_some (env := env) (pos := pos) h.2
    have h1 : n.isSome = true := h.1
    refine ⟨?_, ?_⟩
    · show (n.isSome && (backToKw pos (keywordEach r env)).all (·.1.isSome)) = true
      rw [h1, a]
      rfl
    · show (n.isNone || (backToKw pos (keywordEach r env)).any (·.1.isNone)) = false
      rw [b]
      cases n <;> first | rfl | cases h1
theorem kw_names {env : Env} {pos : Pos} : ∀ {kws : List Keyword}, (backToKw pos (keywordEach kws env)).filterMap (·.1) = kws.filterMap (·.arg)
  | [] => rfl
  | ⟨n, v, p⟩ :: r => by
    have ih := kw_names (env := env) (pos := pos) (kws := r)
    show List.filterMap (·.1) ((n, _) :: backToKw pos (keywordEach r env)) = List.filterMap (·.arg) (⟨n, v, p⟩ :: r)
    cases n with
    | none => exact ih
    | some x => exact congrArg (x :: ·) ih
theorem plain_of {x : Str} (h : plainN x = true) : (x == ("__debug__" : Str)) = false ∧ (x == ("__classdict__" : Str)) = false := by
  unfold plainN at h
  rw [Bool.and_eq_true, Bool.not_eq_true', Bool.not_eq_true'] at h
  exact h
theorem vis_of {sc : Scope} {x : Str} (h : visB sc x = true) : Vis sc x := by
  unfold visB at h
  unfold Vis
  split at h <;> first | (rename_i q; exact .inl q) | (rename_i q; exact .inr (.inl q)) | (rename_i q; exact .inr (.inr q)) | cases h
theorem memG_of {x : Str} {d : D} : ∀ {l : List (Str × D)}, memG x d l = true → (x, d) ∈ l
  | (y, c) :: r, h => by
    unfold memG at h
    rw [Bool.or_eq_true, Bool.and_eq_true] at h
    rcases h with ⟨h1, h2⟩ | h
    · rw [of_decide_eq_true h1, same_eq h2]
      exact List.mem_cons_self
    · exact List.mem_cons_of_mem _ (memG_of h)
section
variable {C : Cc} {Φ : Fn} {k : Nat} {X : Cx} {z : L2.St}
theorem nm_of {i : Nat} {x : Str} (h : COk C Φ k X) (n : nmB C X.env.scope i x = true) : X.N[i]? = some x ∧ Vis X.env.scope x ∧ (x == ("__debug__" : Str)) = false ∧ (x == ("__classdict__" : Str)) = false := by
  unfold nmB at n
  rw [Bool.and_eq_true, Bool.and_eq_true] at n
  obtain ⟨a, b⟩ := plain_of n.2
  exact ⟨by rw [h.N]; exact of_decide_eq_true n.1.1, vis_of n.1.2, a, b⟩
theorem gl_of {x : Str} (n : gloB X.env.scope x = true) : Gl X x ∧ (x == ("__debug__" : Str)) = false := by
  unfold gloB at n
  rw [Bool.and_eq_true] at n
  exact ⟨(show X.env.scope.names.lookup x = some .globalImplicit from of_decide_eq_true n.1), (plain_of n.2).1⟩
theorem blt_of {x y : Str} (h : COk C Φ k X) (n : bltB C X.env.scope x y = true) : x = y ∧ Gl X y ∧ X.mg y = none ∧ (y == ("__debug__" : Str)) = false := by
  unfold bltB at n
  rw [Bool.and_eq_true, Bool.and_eq_true] at n
  obtain ⟨a, b⟩ := gl_of n.1.2
  exact ⟨of_decide_eq_true n.1.1, a, h.bis y n.2, b⟩
/-! ### from values to operands and tests -/
theorem semO_of {t : Ex} {x : Expr} (n : ∀ i, t ≠ .var i) (h : PE X x (SemE Φ X.K z t)) : PE X x (SemO Φ X.K z t) := by
  refine pe_imp h fun σ H Q ⟨e, F, o, e', R, he, q⟩ => ?_
  have he' : (match ev Φ t e with
      | some (d, e') => some (Op.v d, e')
      | none => none) = some (o, e') := by
    unfold opd at he
    cases t <;> first | exact absurd rfl (n _) | exact he
  cases h1 : ev Φ t e with
  | none => rw [h1] at he'; cases he'
  | some w =>
    obtain ⟨d, e1⟩ := w
    rw [h1] at he'
    cases he'
    exact ⟨e, F, d, e', R, h1, fun v F' H' R' S' dp => q v F' H' R' S' dp⟩
theorem semO_var {i : Nat} {x : Str} {p : Pos} (hN : X.N[i]? = some x) (hv : Vis X.env.scope x) (hd : (x == ("__debug__" : Str)) = false) (hcd : (x == ("__classdict__" : Str)) = false) : PE X (.Name x p) (SemO Φ X.K z (.var i)) := by
  refine pe_imp (pe_var hN hv hd hcd) fun σ H Q ⟨e, F, o, e', R, he, q⟩ => ?_
  have he : (match e[i]? with
    | some (.sh _) => some (Op.s i, e)
    | some (.own _ _) => some (Op.s i, e)
    | _ => none) = some (o, e') := he
  cases hs : e[i]? with
  | none => rw [hs] at he; cases he
  | some s =>
    rw [hs] at he
    cases s with
    | un => cases he
    | sh c =>
      cases he
      obtain ⟨v, e5, _⟩ := R.sh i c hs
      exact ⟨v, e5, q v F H R Stp.refl e5⟩
    | own fz xs =>
      cases he
      obtain ⟨a, us, e5, _⟩ := R.own i fz xs hs
      exact ⟨_, e5, q _ F H R Stp.refl e5⟩
theorem s_var {i : Nat} {x : Str} {p : Pos} (hN : X.N[i]? = some x) (hv : Vis X.env.scope x) (hd : (x == ("__debug__" : Str)) = false) (hcd : (x == ("__classdict__" : Str)) = false) : PE X (.Name x p) (SemE Φ X.K z (.var i)) := by
  refine pe_imp (pe_var hN hv hd hcd) fun σ H Q ⟨e, F, d, e', R, he, q⟩ => ?_
  have he : rdv e i = some (d, e') := he
  unfold rdv at he
  cases hs : e[i]? with
  | none => rw [hs] at he; cases he
  | some s =>
    rw [hs] at he
    cases s with
    | un => cases he
    | sh c =>
      cases he
      obtain ⟨v, e5, dp⟩ := R.sh i _ hs
      exact ⟨v, e5, q v F H R Stp.refl dp⟩
    | own fz xs =>
      cases fz with
      | false => cases he
      | true =>
        cases he
        obtain ⟨a, us, h1, h2, h3, h4, R', S', dp⟩ := R.freeze hs
        exact ⟨_, h1, q _ _ H R' S' dp⟩
/-- a test, by the truth of a value -/
theorem semT_tru {t : Ex} {x : Expr} (hp : plainHead x = true) (h : PE X x (SemO Φ X.K z t)) : PT X x (SemT Φ X.K z t) := by
  refine pt_imp (pt_truth h (he_of hp)) fun σ H Q ⟨e, F, b, e', R, he, q⟩ => ?_
  obtain ⟨o, p, h1, h2, h3⟩ := opT_get he
  refine ⟨e, F, o, e', R, h1, fun v F' H' R' S' g => ⟨b, tru_v R' (R'.res g h2) h3, q F' H' R' S'⟩⟩
/-- a test that is a bool -/
theorem opT_val {t : Ex} {e e' : Ev} {b : Bool} (n : ∀ i, t ≠ .var i) (h : opT t (ev Φ t) e = some (b, e')) : ∃ d, ev Φ t e = some (d, e') ∧ truth d = some b := by
  obtain ⟨o, p, h1, h2, h3⟩ := opT_get h
  have h1' : (match ev Φ t e with
      | some (d, e') => some (Op.v d, e')
      | none => none) = some (o, e') := by
    unfold opd at h1
    cases t <;> first | exact absurd rfl (n _) | exact h1
  cases h4 : ev Φ t e with
  | none => rw [h4] at h1'; cases h1'
  | some w =>
    obtain ⟨d, e1⟩ := w
    rw [h4] at h1'
    cases h1'
    have h2 : some d = some p := h2
    cases h2
    exact ⟨_, rfl, h3⟩
theorem opT_of {t : Ex} {e e' : Ev} {b : Bool} (h : ev Φ t e = some (.bool b, e')) (nm : ∀ i, t ≠ .mu i) : opT t (ev Φ t) e = some (b, e') := by
  cases t with
  | var i =>
    have h : rdv e i = some (.bool b, e') := h
    unfold rdv at h
    cases hs : e[i]? with
    | none => rw [hs] at h; cases h
    | some s =>
      rw [hs] at h
      cases s with
      | un => cases h
      | sh c =>
        cases h
        simp only [opT, opd, hs, res, truth, Option.map_some]
      | own fz xs => cases fz <;> cases h
  | _ => simp only [opT, opd, h, res, truth, Option.map_some]
theorem semT_E {t : Ex} {σ : L2.St} {H : Hp} {Q : Bool → Hp → Prop} {K : PySem.W.Frag} (n : ∀ i, t ≠ .var i) (hb : ∀ e d e', ev Φ t e = some (d, e') → ∃ b, d = .bool b) (h : SemT Φ K z t σ H Q) : SemE Φ K z t σ H (fun x H' => ∃ c, x = .bl c ∧ Q c H') := by
  obtain ⟨e, F, b, e', R, he, q⟩ := h
  obtain ⟨d, h1, h2⟩ := opT_val n he
  obtain ⟨c, rfl⟩ := hb e d e' h1
  have h2 : some c = some b := h2
  cases h2
  exact ⟨e, F, _, e', R, h1, fun v F' H' R' S' dp => by cases dp; exact ⟨_, rfl, q F' H' R' S'⟩⟩
/-! ### each construct -/
theorem s_cst {d : D} {c : Const} {j : Nat} {p : Pos} (h : cstB d c = true) : PE X (.Constant c j p) (SemE Φ X.K z (.cst d)) := by
  have fin : ∀ {v : V} {σ : L2.St} {H : Hp} {Q : VK}, (∀ F, Dp X.K F v d) → SemE Φ X.K z (.cst d) σ H Q → Q v H := fun hv ⟨e, F, d', e', R, he, q⟩ => by
    have he : some (d, e) = some (d', e') := he
    cases he
    exact q _ F _ R Stp.refl (hv F)
  unfold cstB at h
  split at h
  · exact pe_imp pe_non fun σ H Q q => fin (fun F => .non) q
  · have e := beq_iff_eq.mp h
    subst e
    exact pe_imp pe_bl fun σ H Q q => fin (fun F => .bl _) q
  · have e := beq_iff_eq.mp h
    subst e
    exact pe_imp pe_int fun σ H Q q => fin (fun F => .int _) q
  · have e := of_decide_eq_true h
    subst e
    exact pe_imp pe_str fun σ H Q q => fin (fun F => .str _) q
  · cases h
theorem s_glo {x : Str} {d : D} {p : Pos} (h : COk C Φ k X) (hg : Gl X x) (hd : (x == ("__debug__" : Str)) = false) (hm : (x, d) ∈ C.glo) : PE X (.Name x p) (SemE Φ X.K z (.glo x d)) := by
  obtain ⟨v, u, h1, h2, h3⟩ := h.glo x d hm
  refine pe_imp (pe_glob hg h1 h2 hd) fun σ H Q ⟨e, F, d', e', R, he, q⟩ => ?_
  have he : some (d, e) = some (d', e') := he
  cases he
  exact q _ F _ R Stp.refl (dp_mono (fun _ _ q => by cases q) h3)
theorem s_bin {o : Bo} {a b : Ex} {l r : Expr} {p : Pos} (ha : PE X l (SemO Φ X.K z a)) (hb : PE X r (SemO Φ X.K z b)) : PE X (.BinOp l (boOp o) r p) (SemE Φ X.K z (.bin o a b)) :=
  pe_imp (pe_op (op_bin o) ha hb) fun σ H Q h => sem2 (ans_bin o) h
theorem s_neg {a : Ex} {l : Expr} {p : Pos} (ha : PE X l (SemO Φ X.K z a)) : PE X (.UnaryOp .USub l p) (SemE Φ X.K z (.neg a)) :=
  pe_imp (pe_un un_neg ha) fun σ H Q h => sem1 ans_neg h
theorem s_nt {a : Ex} {l : Expr} {p : Pos} (ha : PE X l (SemO Φ X.K z a)) : PE X (.UnaryOp .Not l p) (SemE Φ X.K z (.nt a)) :=
  pe_imp (pe_notT ha) fun σ H Q h => sem1 ans_nt h
theorem t_nt {a : Ex} {l : Expr} {p : Pos} (ha : PT X l (SemT Φ X.K z a)) : PT X (.UnaryOp .Not l p) (SemT Φ X.K z (.nt a)) := by
  refine pt_imp (pt_not ha) fun σ H Q ⟨e, F, b, e', R, he, q⟩ => ?_
  obtain ⟨d, h1, h2⟩ := opT_val (by intro i q; cases q) he
  obtain ⟨o, pp, g1, g2, g3⟩ := op1_get h1
  obtain ⟨c, g4, rfl⟩ := Option.map_eq_some_iff.mp g3
  have h2 : some (!c) = some b := h2
  cases h2
  refine ⟨e, F, c, e', R, ?_, fun F' H' R' S' => q F' H' R' S'⟩
  unfold opT
  rw [g1]
  simp only [g2, g4, Option.map_some]
theorem s_cmp (hk : COk C Φ k X) {o : Co} {a b : Ex} {l r : Expr} {p : Pos} (ha : PE X l (SemO Φ X.K z a)) (hb : PE X r (SemO Φ X.K z b)) (hm : behindInMarks (coOp o) r = false) :
    PE X (.Compare l [coOp o] [r] p) (SemE Φ X.K z (.cmp o a b)) ∧ PT X (.Compare l [coOp o] [r] p) (SemT Φ X.K z (.cmp o a b)) := by
  have hu : X.A.units + 65 < cLine := by have := hk.room.un; omega
  refine ⟨pe_imp (pe_cmpR (op_cmp hu o) ha hb hm) fun σ H Q h => sem2 (ans_cmp o) h, pt_imp (pt_cmpR (op_cmp hu o) ha hb hm) fun σ H Q h => ?_⟩
  refine sem2 (ans_cmp o) (semT_E (by intro i q; cases q) (fun e d e' h => ?_) h)
  obtain ⟨x, e1, y, p', q', _, _, _, _, h5⟩ := op2_get (show op2 a (ev Φ a) b (ev Φ b) (fun p q => (cmpD o p q).map .bool) e = some (d, e') from h)
  obtain ⟨c, _, rfl⟩ := Option.map_eq_some_iff.mp h5
  exact ⟨c, rfl⟩
theorem ev_chn {o p : Co} {a b c : Ex} {e e' : Ev} {d : D} (h : ev Φ (.chn o p a b c) e = some (d, e')) : ∃ x e1 y e2, ev Φ a e = some (x, e1) ∧ ev Φ b e1 = some (y, e2) ∧
    ((cmpD o x y = some false ∧ d = .bool false ∧ e' = e2) ∨ (cmpD o x y = some true ∧ ∃ w t, ev Φ c e2 = some (w, e') ∧ cmpD p y w = some t ∧ d = .bool t)) := by
  simp only [ev] at h
  cases h1 : ev Φ a e with
  | none => rw [h1] at h; cases h
  | some w =>
    obtain ⟨x, e1⟩ := w
    rw [h1] at h
    simp only at h
    cases h2 : ev Φ b e1 with
    | none => rw [h2] at h; cases h
    | some w =>
      obtain ⟨y, e2⟩ := w
      rw [h2] at h
      simp only at h
      cases h3 : cmpD o x y with
      | none => rw [h3] at h; cases h
      | some t =>
        rw [h3] at h
        cases t with
        | false =>
          cases h
          exact ⟨x, e1, y, _, rfl, h2, .inl ⟨h3, rfl, rfl⟩⟩
        | true =>
          simp only at h
          cases h4 : ev Φ c e2 with
          | none => rw [h4] at h; cases h
          | some w =>
            obtain ⟨w, e3⟩ := w
            rw [h4] at h
            simp only at h
            cases h5 : cmpD p y w with
            | none => rw [h5] at h; cases h
            | some t =>
              rw [h5] at h
              cases h
              exact ⟨x, e1, y, e2, rfl, h2, .inr ⟨h3, w, t, h4, h5, rfl⟩⟩
theorem s_chn (hk : COk C Φ k X) {o q : Co} {a b c : Ex} {l m r : Expr} {p : Pos} (ha : PE X l (SemE Φ X.K z a)) (hb : PE X m (SemE Φ X.K z b)) (hc : PE X r (SemE Φ X.K z c)) (hm : lastMarks [coOp o, coOp q] [m, r] = false) :
    PE X (.Compare l [coOp o, coOp q] [m, r] p) (SemE Φ X.K z (.chn o q a b c)) ∧ PT X (.Compare l [coOp o, coOp q] [m, r] p) (SemT Φ X.K z (.chn o q a b c)) := by
  have hu : X.A.units + 65 < cLine := by have := hk.room.un; omega
  have main : ∀ {σ : L2.St} {H : Hp} {Q : VK}, SemE Φ X.K z (.chn o q a b c) σ H Q → tChain (rCmp X.K o) (rCmp X.K q) (SemE Φ X.K z a) (SemE Φ X.K z b) (SemE Φ X.K z c) σ H Q := by
    rintro σ H Q ⟨e, F, d, e', R, he, qf⟩
    obtain ⟨x, e1, y, e2, h1, h2, h3⟩ := ev_chn he
    refine ⟨e, F, x, e1, R, h1, fun v F1 H1 R1 S1 d1 => ⟨e1, F1, y, e2, R1, h2, fun u F2 H2 R2 S2 d2 => ?_⟩⟩
    rcases h3 with ⟨h3, rfl, rfl⟩ | ⟨h3, w, t, h4, h5, rfl⟩
    · refine ans_cmp o z e' σ F2 H2 v u x y (.bool false) _ R2 (.of R2.sub (dp_mono S2.fs d1)) (.of R2.sub d2) (by show (cmpD o x y).map PyData.bool = _; rw [h3]; rfl) fun v3 F3 H3 R3 S3 d3 => ?_
      cases d3
      refine ⟨false, rfl, iteF ?_⟩
      exact qf _ F3 H3 R3 ((S1.trans S2).trans S3) (.bl _)
    · refine ans_cmp o z e2 σ F2 H2 v u x y (.bool true) _ R2 (.of R2.sub (dp_mono S2.fs d1)) (.of R2.sub d2) (by show (cmpD o x y).map PyData.bool = _; rw [h3]; rfl) fun v3 F3 H3 R3 S3 d3 => ?_
      cases d3
      refine ⟨true, rfl, iteT ?_⟩
      refine ⟨e2, F3, w, e', R3, h4, fun v4 F4 H4 R4 S4 d4 => ?_⟩
      exact ans_cmp q z e' σ F4 H4 u v4 y w (.bool t) Q R4 (.of R4.sub (dp_mono (S3.trans S4).fs d2)) (.of R4.sub d4) (by show (cmpD q y w).map PyData.bool = _; rw [h5]; rfl) fun v5 F5 H5 R5 S5 d5 => qf v5 F5 H5 R5 ((((S1.trans S2).trans S3).trans S4).trans S5) d5
  refine ⟨pe_imp (pe_chain (op_cmp hu o) (op_cmp hu q) ha hb hc hm) fun σ H Q h => main h, pt_imp (pt_chain (op_cmp hu o) (op_cmp hu q) ha hb hc hm) fun σ H Q h => ?_⟩
  refine main (semT_E (by intro i q; cases q) (fun e d e' h => ?_) h)
  obtain ⟨x, e1, y, e2, _, _, h3⟩ := ev_chn h
  rcases h3 with ⟨_, rfl, _⟩ | ⟨_, w, t, _, _, rfl⟩
  · exact ⟨_, rfl⟩
  · exact ⟨_, rfl⟩
/-! ### and, or, if .. else -/
theorem ev_and {a b : Ex} {e e' : Ev} {d : D} (h : ev Φ (.and a b) e = some (d, e')) : ∃ t, d = .bool t ∧ ((t = false ∧ ev Φ a e = some (.bool false, e')) ∨ ∃ e1, ev Φ a e = some (.bool true, e1) ∧ ev Φ b e1 = some (.bool t, e')) := by
  simp only [ev] at h
  split at h
  · rename_i e1 h1
    split at h
    · rename_i t e2 h2
      cases h
      exact ⟨t, rfl, .inr ⟨e1, h1, h2⟩⟩
    · cases h
  · rename_i e1 h1
    cases h
    exact ⟨false, rfl, .inl ⟨rfl, h1⟩⟩
  · cases h
theorem ev_or {a b : Ex} {e e' : Ev} {d : D} (h : ev Φ (.or a b) e = some (d, e')) : ∃ t, d = .bool t ∧ ((t = true ∧ ev Φ a e = some (.bool true, e')) ∨ ∃ e1, ev Φ a e = some (.bool false, e1) ∧ ev Φ b e1 = some (.bool t, e')) := by
  simp only [ev] at h
  split at h
  · rename_i e1 h1
    cases h
    exact ⟨true, rfl, .inl ⟨rfl, h1⟩⟩
  · rename_i e1 h1
    split at h
    · rename_i t e2 h2
      cases h
      exact ⟨t, rfl, .inr ⟨e1, h1, h2⟩⟩
    · cases h
  · cases h
theorem m_and {K : PySem.W.Frag} {a b : Ex} {σ : L2.St} {H : Hp} {Q : VK} (h : SemE Φ K z (.and a b) σ H Q) : tAndV (SemE Φ K z a) (SemE Φ K z b) σ H Q := by
  obtain ⟨e, F, d, e', R, he, q⟩ := h
  obtain ⟨t, rfl, h1 | ⟨e1, h1, h2⟩⟩ := ev_and he
  · obtain ⟨rfl, h1⟩ := h1
    exact ⟨e, F, _, e', R, h1, fun v F1 H1 R1 S1 d1 => by cases d1; exact ⟨false, rfl, iteF (q _ F1 H1 R1 S1 (.bl _))⟩⟩
  · exact ⟨e, F, _, e1, R, h1, fun v F1 H1 R1 S1 d1 => by
      cases d1
      exact ⟨true, rfl, iteT ⟨e1, F1, _, e', R1, h2, fun v2 F2 H2 R2 S2 d2 => q v2 F2 H2 R2 (S1.trans S2) d2⟩⟩⟩
theorem m_or {K : PySem.W.Frag} {a b : Ex} {σ : L2.St} {H : Hp} {Q : VK} (h : SemE Φ K z (.or a b) σ H Q) : tOrV (SemE Φ K z a) (SemE Φ K z b) σ H Q := by
  obtain ⟨e, F, d, e', R, he, q⟩ := h
  obtain ⟨t, rfl, h1 | ⟨e1, h1, h2⟩⟩ := ev_or he
  · obtain ⟨rfl, h1⟩ := h1
    exact ⟨e, F, _, e', R, h1, fun v F1 H1 R1 S1 d1 => by cases d1; exact ⟨true, rfl, iteT (q _ F1 H1 R1 S1 (.bl _))⟩⟩
  · exact ⟨e, F, _, e1, R, h1, fun v F1 H1 R1 S1 d1 => by
      cases d1
      exact ⟨false, rfl, iteF ⟨e1, F1, _, e', R1, h2, fun v2 F2 H2 R2 S2 d2 => q v2 F2 H2 R2 (S1.trans S2) d2⟩⟩⟩
theorem mt_and {K : PySem.W.Frag} {a b : Ex} (na : ∀ i, a ≠ .mu i) (nb : ∀ i, b ≠ .mu i) {σ : L2.St} {H : Hp} {Q : Bool → Hp → Prop} (h : SemT Φ K z (.and a b) σ H Q) : tAnd (SemT Φ K z a) (SemT Φ K z b) σ H Q := by
  obtain ⟨e, F, t', e', R, he, q⟩ := h
  obtain ⟨d, h0, h00⟩ := opT_val (by intro i q; cases q) he
  obtain ⟨t, rfl, h1 | ⟨e1, h1, h2⟩⟩ := ev_and h0
  · obtain ⟨rfl, h1⟩ := h1
    cases (show some false = some t' from h00)
    exact ⟨e, F, false, e', R, opT_of h1 na, fun F1 H1 R1 S1 => iteF (q F1 H1 R1 S1)⟩
  · cases (show some t = some t' from h00)
    exact ⟨e, F, true, e1, R, opT_of h1 na, fun F1 H1 R1 S1 => iteT ⟨e1, F1, _, e', R1, opT_of h2 nb, fun F2 H2 R2 S2 => q F2 H2 R2 (S1.trans S2)⟩⟩
theorem mt_or {K : PySem.W.Frag} {a b : Ex} (na : ∀ i, a ≠ .mu i) (nb : ∀ i, b ≠ .mu i) {σ : L2.St} {H : Hp} {Q : Bool → Hp → Prop} (h : SemT Φ K z (.or a b) σ H Q) : tOr (SemT Φ K z a) (SemT Φ K z b) σ H Q := by
  obtain ⟨e, F, t', e', R, he, q⟩ := h
  obtain ⟨d, h0, h00⟩ := opT_val (by intro i q; cases q) he
  obtain ⟨t, rfl, h1 | ⟨e1, h1, h2⟩⟩ := ev_or h0
  · obtain ⟨rfl, h1⟩ := h1
    cases (show some true = some t' from h00)
    exact ⟨e, F, true, e', R, opT_of h1 na, fun F1 H1 R1 S1 => iteT (q F1 H1 R1 S1)⟩
  · cases (show some t = some t' from h00)
    exact ⟨e, F, false, e1, R, opT_of h1 na, fun F1 H1 R1 S1 => iteF ⟨e1, F1, _, e', R1, opT_of h2 nb, fun F2 H2 R2 S2 => q F2 H2 R2 (S1.trans S2)⟩⟩
theorem m_ite {K : PySem.W.Frag} {a b c : Ex} {σ : L2.St} {H : Hp} {Q : VK} (h : SemE Φ K z (.ite c a b) σ H Q) : tIf (SemT Φ K z c) (SemE Φ K z a) (SemE Φ K z b) σ H Q := by
  obtain ⟨e, F, d, e', R, he, q⟩ := h
  simp only [ev] at he
  split at he
  · rename_i e1 h1
    exact ⟨e, F, true, e1, R, h1, fun F1 H1 R1 S1 => iteT ⟨e1, F1, d, e', R1, he, fun v2 F2 H2 R2 S2 d2 => q v2 F2 H2 R2 (S1.trans S2) d2⟩⟩
  · rename_i e1 h1
    exact ⟨e, F, false, e1, R, h1, fun F1 H1 R1 S1 => iteF ⟨e1, F1, d, e', R1, he, fun v2 F2 H2 R2 S2 d2 => q v2 F2 H2 R2 (S1.trans S2) d2⟩⟩
  · cases he
/-! ### displays, slices -/
theorem s_tup {as : Ex} {es : List Expr} {j : Nat} {p : Pos} (n : noMu as = true) (ha : PA X es (SemA Φ X.K z as)) : PE X (.Tuple es j p) (SemE Φ X.K z (.tup as)) := by
  refine pe_imp (pe_tup ha) fun σ H Q ⟨e, F, d, e', R, he, q⟩ => ?_
  simp only [ev] at he
  split at he
  · rename_i ds e1 h1
    split at he
    · rename_i hz
      cases he
      refine ⟨e, F, _, e', R, h1, fun vs F1 H1 R1 S1 g => ?_⟩
      have dp := argRel_dps n g
      exact ⟨by rw [dps_len dp]; exact hz, Fin.tup (fun v F2 H2 R2 S2 d2 => q v F2 H2 R2 (S1.trans S2) d2) R1 dp⟩
    · cases he
  · cases he
theorem f_lst {as : Ex} {es : List Expr} {p : Pos} (n : noMu as = true) (ha : PA X es (SemA Φ X.K z as)) : PE X (.List es p) (SemF Φ X.K z (.lst as)) := by
  refine pe_imp (pe_lst ha) fun σ H Q ⟨e, F, d, e', R, he, q⟩ => ?_
  simp only [ev] at he
  split at he
  · rename_i ds e1 h1
    split at he
    · rename_i hz
      cases he
      refine ⟨e, F, _, e', R, h1, fun vs F1 H1 R1 S1 g => ?_⟩
      have dp := argRel_dps n g
      refine ⟨by rw [dps_len dp]; exact hz, fun l hl => ?_⟩
      have hl0 : H l = none := by
        cases q2 : H l with
        | none => rfl
        | some o => exact absurd hl (S1.there l (by rw [q2]; simp))
      exact q l vs F1 (upd H1 l (.lst vs)) (R1.newH hl) (S1.trans (Stp.newH hl)) hl0 upd_same (R1.frees hl) dp
    · cases he
  · cases he
theorem f_rep {as n : Ex} {es : List Expr} {r : Expr} {p p2 : Pos} (nm : noMu as = true) (ha : PA X es (SemA Φ X.K z as)) (hn : PE X r (SemE Φ X.K z n)) : PE X (.BinOp (.List es p2) .Mult r p) (SemF Φ X.K z (.rep as n)) := by
  refine pe_imp (pe_op op_rep (pe_lst ha) hn) fun σ H Q ⟨e, F, d, e', R, he, q⟩ => ?_
  simp only [ev] at he
  split at he
  · rename_i ds e1 h1
    split at he
    · rename_i hz
      cases h2 : ev Φ n e1 with
      | none => rw [h2] at he; cases he
      | some w =>
        obtain ⟨kk, e2⟩ := w
        rw [h2] at he
        simp only at he
        obtain ⟨rd, h3, h4⟩ := Option.map_eq_some_iff.mp he
        cases h4
        cases kk with
        | int i =>
          simp only [repD] at h3
          split at h3
          · rename_i hb
            cases h3
            refine ⟨e, F, ds, e1, R, h1, fun vs F1 H1 R1 S1 g => ?_⟩
            have dp := argRel_dps nm g
            refine ⟨by rw [dps_len dp]; exact hz, fun l hl => ?_⟩
            have Rl := R1.newH (o := .lst vs) hl
            have noL : ∀ fz, ¬ OwnAt fz e1 σ l := R1.noOwn hl
            refine ⟨e1, F1, _, e', Rl, h2, fun v F2 H2 R2 S2 d2 => ?_⟩
            cases d2
            have hL : H2 l = some (.lst vs) := S2.keep l _ upd_same noL
            refine ⟨l, i, vs, rfl, rfl, hL, hb.1, hb.2.1, by rw [dps_len dp]; exact hb.2.2, fun p hp => ?_⟩
            have S12 := (S1.trans (Stp.newH hl)).trans S2
            have hp0 : H p = none := by
              cases q2 : H p with
              | none => rfl
              | some o => exact absurd hp (S12.there p (by rw [q2]; simp))
            exact q p _ F2 (upd H2 p (.lst (List.replicate i.toNat vs).flatten)) (R2.newH hp) (S12.trans (Stp.newH hp)) hp0 upd_same (R2.frees hp) (dps_rep (dps_mono S2.fs dp) _)
          · cases h3
        | _ => simp [repD] at h3
    · cases he
  · cases he
theorem lst_list {as : Ex} : ∀ e d e', ev Φ (.lst as) e = some (d, e') → ∃ ds, d = .list ds := fun e d e' he => by
  simp only [ev] at he
  split at he
  · split at he
    · cases he
      exact ⟨_, rfl⟩
    · cases he
  · cases he
theorem rep_list {as n : Ex} : ∀ e d e', ev Φ (.rep as n) e = some (d, e') → ∃ ds, d = .list ds := fun e d e' he => by
  simp only [ev] at he
  split at he
  · split at he
    · rename_i ds e1 h1 hz
      cases h2 : ev Φ n e1 with
      | none => rw [h2] at he; cases he
      | some w =>
        obtain ⟨kk, e2⟩ := w
        rw [h2] at he
        simp only at he
        obtain ⟨rd, h3, h4⟩ := Option.map_eq_some_iff.mp he
        cases h4
        cases kk with
        | int i =>
          simp only [repD] at h3
          split at h3
          · cases h3; exact ⟨_, rfl⟩
          · cases h3
        | _ => simp [repD] at h3
    · cases he
  · cases he
theorem lc_list' {own : List (Str × Nat)} {g : Tg} {k : Ik} {a b c f : Ex} : ∀ e d e', ev Φ (.lc own g k a b c f) e = some (d, e') → ∃ ds, d = .list ds := fun e d e' he => by
  obtain ⟨_, _, r, _, _, _, h, _⟩ := ev_lc he
  exact ⟨r, h⟩
theorem s_idx {a i : Ex} {l r : Expr} {p : Pos} (ha : PE X l (SemO Φ X.K z a)) (hi : PE X r (SemO Φ X.K z i)) (hs : PlainIx r) : PE X (.Subscript l r p) (SemE Φ X.K z (.idx a i)) :=
  pe_imp (pe_ix ix_seq ha hi hs) fun σ H Q h => sem2 ans_idx h
/-- a part of a slice -/
def SemP (Φ : Fn) (K : PySem.W.Frag) (z : L2.St) (t : Ex) : TO := fun σ H Q => ∃ e F d o e', Rel K z e σ F H ∧ ev Φ t e = some (d, e') ∧ partOf t d = some o ∧
  ∀ F' H', Rel K z e' σ F' H' → Stp e σ F H e' σ F' H' → Q o H'
theorem po_imp {X : Cx} {e : Option Expr} {t t' : TO} (h : PO X e t) (w : ∀ σ H Q, t' σ H Q → t σ H Q) : PO X e t' := ⟨fun pins s σ H Q I q => h.run pins s σ H Q I (w _ _ _ q)⟩
theorem p_none {t : Ex} (h : isNoe t = true) : PO X none (SemP Φ X.K z t) := by
  cases t <;> first | (cases h; done) | skip
  refine po_imp po_none fun σ H Q ⟨e, F, d, o, e', R, he, ho, q⟩ => ?_
  have he : some (PyData.none, e) = some (d, e') := he
  cases he
  have ho : some (none : Option Int) = some o := ho
  cases ho
  exact q F H R Stp.refl
def rSlG (K : PySem.W.Frag) : V → Option Int → Option Int → Hp → VK → Prop := fun x lo hi H Q => rSlL K x lo hi H Q ∨ rSlA K x lo hi H Q ∨ rSlS x lo hi H Q
theorem sl_any : SlR X (rSlG X.K) := sl_list.or (sl_tupA.or sl_str)
theorem cutL_all {α : Type} (xs : List α) {lo hi : Option Int} (h : HT.sIx xs.length 0 lo = 0 ∧ HT.sIx xs.length xs.length hi = xs.length) : cutL xs lo hi = xs := by
  unfold cutL
  rw [h.1, h.2, List.drop_zero, Nat.sub_zero, List.take_length]
theorem ans_slc {K : PySem.W.Frag} {z : L2.St} {e : Ev} {σ : L2.St} {F H : Hp} {x : V} {p d : D} {lo hi : Option Int} {Q : VK} (R : Rel K z e σ F H) (hx : Rdp K F H x p) (hk : slcD lo hi p = some d) (hq : Fin K z e σ F H e d Q) : rSlG K x lo hi H Q := by
  cases hx with
  | lst g1 g2 =>
    cases hk
    exact .inl ⟨_, _, rfl, g1, hq.lst R (dps_cut g2 lo hi)⟩
  | tup g1 g1' g2 =>
    cases hk
    refine .inr (.inl ⟨_, _, rfl, g1, fun w => hq.val R ?_, fun w => hq.tup R (dps_cut g2 lo hi)⟩)
    rw [dps_len g2] at w
    rw [cutL_all _ w]
    exact .tup g1' g2
  | str s =>
    simp only [slcD] at hk
    split at hk
    · rename_i hz
      cases hk
      exact .inr (.inr ⟨s, rfl, hz, hq.val R (.str _)⟩)
    · cases hk
  | _ => simp [slcD] at hk
theorem s_slc {a lo hi : Ex} {v : Expr} {l h : Option Expr} {p p2 : Pos} (ha : PE X v (SemO Φ X.K z a)) (hl : PO X l (SemP Φ X.K z lo)) (hh : PO X h (SemP Φ X.K z hi)) : PE X (.Subscript v (.Slice l h none p2) p) (SemE Φ X.K z (.slc a lo hi)) := by
  refine pe_imp (pe_slice sl_any ha hl hh) fun σ H Q ⟨e, F, d, e', R, he, q⟩ => ?_
  simp only [ev] at he
  cases h1 : opd a (ev Φ a e) e with
  | none => rw [h1] at he; cases he
  | some w =>
    obtain ⟨x, e1⟩ := w
    rw [h1] at he
    simp only at he
    cases h2 : ev Φ lo e1 with
    | none => rw [h2] at he; cases he
    | some w =>
      obtain ⟨dl, e2⟩ := w
      rw [h2] at he
      simp only at he
      cases h3 : ev Φ hi e2 with
      | none => rw [h3] at he; cases he
      | some w =>
        obtain ⟨dh, e3⟩ := w
        rw [h3] at he
        simp only at he
        split at he
        · rename_i pd pl ph h4 h7 h8
          obtain ⟨r, h5, h6⟩ := Option.map_eq_some_iff.mp he
          cases h6
          refine ⟨e, F, x, e1, R, h1, fun v F1 H1 R1 S1 o1 => ⟨e1, F1, dl, pl, e2, R1, h2, h7, fun F2 H2 R2 S2 => ⟨e2, F2, dh, ph, e', R2, h3, h8, fun F3 H3 R3 S3 => ?_⟩⟩⟩
          exact ans_slc R3 (R3.res (o1.mono (S2.trans S3).fs) h4) h5 fun w F4 H4 R4 S4 d4 => q w F4 H4 R4 (((S1.trans S2).trans S3).trans S4) d4
        · cases he
theorem p_some {t : Ex} {x : Expr} (h : PE X x (SemE Φ X.K z t)) (hn : isNoe t = false) : PO X (some x) (SemP Φ X.K z t) := by
  refine po_imp (po_some h) fun σ H Q ⟨e, F, d, o, e', R, he, ho, q⟩ => ?_
  have hd : ∃ i, d = .int i ∧ o = some i := by
    unfold partOf at ho
    cases t <;> first | (cases hn; done) | skip
    all_goals
      simp only at ho
      split at ho
      · cases ho
        exact ⟨_, rfl, rfl⟩
      · cases ho
  obtain ⟨i, rfl, rfl⟩ := hd
  exact ⟨e, F, _, e', R, he, fun v F1 H1 R1 S1 d1 => by cases d1; exact ⟨i, rfl, q F1 H1 R1 S1⟩⟩
end
end Iv
end
section
set_option Elab.async false
set_option linter.all false
set_option maxRecDepth 100000
set_option maxHeartbeats 2000000
/-! Builtins and calls as terms; the look is right. -/
namespace Iv
open PySem PySem.Spec PyProof.Rows L2
section
variable {C : Cc} {Φ : Fn} {k : Nat} {X : Cx} {z : L2.St}
theorem pe_nev {e : Expr} : PE X e (fun _ _ _ => False) := ⟨fun _ _ _ _ _ _ h => h.elim⟩
theorem ps_nev {s : Stmt} : PS X s (fun _ _ _ => False) := ⟨fun _ _ _ _ _ _ h => h.elim⟩
theorem s_b1 (hk : COk C Φ k X) {b : B1} {a : Ex} {x : Str} {y : Expr} {p pos : Pos} (hx : bltB C X.env.scope (b1N b) x = true) (hs : notStar y = true) (ha : PE X y (SemO Φ X.K z a)) : PE X (.Call (.Name x p) [y] [] pos) (SemE Φ X.K z (.b1 b a)) := by
  obtain ⟨e0, hg, hm, hd⟩ := blt_of hk hx
  subst e0
  have pa : PA X [y] (tCons (SemO Φ X.K z a) tNil) := pa_cons ha pa_nil (star_of hs [])
  have he := star_of (env := X.env) hs []
  have hc := hk.calm
  have hu : X.A.units + 64 < cLine := hk.room.units
  have B : ∀ {id : String} {r : List V → Hp → VK → Prop}, CallR X (.builtin id) r → AnsL1 X.K r (b1D b) → bootBuiltins (b1N b) = some (.builtin id) → b1N b ≠ "__name__" → PE X (.Call (.Name (b1N b) p) [y] [] pos) (SemE Φ X.K z (.b1 b a)) := fun hc ha hv hn =>
    pe_imp (pe_callB hc hg hm hv pa hn hd he rfl) fun σ H Q h => sem1 ha h
  have T : ∀ {id : String} {r : List V → Hp → VK → Prop}, CallR X (.type id) r → AnsL1 X.K r (b1D b) → bootBuiltins (b1N b) = some (.type id) → b1N b ≠ "__name__" → PE X (.Call (.Name (b1N b) p) [y] [] pos) (SemE Φ X.K z (.b1 b a)) := fun hc ha hv hn =>
    pe_imp (pe_callTy hc hg hm hv pa hn hd he rfl) fun σ H Q h => sem1 ha h
  cases b with
  | len => exact B (call_len_seq.or call_len_str) ans_len (by decide +kernel) (by decide +kernel)
  | abs => exact B call_abs ans_abs (by decide +kernel) (by decide +kernel)
  | max => exact B ((cr_max hc).or (cr_maxT hc hu)) ans_max (by decide +kernel) (by decide +kernel)
  | min => exact B ((cr_min hc).or (cr_minT hc hu)) ans_min (by decide +kernel) (by decide +kernel)
  | sum => exact B ((cr_sum hc).or (cr_sumT hc)) ans_sum (by decide +kernel) (by decide +kernel)
  | all => exact B (cr_all hc) ans_all (by decide +kernel) (by decide +kernel)
  | any => exact B (cr_any hc) ans_any (by decide +kernel) (by decide +kernel)
  | int => exact T call_int1 ans_int (by decide +kernel) (by decide +kernel)
  | str => exact T (call_str_int.or SkE.call_str_str) ans_str (by decide +kernel) (by decide +kernel)
  | repr => exact B (call_repr hk.gd hu) ans_repr (by decide +kernel) (by decide +kernel)
  | list => exact T call_list_of ans_list (by decide +kernel) (by decide +kernel)
  | tup => exact T call_tuple_of ans_tup (by decide +kernel) (by decide +kernel)
  | sorted =>
    refine pe_imp pe_nev fun σ H Q ⟨e, F, d, e', R, he, q⟩ => ?_
    obtain ⟨o, p, h1, h2, h3⟩ := op1_get (show op1 a (ev Φ a) (b1D .sorted) e = some (d, e') from he)
    cases p <;> simp [b1D] at h3
/-- list(x), fresh -/
theorem f_list (hk : COk C Φ k X) {a : Ex} {x : Str} {y : Expr} {p pos : Pos} (hx : bltB C X.env.scope (b1N .list) x = true) (hs : notStar y = true) (ha : PE X y (SemO Φ X.K z a)) : PE X (.Call (.Name x p) [y] [] pos) (SemF Φ X.K z (.b1 .list a)) := by
  obtain ⟨e0, hg, hm, hd⟩ := blt_of hk hx
  subst e0
  have pa : PA X [y] (tCons (SemO Φ X.K z a) tNil) := pa_cons ha pa_nil (star_of hs [])
  refine pe_imp (pe_callTy call_list_of hg hm (by decide +kernel) pa (by decide +kernel) hd (star_of hs []) rfl) fun σ H Q ⟨e, F, ds, e', R, he, q⟩ => ?_
  obtain ⟨o, p, h1, h2, h3⟩ := op1_get (show op1 a (ev Φ a) (b1D .list) e = some (_, e') from he)
  refine ⟨e, F, o, e', R, h1, fun v F1 H1 R1 S1 g => ?_⟩
  have rd := R1.res g h2
  have fin : ∀ us, DpAll X.K F1 us ds → ∀ l, H1 l = none → Q (.ref l) (upd H1 l (.lst us)) := fun us dp l hl => by
    have hl0 : H l = none := by
      cases q2 : H l with
      | none => rfl
      | some o => exact absurd hl (S1.there l (by rw [q2]; simp))
    exact q l us F1 _ (R1.newH hl) (S1.trans (Stp.newH hl)) hl0 upd_same (R1.frees hl) dp
  cases rd with
  | lst g1 g2 =>
    cases h3
    exact ⟨_, _, rfl, .inl g1, fin _ g2⟩
  | tup g1 g1' g2 =>
    cases h3
    exact ⟨_, _, rfl, .inr g1, fin _ g2⟩
  | _ => simp [b1D] at h3
theorem f_lrng (hk : COk C Φ k X) {a b : Ex} {x y : Str} {w : Expr} {p p2 pos pos2 : Pos} (hx : bltB C X.env.scope "list" x = true) (hy : bltB C X.env.scope "range" y = true) (hs : notStar w = true) (ha : PE X w (SemE Φ X.K z a)) : PE X (.Call (.Name x p) [.Call (.Name y p2) [w] [] pos2] [] pos) (SemF Φ X.K z (.m1 .lrng a b)) := by
  obtain ⟨e0, hg, hm, _⟩ := blt_of hk hx
  obtain ⟨e1, hg1, hm1, _⟩ := blt_of hk hy
  subst e0
  subst e1
  refine pe_imp (pe_listRg hk.calm hg hm (prg_1 hg1 hm1 ha (star_of hs [])) rfl) fun σ H Q ⟨e, F, ds, e', R, he, q⟩ => ?_
  simp only [ev] at he
  split at he
  · rename_i i e2 h1
    split at he
    · rename_i h2
      cases he
      simp only [small62, Bool.and_eq_true, decide_eq_true_eq] at h2
      refine ⟨e, F, _, e', R, h1, fun v F1 H1 R1 S1 dp => ?_⟩
      cases dp
      refine ⟨i, rfl, ⟨by omega, by omega, h2.1.1, h2.1.2, by omega⟩, fun l hl => ?_⟩
      have hl0 : H l = none := by
        cases q2 : H l with
        | none => rfl
        | some o => exact absurd hl (S1.there l (by rw [q2]; simp))
      refine q l (rgV 0 i) F1 _ (R1.newH hl) (S1.trans (Stp.newH hl)) hl0 upd_same (R1.frees hl) ?_
      unfold rgV rngD
      induction (List.range (i - 0).toNat) with
      | nil => exact .nil
      | cons n r ih => exact .cons (.int _) ih
    · cases he
  · cases he
theorem lrng_list {m : M1} {a b : Ex} : ∀ e d e', ev Φ (.m1 m a b) e = some (d, e') → ∃ ds, d = .list ds := fun e d e' he => by
  simp only [ev] at he
  split at he
  · split at he
    · split at he
      · cases he; exact ⟨_, rfl⟩
      · cases he
    · cases he
  · split at he
    · cases he; exact ⟨_, rfl⟩
    · cases he
  · cases he
theorem fr_ev {a b : Ex} {e e' : Ev} {d : D} (h : ev Φ (.m1 .fr a b) e = some (d, e')) : ev Φ a e = some (d, e') := by
  simp only [ev] at h
  split at h
  · rename_i ds e1 h1
    cases h
    exact h1
  · cases h
theorem list_list {a : Ex} : ∀ e d e', ev Φ (.b1 .list a) e = some (d, e') → ∃ ds, d = .list ds := fun e d e' he => by
  obtain ⟨o, p, h1, h2, h3⟩ := op1_get (show op1 a (ev Φ a) (b1D .list) e = some (d, e') from he)
  cases p <;> first | (simp [b1D] at h3; done) | skip
  · cases h3; exact ⟨_, rfl⟩
  · cases h3; exact ⟨_, rfl⟩
theorem s_b2 (hk : COk C Φ k X) {b : B2} {a c : Ex} {x : Str} {y w : Expr} {p pos : Pos} (hx : bltB C X.env.scope (b2N b) x = true) (hs : notStar y = true) (hs2 : notStar w = true) (ha : PE X y (SemO Φ X.K z a)) (hc2 : PE X w (SemO Φ X.K z c)) :
    PE X (.Call (.Name x p) [y, w] [] pos) (SemE Φ X.K z (.b2 b a c)) := by
  obtain ⟨e0, hg, hm, hd⟩ := blt_of hk hx
  subst e0
  have pa : PA X [y, w] (tCons (SemO Φ X.K z a) (tCons (SemO Φ X.K z c) tNil)) := pa_cons ha (pa_cons hc2 pa_nil (star_of hs2 [])) (star_of hs [w])
  have he := star_of (env := X.env) hs [w]
  have hpl : (backTo pos (starEach [w] X.env)).any (·.1) = false := by rw [star_of hs2 []]; rfl
  have hc := hk.calm
  have B : ∀ {id : String} {r : List V → Hp → VK → Prop}, CallR X (.builtin id) r → AnsL2 X.K r (b2D b) → bootBuiltins (b2N b) = some (.builtin id) → b2N b ≠ "__name__" → PE X (.Call (.Name (b2N b) p) [y, w] [] pos) (SemE Φ X.K z (.b2 b a c)) := fun hc ha hv hn =>
    pe_imp (pe_callB hc hg hm hv pa hn hd he hpl) fun σ H Q h => sem2 ha h
  cases b with
  | max => exact B (call_max2 hc) ans_max2 (by decide +kernel) (by decide +kernel)
  | min => exact B (call_min2 hc) ans_min2 (by decide +kernel) (by decide +kernel)
  | dvm => exact B call_divmodW ans_dvm (by decide +kernel) (by decide +kernel)
/-! ### isinstance -/
theorem ty_name (hk : COk C Φ k X) {t : String} {e : Expr} (h : tyNB C X.env.scope t e = true) : PE X e (tC (.ty t)) := by
  unfold tyNB at h
  split at h
  · rename_i y p
    rw [Bool.and_eq_true, Bool.and_eq_true, Bool.and_eq_true] at h
    obtain ⟨⟨⟨h1, h2⟩, h3⟩, h4⟩ := h
    obtain ⟨hg, hd⟩ := gl_of h2
    have hm := hk.bis y h3
    have e1 := of_decide_eq_true h1
    subst e1
    have h5 : t = "int" ∨ t = "bool" ∨ t = "str" ∨ t = "tuple" ∨ t = "list" := by simpa using h4
    rcases h5 with rfl | rfl | rfl | rfl | rfl
    · exact pe_bltn (v := .ty "int") (u := .type "int") hg hm (by decide +kernel) rfl (by decide +kernel) hd
    · exact pe_bltn (v := .ty "bool") (u := .type "bool") hg hm (by decide +kernel) rfl (by decide +kernel) hd
    · exact pe_bltn (v := .ty "str") (u := .type "str") hg hm (by decide +kernel) rfl (by decide +kernel) hd
    · exact pe_bltn (v := .ty "tuple") (u := .type "tuple") hg hm (by decide +kernel) rfl (by decide +kernel) hd
    · exact pe_bltn (v := .ty "list") (u := .type "list") hg hm (by decide +kernel) rfl (by decide +kernel) hd
  · cases h
theorem ty_names (hk : COk C Φ k X) : ∀ {ts : List String} {es : List Expr}, tyNsB C X.env.scope ts es = true → PA X es (fun _ H Q => Q (ts.map V.ty) H)
  | [], [], _ => pa_imp pa_nil fun σ H Q q => q
  | t :: ts, e :: es, h => by
    unfold tyNsB at h
    rw [Bool.and_eq_true, Bool.and_eq_true] at h
    exact pa_imp (pa_cons (ty_name hk h.1.1) (ty_names hk h.2) (star_of h.1.2 es)) fun σ H Q q => q
  | [], _ :: _, h => by cases h
  | _ :: _, [], h => by cases h
theorem cls_tys : ∀ ts : List String, Paired ClsV (ts.map V.ty) (ts.map Value.type)
  | [] => .nil
  | t :: ts => .cons (.ty t) (cls_tys ts)
theorem s_isi (hk : COk C Φ k X) {a : Ex} {ts : List String} {x : Str} {y w : Expr} {p pos : Pos} (hx : bltB C X.env.scope "isinstance" x = true) (hs : notStar y = true) (hs2 : notStar w = true) (ha : PE X y (SemO Φ X.K z a)) (ht : tyB C X.env.scope ts w = true) :
    PE X (.Call (.Name x p) [y, w] [] pos) (SemE Φ X.K z (.isi a ts)) := by
  obtain ⟨e0, hg, hm, hd⟩ := blt_of hk hx
  subst e0
  have he := star_of (env := X.env) hs [w]
  have hpl : (backTo pos (starEach [w] X.env)).any (·.1) = false := by rw [star_of hs2 []]; rfl
  unfold tyB at ht
  split at ht
  · rename_i es j p2
    rw [Bool.and_eq_true] at ht
    have pw := pe_tup (x1 := j) (pos := p2) (ty_names hk ht.1)
    have pa : PA X [y, .Tuple es j p2] (tCons (SemO Φ X.K z a) (tCons _ tNil)) := pa_cons ha (pa_cons pw pa_nil (star_of hs2 [])) (star_of hs _)
    refine pe_imp (pe_callB call_isiT hg hm (by decide +kernel) pa (by decide +kernel) hd he hpl) fun σ H Q ⟨e, F, d, e', R, hev, q⟩ => ?_
    obtain ⟨o, pd, h1, h2, h3⟩ := op1_get (show op1 a (ev Φ a) (fun d => (isaAny d ts).map .bool) e = some (d, e') from hev)
    obtain ⟨b, h4, rfl⟩ := Option.map_eq_some_iff.mp h3
    refine ⟨e, F, o, e', R, h1, fun v F1 H1 R1 S1 g => ⟨?_, fun tp htp => ?_⟩⟩
    · rw [List.length_map]
      exact Nat.le_trans (of_decide_eq_true ht.2) (by decide)
    · have g2 : OpRel X.K (upd F1 tp (.tup (ts.map V.ty))) σ v o := g.mono (Same.fresh (R1.frees htp))
      have R2 := R1.new (o := .tup (ts.map V.ty)) htp
      have rd := R2.res g2 h2
      exact ⟨v, tp, ts.map V.ty, _, ts.map Value.type, b, rfl, upd_same, cls_tys ts, tyx R2 rd, kit_any (nodict rd) h4, q _ _ _ R2 (S1.trans (Stp.new1 R1 htp)) (.bl b)⟩
  · split at ht
    · rename_i _ t
      have pw := ty_name hk ht
      have pa : PA X [y, w] (tCons (SemO Φ X.K z a) (tCons (tC (.ty t)) tNil)) := pa_cons ha (pa_cons pw pa_nil (star_of hs2 [])) (star_of hs _)
      refine pe_imp (pe_callB call_isi hg hm (by decide +kernel) pa (by decide +kernel) hd he hpl) fun σ H Q ⟨e, F, d, e', R, hev, q⟩ => ?_
      obtain ⟨o, pd, h1, h2, h3⟩ := op1_get (show op1 a (ev Φ a) (fun d => (isaAny d [t]).map .bool) e = some (d, e') from hev)
      obtain ⟨b, h4, rfl⟩ := Option.map_eq_some_iff.mp h3
      refine ⟨e, F, o, e', R, h1, fun v F1 H1 R1 S1 g => ?_⟩
      have rd := R1.res g h2
      have h5 : isaD pd t = some b := by
        simp only [isaAny] at h4
        split at h4 <;> first | (rename_i h6; rw [h6]; exact h4) | cases h4
      exact ⟨v, .ty t, _, _, b, rfl, .ty t, tyx R1 rd, kit_one (nodict rd) h5, q _ _ _ R1 S1 (.bl b)⟩
    · cases ht
/-! ### calls of defs -/
theorem s_call (hk : COk C Φ k X) {j : Nat} {as : Ex} {x : Str} {es : List Expr} {p pos : Pos} (hj : ∃ ps, C.fns[j]? = some (x, ps)) (hg : Gl X x) (hd : (x == ("__debug__" : Str)) = false) (hs : es.all notStar = true) (hn : es = [] → as = .nil) (ha : PA X es (SemA Φ X.K z as)) :
    PE X (.Call (.Name x p) es [] pos) (SemE Φ X.K z (.call j as)) := by
  obtain ⟨ps, hj⟩ := hj
  obtain ⟨f, fd, hm, hkp, hb, FG, _⟩ := hk.fns j x ps hj
  have key : ∀ {σ : L2.St} {H : Hp} {Q : VK}, SemE Φ X.K z (.call j as) σ H Q → SemA Φ X.K z as σ H (fun vs H1 => SpF X.K Φ j vs H1 Q E0) := by
    rintro σ H Q ⟨e, F, d, e', R, he, q⟩
    simp only [ev] at he
    split at he
    · rename_i ds e1 h1
      split at he
      · rename_i sl h2
        split at he
        · rename_i h3
          split at he
          · rename_i d1 os h4
            obtain ⟨e2, h5, h6⟩ := Option.map_eq_some_iff.mp he
            cases h6
            refine ⟨e, F, ds, e1, R, h1, fun vs F1 H1 R1 S1 g => ?_⟩
            obtain ⟨Rc, no⟩ := call_in R1 h3 g h2
            refine ⟨sl, F1, _, os, Rc, no, h4, fun v F2 H2 R2 S2 dp => ?_⟩
            obtain ⟨Ro, So⟩ := call_out R1 h3 g h2 R2 S2 h5
            exact q v F2 H2 Ro (S1.trans So) dp
          · cases he
        · cases he
      · cases he
    · cases he
  cases es with
  | nil =>
    refine pe_imp (pe_callG0 FG hk.room hk.gd hg hm hkp hb hd) fun σ H Q h => ?_
    cases hn rfl
    obtain ⟨e, F, ds, e', R, he, q⟩ := key h
    simp only [ev] at he
    cases he
    exact q [] F H R Stp.refl trivial
  | cons e0 er =>
    rw [List.all_cons, Bool.and_eq_true] at hs
    exact pe_imp (pe_callG FG hk.room hk.gd hg hm hkp hb ha hd (star_of hs.1 er) (nostar_any hs.2)) fun σ H Q h => key h
/-- .. that give a list of their own -/
theorem f_call (hk : COk C Φ k X) {j : Nat} {as b : Ex} {x : Str} {es : List Expr} {p pos : Pos} (hj : ∃ ps, C.fns[j]? = some (x, ps)) (hfr : C.frs.contains j = true) (hg : Gl X x) (hd : (x == ("__debug__" : Str)) = false) (hs : es.all notStar = true) (hn : es = [] → as = .nil) (ha : PA X es (SemA Φ X.K z as)) :
    PE X (.Call (.Name x p) es [] pos) (SemF Φ X.K z (.m1 .fr (.call j as) b)) := by
  obtain ⟨ps, hj⟩ := hj
  obtain ⟨f, fd, hm, hkp, hb, _, _, FR⟩ := hk.fns j x ps hj
  have FG := FR hfr
  have key : ∀ {σ : L2.St} {H : Hp} {Q : VK}, SemF Φ X.K z (.m1 .fr (.call j as) b) σ H Q → SemA Φ X.K z as σ H (fun vs H1 => SpR X.K Φ j vs H1 Q E0) := by
    rintro σ H Q ⟨e, F, xs, e', R, he, q⟩
    have he := fr_ev he
    simp only [ev] at he
    split at he
    · rename_i ds e1 h1
      split at he
      · rename_i sl h2
        split at he
        · rename_i h3
          split at he
          · rename_i d1 os h4
            obtain ⟨e2, h5, h6⟩ := Option.map_eq_some_iff.mp he
            cases h6
            refine ⟨e, F, ds, e1, R, h1, fun vs F1 H1 R1 S1 g => ?_⟩
            obtain ⟨Rc, no⟩ := call_in R1 h3 g h2
            refine ⟨sl, F1, _, os, Rc, no, h4, ⟨xs, rfl⟩, fun v F2 H2 R2 S2 fa => ?_⟩
            obtain ⟨Ro, So⟩ := call_out R1 h3 g h2 R2 S2 h5
            obtain ⟨p, us, ds', rfl, e5, hP, hF, dp, _, hp⟩ := fa
            cases e5
            refine q p us F2 H2 Ro (S1.trans So) ?_ hP hF dp
            cases w : H p with
            | none => rfl
            | some o => exact absurd hp (S1.there p (by rw [w]; simp))
          · cases he
        · cases he
      · cases he
    · cases he
  cases es with
  | nil =>
    refine pe_imp (pe_callG0 FG hk.room hk.gd hg hm hkp hb hd) fun σ H Q h => ?_
    cases hn rfl
    obtain ⟨e, F, ds, e', R, he, q⟩ := key h
    simp only [ev] at he
    cases he
    exact q [] F H R Stp.refl trivial
  | cons e0 er =>
    rw [List.all_cons, Bool.and_eq_true] at hs
    exact pe_imp (pe_callG FG hk.room hk.gd hg hm hkp hb ha hd (star_of hs.1 er) (nostar_any hs.2)) fun σ H Q h => key h
/-- a call of a def with a list that nobody else has -/
theorem s_cf (hk : COk C Φ k X) {j : Nat} {a : Ex} {x : Str} {y : Expr} {p pos : Pos} (hj : ∃ ps, C.fns[j]? = some (x, ps)) (hg : Gl X x) (hd : (x == ("__debug__" : Str)) = false) (hs : notStar y = true) (ha : PE X y (SemF Φ X.K z (.m1 .fr a .noe))) :
    PE X (.Call (.Name x p) [y] [] pos) (SemE Φ X.K z (.cf j a)) := by
  obtain ⟨ps, hj⟩ := hj
  obtain ⟨f, fd, hm, hkp, hb, FG, _⟩ := hk.fns j x ps hj
  refine pe_imp (pe_callG FG hk.room hk.gd hg hm hkp hb (pa_cons ha pa_nil (star_of hs [])) hd (star_of hs []) rfl) fun σ H Q ⟨e, F, d, e', R, he, q⟩ => ?_
  simp only [ev] at he
  split at he
  · rename_i ds e1 h1
    obtain ⟨⟨d1, os⟩, h2, h3⟩ := Option.map_eq_some_iff.mp he
    cases h3
    have h0 : ev Φ (.m1 .fr a .noe) e = some (.list ds, e') := by simp only [ev]; rw [h1]
    refine ⟨e, F, ds, e', R, h0, fun p us F1 H1 R1 S1 hp hP hF dp => ?_⟩
    refine ⟨[.own false ds], F1, d1, os, ⟨rfl, R1.sub, fun i d h => ?_, fun i fz xs h => ?_, fun i j fz fz' xs xs' b h h' _ _ => ?_, fun _ _ _ => rfl⟩, fun i xs h => ?_, h2, fun v F2 H2 R2 S2 dv => ?_⟩
    · cases i with
      | zero => cases h
      | succ i => cases h
    · cases i with
      | zero => cases h; exact ⟨p, us, rfl, hP, hF, dp⟩
      | succ i => cases h
    · cases i with
      | zero =>
        cases j with
        | zero => rfl
        | succ j => cases h'
      | succ i => cases h
    · cases i with
      | zero => cases h
      | succ i => cases h
    · have only : ∀ {fz : Bool} {b : Addr}, OwnAt fz [Sl.own false ds] ([V.ref p].map some) b → b = p ∧ fz = false := fun {fz b} ⟨i, xs, g1, g2⟩ => by
        cases i with
        | zero => cases g1; cases g2; exact ⟨rfl, rfl⟩
        | succ i => cases g1
      have no := S1.noOwn R hp
      refine q v F2 H2 ⟨R1.len, R2.sub, fun i d h => ?_, fun i fz xs h => ?_, R1.inj, R1.io⟩ ⟨S1.fs.trans S2.fs, fun b o h n => ?_, fun b h => S2.there b (S1.there b h), fun b h => ?_, S1.owT, S1.owF⟩ dv
      · obtain ⟨w, g1, g2⟩ := R1.sh i d h
        exact ⟨w, g1, dp_mono S2.fs g2⟩
      · obtain ⟨b, vs, g1, g2, g3, g4⟩ := R1.own i fz xs h
        have ne : b ≠ p := fun q => by subst q; exact no fz ⟨i, xs, h, g1⟩
        refine ⟨b, vs, g1, S2.keep b _ g2 fun fz w => ne (only w).1, ?_, dps_mono S2.fs g4⟩
        cases w : F2 b with
        | none => rfl
        | some o =>
          rcases S2.new b (by rw [w]; simp) with n | n | n
          · exact absurd g3 n
          · rw [g2] at n; cases n
          · exact absurd (only n).2 (by decide)
      · refine S2.keep b o (S1.keep b o h n) fun fz w => ?_
        obtain ⟨e1, _⟩ := only w
        subst e1
        rw [hp] at h
        cases h
      · rcases S2.new b h with n | n | n
        · exact S1.new b n
        · refine .inr (.inl ?_)
          cases w : H b with
          | none => rfl
          | some o => exact absurd n (S1.there b (by rw [w]; simp))
        · exact absurd (only n).2 (by decide)
  · cases he
end
end Iv
end
section
set_option Elab.async false
set_option linter.all false
set_option maxRecDepth 100000
set_option maxHeartbeats 2000000
/-! Calls with keywords. -/
namespace Iv
open PySem PySem.Spec PyProof.Rows L2
section
variable {C : Cc} {Φ : Fn} {k : Nat} {X : Cx} {z : L2.St}
def lenA : Ex → Nat
  | .cons _ r => lenA r + 1
  | _ => 0
theorem chkL_len : ∀ {as : Ex} {sc : Scope} {es : List Expr}, chkL C as sc es = true → lenA as = es.length
  | .nil, sc, es, h => by
    simp only [chkL] at h
    cases es with
    | nil => rfl
    | cons => cases h
  | .cons a r, sc, es, h => by
    simp only [chkL] at h
    cases es with
    | nil => cases h
    | cons e t =>
      rw [Bool.and_eq_true] at h
      simp only [lenA, List.length_cons, chkL_len h.2]
  | .var _, _, _, h => by cases h
  | .mu _, _, _, h => by cases h
  | .cst _, _, _, h => by cases h
  | .glo _ _, _, _, h => by cases h
  | .bin _ _ _, _, _, h => by cases h
  | .neg _, _, _, h => by cases h
  | .nt _, _, _, h => by cases h
  | .and _ _, _, _, h => by cases h
  | .or _ _, _, _, h => by cases h
  | .cmp _ _ _, _, _, h => by cases h
  | .chn _ _ _ _ _, _, _, h => by cases h
  | .ite _ _ _, _, _, h => by cases h
  | .tup _, _, _, h => by cases h
  | .lst _, _, _, h => by cases h
  | .rep _ _, _, _, h => by cases h
  | .idx _ _, _, _, h => by cases h
  | .slc _ _ _, _, _, h => by cases h
  | .noe, _, _, h => by cases h
  | .call _ _, _, _, h => by cases h
  | .calk _ _ _ _, _, _, h => by cases h
  | .b1 _ _, _, _, h => by cases h
  | .b2 _ _ _, _, _, h => by cases h
  | .isi _ _, _, _, h => by cases h
  | .m1 _ _ _, _, _, h => by cases h
  | .lc _ _ _ _ _ _ _, _, _, h => by cases h
theorem argRel_len {K : PySem.W.Frag} {F : Hp} {σ : L2.St} : ∀ {as : Ex} {vs : List V} {ds : List D}, ArgRel K F σ as vs ds → vs.length = lenA as
  | .cons a r, v :: vs, d :: ds, h => by simp only [lenA, List.length_cons, argRel_len h.2]
  | .nil, [], [], _ => rfl
  | .cons _ _, [], _, h => h.elim
  | .cons _ _, _ :: _, [], h => h.elim
  | .nil, _ :: _, _, h => h.elim
  | .nil, [], _ :: _, h => h.elim
def noes : List D → Ex
  | [] => .nil
  | _ :: r => .cons .noe (noes r)
theorem noes_rel {K : PySem.W.Frag} {F : Hp} {σ : L2.St} : ∀ {ds : List D} {vs : List V}, DpAll K F vs ds → ArgRel K F σ (noes ds) vs ds
  | [], _, h => by cases h; trivial
  | d :: ds, _, h => by
    cases h with
    | cons a b => exact ⟨a, noes_rel b⟩
theorem noes_sl {e : Ev} : ∀ ds : List D, argSl (noes ds) ds e = some (ds.map Sl.sh)
  | [] => rfl
  | d :: ds => by
    show (match argSl (noes ds) ds e with | some t => _ | none => none) = _
    rw [noes_sl ds]
    rfl
theorem noes_mus : ∀ ds : List D, musOf (noes ds) = []
  | [] => rfl
  | d :: ds => noes_mus ds
theorem noes_wbk {e : Ev} : ∀ (ds : List D) (os : List Sl), os.length = ds.length → wbk (noes ds) os e = some e
  | [], [], _ => rfl
  | d :: ds, o :: os, h => by
    have ih := noes_wbk (e := e) ds os (Nat.succ.inj h)
    exact ih
  | [], _ :: _, h => by cases h
  | _ :: _, [], h => by cases h
theorem perm_dps {K : PySem.W.Frag} {F : Hp} {ds : List D} {vs : List V} (g : DpAll K F vs ds) : ∀ {perm : List Nat} {sl : List Sl}, permL perm (ds.map Sl.sh) = some sl →
    ∃ zs ds', permL perm vs = some zs ∧ sl = ds'.map Sl.sh ∧ DpAll K F zs ds'
  | [], sl, h => by
    cases h
    exact ⟨[], [], rfl, rfl, .nil⟩
  | i :: r, sl, h => by
    rw [permL_cons, List.getElem?_map] at h
    rw [permL_cons]
    cases e1 : ds[i]? with
    | none => rw [e1] at h; cases h
    | some d =>
      rw [e1] at h
      obtain ⟨t, h1, rfl⟩ := Option.map_eq_some_iff.mp h
      obtain ⟨zs, ds', h2, rfl, h4⟩ := perm_dps g h1
      obtain ⟨v, h5, h6⟩ := dps_get g e1
      exact ⟨v :: zs, d :: ds', by rw [h5, h2]; rfl, rfl, .cons h6 h4⟩
theorem calk_key {j : Nat} {as ks : Ex} {perm : List Nat} {K : PySem.W.Frag} (nas : noMu as = true) (nks : noMu ks = true) {σ : L2.St} {H : Hp} {Q : VK}
    (h : SemE Φ K z (.calk j as ks perm) σ H Q) : SemA Φ K z as σ H (fun vs H1 => SemA Φ K z ks σ H1 fun ws H2 => vs.length = lenA as ∧ ws.length = lenA ks ∧ ∃ zs, permL perm (vs ++ ws) = some zs ∧ SpF K Φ j zs H2 Q E0) := by
  obtain ⟨e, F, d, e', R, he, q⟩ := h
  simp only [ev] at he
  split at he
  · rename_i ds e1 h1
    split at he
    · rename_i es e2 h2
      split at he
      · rename_i sl h3
        obtain ⟨⟨d1, os⟩, h4, h5⟩ := Option.map_eq_some_iff.mp he
        cases h5
        refine ⟨e, F, ds, e1, R, h1, fun vs F1 H1 R1 S1 g => ⟨e1, F1, es, e', R1, h2, fun ws F2 H2 R2 S2 g2 => ⟨argRel_len g, argRel_len g2, ?_⟩⟩⟩
        have dp := dps_app (dps_mono S2.fs (argRel_dps nas g)) (argRel_dps nks g2)
        obtain ⟨zs, ds', p1, rfl, p3⟩ := perm_dps dp h3
        have n : nodupB (musOf (noes ds')) = true := by rw [noes_mus]; rfl
        have g3 : ArgRel K F2 σ (noes ds') zs ds' := noes_rel p3
        obtain ⟨Rc, no⟩ := call_in R2 n g3 (noes_sl ds')
        refine ⟨zs, p1, ds'.map Sl.sh, F2, _, os, Rc, no, h4, fun v F3 H3 R3 S3 dp3 => ?_⟩
        have lo : os.length = ds'.length := by
          have a := R3.len
          have b := dps_len p3
          rw [List.length_map] at a
          omega
        obtain ⟨Ro, So⟩ := call_out R2 n g3 (noes_sl ds') R3 S3 (noes_wbk _ _ lo)
        exact q v F3 H3 Ro ((S1.trans S2).trans So) dp3
      · cases he
    · cases he
  · cases he
theorem s_calk (hk : COk C Φ k X) {j : Nat} {as ks : Ex} {perm : List Nat} {x : Str} {es : List Expr} {kws : List Keyword} {p pos : Pos} (hj : ∃ ps, C.fns[j]? = some (x, ps)) (hg : Gl X x) (hd : (x == ("__debug__" : Str)) = false) (hs : es.all notStar = true)
    (nas : noMu as = true) (nks : noMu ks = true) (la : lenA as = es.length) (lk : lenA ks = kws.length) (hkw : kws.all (·.arg.isSome) = true) (hin : (j, es.length, kws.filterMap (·.arg), perm) ∈ C.kws) (hn : es = [] → as = .nil)
    (ha : PA X es (SemA Φ X.K z as)) (hb : PK X kws (SemA Φ X.K z ks)) :
    PE X (.Call (.Name x p) es kws pos) (SemE Φ X.K z (.calk j as ks perm)) := by
  obtain ⟨ps, hj⟩ := hj
  obtain ⟨f, fd, hm, hkp, _, FG, kw, _⟩ := hk.fns j x ps hj
  have hkk := kw _ _ _ hin
  have lks : (kws.filterMap (·.arg)).length = lenA ks := by
    rw [lk]
    clear hin hb hkk lk
    induction kws with
    | nil => rfl
    | cons a r ih =>
      rw [List.all_cons, Bool.and_eq_true] at hkw
      cases e1 : a.arg with
      | none => rw [e1] at hkw; cases hkw.1
      | some y => rw [List.filterMap_cons, e1]; simp only [List.length_cons]; rw [ih hkw.2]
  obtain ⟨k1, k2⟩ := kw_some (env := X.env) (pos := pos) hkw
  have k3 := kw_names (env := X.env) (pos := pos) (kws := kws)
  cases es with
  | nil =>
    cases hn rfl
    refine pe_imp (pe_callKG0 FG hk.room hk.gd hg hm hkp hkk hb hd k1 k3 (by rw [k2]; rfl)) fun σ H Q h => ?_
    obtain ⟨e, F, ds, e1, R, h1, q⟩ := calk_key nas nks h
    simp only [ev] at h1
    cases h1
    have q1 := q [] F H R Stp.refl trivial
    rw [← lks] at q1
    exact q1
  | cons e0 er =>
    have hs2 := hs
    rw [List.all_cons, Bool.and_eq_true] at hs
    refine pe_imp (pe_callKG FG hk.room hk.gd hg hm hkp hkk ha hb hd k1 k3 (star_of hs.1 er) (by rw [k2, nostar_any hs2]; rfl)) fun σ H Q h => ?_
    have q1 := calk_key nas nks h
    rw [← lks, la] at q1
    exact q1
theorem calk_keyF {j : Nat} {as ks b : Ex} {perm : List Nat} {K : PySem.W.Frag} (nas : noMu as = true) (nks : noMu ks = true) {σ : L2.St} {H : Hp} {Q : VK}
    (h : SemF Φ K z (.m1 .fr (.calk j as ks perm) b) σ H Q) : SemA Φ K z as σ H (fun vs H1 => SemA Φ K z ks σ H1 fun ws H2 => vs.length = lenA as ∧ ws.length = lenA ks ∧ ∃ zs, permL perm (vs ++ ws) = some zs ∧ SpR K Φ j zs H2 Q E0) := by
  obtain ⟨e, F, d, e', R, he, q⟩ := h
  have he := fr_ev he
  simp only [ev] at he
  split at he
  · rename_i ds e1 h1
    split at he
    · rename_i es e2 h2
      split at he
      · rename_i sl h3
        obtain ⟨⟨d1, os⟩, h4, h5⟩ := Option.map_eq_some_iff.mp he
        cases h5
        refine ⟨e, F, ds, e1, R, h1, fun vs F1 H1 R1 S1 g => ⟨e1, F1, es, e', R1, h2, fun ws F2 H2 R2 S2 g2 => ⟨argRel_len g, argRel_len g2, ?_⟩⟩⟩
        have dp := dps_app (dps_mono S2.fs (argRel_dps nas g)) (argRel_dps nks g2)
        obtain ⟨zs, ds', p1, rfl, p3⟩ := perm_dps dp h3
        have n : nodupB (musOf (noes ds')) = true := by rw [noes_mus]; rfl
        have g3 : ArgRel K F2 σ (noes ds') zs ds' := noes_rel p3
        obtain ⟨Rc, no⟩ := call_in R2 n g3 (noes_sl ds')
        refine ⟨zs, p1, ds'.map Sl.sh, F2, _, os, Rc, no, h4, ⟨d, rfl⟩, fun v F3 H3 R3 S3 fa => ?_⟩
        have lo : os.length = ds'.length := by
          have a := R3.len
          have b := dps_len p3
          rw [List.length_map] at a
          omega
        obtain ⟨Ro, So⟩ := call_out R2 n g3 (noes_sl ds') R3 S3 (noes_wbk _ _ lo)
        obtain ⟨pp, us, ds', rfl, e5, hP, hF, dp5, _, hp⟩ := fa
        cases e5
        refine q pp us F3 H3 Ro ((S1.trans S2).trans So) ?_ hP hF dp5
        cases w : H pp with
        | none => rfl
        | some o => exact absurd hp ((S1.trans S2).there pp (by rw [w]; simp))
      · cases he
    · cases he
  · cases he
theorem f_calk (hk : COk C Φ k X) {j : Nat} {as ks b : Ex} {perm : List Nat} {x : Str} {es : List Expr} {kws : List Keyword} {p pos : Pos} (hj : ∃ ps, C.fns[j]? = some (x, ps)) (hfr : C.frs.contains j = true) (hg : Gl X x) (hd : (x == ("__debug__" : Str)) = false) (hs : es.all notStar = true)
    (nas : noMu as = true) (nks : noMu ks = true) (la : lenA as = es.length) (lk : lenA ks = kws.length) (hkw : kws.all (·.arg.isSome) = true) (hin : (j, es.length, kws.filterMap (·.arg), perm) ∈ C.kws) (hn : es = [] → as = .nil)
    (ha : PA X es (SemA Φ X.K z as)) (hb : PK X kws (SemA Φ X.K z ks)) :
    PE X (.Call (.Name x p) es kws pos) (SemF Φ X.K z (.m1 .fr (.calk j as ks perm) b)) := by
  obtain ⟨ps, hj⟩ := hj
  obtain ⟨f, fd, hm, hkp, _, _, kw, FR⟩ := hk.fns j x ps hj
  have FG := FR hfr
  have hkk := kw _ _ _ hin
  have lks : (kws.filterMap (·.arg)).length = lenA ks := by
    rw [lk]
    clear hin hb hkk lk
    induction kws with
    | nil => rfl
    | cons a r ih =>
      rw [List.all_cons, Bool.and_eq_true] at hkw
      cases e1 : a.arg with
      | none => rw [e1] at hkw; cases hkw.1
      | some y => rw [List.filterMap_cons, e1]; simp only [List.length_cons]; rw [ih hkw.2]
  obtain ⟨k1, k2⟩ := kw_some (env := X.env) (pos := pos) hkw
  have k3 := kw_names (env := X.env) (pos := pos) (kws := kws)
  cases es with
  | nil =>
    cases hn rfl
    refine pe_imp (pe_callKG0 FG hk.room hk.gd hg hm hkp hkk hb hd k1 k3 (by rw [k2]; rfl)) fun σ H Q h => ?_
    obtain ⟨e, F, ds, e1, R, h1, q⟩ := calk_keyF nas nks h
    simp only [ev] at h1
    cases h1
    have q1 := q [] F H R Stp.refl trivial
    rw [← lks] at q1
    exact q1
  | cons e0 er =>
    have hs2 := hs
    rw [List.all_cons, Bool.and_eq_true] at hs
    refine pe_imp (pe_callKG FG hk.room hk.gd hg hm hkp hkk ha hb hd k1 k3 (star_of hs.1 er) (by rw [k2, nostar_any hs2]; rfl)) fun σ H Q h => ?_
    have q1 := calk_keyF nas nks h
    rw [← lks, la] at q1
    exact q1
end
end Iv
end
section
set_option Elab.async false
set_option linter.all false
set_option maxRecDepth 100000
set_option maxHeartbeats 2000000
/-! Every expression that passes the look. -/
namespace Iv
open PySem PySem.Spec PyProof.Rows L2
/-! ### targets -/
section
variable {C : Cc} {X : Cx}
theorem name_ok {ok : Str → Bool} {i : Nat} {x : Str} {p : Pos} (hN : X.N = C.N) (nd : C.N.Nodup) (hok : ∀ x, ok x = true → Loc X.env.scope x ∧ (X.fn x = true ∨ X.env.scope.names.lookup x = some .local)) (h : (decide (C.N[i]? = some x) && ok x) = true) : PG X (.Name x p) (gName i) := by
  rw [Bool.and_eq_true] at h
  obtain ⟨h1, h2⟩ := hok x h.2
  exact pg_name (by rw [hN]; exact nd) (by rw [hN]; exact of_decide_eq_true h.1) h1 h2
theorem names_ok {ok : Str → Bool} (hN : X.N = C.N) (nd : C.N.Nodup) (hok : ∀ x, ok x = true → Loc X.env.scope x ∧ (X.fn x = true ∨ X.env.scope.names.lookup x = some .local)) : ∀ {is : List Nat} {es : List Expr}, is.length = es.length →
    ((is.zip es).all fun p => match p.2 with
      | .Name x _ => decide (C.N[p.1]? = some x) && ok x
      | _ => false) = true → PGs X es (gNames is) ∧ (assignEach es X.env).length = is.length ∧ (assignEach es X.env).findIdx? (·.1) = none
  | [], [], _, _ => ⟨pgs_nil, rfl, rfl⟩
  | i :: is, e :: es, hl, h => by
    rw [List.zip_cons_cons, List.all_cons, Bool.and_eq_true] at h
    obtain ⟨h1, h2⟩ := h
    obtain ⟨g1, g2, g3⟩ := names_ok hN nd hok (Nat.succ.inj hl) h2
    cases e with
    | Name x p =>
      refine ⟨pgs_cons (name_ok hN nd hok h1) g1 rfl, ?_, ?_⟩
      · show (assignEach es X.env).length + 1 = _
        rw [g2]; rfl
      · show List.findIdx? _ ((false, assign (.Name x p) X.env) :: assignEach es X.env) = none
        rw [List.findIdx?_cons, g3]
        rfl
    | _ => cases h1
  | [], _ :: _, h, _ => by cases h
  | _ :: _, [], h, _ => by cases h
theorem tg_ok {ok : Str → Bool} {g : Tg} {tg : Expr} (hN : X.N = C.N) (nd : C.N.Nodup) (hc : X.calm = true) (hok : ∀ x, ok x = true → Loc X.env.scope x ∧ (X.fn x = true ∨ X.env.scope.names.lookup x = some .local)) (h : tgB C ok g tg = true) : PG X tg (tgG X.K g) := by
  unfold tgB at h
  split at h
  · exact name_ok hN nd hok h
  · rw [Bool.and_eq_true] at h
    obtain ⟨g1, g2, g3⟩ := names_ok hN nd hok (of_decide_eq_true h.1) h.2
    exact pg_tup hc g1 g2 g3
  · cases h
theorem own_ok {scope sc : Scope} (he : X.env.scope = relS scope sc) (hf : X.fn = fun x => scope.names.lookup x == some .cell) : ∀ x, ownB scope sc x = true → Loc X.env.scope x ∧ (X.fn x = true ∨ X.env.scope.names.lookup x = some .local) := fun x h => by
  unfold ownB at h
  rw [he, hf]
  split at h
  · rename_i h1
    exact ⟨.inl h1, .inr h1⟩
  · rename_i h1
    exact ⟨.inr h1, .inl (by show (List.lookup x scope.names == some NameKind.cell) = true; rw [of_decide_eq_true h]; rfl)⟩
  · cases h
end
/-! ### the induction -/
/-- a call that gives a list of its own -/
def frB (C : Cc) : Ex → Bool
  | .call j _ => C.frs.contains j
  | .calk j _ _ _ => C.frs.contains j
  | _ => false
structure Snd (C : Cc) (Φ : Fn) (k : Nat) (z : L2.St) (t : Ex) : Prop where
  e : ∀ X x, COk C Φ k X → chk C t X.env.scope x = true → PE X x (SemE Φ X.K z t)
  b : ∀ X x, COk C Φ k X → chk C t X.env.scope x = true → tOk t = true → PT X x (SemT Φ X.K z t) ∧ ((∃ op es p, x = .BoolOp op es p) → PW X x (SemT Φ X.K z t))
  a : ∀ X es, COk C Φ k X → chkL C t X.env.scope es = true → PA X es (SemA Φ X.K z t)
  kw : ∀ X kws, COk C Φ k X → noMu t = true → chkL C t X.env.scope (kws.map (·.value)) = true → PK X kws (SemA Φ X.K z t)
  f : ∀ X x b, COk C Φ k X → frB C t = true → chk C t X.env.scope x = true → PE X x (SemF Φ X.K z (.m1 .fr t b)) := by intro X x b hk h; cases h
section
variable {C : Cc} {Φ : Fn} {k : Nat} {z : L2.St}
theorem Snd.o {t : Ex} (h : Snd C Φ k z t) : ∀ X x, COk C Φ k X → chk C t X.env.scope x = true → PE X x (SemO Φ X.K z t) := fun X x hk hx => by
  by_cases n : ∃ i, t = .var i
  · obtain ⟨i, rfl⟩ := n
    simp only [chk] at hx
    split at hx
    · obtain ⟨h1, h2, h3, h4⟩ := nm_of hk hx
      exact semO_var h1 h2 h3 h4
    · cases hx
  · exact semO_of (fun i e => n ⟨i, e⟩) (h.e X x hk hx)
/-- a term that is no row of arguments, and no 'and', 'or', 'not' -/
theorem mkS {t : Ex} (n : ∀ i, t ≠ .var i) (hl : ∀ sc es, chkL C t sc es = false) (hp : ∀ sc x, chk C t sc x = true → tOk t = true → plainHead x = true)
    (he : ∀ X x, COk C Φ k X → chk C t X.env.scope x = true → PE X x (SemE Φ X.K z t)) (hf : ∀ X x b, COk C Φ k X → frB C t = true → chk C t X.env.scope x = true → PE X x (SemF Φ X.K z (.m1 .fr t b)) := by intro X x b hk h; cases h) : Snd C Φ k z t where
  e := he
  f := hf
  b := fun X x hk hx ht => by
    have ph := hp _ x hx ht
    exact ⟨semT_tru ph (semO_of n (he X x hk hx)), fun ⟨op, es, p, e⟩ => by subst e; cases ph⟩
  a := fun X es hk h => by rw [hl] at h; cases h
  kw := fun X kws hk _ h => by rw [hl] at h; cases h
theorem S_var (i : Nat) : Snd C Φ k z (.var i) where
  e := fun X x hk hx => by
    simp only [chk] at hx
    split at hx
    · obtain ⟨h1, h2, h3, h4⟩ := nm_of hk hx
      exact s_var h1 h2 h3 h4
    · cases hx
  b := fun X x hk hx ht => by
    simp only [chk] at hx
    split at hx
    · obtain ⟨h1, h2, h3, h4⟩ := nm_of hk hx
      exact ⟨semT_tru rfl (semO_var h1 h2 h3 h4), fun ⟨op, es, p, e⟩ => by cases e⟩
    · cases hx
  a := fun X es hk h => by cases h
  kw := fun X kws hk _ h => by cases h
theorem S_cst (d : D) : Snd C Φ k z (.cst d) := mkS (fun i h => nomatch h) (fun _ _ => rfl) (fun sc x h _ => by
    simp only [chk] at h
    split at h
    · rfl
    · cases h) fun X x hk h => by
  simp only [chk] at h
  split at h
  · exact s_cst h
  · cases h
theorem S_glo (y : Str) (d : D) : Snd C Φ k z (.glo y d) := mkS (fun i h => nomatch h) (fun _ _ => rfl) (fun sc x h _ => by
    simp only [chk] at h
    split at h
    · rfl
    · cases h) fun X x hk h => by
  simp only [chk] at h
  split at h
  · rw [Bool.and_eq_true, Bool.and_eq_true] at h
    obtain ⟨⟨h1, h2⟩, h3⟩ := h
    have e1 := of_decide_eq_true h1
    subst e1
    obtain ⟨hg, hd⟩ := gl_of h2
    exact s_glo hk hg hd (memG_of h3)
  · cases h
theorem S_bin (o : Bo) {a b : Ex} (ha : Snd C Φ k z a) (hb : Snd C Φ k z b) : Snd C Φ k z (.bin o a b) := mkS (fun i h => nomatch h) (fun _ _ => rfl) (fun sc x h _ => by
    simp only [chk] at h
    split at h
    · rfl
    · cases h) fun X x hk h => by
  simp only [chk] at h
  split at h
  · rw [Bool.and_eq_true, Bool.and_eq_true] at h
    obtain ⟨⟨h1, h2⟩, h3⟩ := h
    have e1 := of_decide_eq_true h1
    subst e1
    exact s_bin (ha.o X _ hk h2) (hb.o X _ hk h3)
  · cases h
theorem S_neg {a : Ex} (ha : Snd C Φ k z a) : Snd C Φ k z (.neg a) := mkS (fun i h => nomatch h) (fun _ _ => rfl) (fun sc x h _ => by
    simp only [chk] at h
    split at h
    · rfl
    · cases h) fun X x hk h => by
  simp only [chk] at h
  split at h
  · exact s_neg (ha.o X _ hk h)
  · cases h
theorem S_nt {a : Ex} (ha : Snd C Φ k z a) : Snd C Φ k z (.nt a) where
  e := fun X x hk h => by
    simp only [chk] at h
    split at h
    · rw [Bool.and_eq_true] at h
      exact s_nt (ha.o X _ hk h.1)
    · cases h
  b := fun X x hk h _ => by
    simp only [chk] at h
    split at h
    · rw [Bool.and_eq_true] at h
      exact ⟨t_nt (ha.b X _ hk h.1 h.2).1, fun ⟨op, es, p, e⟩ => by cases e⟩
    · cases h
  a := fun X es hk h => by cases h
  kw := fun X kws hk _ h => by cases h
theorem noMuT {a : Ex} (h : tOk a = true) : ∀ i, a ≠ .mu i := fun i e => by subst e; cases h
theorem S_and {a b : Ex} (ha : Snd C Φ k z a) (hb : Snd C Φ k z b) : Snd C Φ k z (.and a b) where
  e := fun X x hk h => by
    simp only [chk] at h
    split at h
    · rw [Bool.and_eq_true, Bool.and_eq_true, Bool.and_eq_true] at h
      obtain ⟨⟨⟨h1, h2⟩, h3⟩, h4⟩ := h
      refine pe_imp (pe_and (ha.e X _ hk h1) (tb := SemE Φ X.K z b) ?_) fun σ H Q h => m_and h
      split at h4
      · exact pe_one (hb.e X _ hk h4)
      · exact hb.e X _ hk h4
    · cases h
  b := fun X x hk h _ => by
    simp only [chk] at h
    split at h
    · rename_i x0 y0 r0 p0
      rw [Bool.and_eq_true, Bool.and_eq_true, Bool.and_eq_true] at h
      obtain ⟨⟨⟨h1, h2⟩, h3⟩, h4⟩ := h
      have w : PW X (.BoolOp .And (x0 :: y0 :: r0) p0) (SemT Φ X.K z (.and a b)) := by
        refine pw_imp (pw_and (ha.b X _ hk h1 h2).1 (tB' := SemT Φ X.K z b) ?_) fun σ H Q h => mt_and (noMuT h2) (noMuT h3) h
        split at h4
        · exact pw_and1 (hb.b X _ hk h4 h3).1
        · exact (hb.b X _ hk h4 h3).2 ⟨_, _, _, rfl⟩
      exact ⟨w.pt, fun _ => w⟩
    · cases h
  a := fun X es hk h => by cases h
  kw := fun X kws hk _ h => by cases h
theorem S_or {a b : Ex} (ha : Snd C Φ k z a) (hb : Snd C Φ k z b) : Snd C Φ k z (.or a b) where
  e := fun X x hk h => by
    simp only [chk] at h
    split at h
    · rw [Bool.and_eq_true, Bool.and_eq_true, Bool.and_eq_true] at h
      obtain ⟨⟨⟨h1, h2⟩, h3⟩, h4⟩ := h
      refine pe_imp (pe_or (ha.e X _ hk h1) (tb := SemE Φ X.K z b) ?_) fun σ H Q h => m_or h
      split at h4
      · exact pe_one (hb.e X _ hk h4)
      · exact hb.e X _ hk h4
    · cases h
  b := fun X x hk h _ => by
    simp only [chk] at h
    split at h
    · rename_i x0 y0 r0 p0
      rw [Bool.and_eq_true, Bool.and_eq_true, Bool.and_eq_true] at h
      obtain ⟨⟨⟨h1, h2⟩, h3⟩, h4⟩ := h
      have w : PW X (.BoolOp .Or (x0 :: y0 :: r0) p0) (SemT Φ X.K z (.or a b)) := by
        refine pw_imp (pw_or (ha.b X _ hk h1 h2).1 (tB' := SemT Φ X.K z b) ?_) fun σ H Q h => mt_or (noMuT h2) (noMuT h3) h
        split at h4
        · exact pw_or1 (hb.b X _ hk h4 h3).1
        · exact (hb.b X _ hk h4 h3).2 ⟨_, _, _, rfl⟩
      exact ⟨w.pt, fun _ => w⟩
    · cases h
  a := fun X es hk h => by cases h
  kw := fun X kws hk _ h => by cases h
/-- a comparison -/
theorem mkC {t : Ex} (hl : ∀ sc es, chkL C t sc es = false)
    (he : ∀ X x, COk C Φ k X → chk C t X.env.scope x = true → (PE X x (SemE Φ X.K z t) ∧ PT X x (SemT Φ X.K z t)) ∧ ∀ op es p, x ≠ .BoolOp op es p) (hf : frB C t = false := by rfl) : Snd C Φ k z t where
  f := fun X x b hk h => by rw [hf] at h; cases h
  e := fun X x hk h => (he X x hk h).1.1
  b := fun X x hk hx ht => ⟨(he X x hk hx).1.2, fun ⟨op, es, p, e⟩ => absurd e ((he X x hk hx).2 op es p)⟩
  a := fun X es hk h => by rw [hl] at h; cases h
  kw := fun X kws hk _ h => by rw [hl] at h; cases h
theorem S_cmp (o : Co) {a b : Ex} (ha : Snd C Φ k z a) (hb : Snd C Φ k z b) : Snd C Φ k z (.cmp o a b) := mkC (fun _ _ => rfl) fun X x hk h => by
  simp only [chk] at h
  split at h
  · rw [Bool.and_eq_true, Bool.and_eq_true, Bool.and_eq_true] at h
    obtain ⟨⟨⟨h1, h2⟩, h3⟩, h4⟩ := h
    have e1 := of_decide_eq_true h1
    subst e1
    exact ⟨s_cmp hk (ha.o X _ hk h2) (hb.o X _ hk h3) (marks_of h4), fun _ _ _ e => by cases e⟩
  · cases h
theorem S_chn (o q : Co) {a b c : Ex} (ha : Snd C Φ k z a) (hb : Snd C Φ k z b) (hc : Snd C Φ k z c) : Snd C Φ k z (.chn o q a b c) := mkC (fun _ _ => rfl) fun X x hk h => by
  simp only [chk] at h
  split at h
  · rw [Bool.and_eq_true, Bool.and_eq_true, Bool.and_eq_true, Bool.and_eq_true, Bool.and_eq_true] at h
    obtain ⟨⟨⟨⟨⟨h1, h2⟩, h3⟩, h4⟩, h5⟩, h6⟩ := h
    have e1 := of_decide_eq_true h1
    have e2 := of_decide_eq_true h2
    subst e1
    subst e2
    exact ⟨s_chn hk (ha.e X _ hk h3) (hb.e X _ hk h4) (hc.e X _ hk h5) (marks_of h6), fun _ _ _ e => by cases e⟩
  · cases h
theorem S_ite {c a b : Ex} (hc : Snd C Φ k z c) (ha : Snd C Φ k z a) (hb : Snd C Φ k z b) : Snd C Φ k z (.ite c a b) := mkS (fun i h => nomatch h) (fun _ _ => rfl) (fun sc x h h2 => by cases h2) fun X x hk h => by
  simp only [chk] at h
  split at h
  · rw [Bool.and_eq_true, Bool.and_eq_true, Bool.and_eq_true] at h
    obtain ⟨⟨⟨h1, h2⟩, h3⟩, h4⟩ := h
    exact pe_imp (pe_ifExp (hc.b X _ hk h1 h2).1 (ha.e X _ hk h3) (hb.e X _ hk h4)) fun σ H Q h => m_ite h
  · cases h
theorem S_tup {as : Ex} (ha : Snd C Φ k z as) : Snd C Φ k z (.tup as) := mkS (fun i h => nomatch h) (fun _ _ => rfl) (fun sc x h _ => by
    simp only [chk] at h
    split at h
    · rfl
    · cases h) fun X x hk h => by
  simp only [chk] at h
  split at h
  · rw [Bool.and_eq_true] at h
    exact s_tup h.1 (ha.a X _ hk h.2)
  · cases h
theorem F_lst {as : Ex} (ha : Snd C Φ k z as) : ∀ X x, COk C Φ k X → chk C (.lst as) X.env.scope x = true → PE X x (SemF Φ X.K z (.lst as)) := fun X x hk h => by
  simp only [chk] at h
  split at h
  · rw [Bool.and_eq_true] at h
    exact f_lst h.1 (ha.a X _ hk h.2)
  · cases h
theorem S_lst {as : Ex} (ha : Snd C Φ k z as) : Snd C Φ k z (.lst as) := mkS (fun i h => nomatch h) (fun _ _ => rfl) (fun sc x h _ => by
    simp only [chk] at h
    split at h
    · rfl
    · cases h) fun X x hk h => semE_of_F (F_lst ha X x hk h) lst_list
theorem F_rep {as n : Ex} (ha : Snd C Φ k z as) (hn : Snd C Φ k z n) : ∀ X x, COk C Φ k X → chk C (.rep as n) X.env.scope x = true → PE X x (SemF Φ X.K z (.rep as n)) := fun X x hk h => by
  simp only [chk] at h
  split at h
  · rw [Bool.and_eq_true, Bool.and_eq_true] at h
    exact f_rep h.1.1 (ha.a X _ hk h.1.2) (hn.e X _ hk h.2)
  · cases h
theorem S_rep {as n : Ex} (ha : Snd C Φ k z as) (hn : Snd C Φ k z n) : Snd C Φ k z (.rep as n) := mkS (fun i h => nomatch h) (fun _ _ => rfl) (fun sc x h _ => by
    simp only [chk] at h
    split at h
    · rfl
    · cases h) fun X x hk h => semE_of_F (F_rep ha hn X x hk h) rep_list
theorem S_nil : Snd C Φ k z .nil where
  e := fun X x hk h => by cases h
  b := fun X x hk h => by cases h
  a := fun X es hk h => by
    simp only [chkL] at h
    cases es with
    | nil => exact s_anil
    | cons => cases h
  kw := fun X kws hk _ h => by
    simp only [chkL] at h
    cases kws with
    | nil => exact ⟨fun pos pins s σ H Q I ⟨e, F, ds, e', R, h1, q⟩ => pk_nil.run pos pins s σ H Q I (by
        have h1 : some (PyData.tuple [], e) = some (.tuple ds, e') := h1
        cases h1
        exact q [] F H R Stp.refl trivial)⟩
    | cons => cases h
theorem S_cons {a r : Ex} (ha : Snd C Φ k z a) (hr : Snd C Φ k z r) : Snd C Φ k z (.cons a r) where
  e := fun X x hk h => by cases h
  b := fun X x hk h => by cases h
  a := fun X es hk h => by
    simp only [chkL] at h
    split at h
    · rename_i x es
      rw [Bool.and_eq_true, Bool.and_eq_true] at h
      obtain ⟨⟨h1, h2⟩, h3⟩ := h
      split at h2
      · rename_i i
        split at h2
        · obtain ⟨g1, g2, g3, g4⟩ := nm_of hk h2
          exact s_amu g1 g2 g3 g4 (hr.a X _ hk h3) (star_of h1 _)
        · cases h2
      · rename_i n
        exact s_acons n (ha.e X _ hk h2) (hr.a X _ hk h3) (star_of h1 _)
    · cases h
  kw := fun X kws hk nm h => by
    cases kws with
    | nil => simp only [chkL, List.map_nil] at h; cases h
    | cons kw0 kws =>
      obtain ⟨nm0, x, kp⟩ := kw0
      simp only [chkL, List.map_cons] at h
      rw [Bool.and_eq_true, Bool.and_eq_true] at h
      obtain ⟨⟨h1, h2⟩, h3⟩ := h
      split at h2
      · cases nm
      · rename_i n
        have nr : noMu r = true := by
          cases a <;> first | exact nm | (exact absurd rfl (n _))
        refine ⟨fun pos pins s σ H Q I h => (pk_cons (nm := nm0) (kpos := kp) (ha.e X _ hk h2) (hr.kw X _ hk nr h3)).run pos pins s σ H Q I ?_⟩
        obtain ⟨e, F, ds, e', R, h, q⟩ := h
        obtain ⟨d, e1, ts, g1, g2, rfl⟩ := ev_cons h
        refine ⟨e, F, d, e1, R, g1, fun v F1 H1 R1 S1 dp => ⟨e1, F1, ts, e', R1, g2, fun vs F2 H2 R2 S2 g => q (v :: vs) F2 H2 R2 (S1.trans S2) ⟨?_, g⟩⟩⟩
        cases a <;> first | exact dp_mono S2.fs dp | (exact absurd rfl (n _))
theorem S_idx {a i : Ex} (ha : Snd C Φ k z a) (hi : Snd C Φ k z i) : Snd C Φ k z (.idx a i) := mkS (fun i h => nomatch h) (fun _ _ => rfl) (fun sc x h _ => by
    simp only [chk] at h
    split at h
    · rfl
    · cases h) fun X x hk h => by
  simp only [chk] at h
  split at h
  · rw [Bool.and_eq_true, Bool.and_eq_true] at h
    exact s_idx (ha.o X _ hk h.1.2) (hi.o X _ hk h.2) (ix_of h.1.1)
  · cases h
theorem S_slc {a lo hi : Ex} (ha : Snd C Φ k z a) (hl : Snd C Φ k z lo) (hh : Snd C Φ k z hi) : Snd C Φ k z (.slc a lo hi) := mkS (fun i h => nomatch h) (fun _ _ => rfl) (fun sc x h _ => by
    simp only [chk] at h
    split at h
    · rfl
    · cases h) fun X x hk h => by
  simp only [chk] at h
  split at h
  · rw [Bool.and_eq_true, Bool.and_eq_true] at h
    obtain ⟨⟨h1, h2⟩, h3⟩ := h
    refine s_slc (ha.o X _ hk h1) ?_ ?_
    · split at h2
      · exact p_none h2
      · rw [Bool.and_eq_true] at h2
        exact p_some (hl.e X _ hk h2.1) (by simpa using h2.2)
    · split at h3
      · exact p_none h3
      · rw [Bool.and_eq_true] at h3
        exact p_some (hh.e X _ hk h3.1) (by simpa using h3.2)
  · cases h
theorem S_none {t : Ex} (h1 : ∀ sc x, chk C t sc x = false) (h2 : ∀ sc es, chkL C t sc es = false) : Snd C Φ k z t where
  f := fun X x b hk _ h => by rw [h1] at h; cases h
  e := fun X x hk h => by rw [h1] at h; cases h
  b := fun X x hk h => by rw [h1] at h; cases h
  a := fun X es hk h => by rw [h2] at h; cases h
  kw := fun X kws hk _ h => by rw [h2] at h; cases h
theorem nil_of {as : Ex} {sc : Scope} {es : List Expr} (h : chkL C as sc es = true) : es = [] → as = .nil := fun e => by
  subst e
  have := chkL_len h
  cases as <;> first | rfl | (simp [lenA] at this; done) | (exact absurd h (by simp [chkL]))
theorem S_call (j : Nat) {as : Ex} (ha : Snd C Φ k z as) : Snd C Φ k z (.call j as) := mkS (fun i h => nomatch h) (fun _ _ => rfl) (fun sc x h _ => by
    simp only [chk] at h
    split at h
    · rfl
    · cases h) (fun X x hk h => by
  simp only [chk] at h
  split at h
  · rw [Bool.and_eq_true, Bool.and_eq_true, Bool.and_eq_true] at h
    obtain ⟨⟨⟨h1, h2⟩, h3⟩, h4⟩ := h
    obtain ⟨hg, hd⟩ := gl_of h2
    refine s_call hk ?_ hg hd h3 (nil_of h4) (ha.a X _ hk h4)
    split at h1
    · rename_i y ps h5
      have e1 := of_decide_eq_true h1
      subst e1
      exact ⟨ps, h5⟩
    · cases h1
  · cases h)
  (fun X x b hk hfr h => by
  simp only [chk] at h
  split at h
  · rw [Bool.and_eq_true, Bool.and_eq_true, Bool.and_eq_true] at h
    obtain ⟨⟨⟨h1, h2⟩, h3⟩, h4⟩ := h
    obtain ⟨hg, hd⟩ := gl_of h2
    refine f_call hk ?_ hfr hg hd h3 (nil_of h4) (ha.a X _ hk h4)
    split at h1
    · rename_i y ps h5
      have e1 := of_decide_eq_true h1
      subst e1
      exact ⟨ps, h5⟩
    · cases h1
  · cases h)
theorem S_calk (j : Nat) (perm : List Nat) {as ks : Ex} (ha : Snd C Φ k z as) (hb : Snd C Φ k z ks) : Snd C Φ k z (.calk j as ks perm) := mkS (fun i h => nomatch h) (fun _ _ => rfl) (fun sc x h _ => by
    simp only [chk] at h
    split at h
    · rfl
    · cases h) (fun X x hk h => by
  simp only [chk] at h
  split at h
  · simp only [Bool.and_eq_true] at h
    obtain ⟨⟨⟨⟨⟨⟨⟨⟨h1, h2⟩, h3⟩, h4⟩, h5⟩, h6⟩, h7⟩, h8⟩, h9⟩ := h
    obtain ⟨hg, hd⟩ := gl_of h2
    refine s_calk hk ?_ hg hd h3 h4 h5 (chkL_len h6) (by rw [chkL_len h7, List.length_map]) h8 (of_decide_eq_true h9) (nil_of h6) (ha.a X _ hk h6) (hb.kw X _ hk h5 h7)
    split at h1
    · rename_i y ps h5
      have e1 := of_decide_eq_true h1
      subst e1
      exact ⟨ps, h5⟩
    · cases h1
  · cases h)
  (fun X x b hk hfr h => by
  simp only [chk] at h
  split at h
  · simp only [Bool.and_eq_true] at h
    obtain ⟨⟨⟨⟨⟨⟨⟨⟨h1, h2⟩, h3⟩, h4⟩, h5⟩, h6⟩, h7⟩, h8⟩, h9⟩ := h
    obtain ⟨hg, hd⟩ := gl_of h2
    refine f_calk hk ?_ hfr hg hd h3 h4 h5 (chkL_len h6) (by rw [chkL_len h7, List.length_map]) h8 (of_decide_eq_true h9) (nil_of h6) (ha.a X _ hk h6) (hb.kw X _ hk h5 h7)
    split at h1
    · rename_i y ps h5
      have e1 := of_decide_eq_true h1
      subst e1
      exact ⟨ps, h5⟩
    · cases h1
  · cases h)
theorem F_list {a : Ex} (ha : Snd C Φ k z a) : ∀ X x, COk C Φ k X → chk C (.b1 .list a) X.env.scope x = true → PE X x (SemF Φ X.K z (.b1 .list a)) := fun X x hk h => by
  simp only [chk] at h
  split at h
  · rw [Bool.and_eq_true, Bool.and_eq_true] at h
    exact f_list hk h.1.1 h.2 (ha.o X _ hk h.1.2)
  · cases h
theorem S_b1 (b : B1) {a : Ex} (ha : Snd C Φ k z a) : Snd C Φ k z (.b1 b a) := mkS (fun i h => nomatch h) (fun _ _ => rfl) (fun sc x h _ => by
    simp only [chk] at h
    split at h
    · rfl
    · cases h) fun X x hk h => by
  simp only [chk] at h
  split at h
  · rw [Bool.and_eq_true, Bool.and_eq_true] at h
    exact s_b1 hk h.1.1 h.2 (ha.o X _ hk h.1.2)
  · cases h
theorem S_b2 (b : B2) {a c : Ex} (ha : Snd C Φ k z a) (hc : Snd C Φ k z c) : Snd C Φ k z (.b2 b a c) := mkS (fun i h => nomatch h) (fun _ _ => rfl) (fun sc x h _ => by
    simp only [chk] at h
    split at h
    · rfl
    · cases h) fun X x hk h => by
  simp only [chk] at h
  split at h
  · simp only [Bool.and_eq_true] at h
    obtain ⟨⟨⟨⟨h1, h2⟩, h3⟩, h4⟩, h5⟩ := h
    exact s_b2 hk h1 h4 h5 (ha.o X _ hk h2) (hc.o X _ hk h3)
  · cases h
theorem S_isi {a : Ex} (ts : List String) (ha : Snd C Φ k z a) : Snd C Φ k z (.isi a ts) := mkS (fun i h => nomatch h) (fun _ _ => rfl) (fun sc x h _ => by
    simp only [chk] at h
    split at h
    · rfl
    · cases h) fun X x hk h => by
  simp only [chk] at h
  split at h
  · simp only [Bool.and_eq_true] at h
    obtain ⟨⟨⟨⟨h1, h2⟩, h3⟩, h4⟩, h5⟩ := h
    exact s_isi hk h1 h4 h5 (ha.o X _ hk h2) h3
  · cases h
theorem F_m1 {m : M1} {a b : Ex} (ha : Snd C Φ k z a) : ∀ X x, COk C Φ k X → chk C (.m1 m a b) X.env.scope x = true → PE X x (SemF Φ X.K z (.m1 m a b)) := fun X x hk h => by
  simp only [chk] at h
  split at h
  · split at h
    · simp only [Bool.and_eq_true] at h
      obtain ⟨⟨⟨⟨h1, h2⟩, h3⟩, h4⟩, h5⟩ := h
      exact f_lrng hk h2 h3 h5 (ha.e X _ hk h4)
    · cases h
  · rw [Bool.and_eq_true] at h
    exact ha.f X x _ hk h.1 h.2
  · cases h
theorem S_m1 {m : M1} {a b : Ex} (ha : Snd C Φ k z a) : Snd C Φ k z (.m1 m a b) := mkS (fun i h => nomatch h) (fun _ _ => rfl) (fun sc x h _ => by
    simp only [chk] at h
    split at h
    · split at h
      · rfl
      · cases h
    · rw [Bool.and_eq_true] at h
      obtain ⟨h0, h⟩ := h
      split at h0
      · simp only [chk] at h
        split at h
        · rfl
        · cases h
      · simp only [chk] at h
        split at h
        · rfl
        · cases h
      · cases h0
    · cases h) fun X x hk h => semE_of_F (F_m1 ha X x hk h) lrng_list
theorem S_cf (j : Nat) {a : Ex} (ha : Snd C Φ k z a) : Snd C Φ k z (.cf j a) := mkS (fun i h => nomatch h) (fun _ _ => rfl) (fun sc x h _ => by
    simp only [chk] at h
    split at h
    · rfl
    · cases h) fun X x hk h => by
  simp only [chk] at h
  split at h
  · rw [Bool.and_eq_true, Bool.and_eq_true, Bool.and_eq_true, Bool.and_eq_true] at h
    obtain ⟨⟨⟨⟨h1, h2⟩, h3⟩, h4⟩, h5⟩ := h
    obtain ⟨hg, hd⟩ := gl_of h2
    refine s_cf hk ?_ hg hd h3 (ha.f X _ .noe hk h4 h5)
    split at h1
    · rename_i y ps h5
      have e1 := of_decide_eq_true h1
      subst e1
      exact ⟨ps, h5⟩
    · cases h1
  · cases h
/-! ### comprehensions -/
theorem iter_ok {X : Cx} {kd : Ik} {a b : Ex} {tg iter : Expr} (hk : COk C Φ k X) (ha : Snd C Φ k z a) (hb : Snd C Φ k z b)
    (h : (match kd with
        | .walk => chk C a X.env.scope iter && isNoe b
        | .enm => isTupE tg && isNoe b && (match iter with
          | .Call (.Name x _) [y] [] _ => bltB C X.env.scope "enumerate" x && chk C a X.env.scope y && notStar y
          | _ => false)
        | .zip => isTupE tg && (match iter with
          | .Call (.Name x _) [y, w] [] _ => bltB C X.env.scope "zip" x && chk C a X.env.scope y && chk C b X.env.scope w && notStar y && notStar w
          | _ => false)
        | .rng => isNoe b && (match iter with
          | .Call (.Name x _) [y] [] _ => bltB C X.env.scope "range" x && chk C a X.env.scope y && notStar y
          | _ => false)
        | .rng2 => (match iter with
          | .Call (.Name x _) [y, w] [] _ => bltB C X.env.scope "range" x && chk C a X.env.scope y && chk C b X.env.scope w && notStar y && notStar w
          | _ => false)) = true) : PI X tg iter (SemI Φ X.K z kd a b) := by
  have noe : ∀ {t : Ex}, isNoe t = true → t = .noe := fun {t} h => by cases t <;> first | rfl | cases h
  cases kd with
  | walk =>
    simp only [Bool.and_eq_true] at h
    cases noe h.2
    exact s_walk (ha.e X _ hk h.1)
  | enm =>
    simp only [Bool.and_eq_true] at h
    obtain ⟨⟨h1, h2⟩, h3⟩ := h
    cases noe h2
    split at h3
    · simp only [Bool.and_eq_true] at h3
      obtain ⟨e1, hg, hm, hd⟩ := blt_of hk h3.1.1
      subst e1
      cases tg <;> first | exact s_enum (ha.e X _ hk h3.1.2) hg hm (fun r => star_of h3.2 r) | cases h1
    · cases h3
  | zip =>
    simp only [Bool.and_eq_true] at h
    obtain ⟨h1, h3⟩ := h
    split at h3
    · simp only [Bool.and_eq_true] at h3
      obtain ⟨⟨⟨⟨g1, g2⟩, g3⟩, g4⟩, g5⟩ := h3
      obtain ⟨e1, hg, hm, hd⟩ := blt_of hk g1
      subst e1
      cases tg <;> first | exact s_zip (ha.e X _ hk g2) (hb.e X _ hk g3) hg hm (fun r => star_of g4 r) (fun r => star_of g5 r) | cases h1
    · cases h3
  | rng =>
    simp only [Bool.and_eq_true] at h
    obtain ⟨h2, h3⟩ := h
    cases noe h2
    split at h3
    · simp only [Bool.and_eq_true] at h3
      obtain ⟨e1, hg, hm, hd⟩ := blt_of hk h3.1.1
      subst e1
      exact s_rng (ha.e X _ hk h3.1.2) hg hm fun r => star_of h3.2 r
    · cases h3
  | rng2 =>
    simp only at h
    split at h
    · simp only [Bool.and_eq_true] at h
      obtain ⟨⟨⟨⟨g1, g2⟩, g3⟩, g4⟩, g5⟩ := h
      obtain ⟨e1, hg, hm, hd⟩ := blt_of hk g1
      subst e1
      exact s_rng2 (ha.e X _ hk g2) (hb.e X _ hk g3) hg hm (fun r => star_of g4 r) fun r => star_of g5 r
    · cases h
structure LcOk (Φ : Fn) (X : Cx) (z : L2.St) (own : List (Str × Nat)) (g : Tg) (kd : Ik) (a b c f : Ex) (elt tg iter : Expr) (ifs : List Expr) (scope : Scope) : Prop where
  it : PI X tg iter (SemI Φ X.K z kd a b)
  ok : BlkOk X.N X.env.scope scope own
  ixs : ∀ j ∈ tgIxs g, j ∈ own.map (·.2)
  tg : ∀ (s : Shared) (H : Hp) (C : Addr) (cl : List (Str × Addr)) (fp : List Addr), PG (X.blk s H scope (compEnvC scope cl C X.env) fp) tg (tgG X.K g)
  ts : ∀ (s : Shared) (H : Hp) (C : Addr) (cl : List (Str × Addr)) (fp : List Addr), PTs (X.blk s H scope (compEnvC scope cl C X.env) fp) ifs (SemC Φ X.K z c)
  el : ∀ (s : Shared) (H : Hp) (C : Addr) (cl : List (Str × Addr)) (fp : List Addr), PE (X.blk s H scope (compEnvC scope cl C X.env) fp) elt (SemE Φ X.K z f)
  fs : ∀ x, foldedSetIterable iter X.env x = pure x
theorem lc_ok {X : Cx} {own : List (Str × Nat)} {g : Tg} {kd : Ik} {a b c f : Ex} (hk : COk C Φ k X) (ha : Snd C Φ k z a) (hb : Snd C Φ k z b) (hc : Snd C Φ k z c) (hf : Snd C Φ k z f) {x : Expr} (h : chk C (.lc own g kd a b c f) X.env.scope x = true) :
    ∃ elt tg iter ifs scope pos, x = .ListComp elt [⟨tg, iter, ifs, 0⟩] scope pos ∧ LcOk Φ X z own g kd a b c f elt tg iter ifs scope := by
  simp only [chk] at h
  split at h
  · rename_i elt tg iter ifs asy scope pos
    rw [Bool.and_eq_true, Bool.and_eq_true, Bool.and_eq_true, Bool.and_eq_true, Bool.and_eq_true, Bool.and_eq_true, Bool.and_eq_true] at h
    obtain ⟨⟨⟨⟨⟨⟨⟨h1, h2⟩, h3⟩, h4⟩, h5⟩, h6⟩, h7⟩, h8⟩ := h
    have e1 := of_decide_eq_true h1
    subst e1
    refine ⟨elt, tg, iter, ifs, scope, pos, rfl, iter_ok hk ha hb h6, ?_, fun j hj => ?_, fun s H P cl fp => ?_, fun s H P cl fp => ?_, fun s H P cl fp => ?_, folded_of h5⟩
    · rw [hk.N]; exact blkOk_by h2
    · have q := List.all_eq_true.mp h4 j hj
      simpa using q
    · exact tg_ok (X := X.blk s H scope (compEnvC scope cl P X.env) fp) (C := C) hk.N hk.nd hk.calm (own_ok rfl rfl) h3
    · have kb := hk.blk s H scope (compEnvC scope cl P X.env) fp
      split at h7
      · cases c <;> first | cases h7 | skip
        exact ⟨fun pins s1 σ H1 Q I ⟨e, F, b1, e', R, h, q⟩ => pts_nil.run pins s1 σ H1 Q I (by
          cases h
          exact q F H1 R Stp.refl)⟩
      · rename_i t
        rw [Bool.and_eq_true, Bool.and_eq_true] at h7
        obtain ⟨⟨g1, g2⟩, g3⟩ := h7
        refine pts_one ⟨fun pins s1 σ H1 Q I h => (hc.b (X.blk s H scope (compEnvC scope cl P X.env) fp) t kb g1 g2).1.run pins s1 σ H1 Q I ?_⟩
        obtain ⟨e, F, b1, e', R, h, q⟩ := h
        refine ⟨e, F, b1, e', R, ?_, q⟩
        cases c <;> first | exact h | cases g3
      · cases h7
    · exact hf.e (X.blk s H scope (compEnvC scope cl P X.env) fp) elt (hk.blk s H scope _ fp) h8
  · cases h
theorem F_lc {own : List (Str × Nat)} {g : Tg} {kd : Ik} {a b c f : Ex} (ha : Snd C Φ k z a) (hb : Snd C Φ k z b) (hc : Snd C Φ k z c) (hf : Snd C Φ k z f) : ∀ X x, COk C Φ k X → chk C (.lc own g kd a b c f) X.env.scope x = true → PE X x (SemF Φ X.K z (.lc own g kd a b c f)) := fun X x hk h => by
  obtain ⟨elt, tg, iter, ifs, scope, pos, rfl, L⟩ := lc_ok hk ha hb hc hf h
  exact f_lc hk.calm (by rw [hk.N]; exact hk.nd) L.it L.ok L.ixs L.tg L.ts L.el L.fs
theorem S_lc {own : List (Str × Nat)} {g : Tg} {kd : Ik} {a b c f : Ex} (ha : Snd C Φ k z a) (hb : Snd C Φ k z b) (hc : Snd C Φ k z c) (hf : Snd C Φ k z f) : Snd C Φ k z (.lc own g kd a b c f) := mkS (fun i h => nomatch h) (fun _ _ => rfl) (fun sc x h _ => by
    simp only [chk] at h
    split at h
    · rfl
    · cases h) fun X x hk h => semE_of_F (F_lc ha hb hc hf X x hk h) lc_list'
theorem sound : ∀ t : Ex, Snd C Φ k z t := fun t => by
  induction t with
  | var i => exact S_var i
  | mu i => exact S_none (fun _ _ => rfl) (fun _ _ => rfl)
  | cst d => exact S_cst d
  | glo x d => exact S_glo x d
  | bin o a b ha hb => exact S_bin o ha hb
  | neg a ha => exact S_neg ha
  | nt a ha => exact S_nt ha
  | and a b ha hb => exact S_and ha hb
  | or a b ha hb => exact S_or ha hb
  | cmp o a b ha hb => exact S_cmp o ha hb
  | chn o p a b c ha hb hc => exact S_chn o p ha hb hc
  | ite c a b hc ha hb => exact S_ite hc ha hb
  | tup as ha => exact S_tup ha
  | lst as ha => exact S_lst ha
  | rep as n ha hn => exact S_rep ha hn
  | nil => exact S_nil
  | cons a r ha hr => exact S_cons ha hr
  | idx a i ha hi => exact S_idx ha hi
  | slc a lo hi ha hl hh => exact S_slc ha hl hh
  | noe => exact S_none (fun _ _ => rfl) (fun _ _ => rfl)
  | call j as ha => exact S_call j ha
  | calk j as ks perm ha hb => exact S_calk j perm ha hb
  | b1 b a ha => exact S_b1 b ha
  | b2 b a c ha hc => exact S_b2 b ha hc
  | isi a ts ha => exact S_isi ts ha
  | m1 m a b ha hb => exact S_m1 ha
  | cf j a ha => exact S_cf j ha
  | lc own g kd a b c f ha hb hc hf => exact S_lc ha hb hc hf
end
end Iv
end
section
set_option Elab.async false
set_option linter.all false
set_option maxRecDepth 100000
set_option maxHeartbeats 2000000
/-! The look that holds statements against the text; the steps of statements. -/
namespace Iv
open PySem PySem.Spec PyProof.Rows L2
def isF : Ex → Bool
  | .lst _ => true
  | .rep _ _ => true
  | .lc _ _ _ _ _ _ _ => true
  | .b1 .list _ => true
  | .m1 _ _ _ => true
  | _ => false
def swB (sc : Scope) (tg e : Expr) : Bool := match tg, e with
  | .Name y py, .ListComp _ _ s p => (sc.names.lookup y == some .local) && py.line == p.line && !(s.names.any fun (n, k) => n == y && (k == .local || k == .cell))
  | _, _ => false
def noTup : Expr → Bool
  | .Tuple _ _ _ => false
  | .List _ _ => false
  | _ => true
def noTupV : Expr → Bool
  | .Tuple _ _ _ => false
  | _ => true
def notSD : Expr → Bool
  | .SetComp _ _ _ _ => false
  | .DictComp _ _ _ _ _ => false
  | _ => true
def notComp : Expr → Bool
  | .ListComp _ _ _ _ => false
  | e => notSD e
def iterB (C : Cc) (sc : Scope) (kd : Ik) (a b : Ex) (tg iter : Expr) : Bool := match kd with
  | .walk => chk C a sc iter && isNoe b
  | .enm => isTupE tg && isNoe b && (match iter with
    | .Call (.Name x _) [y] [] _ => bltB C sc "enumerate" x && chk C a sc y && notStar y
    | _ => false)
  | .zip => isTupE tg && (match iter with
    | .Call (.Name x _) [y, w] [] _ => bltB C sc "zip" x && chk C a sc y && chk C b sc w && notStar y && notStar w
    | _ => false)
  | .rng => isNoe b && (match iter with
    | .Call (.Name x _) [y] [] _ => bltB C sc "range" x && chk C a sc y && notStar y
    | _ => false)
  | .rng2 => (match iter with
    | .Call (.Name x _) [y, w] [] _ => bltB C sc "range" x && chk C a sc y && chk C b sc w && notStar y && notStar w
    | _ => false)
def chkP (C : Cc) (sc : Scope) : Ex → List Bool → List Expr → Bool
  | .nil, [], [] => true
  | .cons a r, o :: os, e :: t => notStar e && chk C a sc e && (!o || isF a) && chkP C sc r os t
  | _, _, _ => false
def lineOf (ts : List Expr) : Nat := (ts.head?.map (·.pos.line)).getD 0
def nmsOf (sc : Scope) (ts : List Expr) : List Str := ts.filterMap fun
  | .Name id pos => if sc.names.lookup id == some .local && pos.line == lineOf ts then some id else none
  | _ => none
/-- stored from the right -/
def swYes (sc : Scope) (ts vs : List Expr) : Bool := match ts with
  | [.Name x _, .Name y _] => decide (vs.length = 2) && vs.all notStar && decide (nmsOf sc ts = [x, y]) && decide (([x, y] : List Str).eraseDups.length = 2) && !(vs.all (foldedForSure 8)) && !(vs.all (constantsAlone 8)) && decide (sc.names.lookup x = some .local) && decide (sc.names.lookup y = some .local)
  | [.Name x _, .Name y _, .Name w _] => decide (vs.length = 3) && vs.all notStar && decide (nmsOf sc ts = [x, y, w]) && decide (([x, y, w] : List Str).eraseDups.length = 3) && !(vs.all (foldedForSure 8)) && !(vs.all (constantsAlone 8)) && decide (sc.names.lookup x = some .local) && decide (sc.names.lookup y = some .local) && decide (sc.names.lookup w = some .local)
  | _ => false
def swNo (sc : Scope) (ts vs : List Expr) : Bool := vs.all notStar && (decide ((nmsOf sc ts).length ≠ ts.length) || vs.all (foldedForSure 8)) && decide (ts.length ≤ 9)
mutual
def chkS (C : Cc) (fr : Bool) : Sm → Scope → Stmt → Bool
  | .pass, _, st => match st with
    | .Pass _ => true
    | _ => false
  | .nev, _, _ => true
  | .asg g x, sc, st => match st with
    | .Assign [tg] e _ => tgB C (locB sc) g tg && chk C x sc e && notSD e && (noTup tg || noTupV e) && (!swB sc tg e || isF x)
    | _ => false
  | .aso i x, sc, st => match st with
    | .Assign [.Name y p] e _ => decide (C.N[i]? = some y) && locB sc y && chk C x sc e && isF x && notSD e
    | _ => false
  | .asp is os as, sc, st => match st with
    | .Assign [.Tuple ts t1 t2] (.Tuple vs _ _) _ => tgB C (locB sc) (.tp is) (.Tuple ts t1 t2) && nodupB is && chkP C sc as os vs && (swYes sc ts vs || swNo sc ts vs)
    | _ => false
  | .ast i k j x, sc, st => match st with
    | .Assign [.Tuple [.Subscript (.Name a _) ke _, .Name b _] _ _] e _ => nmB C sc i a && notSlice ke && chk C k sc ke && decide (C.N[j]? = some b) && locB sc b && chk C x sc e && notSD e && noTupV e
    | _ => false
  | .sub i k x, sc, st => match st with
    | .Assign [.Subscript (.Name a _) ke _] e _ => nmB C sc i a && notSlice ke && chk C k sc ke && chk C x sc e && notSD e
    | _ => false
  | .app i x, sc, st => match st with
    | .Expr (.Call (.Attribute (.Name a _) m apos) [y] [] cpos) _ => decide (m = "append") && nmB C sc i a && chk C x sc y && notStar y && (apos.endLine == cpos.line)
    | _ => false
  | .ext i x, sc, st => match st with
    | .Expr (.Call (.Attribute (.Name a _) m apos) [y] [] cpos) _ => decide (m = "extend") && nmB C sc i a && chk C x sc y && notStar y && (apos.endLine == cpos.line) && isF x
    | _ => false
  | .aug i k o x, sc, st => match st with
    | .AugAssign (.Subscript (.Name a _) ke _) op e _ => decide (op = .Add) && nmB C sc i a && notSlice ke && chk C k sc ke && chk C x sc e
    | _ => false
  | .exp x, sc, st => match st with
    | .Expr e _ => chk C x sc e && notComp e
    | _ => false
  | .ifs c a b, sc, st => match st with
    | .If t p q _ => chk C c sc t && tOk c && chkB C fr a sc p && chkB C fr b sc q
    | _ => false
  | .for_ g k a b s, sc, st => match st with
    | .For tg iter body [] _ => tgB C (locB sc) g tg && notSet iter && iterB C sc k a b tg iter && chkB C fr s sc body
    | _ => false
  | .whl c s, sc, st => match st with
    | .While t body [] _ => chk C c sc t && tOk c && chkB C fr s sc body
    | _ => false
  | .ret x, sc, st => match st with
    | .Return (some e) _ => chk C x sc e && (!fr || isF x)
    | _ => false
  | .retn, _, st => match st with
    | .Return none _ => !fr
    | _ => false
  | .retv i, sc, st => match st with
    | .Return (some (.Name x _)) _ => fr && nmB C sc i x
    | _ => false
  | .brk, _, st => match st with
    | .Break _ => true
    | _ => false
  | .cnt, _, st => match st with
    | .Continue _ => true
    | _ => false
  | _, _, _ => false
def chkB (C : Cc) (fr : Bool) : Sm → Scope → List Stmt → Bool
  | .nilB, _, b => b.isEmpty
  | .consB s r, sc, b => match b with
    | st :: t => chkS C fr s sc st && chkB C fr r sc t
    | [] => false
  | _, _, _ => false
end
/-! ### the steps of statements -/
structure StpS (e : Ev) (σ : L2.St) (F H : Hp) (e' : Ev) (σ' : L2.St) (F' H' : Hp) : Prop where
  fs : Same F F'
  keep : ∀ b o, H b = some o → (∀ fz, ¬ OwnAt fz e σ b) → H' b = some o
  there : ∀ b, H b ≠ none → H' b ≠ none
  new : ∀ b, F' b ≠ none → F b ≠ none ∨ H b = none ∨ OwnAt true e σ b
  owT : ∀ b, OwnAt true e' σ' b → OwnAt true e σ b ∨ H b = none
  owF : ∀ b, OwnAt false e' σ' b → OwnAt false e σ b
theorem Stp.up {e e' : Ev} {σ σ' : L2.St} {F F' H H' : Hp} (S : Stp e σ F H e' σ' F' H') : StpS e σ F H e' σ' F' H' := ⟨S.fs, S.keep, S.there, S.new, fun b h => .inl (S.owT b h), S.owF⟩
theorem StpS.refl {e : Ev} {σ : L2.St} {F H : Hp} : StpS e σ F H e σ F H := Stp.refl.up
theorem StpS.trans {e e1 e2 : Ev} {σ σ1 σ2 : L2.St} {F F1 F2 H H1 H2 : Hp} (a : StpS e σ F H e1 σ1 F1 H1) (b : StpS e1 σ1 F1 H1 e2 σ2 F2 H2) : StpS e σ F H e2 σ2 F2 H2 := by
  have back : ∀ x, H1 x = none → H x = none := fun x q => by
    cases r : H x with
    | none => rfl
    | some o => exact absurd q (a.there x (by rw [r]; simp))
  refine ⟨a.fs.trans b.fs, fun x o h n => b.keep x o (a.keep x o h n) fun fz q => ?_, fun x h => b.there x (a.there x h), fun x h => ?_, fun x h => ?_, fun x h => a.owF x (b.owF x h)⟩
  · cases fz with
    | false => exact n false (a.owF x q)
    | true =>
      rcases a.owT x q with q | q
      · exact n true q
      · rw [q] at h; cases h
  · rcases b.new x h with q | q | q
    · exact a.new x q
    · exact .inr (.inl (back x q))
    · rcases a.owT x q with q | q
      · exact .inr (.inr q)
      · exact .inr (.inl q)
  · rcases b.owT x h with q | q
    · exact a.owT x q
    · exact .inr (back x q)
def FrO (K : PySem.W.Frag) (e : Ev) (σ : L2.St) (H : Hp) (e' : Ev) (σ' : L2.St) (F' H' : Hp) (v : V) (d : D) : Prop :=
  ∃ p us ds, v = .ref p ∧ d = .list ds ∧ H' p = some (.lst us) ∧ F' p = none ∧ DpAll K F' us ds ∧ (∀ fz, ¬ OwnAt fz e' σ' p) ∧ (H p = none ∨ OwnAt true e σ p)
def RtOk (K : PySem.W.Frag) (fr : Bool) (e : Ev) (σ : L2.St) (H : Hp) (e' : Ev) (σ' : L2.St) (F' H' : Hp) (v : V) (d : D) : Prop := if fr = true then FrO K e σ H e' σ' F' H' v d else Dp K F' v d
def Post (K : PySem.W.Frag) (z : L2.St) (fr : Bool) (D : Ends) (e : Ev) (σ : L2.St) (F H : Hp) : Out → Prop
  | .nx e' => ∀ σ' F' H', Rel K z e' σ' F' H' → StpS e σ F H e' σ' F' H' → D.nx σ' H'
  | .bk e' => ∀ σ' F' H', Rel K z e' σ' F' H' → StpS e σ F H e' σ' F' H' → D.bk σ' H'
  | .ct e' => ∀ σ' F' H', Rel K z e' σ' F' H' → StpS e σ F H e' σ' F' H' → D.ct σ' H'
  | .rt d e' => ∀ v σ' F' H', Rel K z e' σ' F' H' → StpS e σ F H e' σ' F' H' → RtOk K fr e σ H e' σ' F' H' v d → D.rt v H'
theorem RtOk.back {K : PySem.W.Frag} {fr : Bool} {e e1 : Ev} {σ σ1 : L2.St} {F H F1 H1 : Hp} {e' : Ev} {σ' : L2.St} {F' H' : Hp} {v : V} {d : D} (S : StpS e σ F H e1 σ1 F1 H1) (h : RtOk K fr e1 σ1 H1 e' σ' F' H' v d) : RtOk K fr e σ H e' σ' F' H' v d := by
  cases fr with
  | false => exact h
  | true =>
    obtain ⟨p, us, ds, a1, a2, a3, a4, a5, a6, a7⟩ := (show FrO K e1 σ1 H1 e' σ' F' H' v d from h)
    refine (show FrO K e σ H e' σ' F' H' v d from ⟨p, us, ds, a1, a2, a3, a4, a5, a6, ?_⟩)
    rcases a7 with a7 | a7
    · refine .inl ?_
      cases q : H p with
      | none => rfl
      | some o => exact absurd a7 (S.there p (by rw [q]; simp))
    · exact (S.owT p a7).symm
theorem Post.on {K : PySem.W.Frag} {z : L2.St} {fr : Bool} {D : Ends} {e e1 : Ev} {σ σ1 : L2.St} {F H F1 H1 : Hp} {o : Out} (S : StpS e σ F H e1 σ1 F1 H1) (h : Post K z fr D e σ F H o) : Post K z fr D e1 σ1 F1 H1 o := by
  cases o with
  | nx e' => exact fun σ' F' H' R T => h σ' F' H' R (S.trans T)
  | bk e' => exact fun σ' F' H' R T => h σ' F' H' R (S.trans T)
  | ct e' => exact fun σ' F' H' R T => h σ' F' H' R (S.trans T)
  | rt d e' => exact fun v σ' F' H' R T q => h v σ' F' H' R (S.trans T) (q.back S)
def SemS (Φ : Fn) (K : PySem.W.Frag) (z : L2.St) (fr : Bool) (s : Sm) : TS := fun D σ H => ∃ e F o, Rel K z e σ F H ∧ exs Φ s e = some o ∧ Post K z fr D e σ F H o
section
variable {K : PySem.W.Frag} {z : L2.St} {e : Ev} {σ : L2.St} {F H : Hp} {i : Nat}
theorem get_set {α : Type} {l : List α} {i j : Nat} {a x : α} (h : (l.set i a)[j]? = some x) : (j = i ∧ x = a ∧ i < l.length) ∨ (j ≠ i ∧ l[j]? = some x) := by
  by_cases e : i = j
  · subst e
    by_cases hi : i < l.length
    · rw [List.getElem?_set_self hi] at h
      cases h
      exact .inl ⟨rfl, rfl, hi⟩
    · rw [List.getElem?_eq_none (by rw [List.length_set]; omega)] at h
      cases h
  · rw [List.getElem?_set_ne e] at h
    exact .inr ⟨fun q => e q.symm, h⟩
/-- a fresh list at a name -/
theorem Rel.putOwn (R : Rel K z e σ F H) {p : Addr} {us : List V} {ds : List D} (hP : H p = some (.lst us)) (hF : F p = none) (dp : DpAll K F us ds) (no : ∀ fz, ¬ OwnAt fz e σ p) : Rel K z (e.set i (.own true ds)) (σ.set i (some (.ref p))) F H where
  len := by rw [List.length_set, List.length_set]; exact R.len
  sub := R.sub
  sh := fun j d h => by
    rcases get_set h with ⟨_, h2, _⟩ | ⟨h1, h2⟩
    · cases h2
    · obtain ⟨v, g1, g2⟩ := R.sh j d h2
      exact ⟨v, by rw [List.getElem?_set_ne (fun q => h1 q.symm)]; exact g1, g2⟩
  own := fun j fz xs h => by
    rcases get_set h with ⟨h1, h2, h3⟩ | ⟨h1, h2⟩
    · cases h2
      subst h1
      exact ⟨p, us, by rw [List.getElem?_set_self (by rw [← R.len]; exact h3)], hP, hF, dp⟩
    · obtain ⟨a, vs, g1, g2⟩ := R.own j fz xs h2
      exact ⟨a, vs, by rw [List.getElem?_set_ne (fun q => h1 q.symm)]; exact g1, g2⟩
  inj := fun j j' fz fz' xs xs' a h h' g g' => by
    rcases get_set h with ⟨h1, h2, h3⟩ | ⟨h1, h2⟩
    · rcases get_set h' with ⟨h1', h2', h3'⟩ | ⟨h1', h2'⟩
      · rw [h1, h1']
      · subst h1
        rw [List.getElem?_set_self (by rw [← R.len]; exact h3)] at g
        rw [List.getElem?_set_ne (fun q => h1' q.symm)] at g'
        cases g
        exact absurd ⟨j', xs', h2', g'⟩ (no fz')
    · rw [List.getElem?_set_ne (fun q => h1 q.symm)] at g
      rcases get_set h' with ⟨h1', h2', h3'⟩ | ⟨h1', h2'⟩
      · subst h1'
        rw [List.getElem?_set_self (by rw [← R.len]; exact h3')] at g'
        cases g'
        exact absurd ⟨j, xs, h2, g⟩ (no fz)
      · rw [List.getElem?_set_ne (fun q => h1' q.symm)] at g'
        exact R.inj j j' fz fz' xs xs' a h2 h2' g g'
  io := fun j xs h => by
    rcases get_set h with ⟨h1, h2, h3⟩ | ⟨h1, h2⟩
    · cases h2
    · rw [List.getElem?_set_ne (fun q => h1 q.symm)]
      exact R.io j xs h2
theorem ownAt_putOwn {p b : Addr} {ds : List D} {fz : Bool} (h : OwnAt fz (e.set i (.own true ds)) (σ.set i (some (.ref p))) b) : OwnAt fz e σ b ∨ (b = p ∧ fz = true) := by
  obtain ⟨j, xs, h1, h2⟩ := h
  rcases get_set h1 with ⟨g1, g2, g3⟩ | ⟨g1, g2⟩
  · cases g2
    subst g1
    rcases get_set h2 with ⟨_, k2, _⟩ | ⟨k1, _⟩
    · cases k2
      exact .inr ⟨rfl, rfl⟩
    · exact absurd rfl k1
  · rw [List.getElem?_set_ne (fun q => g1 q.symm)] at h2
    exact .inl ⟨j, xs, g2, h2⟩
/-- an own list changed in place -/
theorem Rel.upd (R : Rel K z e σ F H) {p : Addr} {us : List V} {fz : Bool} {xs ds : List D} (h : e[i]? = some (.own fz xs)) (hs : σ[i]? = some (some (.ref p))) (dp : DpAll K F us ds) : Rel K z (e.set i (.own fz ds)) σ F (upd H p (.lst us)) where
  len := by rw [List.length_set]; exact R.len
  sub := fun b o hb => by
    have hp : b ≠ p := fun q => by
      subst q
      obtain ⟨a, vs, g1, g2, g3, _⟩ := R.own i fz xs h
      rw [hs] at g1
      cases g1
      rw [hb] at g3
      cases g3
    rw [upd_ne hp]
    exact R.sub b o hb
  sh := fun j d h1 => by
    rcases get_set h1 with ⟨_, h2, _⟩ | ⟨_, h2⟩
    · cases h2
    · exact R.sh j d h2
  own := fun j fz' ys h1 => by
    rcases get_set h1 with ⟨g1, g2, g3⟩ | ⟨g1, g2⟩
    · cases g2
      subst g1
      obtain ⟨a, vs, k1, k2, k3, _⟩ := R.own j fz xs h
      rw [hs] at k1
      cases k1
      exact ⟨p, us, hs, upd_same, k3, dp⟩
    · obtain ⟨a, vs, k1, k2, k3, k4⟩ := R.own j fz' ys g2
      have hp : a ≠ p := fun q => by
        subst q
        exact g1 (R.inj j i fz' fz ys xs a g2 h k1 hs)
      exact ⟨a, vs, k1, by rw [upd_ne hp]; exact k2, k3, k4⟩
  inj := fun j j' f f' ys ys' a h1 h2 g1 g2 => by
    have o : ∀ {j : Nat} {f : Bool} {ys : List D}, (e.set i (.own fz ds))[j]? = some (.own f ys) → ∃ w, e[j]? = some (.own f w) := fun {j f ys} h1 => by
      rcases get_set h1 with ⟨k1, k2, _⟩ | ⟨_, k2⟩
      · cases k2
        subst k1
        exact ⟨xs, h⟩
      · exact ⟨ys, k2⟩
    obtain ⟨w, q⟩ := o h1
    obtain ⟨w', q'⟩ := o h2
    exact R.inj j j' f f' w w' a q q' g1 g2
  io := fun j ys h1 => by
    rcases get_set h1 with ⟨k1, k2, _⟩ | ⟨_, k2⟩
    · cases k2
      subst k1
      exact R.io j xs h
    · exact R.io j ys k2
theorem StpS.upd {p : Addr} {us : List V} {fz : Bool} {xs ds : List D} (R : Rel K z e σ F H) (h : e[i]? = some (.own fz xs)) (hs : σ[i]? = some (some (.ref p))) : StpS e σ F H (e.set i (.own fz ds)) σ F (L2.upd H p (.lst us)) := by
  have ow : OwnAt fz e σ p := ⟨i, xs, h, hs⟩
  have bk : ∀ f b, OwnAt f (e.set i (.own fz ds)) σ b → OwnAt f e σ b := fun f b ⟨j, ys, h1, h2⟩ => by
    rcases get_set h1 with ⟨k1, k2, _⟩ | ⟨_, k2⟩
    · cases k2
      subst k1
      exact ⟨j, xs, h, h2⟩
    · exact ⟨j, ys, k2, h2⟩
  refine ⟨Same.refl _, fun b o hb n => ?_, fun b hb => ?_, fun b hb => .inl hb, fun b hb => .inl (bk true b hb), fun b hb => bk false b hb⟩
  · have hp : b ≠ p := fun q => by subst q; exact n fz ow
    rw [upd_ne hp]; exact hb
  · by_cases hp : b = p
    · subst hp; rw [upd_same]; simp
    · rw [upd_ne hp]; exact hb
end
/-! ### rows of values, some of them fresh lists -/
def FR (K : PySem.W.Frag) (F H : Hp) : (Addr → Prop) → List Bool → List V → List D → Prop
  | A, o :: os, v :: vs, d :: ds => match o with
    | true => ∃ p us xs, v = .ref p ∧ d = .list xs ∧ H p = some (.lst us) ∧ F p = none ∧ DpAll K F us xs ∧ A p ∧ FR K F H (fun q => A q ∧ q ≠ p) os vs ds
    | false => Dp K F v d ∧ FR K F H A os vs ds
  | _, [], [], [] => True
  | _, _, _, _ => False
theorem FR.mono {K : PySem.W.Frag} {F H : Hp} : ∀ {A B : Addr → Prop} {os : List Bool} {vs : List V} {ds : List D}, (∀ q, A q → B q) → FR K F H A os vs ds → FR K F H B os vs ds
  | A, B, o :: os, v :: vs, d :: ds, m, h => by
    cases o with
    | true =>
      obtain ⟨p, us, xs, h1, h2, h3, h4, h5, h6, h7⟩ := h
      exact ⟨p, us, xs, h1, h2, h3, h4, h5, m p h6, FR.mono (fun q ⟨a, b⟩ => ⟨m q a, b⟩) h7⟩
    | false => exact ⟨h.1, FR.mono m h.2⟩
  | _, _, [], [], [], _, _ => trivial
  | _, _, [], [], _ :: _, _, h => h.elim
  | _, _, [], _ :: _, _, _, h => h.elim
  | _, _, _ :: _, [], _, _, h => h.elim
  | _, _, _ :: _, _ :: _, [], _, h => h.elim
def setVs : L2.St → List Nat → List V → L2.St
  | σ, i :: is, v :: vs => setVs (σ.set i (some v)) is vs
  | σ, _, _ => σ
theorem put_ok {K : PySem.W.Frag} {z : L2.St} {F H : Hp} : ∀ {is : List Nat} {os : List Bool} {ds : List D} {vs : List V} {e e2 : Ev} {σ : L2.St} {A : Addr → Prop}, Rel K z e σ F H → FR K F H A os vs ds → (∀ q, A q → ∀ fz, ¬ OwnAt fz e σ q) → putSl e is os ds = some e2 →
    Rel K z e2 (setVs σ is vs) F H ∧ (∀ b, OwnAt true e2 (setVs σ is vs) b → OwnAt true e σ b ∨ A b) ∧ (∀ b, OwnAt false e2 (setVs σ is vs) b → OwnAt false e σ b) ∧ is.length = vs.length
  | i :: is, o :: os, d :: ds, v :: vs, e, e2, σ, A, R, g, no, h => by
    cases o with
    | true =>
      obtain ⟨p, us, xs, rfl, rfl, h3, h4, h5, h6, h7⟩ := g
      simp only [putSl] at h
      split at h
      · obtain ⟨q1, q2, q3, q4⟩ := put_ok (R.putOwn (i := i) h3 h4 h5 (no p h6)) h7 (fun q ⟨a, b⟩ fz ow => by
          rcases ownAt_putOwn ow with w | ⟨w, _⟩
          · exact no q a fz w
          · exact b w) h
        refine ⟨q1, fun b hb => ?_, fun b hb => ?_, by rw [List.length_cons, List.length_cons, q4]⟩
        · rcases q2 b hb with w | w
          · rcases ownAt_putOwn w with w | ⟨w, _⟩
            · exact .inl w
            · subst w; exact .inr h6
          · exact .inr w.1
        · rcases ownAt_putOwn (q3 b hb) with w | ⟨_, w⟩
          · exact w
          · cases w
      · cases h
    | false =>
      simp only [putSl] at h
      split at h
      · obtain ⟨q1, q2, q3, q4⟩ := put_ok (R.put (i := i) g.1) g.2 (fun q a fz ow => no q a fz (ownAt_put ow)) h
        refine ⟨q1, fun b hb => ?_, fun b hb => ownAt_put (q3 b hb), by rw [List.length_cons, List.length_cons, q4]⟩
        rcases q2 b hb with w | w
        · exact .inl (ownAt_put w)
        · exact .inr w
      · cases h
  | [], [], [], [], e, e2, σ, A, R, g, no, h => by
    cases h
    exact ⟨R, fun b hb => .inl hb, fun b hb => hb, rfl⟩
  | [], o :: os, _, _, _, _, _, _, _, _, _, h => by cases h
  | [], [], d :: ds, _, _, _, _, _, _, _, _, h => by cases h
  | i :: is, [], _, _, _, _, _, _, _, _, _, h => by cases h
  | i :: is, o :: os, [], _, _, _, _, _, _, _, _, h => by cases h
  | i :: is, o :: os, d :: ds, [], _, _, _, _, _, g, _, h => g.elim
  | [], [], [], _ :: _, _, _, _, _, _, g, _, _ => g.elim
def SemAP (Φ : Fn) (K : PySem.W.Frag) (z : L2.St) (os : List Bool) (as : Ex) : TA := fun σ H Q => ∃ e F ds e', Rel K z e σ F H ∧ ev Φ as e = some (.tuple ds, e') ∧
  ∀ vs F' H', Rel K z e' σ F' H' → Stp e σ F H e' σ F' H' → FR K F' H' (fun q => H q = none) os vs ds → Q vs H'
section
variable {C : Cc} {Φ : Fn} {k : Nat} {z : L2.St} {X : Cx}
theorem F_of {t : Ex} (hf : isF t = true) : ∀ X x, COk C Φ k X → chk C t X.env.scope x = true → PE X x (SemF Φ X.K z t) := fun X x hk h => by
  cases t <;> first | (cases hf; done) | skip
  · exact F_lst (sound _) X x hk h
  · exact F_rep (sound _) (sound _) X x hk h
  · rename_i b a
    cases b <;> first | (cases hf; done) | exact F_list (sound _) X x hk h
  · exact F_m1 (sound _) X x hk h
  · exact F_lc (sound _) (sound _) (sound _) (sound _) X x hk h
theorem listy {t : Ex} (hf : isF t = true) : ∀ e d e', ev Φ t e = some (d, e') → ∃ ds, d = .list ds := by
  cases t <;> first | (cases hf; done) | skip
  · exact lst_list
  · exact rep_list
  · rename_i b a
    cases b <;> first | (cases hf; done) | exact list_list
  · exact lrng_list
  · exact lc_list'
theorem p_anil : PA X [] (SemAP Φ X.K z [] .nil) := pa_imp pa_nil fun σ H Q ⟨e, F, ds, e', R, h, q⟩ => by
  have h : some (PyData.tuple [], e) = some (.tuple ds, e') := h
  cases h
  exact q [] F H R Stp.refl trivial
theorem p_acons (hk : COk C Φ k X) : ∀ {as : Ex} {os : List Bool} {es : List Expr}, chkP C X.env.scope as os es = true → PA X es (SemAP Φ X.K z os as) := fun {as os es} h => by
  induction os generalizing as es with
  | nil =>
    unfold chkP at h
    split at h
    · exact p_anil
    · rename_i h1
      cases h1
    · cases h
  | cons o os ih =>
    unfold chkP at h
    split at h
    · rename_i h1
      cases h1
    · rename_i a r o' os' x es h1
      cases h1
      simp only [Bool.and_eq_true] at h
      obtain ⟨⟨⟨h1, h2⟩, h3⟩, h4⟩ := h
      have hr := ih h4
      cases o with
      | true =>
        refine pa_imp (pa_cons (F_of (z := z) (by simpa using h3) X x hk h2) hr (star_of h1 _)) fun σ H Q ⟨e, F, ds, e', R, h, q⟩ => ?_
        obtain ⟨d, e1, ts, g1, g2, rfl⟩ := ev_cons h
        obtain ⟨xs, rfl⟩ := listy (by simpa using h3) _ _ _ g1
        refine ⟨e, F, xs, e1, R, g1, fun p us F1 H1 R1 S1 hp hP hF dp => ⟨e1, F1, ts, e', R1, g2, fun vs F2 H2 R2 S2 fr => q (.ref p :: vs) F2 H2 R2 (S1.trans S2) ?_⟩⟩
        have no := S1.noOwn R hp
        refine ⟨p, us, xs, rfl, rfl, S2.keep p _ hP no, ?_, dps_mono S2.fs dp, hp, fr.mono fun w hw => ⟨?_, ?_⟩⟩
        · cases w : F2 p with
          | none => rfl
          | some o =>
            rcases S2.new p (by rw [w]; simp) with u | u | u
            · exact absurd hF u
            · rw [hP] at u; cases u
            · exact absurd u (no true)
        · show H w = none
          cases u : H w with
          | none => rfl
          | some o => exact absurd hw (S1.there w (by rw [u]; simp))
        · intro u
          subst u
          rw [hP] at hw
          cases hw
      | false =>
        refine pa_imp (pa_cons ((sound (z := z) a).e X x hk h2) hr (star_of h1 _)) fun σ H Q ⟨e, F, ds, e', R, h, q⟩ => ?_
        obtain ⟨d, e1, ts, g1, g2, rfl⟩ := ev_cons h
        refine ⟨e, F, d, e1, R, g1, fun v F1 H1 R1 S1 dp => ⟨e1, F1, ts, e', R1, g2, fun vs F2 H2 R2 S2 fr => q (v :: vs) F2 H2 R2 (S1.trans S2) ⟨dp_mono S2.fs dp, fr.mono fun w hw => ?_⟩⟩⟩
        show H w = none
        cases u : H w with
        | none => rfl
        | some o => exact absurd hw (S1.there w (by rw [u]; simp))
    · cases h
end
end Iv
end
section
set_option Elab.async false
set_option linter.all false
set_option maxRecDepth 100000
set_option maxHeartbeats 2000000
/-! Statements. -/
namespace Iv
open PySem PySem.Spec PyProof.Rows L2
structure SOk (C : Cc) (Φ : Fn) (k : Nat) (X : Cx) : Prop where
  ok : COk C Φ k X
  kind : X.env.scope.kind = .function
  fnT : X.fn = fun _ => true
  ps : PassesOwn (model X.prog X.w) X.A X.env X.xe
section
variable {X : Cx}
theorem blockKind_of {env : Env} (hk : env.scope.kind = .function) : env.blockKind = .function := by unfold Env.blockKind; rw [hk]; rfl
theorem sw_of {tg e : Expr} {line : Nat} {env : Env} (hk : env.scope.kind = .function) (h : notSD e = true) : swapsWithSole [tg] e line env = pure (swB env.scope tg e) := by
  show swapsWith e (some tg) line env = _
  unfold swapsWith swB
  cases e <;> first | (cases h; done) | (cases tg <;> rfl) | skip
  rename_i elt gens sc pos
  cases tg <;> first | rfl | skip
  rename_i y py
  have hb := blockKind_of hk
  show (pure (env.blockKind == .function && env.kindOf y == some .local && py.line == pos.line && !(sc.names.any fun (n, k) => n == y && (k == .local || k == .cell))) : Sem Bool) = _
  rw [hb]
  rfl
theorem swN_of {e : Expr} {line : Nat} {env : Env} (h : notComp e = true) : swapsWith e none line env = pure false := by
  unfold swapsWith
  cases e <;> first | (cases h; done) | rfl
theorem swap_none {tg e : Expr} {env : Env} (h : (noTup tg || noTupV e) = true) : swappedStores [tg] e env = pure none := by
  unfold swappedStores
  cases tg <;> cases e <;> first | rfl | (cases h; done)
theorem stores_one {tg : Expr} {env : Env} (h : notStar tg = true) : (assignEach [tg] env).map (·.2) = [assign tg env] := by
  cases tg <;> first | rfl | cases h
theorem any_star : ∀ {vs : List Expr}, vs.all notStar = true → (vs.any fun | .Starred .. => true | _ => false) = false
  | [], _ => rfl
  | e :: r, h => by
    rw [List.all_cons, Bool.and_eq_true] at h
    rw [List.any_cons, any_star h.2]
    cases e <;> first | rfl | (cases h.1)
theorem swap_2 {x y : Str} {px py p2 p3 : Pos} {a1 a2 : Nat} {vs : List Expr} {env : Env} (hk : env.scope.kind = .function) (h : swYes env.scope [.Name x px, .Name y py] vs = true) :
    swappedStores [.Tuple [.Name x px, .Name y py] a1 p2] (.Tuple vs a2 p3) env = pure (some [x, y]) := by
  simp only [swYes, Bool.and_eq_true] at h
  obtain ⟨⟨⟨⟨⟨⟨⟨h1, h2⟩, h3⟩, h4⟩, h5⟩, h6⟩, h7⟩, h8⟩ := h
  have e1 := of_decide_eq_true h1
  have e3 := of_decide_eq_true h3
  have e4 := of_decide_eq_true h4
  unfold swappedStores
  simp only [e1, blockKind_of hk]
  rw [if_neg (by simp)]
  show (if (vs.any fun | .Starred .. => true | _ => false) = true then _ else if ((nmsOf env.scope [Expr.Name x px, Expr.Name y py]).length != ([Expr.Name x px, Expr.Name y py]).length || (nmsOf env.scope [Expr.Name x px, Expr.Name y py]).eraseDups.length != (nmsOf env.scope [Expr.Name x px, Expr.Name y py]).length) = true then _ else if _ then _ else if _ then _ else pure (some (nmsOf env.scope [Expr.Name x px, Expr.Name y py]))) = _
  rw [any_star h2, e3]
  rw [if_neg Bool.false_ne_true, if_neg (by rw [e4]; simp), if_neg (by simpa using h5), if_neg (by simpa using h6)]
theorem swap_3 {x y w : Str} {px py pw p2 p3 : Pos} {a1 a2 : Nat} {vs : List Expr} {env : Env} (hk : env.scope.kind = .function) (h : swYes env.scope [.Name x px, .Name y py, .Name w pw] vs = true) :
    swappedStores [.Tuple [.Name x px, .Name y py, .Name w pw] a1 p2] (.Tuple vs a2 p3) env = pure (some [x, y, w]) := by
  simp only [swYes, Bool.and_eq_true] at h
  obtain ⟨⟨⟨⟨⟨⟨⟨⟨h1, h2⟩, h3⟩, h4⟩, h5⟩, h6⟩, h7⟩, h8⟩, h9⟩ := h
  have e1 := of_decide_eq_true h1
  have e3 := of_decide_eq_true h3
  have e4 := of_decide_eq_true h4
  unfold swappedStores
  simp only [e1, blockKind_of hk]
  rw [if_neg (by simp)]
  show (if (vs.any fun | .Starred .. => true | _ => false) = true then _ else if ((nmsOf env.scope [Expr.Name x px, Expr.Name y py, Expr.Name w pw]).length != ([Expr.Name x px, Expr.Name y py, Expr.Name w pw]).length || (nmsOf env.scope [Expr.Name x px, Expr.Name y py, Expr.Name w pw]).eraseDups.length != (nmsOf env.scope [Expr.Name x px, Expr.Name y py, Expr.Name w pw]).length) = true then _ else if _ then _ else if _ then _ else pure (some (nmsOf env.scope [Expr.Name x px, Expr.Name y py, Expr.Name w pw]))) = _
  rw [any_star h2, e3]
  rw [if_neg Bool.false_ne_true, if_neg (by rw [e4]; simp), if_neg (by simpa using h5), if_neg (by simpa using h6)]
theorem swap_no {ts vs : List Expr} {p2 p3 : Pos} {a1 a2 : Nat} {env : Env} (hk : env.scope.kind = .function) (h : swNo env.scope ts vs = true) :
    swappedStores [.Tuple ts a1 p2] (.Tuple vs a2 p3) env = pure none := by
  simp only [swNo, Bool.and_eq_true] at h
  obtain ⟨⟨h1, h2⟩, h3⟩ := h
  unfold swappedStores
  show (if _ then _ else if (vs.any fun | .Starred .. => true | _ => false) = true then _ else if ((nmsOf env.scope ts).length != ts.length || (nmsOf env.scope ts).eraseDups.length != (nmsOf env.scope ts).length) = true then _ else if _ then _ else if _ then _ else pure (some (nmsOf env.scope ts))) = _
  split
  · rfl
  · rw [any_star h1, if_neg Bool.false_ne_true]
    rcases Bool.or_eq_true _ _ ▸ h2 with h2 | h2
    · have e2 := of_decide_eq_true h2
      rw [if_pos (by simp [e2])]
    · split
      · rfl
      · rfl
/-! ### what stands at a name -/
end
section
variable {K : PySem.W.Frag} {z : L2.St} {e : Ev} {σ : L2.St} {F H : Hp}
theorem own_get {i : Nat} {fz : Bool} {ds : List D} (R : Rel K z e σ F H) (h : ownAt e i = some (fz, ds)) : ∃ p us, e[i]? = some (.own fz ds) ∧ σ[i]? = some (some (.ref p)) ∧ H p = some (.lst us) ∧ F p = none ∧ DpAll K F us ds := by
  unfold ownAt at h
  split at h
  · rename_i fz' ds' h1
    cases h
    obtain ⟨p, us, g1, g2, g3, g4⟩ := R.own i _ _ h1
    exact ⟨p, us, h1, g1, g2, g3, g4⟩
  · cases h
theorem setat_get {i : Nat} {k v : D} {e2 : Ev} (R : Rel K z e σ F H) (h : setAt e i k v = some e2) : ∃ fz ds p us n j, e[i]? = some (.own fz ds) ∧ σ[i]? = some (some (.ref p)) ∧ H p = some (.lst us) ∧ F p = none ∧ DpAll K F us ds ∧ k = .int n ∧ ixN us.length n = some j ∧ e2 = e.set i (.own fz (ds.set j v)) := by
  unfold setAt at h
  split at h
  · rename_i fz ds n h1
    obtain ⟨p, us, g1, g2, g3, g4, g5⟩ := own_get R h1
    split at h
    · rename_i j h2
      cases h
      exact ⟨fz, ds, p, us, n, j, g1, g2, g3, g4, g5, rfl, by rw [dps_len g5]; exact h2, rfl⟩
    · cases h
  · cases h
theorem StpS.putOwn {e1 : Ev} {σ1 : L2.St} {F1 H1 : Hp} {i : Nat} {p : Addr} {ds : List D} (S : StpS e σ F H e1 σ1 F1 H1) (hp : H p = none) : StpS e σ F H (e1.set i (.own true ds)) (σ1.set i (some (.ref p))) F1 H1 := by
  refine ⟨S.fs, S.keep, S.there, S.new, fun b hb => ?_, fun b hb => ?_⟩
  · rcases ownAt_putOwn hb with w | ⟨w, _⟩
    · exact S.owT b w
    · subst w; exact .inr hp
  · rcases ownAt_putOwn hb with w | ⟨_, w⟩
    · exact S.owF b w
    · cases w
theorem gNames_set : ∀ {is : List Nat} {vs : List V} {σ : L2.St} {H : Hp} {Q : L2.St → Hp → Prop}, is.length = vs.length → Q (setVs σ is vs) H → gNames is vs σ H Q
  | [], [], σ, H, Q, _, q => ⟨rfl, q⟩
  | i :: is, v :: vs, σ, H, Q, h, q => ⟨v, vs, rfl, gNames_set (is := is) (vs := vs) (Nat.succ.inj h) q⟩
  | [], _ :: _, _, _, _, h, _ => by cases h
  | _ :: _, [], _, _, _, h, _ => by cases h
end
section
variable {C : Cc} {Φ : Fn} {k : Nat} {X : Cx} {z : L2.St} {fr : Bool}
theorem loc_ok (hs : SOk C Φ k X) : ∀ x, locB X.env.scope x = true → Loc X.env.scope x ∧ (X.fn x = true ∨ X.env.scope.names.lookup x = some .local) := fun x h => by
  refine ⟨?_, .inl (by rw [hs.fnT])⟩
  unfold locB at h
  split at h
  · rename_i h1; exact .inl h1
  · rename_i h1; exact .inr h1
  · cases h
/-- a list fresh is stored at a name -/
theorem ps_F (hs : SOk C Φ k X) {i : Nat} {t : Ex} {y : Str} {p pos : Pos} {e : Expr} (hN : C.N[i]? = some y) (hl : locB X.env.scope y = true) (hc : chk C t X.env.scope e = true) (hf : isF t = true) (hn : notSD e = true) :
    PS X (.Assign [.Name y p] e pos) (tAsg (SemF Φ X.K z t) (gName i)) := by
  have pg : PG X (.Name y p) (gName i) := by
    obtain ⟨h1, h2⟩ := loc_ok hs y hl
    exact pg_name (by rw [hs.ok.N]; exact hs.ok.nd) (by rw [hs.ok.N]; exact hN) h1 h2
  cases sw : swB X.env.scope (.Name y p) e with
  | false => exact ps_asg (F_of hf X e hs.ok hc) pg (by rw [sw_of hs.kind hn, sw]) (swap_none rfl) (stores_one rfl)
  | true =>
    unfold swB at sw
    split at sw
    · rename_i y' py elt gens s p' e1
      cases e1
      cases t <;> first | (cases hf; done) | (rename_i m a b; cases m <;> first | (simp [chk] at hc; done) | (cases a <;> simp [chk] at hc; done)) | (rename_i b a; cases b <;> first | (cases hf; done) | (simp [chk] at hc; done)) | (simp [chk] at hc; done) | skip
      obtain ⟨elt', tg, iter, ifs, scope, pos', e2, L⟩ := lc_ok hs.ok (sound _) (sound _) (sound _) (sound _) hc
      cases e2
      refine fp_lc hs.ok.calm (by rw [hs.ok.N]; exact hs.ok.nd) (by rw [hs.ok.N]; exact hN) ?_ ?_ L.it L.ok L.ixs L.tg L.ts L.el L.fs
      · simp only [Bool.and_eq_true] at sw
        simpa using sw.1.1
      · have := sw_of (tg := .Name y p) (line := pos.line) hs.kind hn
        rw [show swapsWithSole [.Name y p] (.ListComp elt [⟨tg, iter, ifs, 0⟩] s p') pos.line X.env = swapsWith (.ListComp elt [⟨tg, iter, ifs, 0⟩] s p') (some (.Name y p)) pos.line X.env from rfl] at this
        rw [this]
        exact congrArg pure sw
    · cases sw
theorem S_asg (hs : SOk C Φ k X) {g : Tg} {x : Ex} {st : Stmt} (h : chkS C fr (.asg g x) X.env.scope st = true) : PS X st (SemS Φ X.K z fr (.asg g x)) := by
  simp only [chkS] at h
  split at h
  · rename_i tg e pos
    simp only [Bool.and_eq_true] at h
    obtain ⟨⟨⟨⟨h1, h2⟩, h3⟩, h4⟩, h5⟩ := h
    have key : ∀ {D σ H}, SemS Φ X.K z fr (.asg g x) D σ H → tAsg (SemE Φ X.K z x) (tgG X.K g) D σ H := by
      rintro D σ H ⟨e, F, o, R, he, q⟩
      simp only [exs] at he
      split at he
      · rename_i d e1 h6
        split at he
        · obtain ⟨e2, h7, rfl⟩ := Option.map_eq_some_iff.mp he
          exact ⟨e, F, d, e1, R, h6, fun v F1 H1 R1 S1 dp => tgG_ok R1 dp h7 fun σ' R' S' _ _ => q σ' F1 H1 R' (S1.up.trans S'.up)⟩
        · cases he
      · cases he
    have pg := tg_ok hs.ok.N hs.ok.nd hs.ok.calm (loc_ok hs) h1
    cases sw : swB X.env.scope tg e with
    | false =>
      refine ps_imp (ps_asg ((sound x).e X e hs.ok h2) pg (by rw [sw_of hs.kind h3, sw]) (swap_none h4) (stores_one ?_)) fun D σ H h => key h
      unfold tgB at h1
      split at h1 <;> first | rfl | cases h1
    | true =>
      rw [sw] at h5
      have hf : isF x = true := by simpa using h5
      unfold tgB at h1
      split at h1
      · rename_i i y py
        rw [Bool.and_eq_true] at h1
        refine ps_imp (ps_F (z := z) hs (of_decide_eq_true h1.1) h1.2 h2 hf h3) fun D σ H h => ?_
        obtain ⟨e, F, d, e', R, he, q⟩ := key h
        obtain ⟨ds, rfl⟩ := listy hf e d e' he
        refine ⟨e, F, ds, e', R, he, fun p us F' H' R' S' hp hP hF dp => ?_⟩
        have m : Same F' (upd F' p (.lst us)) := Same.fresh hF
        refine q (.ref p) (upd F' p (.lst us)) H' (R'.know hP hF (S'.noOwn R hp)) ⟨S'.fs.trans m, S'.keep, S'.there, fun b hb => ?_, S'.owT, S'.owF⟩ (.lst (.inl (.inl upd_same)) (dps_mono m dp))
        by_cases e1 : b = p
        · subst e1
          exact .inr (.inl hp)
        · rw [upd_ne e1] at hb
          exact S'.new b hb
      · unfold swB at sw
        cases sw
      · cases h1
  · cases h
theorem S_aso (hs : SOk C Φ k X) {i : Nat} {x : Ex} {st : Stmt} (h : chkS C fr (.aso i x) X.env.scope st = true) : PS X st (SemS Φ X.K z fr (.aso i x)) := by
  simp only [chkS] at h
  split at h
  · rename_i y p e pos
    simp only [Bool.and_eq_true] at h
    obtain ⟨⟨⟨⟨h1, h2⟩, h3⟩, h4⟩, h5⟩ := h
    refine ps_imp (ps_F (z := z) hs (of_decide_eq_true h1) h2 h3 h4 h5) fun D σ H ⟨e, F, o, R, he, q⟩ => ?_
    simp only [exs] at he
    split at he
    · rename_i ds e1 h6
      split at he
      · cases he
        refine ⟨e, F, ds, e1, R, h6, fun p us F1 H1 R1 S1 hp hP hF dp => ?_⟩
        have no := S1.noOwn R hp
        exact q _ F1 H1 (R1.putOwn hP hF dp no) (S1.up.putOwn hp)
      · cases he
    · cases he
  · cases h
theorem setVs_len : ∀ {is : List Nat} {vs : List V} {σ : L2.St}, (setVs σ is vs).length = σ.length
  | [], _, _ => rfl
  | i :: is, [], _ => rfl
  | i :: is, v :: vs, σ => by
    show (setVs (σ.set i (some v)) is vs).length = _
    rw [setVs_len, List.length_set]
theorem nodup2 {i j : Nat} (h : nodupB [i, j] = true) : i ≠ j := by
  intro e
  subst e
  simp [nodupB] at h
theorem nodup3 {i j l : Nat} (h : nodupB [i, j, l] = true) : i ≠ j ∧ i ≠ l ∧ j ≠ l := by
  refine ⟨fun e => ?_, fun e => ?_, fun e => ?_⟩ <;> (subst e; simp [nodupB] at h)
theorem tgs_of {ok : Str → Bool} {is : List Nat} {ts : List Expr} {a1 : Nat} {a2 : Pos} (h : tgB C ok (.tp is) (.Tuple ts a1 a2) = true) : is.length = ts.length ∧ ((is.zip ts).all fun p => match p.2 with
      | .Name x _ => decide (C.N[p.1]? = some x) && ok x
      | _ => false) = true := by
  unfold tgB at h
  rw [Bool.and_eq_true] at h
  exact ⟨of_decide_eq_true h.1, h.2⟩
theorem S_asp (hs : SOk C Φ k X) {is : List Nat} {os : List Bool} {as : Ex} {st : Stmt} (h : chkS C fr (.asp is os as) X.env.scope st = true) : PS X st (SemS Φ X.K z fr (.asp is os as)) := by
  simp only [chkS] at h
  split at h
  · rename_i ts t1 t2 vs u1 u2 pos
    simp only [Bool.and_eq_true, Bool.or_eq_true] at h
    obtain ⟨⟨⟨h1, h2⟩, h3⟩, h4⟩ := h
    have pa := p_acons (z := z) hs.ok h3
    have key : ∀ {D σ H}, SemS Φ X.K z fr (.asp is os as) D σ H → SemAP Φ X.K z os as σ H fun ws H1 => is.length = ws.length ∧ ws.length ≤ sizeLine ∧ D.nx (setVs σ is ws) H1 ∧ ∀ p o, H1 p = none → D.nx (setVs σ is ws) (upd H1 p o) := by
      rintro D σ H ⟨e, F, o, R, he, q⟩
      simp only [exs] at he
      split at he
      · rename_i ds e1 h6
        obtain ⟨e2, h7, rfl⟩ := Option.map_eq_some_iff.mp he
        refine ⟨e, F, ds, e1, R, h6, fun ws F1 H1 R1 S1 f => ?_⟩
        obtain ⟨q1, q2, q3, q4⟩ := put_ok R1 f (fun w hw => S1.noOwn R hw) h7
        have S2 : StpS e σ F H e2 (setVs σ is ws) F1 H1 := ⟨S1.fs, S1.keep, S1.there, S1.new, fun b hb => by
          rcases q2 b hb with w | w
          · exact .inl (S1.owT b w)
          · exact .inr w, fun b hb => S1.owF b (q3 b hb)⟩
        refine ⟨q4, ?_, q _ F1 H1 q1 S2, fun p o hp => q _ F1 _ (q1.newH hp) (S2.trans (Stp.newH hp).up)⟩
        rw [← q4]
        have l1 := (tgs_of h1).1
        rcases h4 with h4 | h4
        · rw [l1]
          unfold swYes at h4
          split at h4
          · show 2 ≤ sizeLine; decide
          · show 3 ≤ sizeLine; decide
          · cases h4
        · rw [l1]
          simp only [swNo, Bool.and_eq_true] at h4
          exact Nat.le_trans (of_decide_eq_true h4.2) (by decide)
      · cases he
    rcases h4 with h4 | h4
    · obtain ⟨l1, l2⟩ := tgs_of h1
      have h5 := h4
      unfold swYes at h5
      split at h5
      · rename_i x px y py
        simp only [Bool.and_eq_true] at h5
        obtain ⟨⟨⟨⟨⟨⟨⟨g1, _⟩, _⟩, _⟩, _⟩, _⟩, g2⟩, g3⟩ := h5
        match is, l1 with
        | [i, j], _ =>
          match vs, of_decide_eq_true g1 with
          | [a, b], _ =>
            simp only [List.zip_cons_cons, List.zip_nil_right, List.all_cons, List.all_nil, Bool.and_eq_true] at l2
            refine ps_imp (ps_par hs.ok.calm (by rw [hs.ok.N]; exact hs.ok.nd) (by rw [hs.ok.N]; exact of_decide_eq_true l2.1.1) (by rw [hs.ok.N]; exact of_decide_eq_true l2.2.1.1) (nodup2 h2) (of_decide_eq_true g2) (of_decide_eq_true g3) pa (swap_2 hs.kind h4) rfl) fun D σ H h => ?_
            obtain ⟨e, F, ds, e', R, he, q⟩ := key h
            refine ⟨e, F, ds, e', R, he, fun ws F1 H1 R1 S1 f => ?_⟩
            obtain ⟨k1, k2, k3, _⟩ := q ws F1 H1 R1 S1 f
            match ws, k1, k3 with
            | [v, w], _, k3 => exact ⟨v, w, rfl, k3⟩
      · rename_i x px y py w pw
        simp only [Bool.and_eq_true] at h5
        obtain ⟨⟨⟨⟨⟨⟨⟨⟨g1, _⟩, _⟩, _⟩, _⟩, _⟩, g2⟩, g3⟩, g4⟩ := h5
        match is, l1 with
        | [i, j, l], _ =>
          match vs, of_decide_eq_true g1 with
          | [a, b, c], _ =>
            simp only [List.zip_cons_cons, List.zip_nil_right, List.all_cons, List.all_nil, Bool.and_eq_true] at l2
            obtain ⟨n1, n2, n3⟩ := nodup3 h2
            refine ps_imp (ps_par3 hs.ok.calm (by rw [hs.ok.N]; exact hs.ok.nd) (by rw [hs.ok.N]; exact of_decide_eq_true l2.1.1) (by rw [hs.ok.N]; exact of_decide_eq_true l2.2.1.1) (by rw [hs.ok.N]; exact of_decide_eq_true l2.2.2.1.1) n1 n2 n3 (of_decide_eq_true g2) (of_decide_eq_true g3) (of_decide_eq_true g4) pa (swap_3 hs.kind h4) rfl) fun D σ H h => ?_
            obtain ⟨e, F, ds, e', R, he, q⟩ := key h
            refine ⟨e, F, ds, e', R, he, fun ws F1 H1 R1 S1 f => ?_⟩
            obtain ⟨k1, k2, k3, _⟩ := q ws F1 H1 R1 S1 f
            match ws, k1, k3 with
            | [v, w, t], _, k3 => exact ⟨v, w, t, rfl, k3⟩
      · cases h5
    · have pg := tg_ok hs.ok.N hs.ok.nd hs.ok.calm (loc_ok hs) h1
      refine ps_imp (ps_asg (pe_tup pa) pg rfl (swap_no hs.kind h4) rfl) fun D σ H h => ?_
      obtain ⟨e, F, ds, e', R, he, q⟩ := key h
      refine ⟨e, F, ds, e', R, he, fun ws F1 H1 R1 S1 f => ?_⟩
      obtain ⟨k1, k2, _, k3⟩ := q ws F1 H1 R1 S1 f
      refine ⟨k2, fun p hp => ⟨p, ws, rfl, .inl (.inl upd_same), k1.symm, gNames_set k1 (k3 p _ hp)⟩⟩
  · cases h
theorem loc_own {i : Nat} {K : PySem.W.Frag} {e : Ev} {σ : L2.St} {F H : Hp} (R : Rel K z e σ F H) (h : (ownAt e i).isSome = true) : ∃ p us, σ[i]? = some (some (.ref p)) ∧ H p = some (.lst us) := by
  cases q : ownAt e i with
  | none => rw [q] at h; cases h
  | some w =>
    obtain ⟨fz, ds⟩ := w
    obtain ⟨p, us, _, g2, g3, _⟩ := own_get R q
    exact ⟨p, us, g2, g3⟩
theorem S_sub (hs : SOk C Φ k X) {i : Nat} {kx x : Ex} {st : Stmt} (h : chkS C fr (.sub i kx x) X.env.scope st = true) : PS X st (SemS Φ X.K z fr (.sub i kx x)) := by
  simp only [chkS] at h
  split at h
  · rename_i a p1 ke p2 e pos
    simp only [Bool.and_eq_true] at h
    obtain ⟨⟨⟨⟨h1, h2⟩, h3⟩, h4⟩, h5⟩ := h
    obtain ⟨g1, g2, g3, g4⟩ := nm_of hs.ok h1
    have pg : PG X (.Subscript (.Name a p1) ke p2) (gSub (tVar i) (SemE Φ X.K z kx) rSetL) := pg_sub (pe_var g1 g2 g3 g4) ((sound kx).e X ke hs.ok h3) set_list (fun v => by cases ke <;> first | rfl | cases h2)
    refine ps_imp (ps_asg ((sound (z := z) x).e X e hs.ok h4) pg (by rw [sw_of hs.kind h5]; rfl) (swap_none rfl) rfl) fun D σ H ⟨e, F, o, R, he, q⟩ => ?_
    simp only [exs] at he
    split at he
    · rename_i d e1 h6
      split at he
      · rename_i ho
        split at he
        · rename_i n e2 h7
          obtain ⟨e3, h8, rfl⟩ := Option.map_eq_some_iff.mp he
          refine ⟨e, F, d, e1, R, h6, fun v F1 H1 R1 S1 dp => ?_⟩
          obtain ⟨w, us0, hw, _⟩ := loc_own R1 ho
          refine ⟨_, hw, e1, F1, n, e2, R1, h7, fun nv F2 H2 R2 S2 dn => ?_⟩
          obtain ⟨fz, ds, p, us, m, j, k1, k2, k3, k4, k5, rfl, k6, rfl⟩ := setat_get R2 h8
          rw [hw] at k2
          cases k2
          cases dn
          refine ⟨_, us, m, j, rfl, rfl, k3, k6, ?_⟩
          exact q _ F2 _ (R2.upd k1 hw (dps_set (dp_mono S2.fs dp) j k5)) ((S1.trans S2).up.trans (StpS.upd R2 k1 hw))
        · cases he
      · cases he
    · cases he
  · cases h
theorem S_ast (hs : SOk C Φ k X) {i j : Nat} {kx x : Ex} {st : Stmt} (h : chkS C fr (.ast i kx j x) X.env.scope st = true) : PS X st (SemS Φ X.K z fr (.ast i kx j x)) := by
  simp only [chkS] at h
  split at h
  · rename_i a p1 ke p2 b p3 t1 t2 e pos
    simp only [Bool.and_eq_true] at h
    obtain ⟨⟨⟨⟨⟨⟨⟨h1, h2⟩, h3⟩, h4⟩, h5⟩, h6⟩, h7⟩, h8⟩ := h
    obtain ⟨g1, g2, g3, g4⟩ := nm_of hs.ok h1
    have pg : PG X (.Subscript (.Name a p1) ke p2) (gSub (tVar i) (SemE Φ X.K z kx) rSetL) := pg_sub (pe_var g1 g2 g3 g4) ((sound kx).e X ke hs.ok h3) set_list (fun v => by cases ke <;> first | rfl | cases h2)
    have pn : PG X (.Name b p3) (gName j) := by
      obtain ⟨k1, k2⟩ := loc_ok hs b h5
      exact pg_name (by rw [hs.ok.N]; exact hs.ok.nd) (by rw [hs.ok.N]; exact of_decide_eq_true h4) k1 k2
    have pt : PG X (.Tuple [.Subscript (.Name a p1) ke p2, .Name b p3] t1 t2) (gTup X.K 2 (gCons (gSub (tVar i) (SemE Φ X.K z kx) rSetL) (gCons (gName j) gNil))) := pg_tup hs.ok.calm (pgs_cons pg (pgs_cons pn pgs_nil rfl) rfl) rfl rfl
    refine ps_imp (ps_asg ((sound (z := z) x).e X e hs.ok h6) pt (by rw [sw_of hs.kind h7]; rfl) (swap_none (by rw [h8]; rfl)) rfl) fun D σ H ⟨e, F, o, R, he, q⟩ => ?_
    simp only [exs] at he
    split at he
    · rename_i d1 d2 e1 h6
      split at he
      · rename_i ho
        split at he
        · rename_i n e2 h7
          split at he
          · rename_i e3 h8
            split at he
            · cases he
              refine ⟨e, F, _, e1, R, h6, fun v F1 H1 R1 S1 dp => ?_⟩
              obtain ⟨w, us0, hw, _⟩ := loc_own R1 ho
              cases dp with
              | tup q1 q2 =>
                rename_i ta tvs
                cases q2 with
                | cons dp1 q2 =>
                  cases q2 with
                  | cons dp2 q2 =>
                    cases q2
                    rename_i v1 v2
                    refine ⟨ta, [v1, v2], rfl, same_t R1.sub q1, rfl, v1, [v2], rfl, ?_⟩
                    refine ⟨_, hw, e1, F1, n, e2, R1, h7, fun nv F2 H2 R2 S2 dn => ?_⟩
                    obtain ⟨fz, ds, p, us, m, jj, k1, k2, k3, k4, k5, rfl, k6, rfl⟩ := setat_get R2 h8
                    rw [hw] at k2
                    cases k2
                    cases dn
                    refine ⟨_, us, m, jj, rfl, rfl, k3, k6, v2, [], rfl, ?_⟩
                    have R3 := R2.upd k1 hw (dps_set (dp_mono S2.fs dp1) jj k5)
                    have S3 := (S1.trans S2).up.trans (StpS.upd (us := us.set jj v1) (ds := ds.set jj d1) R2 k1 hw)
                    exact ⟨rfl, q _ F2 _ (R3.put (i := j) (dp_mono S2.fs dp2)) (S3.trans (Stp.of_own fun fz b => ownAt_put).up)⟩
            · cases he
          · cases he
        · cases he
      · cases he
    · cases he
  · cases h
theorem S_app (hs : SOk C Φ k X) {i : Nat} {x : Ex} {st : Stmt} (h : chkS C fr (.app i x) X.env.scope st = true) : PS X st (SemS Φ X.K z fr (.app i x)) := by
  simp only [chkS] at h
  split at h
  · rename_i a p1 m apos y cpos pos
    simp only [Bool.and_eq_true] at h
    obtain ⟨⟨⟨⟨h1, h2⟩, h3⟩, h4⟩, h5⟩ := h
    have em := of_decide_eq_true h1
    subst em
    obtain ⟨g1, g2, g3, g4⟩ := nm_of hs.ok h2
    have pe : PE X (.Call (.Attribute (.Name a p1) "append" apos) [y] [] cpos) (tBM X.K "list" rAppend (tVar i) (tCons (SemE Φ X.K z x) tNil)) :=
      pe_bm PySem.F.plainAttrs_list PySem.F.slot_list_append PySem.F.type_list_append mt_append (pe_var g1 g2 g3 g4) (pa_cons ((sound x).e X y hs.ok h3) pa_nil (star_of h4 [])) rfl (by rw [star_of h4 []]; rfl) h5 (star_of h4 []) rfl
    refine ps_imp (ps_expr pe (swN_of rfl)) fun D σ H ⟨e, F, o, R, he, q⟩ => ?_
    simp only [exs] at he
    split at he
    · rename_i ho
      split at he
      · rename_i d e1 h6
        split at he
        · rename_i fz ds h7
          split at he
          · rename_i hl
            cases he
            obtain ⟨w, us0, hw, hw2⟩ := loc_own R ho
            refine ⟨_, hw, .inl ⟨rfl, us0, .inl (.inl hw2)⟩, e, F, d, e1, R, h6, fun v F1 H1 R1 S1 dp => ?_⟩
            obtain ⟨p, us, k1, k2, k3, k4, k5⟩ := own_get R1 h7
            rw [hw] at k2
            cases k2
            refine ⟨_, us, v, rfl, rfl, k3, by rw [dps_len k5]; exact hl, ?_⟩
            exact q _ F1 _ (R1.upd k1 hw (dps_app k5 (.cons dp .nil))) (S1.up.trans (StpS.upd R1 k1 hw))
          · cases he
        · cases he
      · cases he
    · cases he
  · cases h
theorem S_exp (hs : SOk C Φ k X) {x : Ex} {st : Stmt} (h : chkS C fr (.exp x) X.env.scope st = true) : PS X st (SemS Φ X.K z fr (.exp x)) := by
  simp only [chkS] at h
  split at h
  · rename_i e pos
    simp only [Bool.and_eq_true] at h
    refine ps_imp (ps_expr ((sound (z := z) x).e X e hs.ok h.1) (swN_of h.2)) fun D σ H ⟨e, F, o, R, he, q⟩ => ?_
    simp only [exs] at he
    split at he
    · rename_i d e1 h6
      cases he
      exact ⟨e, F, d, e1, R, h6, fun v F1 H1 R1 S1 dp => q σ F1 H1 R1 S1.up⟩
    · cases he
  · cases h
theorem S_ret (hs : SOk C Φ k X) {x : Ex} {st : Stmt} (h : chkS C fr (.ret x) X.env.scope st = true) : PS X st (SemS Φ X.K z fr (.ret x)) := by
  simp only [chkS] at h
  split at h
  · rename_i e pos
    simp only [Bool.and_eq_true] at h
    cases fr with
    | false =>
      refine ps_imp (ps_ret ((sound (z := z) x).e X e hs.ok h.1)) fun D σ H ⟨e, F, o, R, he, q⟩ => ?_
      simp only [exs] at he
      split at he
      · rename_i d e1 h6
        cases he
        exact ⟨e, F, d, e1, R, h6, fun v F1 H1 R1 S1 dp => q v σ F1 H1 R1 S1.up dp⟩
      · cases he
    | true =>
      have hf : isF x = true := by simpa using h.2
      refine ps_imp (ps_ret (F_of (z := z) hf X e hs.ok h.1)) fun D σ H ⟨e, F, o, R, he, q⟩ => ?_
      simp only [exs] at he
      split at he
      · rename_i d e1 h6
        cases he
        obtain ⟨ds, rfl⟩ := listy hf _ _ _ h6
        exact ⟨e, F, ds, e1, R, h6, fun p us F1 H1 R1 S1 hp hP hF dp => q (.ref p) σ F1 H1 R1 S1.up (show FrO X.K e σ H e1 σ F1 H1 (.ref p) (.list ds) from ⟨p, us, ds, rfl, rfl, hP, hF, dp, S1.noOwn R hp, .inl hp⟩)⟩
      · cases he
  · cases h
theorem Rel.drop {K : PySem.W.Frag} {z : L2.St} {e : Ev} {σ : L2.St} {F H : Hp} (R : Rel K z e σ F H) (i : Nat) : Rel K z (e.set i .un) σ F H where
  len := by rw [List.length_set]; exact R.len
  sub := R.sub
  sh := fun j d h => by
    rcases get_set h with ⟨_, h2, _⟩ | ⟨_, h2⟩
    · cases h2
    · exact R.sh j d h2
  own := fun j fz xs h => by
    rcases get_set h with ⟨_, h2, _⟩ | ⟨_, h2⟩
    · cases h2
    · exact R.own j fz xs h2
  inj := fun j j' f f' xs xs' a h h' g g' => by
    rcases get_set h with ⟨_, h2, _⟩ | ⟨_, h2⟩
    · cases h2
    · rcases get_set h' with ⟨_, k2, _⟩ | ⟨_, k2⟩
      · cases k2
      · exact R.inj j j' f f' xs xs' a h2 k2 g g'
  io := fun j xs h => by
    rcases get_set h with ⟨_, h2, _⟩ | ⟨_, h2⟩
    · cases h2
    · exact R.io j xs h2
theorem own_drop {e : Ev} {σ : L2.St} {i : Nat} {fz : Bool} {b : Addr} (h : OwnAt fz (e.set i .un) σ b) : OwnAt fz e σ b := by
  obtain ⟨j, xs, h1, h2⟩ := h
  rcases get_set h1 with ⟨_, k2, _⟩ | ⟨_, k2⟩
  · cases k2
  · exact ⟨j, xs, k2, h2⟩
theorem S_retv (hs : SOk C Φ k X) {i : Nat} {st : Stmt} (h : chkS C fr (.retv i) X.env.scope st = true) : PS X st (SemS Φ X.K z fr (.retv i)) := by
  simp only [chkS] at h
  split at h
  · rename_i x px pos
    rw [Bool.and_eq_true] at h
    obtain ⟨h0, h1⟩ := h
    subst h0
    obtain ⟨g1, g2, g3, g4⟩ := nm_of hs.ok h1
    refine ps_imp (ps_ret (pe_var g1 g2 g3 g4)) fun D σ H ⟨e, F, o, R, he, q⟩ => ?_
    simp only [exs] at he
    split at he
    · rename_i ds h2
      cases he
      obtain ⟨p, us, k1, k2, k3, k4⟩ := R.own i true ds h2
      refine ⟨_, k1, ?_⟩
      refine q (.ref p) σ F H (R.drop i) ⟨Same.refl _, fun b o hb _ => hb, fun b hb => hb, fun b hb => .inl hb, fun b hb => .inl (own_drop hb), fun b hb => own_drop hb⟩ ?_
      refine (show FrO X.K e σ H (e.set i .un) σ F H (.ref p) (.list ds) from ⟨p, us, ds, rfl, rfl, k2, k3, k4, fun fz w => ?_, .inr ⟨i, ds, h2, k1⟩⟩)
      obtain ⟨j, xs, w1, w2⟩ := w
      rcases get_set w1 with ⟨_, w3, _⟩ | ⟨w4, w3⟩
      · cases w3
      · exact w4 (R.inj j i fz true xs ds p w3 h2 w2 k1)
    · cases he
  · cases h
theorem get_listG {X : Cx} : PGet X (rIxL X.K) := by
  intro pins s σ H x y v u Q I rx ry h
  obtain ⟨p, xs, i, z, rfl, rfl, hq, he, q⟩ := h
  cases rx
  obtain ⟨t, rfl⟩ := ry
  obtain ⟨its, r, pl, hz⟩ := I.list hq
  obtain ⟨j, h1, h2, h3, h4, h5⟩ := atI_get he
  obtain ⟨w, ew, rw'⟩ := r.get h2
  have hl := r.length
  have hn := line63
  have fin : EP X pins σ Q w s := ⟨z, H, I, rw', q⟩
  by_cases h0 : 0 ≤ i
  · have hj : i.toNat = j := by
      rw [seqIndex_of h0 h5] at h1
      exact Option.some.inj h1
    exact wpAny_getItem_list pl.isList h0 (by omega) (by rw [hj]; simpa using ew) fin
  · have hj : (i + (its.toArray.size : Int)).toNat = j := by
      rw [seqIndex_neg (by omega) h4] at h1
      rw [List.size_toArray, ← hl]
      exact Option.some.inj h1
    exact wpAny_getItem_list_neg (Q := fun r s' => EP X pins σ Q r s') pl.isList (by omega) (by rw [List.size_toArray] <;> omega) (by omega) (by rw [hj]; simpa using ew) fin
theorem atI_ix {α : Type} {xs : List α} {n : Int} {j : Nat} (h : ixN xs.length n = some j) : atI xs n = xs[j]? := by
  unfold atI
  rw [h]
  rfl
theorem S_aug (hs : SOk C Φ k X) {i : Nat} {kx x : Ex} {b : Bo} {st : Stmt} (h : chkS C fr (.aug i kx b x) X.env.scope st = true) : PS X st (SemS Φ X.K z fr (.aug i kx b x)) := by
  simp only [chkS] at h
  split at h
  · rename_i a p1 ke p2 op e pos
    simp only [Bool.and_eq_true] at h
    obtain ⟨⟨⟨⟨h0, h1⟩, h2⟩, h3⟩, h4⟩ := h
    have eo := of_decide_eq_true h0
    subst eo
    obtain ⟨g1, g2, g3, g4⟩ := nm_of hs.ok h1
    refine ps_imp (ps_augS (pe_var g1 g2 g3 g4) ((sound (z := z) kx).e X ke hs.ok h3) get_listG ((sound (z := z) x).e X e hs.ok h4) ip_add set_list (by intro ov iv new; cases ke <;> first | rfl | cases h2)) fun D σ H ⟨ev0, F, o, R, he, q⟩ => ?_
    simp only [exs] at he
    split at he
    · rename_i ho
      split at he
      · rename_i n e1 h6
        split at he
        · rename_i fz ds h7
          split at he
          · rename_i v h8
            split at he
            · rename_i d e2 h9
              split at he
              · obtain ⟨e3, h10, rfl⟩ := Option.map_eq_some_iff.mp he
                obtain ⟨w, us0, hw, hw2⟩ := loc_own R ho
                refine ⟨_, hw, ev0, F, _, e1, R, h6, fun nv F1 H1 R1 S1 dn => ?_⟩
                cases dn
                obtain ⟨p, us, k1, k2, k3, k4, k5⟩ := own_get R1 h7
                rw [hw] at k2
                cases k2
                have le := dps_len k5
                have hv : ∃ j, ixN us.length n = some j ∧ ds[j]? = some (.int v) := by
                  unfold atI at h8
                  rw [← le] at h8
                  cases hj : ixN us.length n with
                  | none => rw [hj] at h8; cases h8
                  | some j => rw [hj] at h8; exact ⟨j, rfl, h8⟩
                obtain ⟨j, j1, j2⟩ := hv
                obtain ⟨vv, v1, v2⟩ := dps_get k5 j2
                cases v2
                refine ⟨_, us, n, .int v, rfl, rfl, .inl (.inl k3), by rw [atI_ix j1]; exact v1, ?_⟩
                refine ⟨e1, F1, _, e2, R1, h9, fun y F2 H2 R2 S2 dy => ?_⟩
                cases dy
                refine ⟨v, d, rfl, rfl, ?_⟩
                obtain ⟨fz', ds', p', us', m, jj, l1, l2, l3, l4, l5, l6, l7, rfl⟩ := setat_get R2 h10
                rw [hw] at l2
                cases l2
                cases l6
                refine ⟨_, us', _, jj, rfl, rfl, l3, l7, ?_⟩
                exact q _ F2 _ (R2.upd l1 hw (dps_set (.int _) jj l5)) ((S1.trans S2).up.trans (StpS.upd R2 l1 hw))
              · cases he
            · cases he
          · cases he
        · cases he
      · cases he
    · cases he
  · cases h
theorem S_ext (hs : SOk C Φ k X) {i : Nat} {x : Ex} {st : Stmt} (h : chkS C fr (.ext i x) X.env.scope st = true) : PS X st (SemS Φ X.K z fr (.ext i x)) := by
  simp only [chkS] at h
  split at h
  · rename_i a p1 m apos y cpos pos
    simp only [Bool.and_eq_true] at h
    obtain ⟨⟨⟨⟨⟨h1, h2⟩, h3⟩, h4⟩, h5⟩, h6⟩ := h
    have em := of_decide_eq_true h1
    subst em
    obtain ⟨g1, g2, g3, g4⟩ := nm_of hs.ok h2
    have pe : PE X (.Call (.Attribute (.Name a p1) "extend" apos) [y] [] cpos) (tBM X.K "list" rExtend (tVar i) (tCons (SemF Φ X.K z x) tNil)) :=
      pe_bm PySem.F.plainAttrs_list PySem.F.slot_list_extend PySem.F.type_list_extend mt_extend (pe_var g1 g2 g3 g4) (pa_cons (F_of (z := z) h6 X y hs.ok h3) pa_nil (star_of h4 [])) rfl (by rw [star_of h4 []]; rfl) h5 (star_of h4 []) rfl
    refine ps_imp (ps_expr pe (swN_of rfl)) fun D σ H ⟨e, F, o, R, he, q⟩ => ?_
    simp only [exs] at he
    split at he
    · rename_i ho
      split at he
      · rename_i xs e1 h6
        split at he
        · rename_i fz ds h7
          split at he
          · rename_i hl
            cases he
            obtain ⟨w, us0, hw, hw2⟩ := loc_own R ho
            refine ⟨_, hw, .inl ⟨rfl, us0, .inl (.inl hw2)⟩, e, F, xs, e1, R, h6, fun pp ws F1 H1 R1 S1 hp hP hF dp => ?_⟩
            obtain ⟨p, us, k1, k2, k3, k4, k5⟩ := own_get R1 h7
            rw [hw] at k2
            cases k2
            refine ⟨_, pp, us, ws, rfl, rfl, k3, hP, by rw [dps_len k5, dps_len dp]; exact hl, ?_⟩
            exact q _ F1 _ (R1.upd k1 hw (dps_app k5 dp)) (S1.up.trans (StpS.upd R1 k1 hw))
          · cases he
        · cases he
      · cases he
    · cases he
  · cases h
/-! ### the induction -/
structure SndS (C : Cc) (Φ : Fn) (k : Nat) (z : L2.St) (fr : Bool) (t : Sm) : Prop where
  s : ∀ X st, SOk C Φ k X → chkS C fr t X.env.scope st = true → PS X st (SemS Φ X.K z fr t)
  b : ∀ X b, SOk C Φ k X → chkB C fr t X.env.scope b = true → PSs X b (SemS Φ X.K z fr t)
theorem mkSS {s : Sm} (hb : ∀ sc b, chkB C fr s sc b = false) (h : ∀ X st, SOk C Φ k X → chkS C fr s X.env.scope st = true → PS X st (SemS Φ X.K z fr s)) : SndS C Φ k z fr s :=
  ⟨h, fun X b _ q => by rw [hb] at q; cases q⟩
theorem S_ifs {c : Ex} {a b : Sm} (ha : SndS C Φ k z fr a) (hb : SndS C Φ k z fr b) : SndS C Φ k z fr (.ifs c a b) := mkSS (fun _ _ => rfl) fun X st hs h => by
  simp only [chkS] at h
  split at h
  · rename_i t p q pos
    simp only [Bool.and_eq_true] at h
    obtain ⟨⟨⟨h1, h2⟩, h3⟩, h4⟩ := h
    refine ps_imp (ps_if ((sound (z := z) c).b X t hs.ok h1 h2).1 (ha.b X p hs h3) (hb.b X q hs h4)) fun D σ H ⟨e, F, o, R, he, q⟩ => ?_
    simp only [exs, tst] at he
    split at he
    · rename_i e1 h6
      exact ⟨e, F, true, e1, R, h6, fun F1 H1 R1 S1 => ⟨e1, F1, o, R1, he, q.on S1.up⟩⟩
    · rename_i e1 h6
      exact ⟨e, F, false, e1, R, h6, fun F1 H1 R1 S1 => ⟨e1, F1, o, R1, he, q.on S1.up⟩⟩
    · cases he
  · cases h
theorem S_whl {c : Ex} {s : Sm} (hs0 : SndS C Φ k z fr s) : SndS C Φ k z fr (.whl c s) := mkSS (fun _ _ => rfl) fun X st hs h => by
  simp only [chkS] at h
  split at h
  · rename_i t body pos
    simp only [Bool.and_eq_true] at h
    obtain ⟨⟨h1, h2⟩, h3⟩ := h
    refine ps_imp (ps_while hs.ps ((sound (z := z) c).b X t hs.ok h1 h2).1 (hs0.b X body hs h3)) fun D σ0 H0 ⟨e0, F0, o, R0, he, q⟩ => ?_
    simp only [exs] at he
    refine ⟨fun n σ H => ∃ e F, Rel X.K z e σ F H ∧ StpS e0 σ0 F0 H0 e σ F H ∧ whlGo (tst Φ c) (exs Φ s) n e = some o, ⟨turns, e0, F0, R0, .refl, he⟩, ?_⟩
    rintro n σ H ⟨e, F, R, S, hn⟩
    cases n with
    | zero => cases hn
    | succ n =>
      simp only [whlGo] at hn
      split at hn
      · cases hn
      · rename_i e1 h6
        cases hn
        exact ⟨e, F, false, e1, R, h6, fun F1 H1 R1 S1 => q σ F1 H1 R1 (S.trans S1.up)⟩
      · rename_i e1 h6
        refine ⟨e, F, true, e1, R, h6, fun F1 H1 R1 S1 => ⟨fun σ' H' => ∃ e F, Rel X.K z e σ' F H' ∧ StpS e0 σ0 F0 H0 e σ' F H' ∧ whlGo (tst Φ c) (exs Φ s) n e = some o, fun σ' H' w => ⟨n, Nat.lt_succ_self n, w⟩, ?_⟩⟩
        split at hn
        · cases hn
        · rename_i e2 h7
          exact ⟨e1, F1, .nx e2, R1, h7, fun σ' F' H' R' S' => ⟨e2, F', R', S.trans (S1.up.trans S'), hn⟩⟩
        · rename_i e2 h7
          exact ⟨e1, F1, .ct e2, R1, h7, fun σ' F' H' R' S' => ⟨e2, F', R', S.trans (S1.up.trans S'), hn⟩⟩
        · rename_i e2 h7
          cases hn
          exact ⟨e1, F1, .bk e2, R1, h7, fun σ' F' H' R' S' => q σ' F' H' R' (S.trans (S1.up.trans S'))⟩
        · rename_i v e2 h7
          cases hn
          exact ⟨e1, F1, .rt v e2, R1, h7, fun w σ' F' H' R' S' rt => q w σ' F' H' R' (S.trans (S1.up.trans S')) (rt.back (S.trans S1.up))⟩
  · cases h
theorem S_for {g : Tg} {kd : Ik} {a b : Ex} {s : Sm} (hs0 : SndS C Φ k z fr s) : SndS C Φ k z fr (.for_ g kd a b s) := mkSS (fun _ _ => rfl) fun X st hs h => by
  simp only [chkS] at h
  split at h
  · rename_i tg iter body pos
    simp only [Bool.and_eq_true] at h
    obtain ⟨⟨⟨h1, h2⟩, h3⟩, h4⟩ := h
    have pi : PI X tg iter (SemI Φ X.K z kd a b) := iter_ok hs.ok (sound a) (sound b) h3
    refine ps_imp (ps_for hs.ps hs.ok.calm pi (tg_ok hs.ok.N hs.ok.nd hs.ok.calm (loc_ok hs) h1) (hs0.b X body hs h4) (folded_of h2)) fun D σ0 H0 ⟨e0, F0, o, R0, he, q⟩ => ?_
    have he2 : ∃ ds e2, evI Φ kd a b e0 = some (ds, e2) ∧ forGo g (exs Φ s) ds e2 = some o := by
      simp only [exs] at he
      unfold evI
      split at he
      · rename_i x e1 g1
        split at he
        · rename_i y e2 g2
          split at he
          · rename_i ds g3
            exact ⟨ds, e2, by simp only [g1, g2, g3, Option.map_some], he⟩
          · cases he
        · cases he
      · cases he
    obtain ⟨ds, e2, g1, g2⟩ := he2
    refine ⟨e0, F0, ds, e2, R0, g1, fun J F1 H1 R1 S1 it => ?_⟩
    refine ⟨fun i n σ H => ∃ e F, Rel X.K z e σ F H ∧ StpS e0 σ0 F0 H0 e σ F H ∧ Same F1 F ∧ n = ds.length - i ∧ i ≤ ds.length ∧ forGo g (exs Φ s) (ds.drop i) e = some o, ⟨ds.length, e2, F1, R1, S1.up, Same.refl _, rfl, Nat.zero_le _, g2⟩, ?_⟩
    rintro i n σ H ⟨e, F, R, S, sm, rfl, hi, hn⟩
    by_cases hlt : i < ds.length
    · refine .inr ⟨it.go i F H sm R.sub hlt, ?_⟩
      rw [List.drop_eq_getElem_cons hlt] at hn
      simp only [forGo] at hn
      split at hn
      · split at hn
        · cases hn
        · rename_i e3 g3
          refine ⟨fun σ' H' => ∃ e F, Rel X.K z e σ' F H' ∧ StpS e0 σ0 F0 H0 e σ' F H' ∧ Same F1 F ∧ forGo g (exs Φ s) (ds.drop (i + 1)) e = some o, fun σ' H' ⟨e, F, r1, r2, r3, r4⟩ => ⟨ds.length - (i + 1), by omega, e, F, r1, r2, r3, rfl, hlt, r4⟩, fun x H' y => ?_⟩
          have step : ∃ Fx, Rel X.K z e σ Fx H' ∧ Stp e σ F H e σ Fx H' ∧ Dp X.K Fx x ds[i] := by
            rcases it.yld i F H x H' ds[i] sm R.sub (List.getElem?_eq_getElem hlt) y with ⟨rfl, dp⟩ | ⟨T, ob, hT, rfl, dp⟩
            · exact ⟨F, R, .refl, dp⟩
            · exact ⟨_, R.new hT, Stp.new1 R hT, dp⟩
          obtain ⟨Fx, Rx, Sx, dpx⟩ := step
          refine tgG_ok Rx dpx g3 fun σ2 R2 S2 _ _ => ?_
          have S3 := S.trans (Sx.up.trans S2.up)
          split at hn
          · cases hn
          · rename_i e4 g4
            exact ⟨e3, Fx, .nx e4, R2, g4, fun σ' F' H' R' S' => ⟨e4, F', R', S3.trans S', sm.trans (Sx.fs.trans S'.fs), hn⟩⟩
          · rename_i e4 g4
            exact ⟨e3, Fx, .ct e4, R2, g4, fun σ' F' H' R' S' => ⟨e4, F', R', S3.trans S', sm.trans (Sx.fs.trans S'.fs), hn⟩⟩
          · rename_i e4 g4
            cases hn
            exact ⟨e3, Fx, .bk e4, R2, g4, fun σ' F' H' R' S' => q σ' F' H' R' (S3.trans S')⟩
          · rename_i v e4 g4
            cases hn
            exact ⟨e3, Fx, .rt v e4, R2, g4, fun w σ' F' H' R' S' rt => q w σ' F' H' R' (S3.trans S') (rt.back S3)⟩
      · cases hn
    · have e1 : i = ds.length := by omega
      subst e1
      rw [List.drop_length] at hn
      cases hn
      exact .inl ⟨it.stop F H sm R.sub, q σ F H R S⟩
  · cases h
theorem S_seq {s r : Sm} (h1 : SndS C Φ k z fr s) (h2 : SndS C Φ k z fr r) : SndS C Φ k z fr (.consB s r) where
  s := fun X st hs h => by cases h
  b := fun X b hs h => by
    simp only [chkB] at h
    split at h
    · rename_i st t
      rw [Bool.and_eq_true] at h
      refine pss_imp (pss_cons (h1.s X st hs h.1) (h2.b X t hs h.2)) fun D σ H ⟨e, F, o, R, he, q⟩ => ?_
      simp only [exs] at he
      split at he
      · rename_i e1 h6
        exact ⟨e, F, _, R, h6, fun σ' F' H' R' S' => ⟨e1, F', o, R', he, q.on S'⟩⟩
      · rename_i o1 n h6
        cases he
        refine ⟨e, F, o, R, h6, ?_⟩
        cases o with
        | nx e' => exact absurd rfl (n e')
        | bk e' => exact q
        | ct e' => exact q
        | rt d e' => exact q
      · cases he
    · cases h
theorem S_nilB : SndS C Φ k z fr .nilB := by
  refine ⟨fun X st hs h => ?_, fun X b hs h => ?_⟩
  · cases h
  · simp only [chkB] at h
    cases b with
    | nil =>
      refine pss_imp pss_nil fun D σ H ⟨e, F, o, R, he, q⟩ => ?_
      cases he
      exact q σ F H R .refl
    | cons => cases h
theorem S_pass : SndS C Φ k z fr .pass := mkSS (fun _ _ => rfl) fun X st hs h => by
  simp only [chkS] at h
  split at h
  · refine ps_imp ps_pass fun D σ H ⟨e, F, o, R, he, q⟩ => ?_
    cases he
    exact q σ F H R .refl
  · cases h
theorem S_nev : SndS C Φ k z fr .nev := mkSS (fun _ _ => rfl) fun X st hs h => by
  refine ps_imp ps_nev fun D σ H ⟨e, F, o, R, he, q⟩ => ?_
  cases he
theorem S_retn : SndS C Φ k z fr .retn := mkSS (fun _ _ => rfl) fun X st hs h => by
  simp only [chkS] at h
  split at h
  · have e1 : fr = false := by simpa using h
    subst e1
    refine ps_imp ps_retN fun D σ H ⟨e, F, o, R, he, q⟩ => ?_
    cases he
    exact q .non σ F H R .refl (show Dp X.K F .non .none from .non)
  · cases h
theorem S_brk : SndS C Φ k z fr .brk := mkSS (fun _ _ => rfl) fun X st hs h => by
  simp only [chkS] at h
  split at h
  · refine ps_imp ps_break fun D σ H ⟨e, F, o, R, he, q⟩ => ?_
    cases he
    exact q σ F H R .refl
  · cases h
theorem S_cnt : SndS C Φ k z fr .cnt := mkSS (fun _ _ => rfl) fun X st hs h => by
  simp only [chkS] at h
  split at h
  · refine ps_imp ps_continue fun D σ H ⟨e, F, o, R, he, q⟩ => ?_
    cases he
    exact q σ F H R .refl
  · cases h
theorem soundS (s : Sm) : SndS C Φ k z fr s := by
  induction s with
  | nilB => exact S_nilB
  | consB s b h1 h2 => exact S_seq h1 h2
  | pass => exact S_pass
  | nev => exact S_nev
  | asg g e => exact mkSS (fun _ _ => rfl) fun X st hs h => S_asg hs h
  | aso i e => exact mkSS (fun _ _ => rfl) fun X st hs h => S_aso hs h
  | asp is os as => exact mkSS (fun _ _ => rfl) fun X st hs h => S_asp hs h
  | ast i k j e => exact mkSS (fun _ _ => rfl) fun X st hs h => S_ast hs h
  | sub i k e => exact mkSS (fun _ _ => rfl) fun X st hs h => S_sub hs h
  | aug i k o e => exact mkSS (fun _ _ => rfl) fun X st hs h => S_aug hs h
  | app i e => exact mkSS (fun _ _ => rfl) fun X st hs h => S_app hs h
  | ext i e => exact mkSS (fun _ _ => rfl) fun X st hs h => S_ext hs h
  | exp e => exact mkSS (fun _ _ => rfl) fun X st hs h => S_exp hs h
  | ifs c a b h1 h2 => exact S_ifs h1 h2
  | for_ g k a b s h => exact S_for h
  | whl c s h => exact S_whl h
  | ret e => exact mkSS (fun _ _ => rfl) fun X st hs h => S_ret hs h
  | retv i => exact mkSS (fun _ _ => rfl) fun X st hs h => S_retv hs h
  | retn => exact S_retn
  | brk => exact S_brk
  | cnt => exact S_cnt
end
end Iv
end
section
set_option Elab.async false
set_option linter.all false
set_option maxRecDepth 100000
set_option maxHeartbeats 2000000
/-! Defs and the table of them. -/
namespace Iv
open PySem PySem.Spec PyProof.Rows L2
/-! ### a def by its body -/
section
variable {P : Program} {w : World} {K : PySem.W.Frag} {mg : Str → Option Value} {base : Heap}
theorem fnG_body {x qual : Str} {st : Stmt} {f : Addr} {fd : FuncData} {N ps : List Str} {k : Nat} {sp : Sp} (hF : Fun K x qual st f fd) (S : FnScope N ps (defScope st)) (len : ∀ vs H Q E, sp vs H Q E → vs.length = ps.length)
    (hbody : ∀ (cdv : Value) (A : Around) (outer : List Env) (s : Shared) (H : Hp) (vs : List V) (Q : VK) (E : XK), Room k (A.deeper (envOfC qual (defScope st) s.heap.objs.size f cdv)) → A.guards = some [] → sp vs H Q E →
      ∃ t, PSs (cxOf CX0 P w K mg base N qual (defScope st) f cdv A outer s H E).nox (defBody st) t ∧ t { nx := fun _ H' => Q .non H', rt := Q } (start N vs) H) : FnG P w K mg base (k + 1) f fd ps sp := by
  obtain ⟨_, _, _, _, _, _, cv, _, _, rfl, inK, hcode⟩ := hF.ex
  refine ⟨len, fun A outer s H args us vs Q E room gd env0 bnd rel prom => ?_⟩
  have hlen := len _ _ _ _ prom
  have kin : K.In s.heap := env0.mod.kin.keeps fun b o h => (env0.bs b o h).1
  have nol : s.heap.NoLimit := env0.mod.nolimit.keeps fun b o h => (env0.bs b o h).1
  have kinds : ∀ y ∈ ps.zip us, (defScope st).names.lookup y.1 = some .local ∨ ((defScope st).names.lookup y.1 = some .cell ∧ ((cellsFrom (s.heap.objs.size + 1) (defScope st).names []).lookup y.1).isSome = true) := by
    rintro ⟨m, u⟩ hy
    rcases S.par m (List.of_mem_zip hy).1 with g | g
    · exact .inl g
    · exact .inr ⟨g, PySem.W.cellsFrom_some _ _ _ (.inl g)⟩
  refine codeAny_call_function room.depth (kin _ _ inK) rfl S.co S.gen rfl (PySem.W.codeRec_of kin hcode) (bnd _ _ _ _ (wpAny_newFunctionEnv_cells S.kind kinds fun env he s1 inc => ?_))
  subst he
  refine ⟨nol.keeps inc.toInCall.keep, codeAny_func ?_⟩
  obtain ⟨t, reads, ends⟩ := hbody cv A outer s H vs Q E (room.deeper _) gd prom
  have J0 := inv_start (CX := CX0) (P := P) (w := w) (E := E) S room.hd env0 hlen rel inc
  refine wpAny_mono (reads.nox.run [] s1 (start N vs) H _ J0 ends) (fun fl s' hs => ?_) fun e s' hs => hs
  have fin : ∀ {σ' : L2.St} {H' : Hp} {v : V} {u : Value}, Inv (cxOf CX0 P w K mg base N qual (defScope st) f cv A outer s H E) [] σ' H' s' → RelV v u → Q v H' → CE outer P w H s Q u s' := by
    intro σ' H' v u J rv q
    exact ⟨v, H', J.os, J.bare, J.base, J.hok, rv, q⟩
  cases fl with
  | ret u =>
    obtain ⟨v, σ', H', J, rv, q⟩ := hs
    exact fin J rv q
  | next =>
    obtain ⟨σ', H', J, q⟩ := hs
    exact fin (v := .non) (u := .none) J rfl q
  | brk => exact hs.elim fun _ ⟨_, _, q⟩ => q.elim
  | cont => exact hs.elim fun _ ⟨_, _, q⟩ => q.elim
end
/-! ### the promise of a def from its term -/
theorem outs_get : ∀ {args : List Sl} {e : Ev} {os : List Sl}, outs args e = some os → os.length = args.length ∧ ∀ (i : Nat) (s : Sl), os[i]? = some s →
    (∃ d, s = .sh d ∧ args[i]? = some (.sh d)) ∨ (∃ ys fz xs, s = .own false ys ∧ args[i]? = some (.own fz xs) ∧ e[i]? = some (.own false ys))
  | [], e, os, h => by
    cases h
    exact ⟨rfl, fun i s q => by cases q⟩
  | .own fz xs :: r, .own false ys :: t, os, h => by
    obtain ⟨o1, g1, rfl⟩ := Option.map_eq_some_iff.mp h
    obtain ⟨l, q⟩ := outs_get g1
    refine ⟨by rw [List.length_cons, List.length_cons, l], fun i s hs => ?_⟩
    cases i with
    | zero => cases hs; exact .inr ⟨ys, fz, xs, rfl, rfl, rfl⟩
    | succ i => exact q i s hs
  | .sh d :: r, _ :: t, os, h => by
    obtain ⟨o1, g1, rfl⟩ := Option.map_eq_some_iff.mp h
    obtain ⟨l, q⟩ := outs_get g1
    refine ⟨by rw [List.length_cons, List.length_cons, l], fun i s hs => ?_⟩
    cases i with
    | zero => cases hs; exact .inl ⟨d, rfl, rfl⟩
    | succ i => exact q i s hs
  | .un :: _, [], _, h => by cases h
  | .un :: _, _ :: _, _, h => by cases h
  | .own _ _ :: _, [], _, h => by cases h
  | .own _ _ :: _, .un :: _, _, h => by cases h
  | .own _ _ :: _, .sh _ :: _, _, h => by cases h
  | .own _ _ :: _, .own true _ :: _, _, h => by cases h
  | .sh _ :: _, [], _, h => by cases h
section
variable {K : PySem.W.Frag} {N : List Str} {vs : List V} {args os : List Sl} {F H F' H' : Hp} {e' : Ev} {σ' : L2.St} {n : Nat}
theorem st_get {α : Type} {xs ys : List α} {i : Nat} {x : α} (h : xs[i]? = some x) : (xs ++ ys)[i]? = some x := by
  rw [List.getElem?_append_left (List.getElem?_eq_some_iff.mp h).1]; exact h
theorem st_in {m : Nat} {α : Type} {xs : List α} {u x : α} {i : Nat} (h : (xs ++ List.replicate m u)[i]? = some x) (n : x ≠ u) : xs[i]? = some x := by
  by_cases hi : i < xs.length
  · rw [List.getElem?_append_left hi] at h; exact h
  · rw [List.getElem?_append_right (by omega)] at h
    rw [List.getElem?_replicate] at h
    split at h
    · cases h; exact absurd rfl n
    · cases h
theorem own_in {fz : Bool} {b : Addr} {m l : Nat} (h : OwnAt fz (args ++ List.replicate m .un) (vs.map some ++ List.replicate l none) b) : OwnAt fz args (vs.map some) b := by
  obtain ⟨i, ds, h1, h2⟩ := h
  exact ⟨i, ds, st_in h1 (fun q => by cases q), st_in h2 (fun q => by cases q)⟩
theorem own_out {fz : Bool} {b : Addr} {m l : Nat} (h : OwnAt fz args (vs.map some) b) : OwnAt fz (args ++ List.replicate m .un) (vs.map some ++ List.replicate l none) b := by
  obtain ⟨i, ds, h1, h2⟩ := h
  exact ⟨i, ds, st_get h1, st_get h2⟩
theorem rel_in {m l : Nat} (R : Rel K (vs.map some) args (vs.map some) F H) (hml : m = l) : Rel K (vs.map some ++ List.replicate l none) (args ++ List.replicate m .un) (vs.map some ++ List.replicate l none) F H where
  len := by rw [List.length_append, List.length_append, R.len, List.length_replicate, List.length_replicate, hml]
  sub := R.sub
  sh := fun i d h => by
    obtain ⟨v, h1, h2⟩ := R.sh i d (st_in h (fun q => by cases q))
    exact ⟨v, st_get h1, h2⟩
  own := fun i fz ds h => by
    obtain ⟨a, us, h1, h2⟩ := R.own i fz ds (st_in h (fun q => by cases q))
    exact ⟨a, us, st_get h1, h2⟩
  inj := fun i j fz fz' ds ds' a h1 h2 h3 h4 => R.inj i j fz fz' ds ds' a (st_in h1 (fun q => by cases q)) (st_in h2 (fun q => by cases q)) (st_in h3 (fun q => by cases q)) (st_in h4 (fun q => by cases q))
  io := fun i ds h => rfl
theorem rel_out {m l : Nat} (R : Rel K (vs.map some) args (vs.map some) F H) (R2 : Rel K (vs.map some ++ List.replicate l none) e' σ' F' H') (S : StpS (args ++ List.replicate m .un) (vs.map some ++ List.replicate l none) F H e' σ' F' H') (ho : outs args e' = some os) :
    Rel K (vs.map some) os (vs.map some) F' H' ∧ Stp args (vs.map some) F H os (vs.map some) F' H' ∧ ∀ fz b, OwnAt fz os (vs.map some) b → OwnAt fz e' σ' b := by
  obtain ⟨hl, q⟩ := outs_get ho
  have al := R.len
  -- a lent list stands where it stood
  have own1 : ∀ (i : Nat) (fz : Bool) (ys : List D), os[i]? = some (.own fz ys) → fz = false ∧ e'[i]? = some (.own false ys) ∧ (vs.map some)[i]? = σ'[i]? ∧ ∃ f xs, args[i]? = some (.own f xs) := fun i fz ys h => by
    rcases q i _ h with ⟨d, e1, _⟩ | ⟨ys', f, xs, e1, e2, e3⟩
    · cases e1
    · cases e1
      refine ⟨rfl, e3, ?_, f, xs, e2⟩
      rw [R2.io i ys e3, List.getElem?_append_left (by rw [← al]; exact (List.getElem?_eq_some_iff.mp e2).1)]
  refine ⟨⟨by rw [hl]; exact al, R2.sub, fun i d h => ?_, fun i fz ys h => ?_, fun i j fz fz' ys ys' a h1 h2 g1 g2 => ?_, fun _ _ _ => rfl⟩, ⟨S.fs, fun b o hb n => S.keep b o hb fun fz w => n fz (own_in w), S.there, fun b hb => ?_, fun b hb => ?_, fun b hb => ?_⟩, fun fz b ⟨i, ys, h1, h2⟩ => ?_⟩
  · rcases q i _ h with ⟨d', e1, e2⟩ | ⟨ys', f, xs, e1, _⟩
    · cases e1
      obtain ⟨v, g1, g2⟩ := R.sh i d e2
      exact ⟨v, g1, dp_mono S.fs g2⟩
    · cases e1
  · obtain ⟨rfl, e1, e2, _⟩ := own1 i fz ys h
    rw [e2]
    exact R2.own i false ys e1
  · obtain ⟨rfl, e1, e2, _⟩ := own1 i fz ys h1
    obtain ⟨rfl, e1', e2', _⟩ := own1 j fz' ys' h2
    rw [e2] at g1
    rw [e2'] at g2
    exact R2.inj i j false false ys ys' a e1 e1' g1 g2
  · rcases S.new b hb with w | w | w
    · exact .inl w
    · exact .inr (.inl w)
    · exact .inr (.inr (own_in w))
  · obtain ⟨i, ys, h1, _⟩ := hb
    exact absurd (own1 i true ys h1).1 (by decide)
  · obtain ⟨i, ys, h1, h2⟩ := hb
    obtain ⟨_, e1, e2, _⟩ := own1 i false ys h1
    rw [e2] at h2
    exact own_in (S.owF b ⟨i, ys, e1, h2⟩)
  · obtain ⟨rfl, e1, e2, _⟩ := own1 i fz ys h1
    rw [e2] at h2
    exact ⟨i, ys, e1, h2⟩
end
/-! ### the table -/
structure De where
  x : Str
  ps : List Str
  N : List Str
  st : Stmt
  body : Sm
  fr : Bool
  kw : List (Nat × List Str × List Nat)
  nm : Str
def De.df (d : De) : Df := ⟨d.ps.length, d.N.length, d.body⟩
structure DefAt (K : PySem.W.Frag) (mg : Str → Option Value) (d : De) : Prop where
  ex : ∃ f fd, mg d.x = some (.ref f) ∧ Fun K d.nm d.nm d.st f fd ∧ Binds K fd d.ps [] ∧ ∀ n ks perm, (n, ks, perm) ∈ d.kw → KwOk K fd d.ps n ks perm
/-- what a def may speak of: the defs ahead of it -/
def kwsOf : List De → List (Nat × Nat × List Str × List Nat)
  | [] => []
  | d :: r => d.kw.map (fun t => (r.length, t.1, t.2.1, t.2.2)) ++ kwsOf r
/-- the defs that give a list of their own -/
def frsOf : List De → List Nat
  | [] => []
  | d :: r => if d.fr then r.length :: frsOf r else frsOf r
def ccOf (glo : List (Str × D)) (bis : List Str) (r : List De) (N : List Str) : Cc := ⟨N, glo, bis, r.reverse.map fun d => (d.x, d.ps), kwsOf r, frsOf r⟩
def nodupS : List Str → Bool
  | [] => true
  | a :: r => !decide (a ∈ r) && nodupS r
theorem nodupS_ok : ∀ {l : List Str}, nodupS l = true → l.Nodup
  | [], _ => List.nodup_nil
  | a :: r, h => by
    unfold nodupS at h
    rw [Bool.and_eq_true] at h
    exact List.nodup_cons.mpr ⟨by simpa using h.1, nodupS_ok h.2⟩
def scopeB (N P : List Str) (sc : Scope) : Bool :=
  (match sc.kind with | .function => true | _ => false) && !sc.isCoroutine && !sc.isGenerator && nodupS N && decide (N.take P.length = P) && P.all (fun x => locB sc x) && sc.names.all fun y => match y.2 with | .free => false | _ => true
theorem scope_of {N P : List Str} {sc : Scope} (h : scopeB N P sc = true) : FnScope N P sc := by
  simp only [scopeB, Bool.and_eq_true] at h
  obtain ⟨⟨⟨⟨⟨⟨h1, h2⟩, h3⟩, h4⟩, h5⟩, h6⟩, h7⟩ := h
  refine ⟨?_, by simpa using h2, by simpa using h3, nodupS_ok h4, of_decide_eq_true h5, fun x hx => ?_, fun y hy e => ?_⟩
  · split at h1
    · assumption
    · cases h1
  · have := List.all_eq_true.mp h6 x hx
    unfold locB at this
    split at this
    · rename_i h; exact .inl h
    · rename_i h; exact .inr h
    · cases this
  · have := List.all_eq_true.mp h7 y hy
    rw [e] at this
    cases this
def chkD (glo : List (Str × D)) (bis : List Str) (r : List De) (d : De) : Bool := scopeB d.N d.ps (defScope d.st) && chkB (ccOf glo bis r d.N) d.fr d.body (defScope d.st) (defBody d.st)
def chkDs (glo : List (Str × D)) (bis : List Str) : List De → Bool
  | [] => true
  | d :: r => chkD glo bis r d && chkDs glo bis r
def dfs (ds : List De) : List Df := ds.map De.df
structure World1 (K : PySem.W.Frag) (mg : Str → Option Value) (glo : List (Str × D)) (bis : List Str) : Prop where
  glo : ∀ x d, (x, d) ∈ glo → ∃ v u, mg x = some u ∧ RelV v u ∧ Dp K (fun _ => none) v d
  bis : ∀ x, bis.contains x = true → mg x = none
section
variable {P : Program} {w : World} {K : PySem.W.Frag} {mg : Str → Option Value} {base : Heap} {glo : List (Str × D)} {bis : List Str}
theorem tab_at {f : Df} {r : List Df} {a : List Sl} : tab (f :: r) r.length a = run (tab r) f a := by
  show (if r.length = r.length then _ else _) = _
  rw [if_pos rfl]
theorem tab_lt {f : Df} {r : List Df} {j : Nat} {a : List Sl} (h : j < r.length) : tab (f :: r) j a = tab r j a := by
  show (if j = r.length then _ else _) = _
  rw [if_neg (by omega)]
/-- what the table holds -/
def TabOk (P : Program) (w : World) (K : PySem.W.Frag) (mg : Str → Option Value) (base : Heap) (ds : List De) : Prop :=
  ∀ j d, ds.reverse[j]? = some d → ∃ f fd, mg d.x = some (.ref f) ∧ PySem.W.keepIn K (.ref f) = true ∧ Binds K fd d.ps [] ∧ (∀ n ks perm, (n, ks, perm) ∈ d.kw → KwOk K fd d.ps n ks perm) ∧
    FnG P w K mg base (j + 1) f fd d.ps (SpF K (tab (dfs ds)) j) ∧ (d.fr = true → FnG P w K mg base (j + 1) f fd d.ps (SpR K (tab (dfs ds)) j))
theorem frs_in : ∀ {r : List De} {j : Nat}, (frsOf r).contains j = true → ∃ d, r.reverse[j]? = some d ∧ d.fr = true
  | [], j, h => by cases h
  | d :: r, j, h => by
    have h : j ∈ frsOf (d :: r) := by simpa using h
    unfold frsOf at h
    have up : j ∈ frsOf r → ∃ d', (d :: r).reverse[j]? = some d' ∧ d'.fr = true := fun h => by
      obtain ⟨d', h1, h2⟩ := frs_in (r := r) (j := j) (by simpa using h)
      exact ⟨d', by rw [List.reverse_cons]; exact st_get h1, h2⟩
    split at h
    · rename_i hf
      rcases List.mem_cons.mp h with h | h
      · subst h
        refine ⟨d, ?_, hf⟩
        rw [List.reverse_cons, List.getElem?_append_right (by rw [List.length_reverse]; exact Nat.le_refl _), List.length_reverse, Nat.sub_self]
        rfl
      · exact up h
    · exact up h
theorem kws_in : ∀ {r : List De} {j n : Nat} {ks : List Str} {perm : List Nat}, (j, n, ks, perm) ∈ kwsOf r → ∃ d, r.reverse[j]? = some d ∧ (n, ks, perm) ∈ d.kw
  | [], _, _, _, _, h => by cases h
  | d :: r, j, n, ks, perm, h => by
    unfold kwsOf at h
    rw [List.reverse_cons]
    rcases List.mem_append.mp h with h | h
    · obtain ⟨t, h1, h2⟩ := List.mem_map.mp h
      cases h2
      refine ⟨d, ?_, h1⟩
      rw [List.getElem?_append_right (by rw [List.length_reverse]; exact Nat.le_refl _), List.length_reverse, Nat.sub_self]
      rfl
    · obtain ⟨d', h1, h2⟩ := kws_in h
      exact ⟨d', st_get h1, h2⟩
theorem sp_len {Φ : Fn} {j n : Nat} (h : ∀ args o, Φ j args = some o → args.length = n) : ∀ vs H Q E, SpF K Φ j vs H Q E → vs.length = n := fun vs H Q E ⟨args, F, d, os, R, _, hr, _⟩ => by
  have := R.len
  rw [List.length_map] at this
  rw [← this]
  exact h _ _ hr
theorem spr_len {Φ : Fn} {j n : Nat} (h : ∀ args o, Φ j args = some o → args.length = n) : ∀ vs H Q E, SpR K Φ j vs H Q E → vs.length = n := fun vs H Q E ⟨args, F, d, os, R, _, hr, _⟩ => by
  have := R.len
  rw [List.length_map] at this
  rw [← this]
  exact h _ _ hr
theorem run_len {Φ : Fn} {f : Df} {args : List Sl} {o : D × List Sl} (h : run Φ f args = some o) : args.length = f.np := by
  unfold run at h
  split at h
  · assumption
  · cases h
/-- one def over a table -/
theorem def_ok {r : List De} {d : De} {f : Addr} {fd : FuncData} (T : TabOk P w K mg base r) (W : World1 K mg glo bis) (hF : Fun K d.nm d.nm d.st f fd) (h : chkD glo bis r d = true) :
    FnG P w K mg base (r.length + 1) f fd d.ps (SpF K (tab (dfs (d :: r))) r.length) ∧ (d.fr = true → FnG P w K mg base (r.length + 1) f fd d.ps (SpR K (tab (dfs (d :: r))) r.length)) := by
  unfold chkD at h
  rw [Bool.and_eq_true] at h
  obtain ⟨h1, h2⟩ := h
  have S := scope_of h1
  have lr : (dfs r).length = r.length := List.length_map _
  have hrun : ∀ a, tab (dfs (d :: r)) r.length a = run (tab (dfs r)) d.df a := fun a => by
    have := tab_at (f := d.df) (r := dfs r) (a := a)
    rw [lr] at this
    exact this
  have ln : ∀ args o, tab (dfs (d :: r)) r.length args = some o → args.length = d.ps.length := fun args o h => by
    rw [hrun] at h
    exact run_len h
  have lN : d.ps.length ≤ d.N.length := by
    have := congrArg List.length S.pre
    rw [List.length_take] at this
    omega
  have main : ∀ (cdv : Value) (A : Around) (outer : List Env) (s : Shared) (H : Hp) (vs : List V) (Q : VK) (E : XK), Room r.length (A.deeper (envOfC d.nm (defScope d.st) s.heap.objs.size f cdv)) → A.guards = some [] →
      ∀ (args os : List Sl) (F : Hp) (dd : D), Rel K (vs.map some) args (vs.map some) F H → (∀ (i : Nat) (ds : List D), args[i]? ≠ some (Sl.own true ds)) → tab (dfs (d :: r)) r.length args = some (dd, os) →
        (∀ v F' H', Rel K (vs.map some) os (vs.map some) F' H' → Stp args (vs.map some) F H os (vs.map some) F' H' → (∃ e' σ', (∀ fz b, OwnAt fz os (vs.map some) b → OwnAt fz e' σ' b) ∧ (if d.fr = true then FrAt K H e' σ' F' H' v dd else Dp K F' v dd)) ∨ (v = .non ∧ dd = .none) → Q v H') →
      ∃ t, PSs (cxOf CX0 P w K mg base d.N d.nm (defScope d.st) f cdv A outer s H E).nox (defBody d.st) t ∧ t { nx := fun _ H' => Q .non H', rt := Q } (start d.N vs) H := by
    rintro cdv A outer s H vs Q E hr hg args os F dd R noArg he q
    let X := (cxOf CX0 P w K mg base d.N d.nm (defScope d.st) f cdv A outer s H E).nox
    have ck : COk (ccOf glo bis r d.N) (tab (dfs r)) r.length X := by
      refine ⟨rfl, S.nd, rfl, hr, hg, W.glo, W.bis, fun j x ps hj => ?_⟩
      have hj : (r.reverse.map fun d => (d.x, d.ps))[j]? = some (x, ps) := hj
      rw [List.getElem?_map] at hj
      obtain ⟨dj, g1, g2⟩ := Option.map_eq_some_iff.mp hj
      cases g2
      have hlt : j < r.length := by
        have := (List.getElem?_eq_some_iff.mp g1).1
        rwa [List.length_reverse] at this
      obtain ⟨f', fd', a1, a2, a3, a4, a5, a6⟩ := T j dj g1
      refine ⟨f', fd', a1, a2, a3, a5.up hlt, fun n ks perm hin => ?_, fun hin => ?_⟩
      · obtain ⟨d2, b1, b2⟩ := kws_in hin
        rw [g1] at b1
        cases b1
        exact a4 n ks perm b2
      · obtain ⟨d2, b1, b2⟩ := frs_in hin
        rw [g1] at b1
        cases b1
        exact (a6 b2).up hlt
    have sk : SOk (ccOf glo bis r d.N) (tab (dfs r)) r.length X := ⟨ck, S.kind, rfl, PassesOwn.never⟩
    refine ⟨_, (soundS (z := start d.N vs) (fr := d.fr) d.body).b X (defBody d.st) sk h2, ?_⟩
    rw [hrun] at he
    unfold run at he
    split at he
    · rename_i hl
      have hl : args.length = d.ps.length := hl
      have lv : vs.length = d.ps.length := by
        have := R.len
        rw [List.length_map] at this
        omega
      have hm : d.N.length - d.ps.length = d.N.length - vs.length := by rw [lv]
      have R0 : Rel K (start d.N vs) (args ++ List.replicate (d.N.length - d.ps.length) .un) (start d.N vs) F H := rel_in R hm
      split at he
      · rename_i dd' e' hx
        obtain ⟨os', ho, e1⟩ := Option.map_eq_some_iff.mp he
        cases e1
        refine ⟨_, F, .rt dd e', R0, hx, fun v σ' F' H' R' S' rt => ?_⟩
        obtain ⟨k1, k2, k3⟩ := rel_out R R' S' ho
        refine q v F' H' k1 k2 (.inl ⟨e', σ', k3, ?_⟩)
        cases hfr : d.fr with
        | false =>
          rw [hfr] at rt
          exact rt
        | true =>
          rw [hfr] at rt
          obtain ⟨p, us, ds, a1, a2, a3, a4, a5, a6, a7⟩ := (show FrO K (args ++ List.replicate (d.N.length - d.ps.length) .un) (start d.N vs) H e' σ' F' H' v _ from rt)
          refine ⟨p, us, ds, a1, a2, a3, a4, a5, a6, ?_⟩
          rcases a7 with a7 | ⟨i, xs, w1, _⟩
          · exact a7
          · exfalso
            by_cases hi : i < args.length
            · rw [List.getElem?_append_left hi] at w1
              exact noArg i xs w1
            · rw [List.getElem?_append_right (by omega)] at w1
              have := List.mem_of_getElem? w1
              have := (List.mem_replicate.mp this).2
              cases this
      · rename_i e' hx
        obtain ⟨os', ho, e1⟩ := Option.map_eq_some_iff.mp he
        cases e1
        refine ⟨_, F, .nx e', R0, hx, fun σ' F' H' R' S' => ?_⟩
        obtain ⟨k1, k2, k3⟩ := rel_out R R' S' ho
        exact q .non F' H' k1 k2 (.inr ⟨rfl, rfl⟩)
      · cases he
    · cases he
  refine ⟨fnG_body hF S (sp_len ln) fun cdv A outer s H vs Q E hr hg ⟨args, F, dd, os, R, na, he, q⟩ => main cdv A outer s H vs Q E hr hg args os F dd R na he fun v F' H' R' S' rt => ?_, fun hfr => fnG_body hF S (spr_len ln) fun cdv A outer s H vs Q E hr hg ⟨args, F, dd, os, R, na, he, ⟨xs, hd⟩, q⟩ => main cdv A outer s H vs Q E hr hg args os F dd R na he fun v F' H' R' S' rt => ?_⟩
  · rcases rt with ⟨e', σ', ow, rt⟩ | ⟨rfl, rfl⟩
    · cases hfr : d.fr with
      | false =>
        rw [hfr] at rt
        exact q v F' H' R' S' rt
      | true =>
        rw [hfr] at rt
        obtain ⟨p, us, ds, rfl, rfl, hP, hF', dp, no, hp⟩ := (show FrAt K H e' σ' F' H' v dd from rt)
        have m : Same F' (upd F' p (.lst us)) := Same.fresh hF'
        refine q (.ref p) (upd F' p (.lst us)) H' (R'.know hP hF' fun fz w => no fz (ow fz p w)) ⟨S'.fs.trans m, S'.keep, S'.there, fun b hb => ?_, S'.owT, S'.owF⟩ (.lst (.inl (.inl upd_same)) (dps_mono m dp))
        by_cases e1 : b = p
        · subst e1
          exact .inr (.inl hp)
        · rw [upd_ne e1] at hb
          exact S'.new b hb
    · exact q .non F' H' R' S' .non
  · subst hd
    rcases rt with ⟨e', σ', ow, rt⟩ | ⟨_, e1⟩
    · rw [hfr] at rt
      obtain ⟨p, us, ds, a1, a2, a3, a4, a5, a6, a7⟩ := (show FrAt K H e' σ' F' H' v (.list xs) from rt)
      exact q v F' H' R' S' ⟨p, us, ds, a1, a2, a3, a4, a5, fun fz w => a6 fz (ow fz p w), a7⟩
    · cases e1
theorem sp_congr {Φ Ψ : Fn} {j k : Nat} {f : Addr} {fd : FuncData} {ps : List Str} (h : ∀ a, Φ j a = Ψ j a) (F : FnG P w K mg base k f fd ps (SpF K Φ j)) : FnG P w K mg base k f fd ps (SpF K Ψ j) := by
  have : SpF K Φ j = SpF K Ψ j := by
    unfold SpF
    simp only [h]
  rw [← this]
  exact F
theorem spr_congr {Φ Ψ : Fn} {j k : Nat} {f : Addr} {fd : FuncData} {ps : List Str} (h : ∀ a, Φ j a = Ψ j a) (F : FnG P w K mg base k f fd ps (SpR K Φ j)) : FnG P w K mg base k f fd ps (SpR K Ψ j) := by
  have : SpR K Φ j = SpR K Ψ j := by
    unfold SpR
    simp only [h]
  rw [← this]
  exact F
theorem tab_ok (W : World1 K mg glo bis) : ∀ {ds : List De}, (∀ d ∈ ds, DefAt K mg d) → chkDs glo bis ds = true → TabOk P w K mg base ds
  | [], _, _ => fun j d h => by cases h
  | d :: r, hd, hc => by
    unfold chkDs at hc
    rw [Bool.and_eq_true] at hc
    have T := tab_ok W (ds := r) (fun d' h => hd d' (List.mem_cons_of_mem _ h)) hc.2
    intro j d' hj
    rw [List.reverse_cons] at hj
    have lr : (dfs r).length = r.length := List.length_map _
    by_cases hlt : j < r.length
    · rw [List.getElem?_append_left (by rw [List.length_reverse]; exact hlt)] at hj
      obtain ⟨f, fd, a1, a2, a3, a4, a5, a6⟩ := T j d' hj
      have hh : ∀ a, tab (dfs r) j a = tab (dfs (d :: r)) j a := fun a => (tab_lt (f := d.df) (r := dfs r) (by rw [lr]; exact hlt)).symm
      exact ⟨f, fd, a1, a2, a3, a4, sp_congr hh a5, fun q => spr_congr hh (a6 q)⟩
    · rw [List.getElem?_append_right (by rw [List.length_reverse]; omega), List.length_reverse] at hj
      have e1 : j - r.length = 0 := by
        have := (List.getElem?_eq_some_iff.mp hj).1
        simp at this
        omega
      rw [e1] at hj
      cases hj
      have e2 : j = r.length := by omega
      subst e2
      obtain ⟨f, fd, a1, a2, a3, a4⟩ := (hd d List.mem_cons_self).ex
      obtain ⟨b1, b2⟩ := def_ok T W a2 hc.1
      exact ⟨f, fd, a1, a2.kp, a3, a4, b1, b2⟩
end
end Iv
end
section
set_option Elab.async false
set_option linter.all false
set_option maxRecDepth 100000
set_option maxHeartbeats 2000000
/-! The law's own def and the end of the row. -/
namespace Iv
open PySem PySem.Spec PyProof.Rows L2
def intsD (ns : List Int) : D := .list (ns.map PyData.int)
def spLaw (K : PySem.W.Frag) (m : Nat) : Sp := fun vs H Q _ => ∃ (a : Addr) (ns : List Int), vs = [.ref a] ∧ SqL K H a (ns.map V.int) ∧ ns.length ≤ m ∧ ∀ H', Q (.bl true) H'
theorem dps_ints {K : PySem.W.Frag} {F : Hp} : ∀ ns : List Int, DpAll K F (ns.map V.int) (ns.map PyData.int)
  | [] => .nil
  | n :: ns => .cons (.int n) (dps_ints ns)
section
variable {P : Program} {w : World} {K : PySem.W.Frag} {mg : Str → Option Value} {base : Heap}
theorem rel_sh {F H : Hp} (m : Same F H) : ∀ {vs : List V} {ds : List D}, DpAll K F vs ds → Rel K (vs.map some) (ds.map Sl.sh) (vs.map some) F H := fun {vs ds} dp => by
  have g : ∀ (i : Nat) (s : Sl), (ds.map Sl.sh)[i]? = some s → ∃ d v, s = .sh d ∧ vs[i]? = some v ∧ Dp K F v d := fun i s h => by
    rw [List.getElem?_map] at h
    obtain ⟨d, h1, rfl⟩ := Option.map_eq_some_iff.mp h
    obtain ⟨v, h2, h3⟩ := dps_get dp h1
    exact ⟨d, v, rfl, h2, h3⟩
  refine ⟨by rw [List.length_map, List.length_map, dps_len dp], m, fun i d h => ?_, fun i fz xs h => ?_, fun i j fz fz' xs xs' a h => ?_, fun _ _ _ => rfl⟩
  · obtain ⟨d', v, e1, h2, h3⟩ := g i _ h
    cases e1
    exact ⟨v, by rw [List.getElem?_map, h2]; rfl, h3⟩
  · obtain ⟨d', v, e1, _⟩ := g i _ h
    cases e1
  · obtain ⟨d', v, e1, _⟩ := g i _ h
    cases e1
/-- the law is one of the defs -/
theorem law_ok2 {ds : List De} {j m : Nat} {d : De} (T : TabOk P w K mg base ds) (hd : ds.reverse[j]? = some d) (hps : d.ps = (["script"] : List Str)) (good : ∀ ns : List Int, ns.length ≤ m → ∃ os, tab (dfs ds) j [.sh (intsD ns)] = some (.bool true, os)) :
    ∃ f fd, mg d.x = some (.ref f) ∧ Binds K fd ["script"] [] ∧ FnG P w K mg base (j + 1) f fd ["script"] (spLaw K m) := by
  obtain ⟨f, fd, h1, _, hb, _, FG, _⟩ := T j d hd
  rw [hps] at FG hb
  refine ⟨f, fd, h1, hb, fun vs H Q E ⟨a, ns, e, _⟩ => by rw [e]; rfl, fun A outer s H args us vs Q E hr hg env0 bnd rel ⟨a, ns, e, hq, hn, q⟩ => ?_⟩
  refine FG.run A outer s H args us vs Q E hr hg env0 bnd rel ?_
  obtain ⟨os, h2⟩ := good ns hn
  subst e
  have dpa : DpAll K H [V.ref a] [intsD ns] := .cons (.lst hq (dps_ints ns)) .nil
  refine ⟨[intsD ns].map Sl.sh, H, .bool true, os, rel_sh (Same.refl H) dpa, fun i xs h => ?_, h2, fun v F' H' _ _ dp => ?_⟩
  · rw [List.getElem?_map] at h
    obtain ⟨_, _, e⟩ := Option.map_eq_some_iff.mp h
    cases e
  · cases dp
    exact q H'
end
end Iv
end
section
set_option Elab.async false
set_option linter.all false
set_option maxRecDepth 100000
set_option maxHeartbeats 2000000
/-! The end of a law's row. -/
namespace Iv
open PySem PySem.Spec PyProof.Rows L2
/-- what of the script may be followed: nothing, or the frozen list -/
theorem law_run {P : Program} {w : World} {K : PySem.W.Frag} {mg mb : Str → Option Value} {k m : Nat} {fa a : Addr} {t0 : Shared} {us : List Value} {ns : List Int}
    (kin : K.In t0.heap) (gl : t0.heap.Ns mainGlobals mg) (bl : t0.heap.Ns builtinsNs mb) (bb : ∀ x : Str, x ≠ "__name__" → mb x = bootBuiltins x) (nol : t0.heap.NoLimit) (ng : t0.gens = #[])
    (at0 : t0.heap.get? a = some { cls := .type "list", data := .seq us.toArray }) (hints : IntsAre us ns) (short : ns.length ≤ m) (hm : m ≤ sizeLine) (room : Room k callerA)
    (F : ∀ base : Heap, K.In base → base.Ns mainGlobals mg → ∃ fd : FuncData, Binds K fd ["script"] [] ∧ FnG P w K mg base k fa fd ["script"] (spLaw K m)) :
    codeAny (model P w) callerA (.call (.ref fa) ⟨[.ref a], []⟩) (fun r t => r = .ok (.ret (.bool true)) ∧ OldK t0.heap t.heap ∧ t.os = t0.os ∧ AllBare t.gens) t0 := by
  have vs := vals_ints hints
  have len := hints.length
  have main : ∀ H : Hp, Only H → SqL K H a (ns.map V.int) → HOk P w H t0.heap → (∀ b, H b ≠ none → b = a) → (H a ≠ none → K.lookup a = none) →
      codeAny (model P w) callerA (.call (.ref fa) ⟨[.ref a], []⟩) (fun r t => r = .ok (.ret (.bool true)) ∧ OldK t0.heap t.heap ∧ t.os = t0.os ∧ AllBare t.gens) t0 := by
    intro H only sq hok onlyA notK
    have seen : ∀ {b : Addr} {o : Obj}, t0.heap.get? b = some o → H b = none → (hidT t0.heap H).get? b = some o := hidT_get
    have dictsFree : ∀ {b : Addr} {o : Obj} {es : Array DictEntry} {ep : Nat}, t0.heap.get? b = some o → o.data = .dict es ep → H b = none := by
      intro b o es ep g d
      by_cases hb : H b = none
      · exact hb
      · have e1 := onlyA b hb
        subst e1
        rw [at0] at g
        cases g
        exact absurd (show Data.seq us.toArray _ = Data.dict es ep from d) (by intro q; cases q)
    have nsOf : ∀ {b : Addr} {μ : Str → Option Value}, t0.heap.Ns b μ → (hidT t0.heap H).Ns b μ := fun {b μ} ⟨o, es, ep, g, d, q⟩ => ⟨o, es, ep, seen g (dictsFree g d), d, q⟩
    have kinB : K.In (hidT t0.heap H) := by
      intro b o g
      refine seen (kin b o g) ?_
      by_cases hb : H b = none
      · exact hb
      · have e1 := onlyA b hb
        subst e1
        rw [notK hb] at g
        cases g
    have mod : Mod K mg (hidT t0.heap H) := by
      obtain ⟨mc, c1, c2⟩ := nol
      exact ⟨kinB, nsOf gl, ⟨mb, nsOf bl, bb⟩, mc, nsOf c1, c2⟩
    have env0 : Env0 P w K mg (hidT t0.heap H) callerA [] t0 H := by
      refine ⟨rfl, mod, fun b o g => of_hidT g, Nat.le_of_eq (hidT_size _ _), trivial, fun b hb => ?_, hok, .of_eq ng⟩
      exact absurd (show b ∈ ([] : List Addr) from hb) List.not_mem_nil
    obtain ⟨fd, hbn, FG⟩ := F _ kinB (nsOf gl)
    have done := FG.run callerA [] t0 H ⟨[.ref a], []⟩ [.ref a] [.ref a] (fun v _ => v = .bl true) E0 room rfl env0 (hbn t0 [.ref a] kin rfl) (.cons rfl .nil) ⟨a, ns, rfl, sq, short, fun _ => rfl⟩
    refine codeAny_mono done fun r t h => ?_
    match r, h with
    | .ok (.ret u), ⟨v, H', os, bare, un, hok', rv, q⟩ =>
      subst q
      cases (show u = Value.bool true from rv)
      refine ⟨rfl, OldK.of_keep fun b o g => ?_, os, bare⟩
      rcases only b with z | ⟨ob, xs, z⟩
      · exact un.keep b o g z (fun q => absurd (show b ∈ ([] : List Addr) from q) List.not_mem_nil) (by simp)
      · obtain ⟨g1, _⟩ := hok b _ z
        obtain ⟨g2, _⟩ := hok' b _ (un.frzs b ob _ z)
        rw [g] at g1
        cases g1
        exact g2
  by_cases hk : K.lookup a = none
  · let H : Hp := fun b => if b = a then some (.frz { cls := .type "list", data := .seq us.toArray } (.lst (ns.map V.int))) else none
    have same : H a = some (.frz { cls := .type "list", data := .seq us.toArray } (.lst (ns.map V.int))) := if_pos rfl
    have other : ∀ b, b ≠ a → H b = none := fun b hb => if_neg hb
    refine main H (fun b => ?_) (.inl (.inr ⟨_, same⟩)) (fun b u z => ?_) (fun b z => ?_) fun _ => hk
    · by_cases hb : b = a
      · rw [hb]; exact .inr ⟨_, _, same⟩
      · exact .inl (other b hb)
    · by_cases hb : b = a
      · subst hb
        rw [same] at z
        cases z
        exact ⟨at0, by rw [List.length_map]; exact Nat.le_trans short hm, us, _, vs, at0⟩
      · rw [other b hb] at z
        cases z
    · by_cases hb : b = a
      · exact hb
      · exact absurd (other b hb) z
  · cases hko : K.lookup a with
    | none => exact absurd hko hk
    | some o =>
      have g := kin a o hko
      rw [at0] at g
      cases g
      refine main (fun _ => none) (fun _ => .inl rfl) (.inr ⟨_, us.toArray, _, hko, rfl, rfl, rfl, by rw [List.size_toArray, len]; exact Nat.le_trans short hm, by simpa using vs⟩) (fun b u z => by cases z) (fun b z => absurd rfl z) fun z => absurd rfl z
end Iv
end
section
set_option Elab.async false
set_option linter.all false
set_option maxRecDepth 1000000
set_option maxHeartbeats 0
namespace Iv
open PySem PySem.Spec L2
/-! the text as terms (printed by gen.py) -/
def k93_b__law_pot : Sm := (.consB (.asg (.nm 2) (.ite (.cmp .lt (.var 1) (.b1 .len (.var 0))) (.b1 .abs (.idx (.var 0) (.var 1))) (.bin .add (.bin .add (.bin .mul (.cst (.int 929)) (.var 1)) (.cst (.int 337))) (.bin .mod (.b1 .abs (.b1 .sum (.slc (.var 0) .noe (.cst (.int 1))))) (.cst (.int 1000003)))))) (.consB (.ret (.lst (.cons (.b2 .max (.cst (.int 0)) (.bin .sub (.var 2) (.bin .pow (.cst (.int 10)) (.cst (.int 18))))) (.cons (.bin .add (.bin .mod (.b1 .int (.bin .add (.bin .add (.bin .mul (.bin .mod (.b1 .int (.var 2)) (.cst (.int 2147483549))) (.cst (.int 40014))) (.bin .mul (.cst (.int 6029)) (.var 1))) (.cst (.int 337)))) (.cst (.int 2147483563))) (.cst (.int 1))) .nil)))) .nilB))
def k93_b__law_draw : Sm := (.consB (.ifs (.cmp .gt (.idx (.var 0) (.cst (.int 0))) (.cst (.int 0))) (.consB (.ast 0 (.cst (.int 0)) 2 (.b2 .dvm (.idx (.var 0) (.cst (.int 0))) (.var 1))) (.consB (.ret (.var 2)) .nilB)) .nilB) (.consB (.sub 0 (.cst (.int 1)) (.bin .mod (.b1 .int (.bin .add (.bin .mul (.idx (.var 0) (.cst (.int 1))) (.cst (.int 39373))) (.cst (.int 337)))) (.cst (.int 2147483587)))) (.consB (.ret (.bin .mod (.b1 .int (.bin .fdv (.bin .mod (.b1 .int (.bin .mul (.idx (.var 0) (.cst (.int 1))) (.idx (.var 0) (.cst (.int 1))))) (.cst (.int 2147483563))) (.cst (.int 19)))) (.var 1))) .nilB)))
def k93_b__law_pick : Sm := (.consB (.ret (.idx (.var 1) (.call 1 (.cons (.mu 0) (.cons (.b1 .len (.var 1)) .nil))))) .nilB)
def k93_b__law_users : Sm := (.consB (.aso 4 (.lst .nil)) (.consB (.for_ (.nm 5) .rng (.var 1) .noe (.consB (.aso 6 (.lc [("good", 7)] (.nm 7) .rng (.var 2) .noe .noe (.call 2 (.cons (.mu 0) (.cons (.lst (.cons (.cst (.int 0)) (.cons (.cst (.int 1)) (.cons (.cst (.int 2)) (.cons (.cst (.int 3)) (.cons (.bin .add (.cst (.int 1)) (.call 1 (.cons (.mu 0) (.cons (.var 3) .nil)))) .nil)))))) .nil))))) (.consB (.ifs (.cmp .eq (.var 6) (.rep (.cons (.cst (.int 0)) .nil) (.var 2))) (.consB (.sub 6 (.call 1 (.cons (.mu 0) (.cons (.var 2) .nil))) (.bin .add (.cst (.int 1)) (.call 1 (.cons (.mu 0) (.cons (.var 3) .nil))))) .nilB) .nilB) (.consB (.app 4 (.tup (.cons (.cst (.str "user")) (.cons (.cst (.int 1)) (.cons (.b1 .tup (.var 6)) (.cons (.ite (.cmp .eq (.call 1 (.cons (.mu 0) (.cons (.cst (.int 3)) .nil))) (.cst (.int 0))) (.call 1 (.cons (.mu 0) (.cons (.cst (.int 6)) .nil))) (.cst .none)) .nil)))))) .nilB)))) (.consB (.ret (.b1 .tup (.var 4))) .nilB)))
def k93_b__law_totals : Sm := (.consB (.aso 3 (.lst .nil)) (.consB (.for_ (.nm 4) .rng (.b1 .len (.idx (.idx (.var 1) (.cst (.int 0))) (.cst (.int 2)))) .noe (.consB (.asg (.nm 5) (.bin .add (.lc [("user", 6)] (.nm 6) .walk (.var 1) .noe (.cmp .gt (.idx (.idx (.var 6) (.cst (.int 2))) (.var 4)) (.cst (.int 0))) (.idx (.idx (.var 6) (.cst (.int 2))) (.var 4))) (.lst (.cons (.cst (.int 99)) .nil)))) (.consB (.app 3 (.b2 .max (.cst (.int 1)) (.b2 .min (.bin .mul (.cst (.int 20)) (.b1 .min (.var 5))) (.call 1 (.cons (.mu 0) (.cons (.bin .add (.cst (.int 1)) (.bin .mul (.var 2) (.bin .add (.cst (.int 1)) (.b1 .max (.bin .add (.slc (.var 5) .noe (.neg (.cst (.int 1)))) (.lst (.cons (.cst (.int 1)) .nil))))))) .nil)))))) .nilB))) (.consB (.ret (.b1 .tup (.var 3))) .nilB)))
def k93_b_is_tuple_of : Sm := (.consB (.ifs (.or (.nt (.isi (.var 0) ["tuple"])) (.cmp .ne (.b1 .len (.var 0)) (.var 2))) (.consB (.ret (.cst (.bool false))) .nilB) .nilB) (.consB (.ret (.and (.isi (.idx (.var 0) (.cst (.int 0))) ["str"]) (.cmp .eq (.idx (.var 0) (.cst (.int 0))) (.var 1)))) .nilB))
def k93_b_goods_of : Sm := (.consB (.ifs (.or (.nt (.isi (.var 0) ["tuple"])) (.or (.cmp .eq (.b1 .len (.var 0)) (.cst (.int 0))) (.nt (.call 5 (.cons (.idx (.var 0) (.cst (.int 0))) (.cons (.cst (.str "user")) (.cons (.cst (.int 4)) .nil))))))) (.consB (.ret (.cst (.int 0))) .nilB) .nilB) (.consB (.ret (.ite (.isi (.idx (.idx (.var 0) (.cst (.int 0))) (.cst (.int 2))) ["tuple"]) (.b1 .len (.idx (.idx (.var 0) (.cst (.int 0))) (.cst (.int 2)))) (.cst (.int 0)))) .nilB))
def k93_b_is_integer : Sm := (.consB (.ret (.and (.isi (.var 0) ["int"]) (.nt (.isi (.var 0) ["bool"])))) .nilB)
def k93_b_is_within : Sm := (.consB (.ret (.and (.call 7 (.cons (.var 0) .nil)) (.chn .le .le (.var 1) (.var 0) (.var 2)))) .nilB)
def k93_b_are_needs : Sm := (.consB (.ifs (.or (.nt (.isi (.var 0) ["tuple"])) (.cmp .ne (.b1 .len (.var 0)) (.var 1))) (.consB (.ret (.cst (.bool false))) .nilB) .nilB) (.consB (.ret (.and (.b1 .all (.lc [("one", 2)] (.nm 2) .walk (.var 0) .noe .noe (.call 8 (.cons (.var 2) (.cons (.cst (.int 0)) (.cons (.glo "MOST_NEED" (.int 99)) .nil)))))) (.b1 .any (.lc [("one", 2)] (.nm 2) .walk (.var 0) .noe .noe (.cmp .gt (.var 2) (.cst (.int 0))))))) .nilB))
def k93_b_is_want : Sm := (.consB (.ret (.or (.cmp .is (.var 0) (.cst .none)) (.call 8 (.cons (.var 0) (.cons (.cst (.int 0)) (.cons (.glo "MOST_WANT" (.int 999)) .nil)))))) .nilB)
def k93_b_is_user : Sm := (.consB (.ifs (.or (.nt (.call 5 (.cons (.var 0) (.cons (.cst (.str "user")) (.cons (.cst (.int 4)) .nil))))) (.nt (.call 8 (.cons (.idx (.var 0) (.cst (.int 1))) (.cons (.cst (.int 1)) (.cons (.glo "MOST_WEIGHT" (.int 9)) .nil)))))) (.consB (.ret (.cst (.bool false))) .nilB) .nilB) (.consB (.ret (.and (.call 9 (.cons (.idx (.var 0) (.cst (.int 2))) (.cons (.var 1) .nil))) (.call 10 (.cons (.idx (.var 0) (.cst (.int 3))) .nil)))) .nilB))
def k93_b_are_users : Sm := (.consB (.asg (.nm 1) (.call 6 (.cons (.var 0) .nil))) (.consB (.ifs (.or (.nt (.chn .le .le (.cst (.int 1)) (.var 1) (.glo "MOST_GOODS" (.int 4)))) (.cmp .gt (.b1 .len (.var 0)) (.glo "MOST_USERS" (.int 6)))) (.consB (.ret (.cst (.bool false))) .nilB) .nilB) (.consB (.ret (.b1 .all (.lc [("one", 2)] (.nm 2) .walk (.var 0) .noe .noe (.call 11 (.cons (.var 2) (.cons (.var 1) .nil)))))) .nilB)))
def k93_b_want_users : Sm := (.consB (.ifs (.nt (.call 12 (.cons (.var 0) .nil))) (.consB .nev .nilB) .nilB) .nilB)
def k93_b_totals_are_right : Sm := (.consB (.ifs (.or (.nt (.isi (.var 1) ["tuple"])) (.cmp .ne (.b1 .len (.var 1)) (.b1 .len (.idx (.idx (.var 0) (.cst (.int 0))) (.cst (.int 2)))))) (.consB (.ret (.cst (.bool false))) .nilB) .nilB) (.consB (.ret (.b1 .all (.lc [("one", 2)] (.nm 2) .walk (.var 1) .noe .noe (.call 8 (.cons (.var 2) (.cons (.cst (.int 1)) (.cons (.glo "MOST_TOTAL" (.int 9999)) .nil))))))) .nilB))
def k93_b_want_both : Sm := (.consB (.exp (.call 13 (.cons (.var 0) .nil))) (.consB (.ifs (.nt (.call 14 (.cons (.var 0) (.cons (.var 1) .nil)))) (.consB .nev .nilB) .nilB) .nilB))
def k93_b_want_plain : Sm := (.consB (.exp (.call 13 (.cons (.var 0) .nil))) (.consB (.ifs (.b1 .any (.lc [("user", 2)] (.nm 2) .walk (.var 0) .noe .noe (.cmp .ne (.idx (.var 2) (.cst (.int 1))) (.cst (.int 1))))) (.consB .nev .nilB) .nilB) (.consB (.exp (.call 15 (.cons (.var 0) (.cons (.var 1) .nil)))) .nilB)))
def k93_b_can_go_on : Sm := (.consB (.ifs (.and (.cmp .isn (.idx (.var 0) (.cst (.int 3))) (.cst .none)) (.cmp .ge (.var 1) (.idx (.var 0) (.cst (.int 3))))) (.consB (.ret (.cst (.bool false))) .nilB) .nilB) (.consB (.ret (.b1 .all (.lc [("need", 3), ("rest", 4)] (.tp [3, 4]) .zip (.idx (.var 0) (.cst (.int 2))) (.var 2) .noe (.cmp .le (.var 3) (.var 4))))) .nilB))
def k93_b_is_below : Sm := (.consB (.ret (.cmp .lt (.bin .mul (.idx (.var 0) (.cst (.int 0))) (.idx (.var 1) (.cst (.int 1)))) (.bin .mul (.idx (.var 1) (.cst (.int 0))) (.idx (.var 0) (.cst (.int 1)))))) .nilB)
def k93_b_next_one : Sm := (.consB (.asp [4, 5] [false, false] (.cons (.cst .none) (.cons (.cst .none) .nil))) (.consB (.for_ (.tp [6, 7]) .enm (.var 0) .noe (.consB (.ifs (.call 17 (.cons (.var 7) (.cons (.idx (.var 2) (.var 6)) (.cons (.var 3) .nil)))) (.consB (.asg (.nm 8) (.tup (.cons (.bin .mul (.idx (.var 2) (.var 6)) (.idx (.idx (.var 1) (.var 6)) (.cst (.int 0)))) (.cons (.idx (.idx (.var 1) (.var 6)) (.cst (.int 1))) .nil)))) (.consB (.ifs (.or (.cmp .is (.var 4) (.cst .none)) (.call 18 (.cons (.var 8) (.cons (.var 5) .nil)))) (.consB (.asp [4, 5] [false, false] (.cons (.var 6) (.cons (.var 8) .nil))) .nilB) .nilB) .nilB)) .nilB) .nilB)) (.consB (.ret (.var 4)) .nilB)))
def k93_b_greatest_of : Sm := (.consB (.asg (.nm 1) (.idx (.var 0) (.cst (.int 0)))) (.consB (.for_ (.nm 2) .walk (.slc (.var 0) (.cst (.int 1)) .noe) .noe (.consB (.asg (.nm 1) (.ite (.call 18 (.cons (.var 1) (.cons (.var 2) .nil))) (.var 2) (.var 1))) .nilB)) (.consB (.ret (.var 1)) .nilB)))
def k93_b_common_part : Sm := (.consB (.asp [0, 1] [false, false] (.cons (.b1 .abs (.var 0)) (.cons (.b1 .abs (.var 1)) .nil))) (.consB (.whl (.cmp .gt (.var 1) (.cst (.int 0))) (.consB (.asp [0, 1] [false, false] (.cons (.var 1) (.cons (.bin .mod (.var 0) (.var 1)) .nil))) .nilB)) (.consB (.ret (.var 0)) .nilB)))
def k93_b_lowest : Sm := (.consB (.asg (.nm 2) (.call 21 (.cons (.var 0) (.cons (.var 1) .nil)))) (.consB (.asg (.nm 2) (.ite (.cmp .gt (.var 1) (.cst (.int 0))) (.var 2) (.bin .sub (.cst (.int 0)) (.var 2)))) (.consB (.ret (.tup (.cons (.bin .fdv (.var 0) (.var 2)) (.cons (.bin .fdv (.var 1) (.var 2)) .nil)))) .nilB)))
def k93_b_over : Sm := (.consB (.ret (.call 22 (.cons (.bin .mul (.idx (.var 0) (.cst (.int 0))) (.idx (.var 1) (.cst (.int 1)))) (.cons (.bin .mul (.idx (.var 0) (.cst (.int 1))) (.idx (.var 1) (.cst (.int 0)))) .nil)))) .nilB)
def k93_b_height : Sm := (.consB (.ret (.call 20 (.cons (.lc [("need", 2), ("total", 3)] (.tp [2, 3]) .zip (.idx (.var 0) (.cst (.int 2))) (.var 1) .noe (.call 23 (.cons (.tup (.cons (.var 2) (.cons (.cst (.int 1)) .nil))) (.cons (.tup (.cons (.var 3) (.cons (.cst (.int 1)) .nil))) .nil)))) .nil))) .nilB)
def k93_b_pieces_of : Sm := (.consB (.asp [2, 3, 4] [false, true, false] (.cons (.lc [("user", 6)] (.nm 6) .walk (.var 0) .noe .noe (.call 24 (.cons (.var 6) (.cons (.var 1) .nil)))) (.cons (.rep (.cons (.cst (.int 0)) .nil) (.b1 .len (.var 0))) (.cons (.b1 .list (.var 1)) .nil)))) (.consB (.asg (.nm 5) (.call 19 (.cons (.var 0) (.cons (.var 2) (.cons (.mu 3) (.cons (.var 4) .nil)))))) (.consB (.whl (.cmp .isn (.var 5) (.cst .none)) (.consB (.sub 3 (.var 5) (.bin .add (.idx (.var 3) (.var 5)) (.cst (.int 1)))) (.consB (.asg (.nm 4) (.lc [("rest", 7), ("need", 8)] (.tp [7, 8]) .zip (.var 4) (.idx (.idx (.var 0) (.var 5)) (.cst (.int 2))) .noe (.bin .sub (.var 7) (.var 8)))) (.consB (.asg (.nm 5) (.call 19 (.cons (.var 0) (.cons (.var 2) (.cons (.mu 3) (.cons (.var 4) .nil)))))) .nilB)))) (.consB (.retv 3) .nilB))))
def k93_b_pieces : Sm := (.consB (.exp (.call 16 (.cons (.var 0) (.cons (.var 1) .nil)))) (.consB (.ret (.m1 .fr (.call 25 (.cons (.var 0) (.cons (.var 1) .nil))) .noe)) .nilB))
def k93_b__law_height : Sm := (.consB (.asg (.nm 2) (.tup (.cons (.cst (.int 0)) (.cons (.cst (.int 1)) .nil)))) (.consB (.for_ (.tp [3, 4]) .zip (.idx (.var 0) (.cst (.int 2))) (.var 1) (.consB (.asg (.nm 2) (.ite (.cmp .gt (.bin .mul (.var 3) (.idx (.var 2) (.cst (.int 1)))) (.bin .mul (.idx (.var 2) (.cst (.int 0))) (.var 4))) (.tup (.cons (.var 3) (.cons (.var 4) .nil))) (.var 2))) .nilB)) (.consB (.ret (.var 2)) .nilB)))
def k93_b__law_pieces : Sm := (.consB (.asp [2, 3, 4] [true, false, false] (.cons (.rep (.cons (.cst (.int 0)) .nil) (.b1 .len (.var 0))) (.cons (.b1 .list (.var 1)) (.cons (.lc [("user", 8)] (.nm 8) .walk (.var 0) .noe .noe (.call 27 (.cons (.var 8) (.cons (.var 1) .nil)))) .nil)))) (.consB (.for_ (.nm 5) .rng (.cst (.int 4000)) .noe (.consB (.asg (.nm 6) (.cst .none)) (.consB (.for_ (.tp [7, 8]) .enm (.var 0) .noe (.consB (.asg (.nm 9) (.and (.cmp .isn (.idx (.var 8) (.cst (.int 3))) (.cst .none)) (.cmp .ge (.idx (.var 2) (.var 7)) (.idx (.var 8) (.cst (.int 3)))))) (.consB (.ifs (.or (.var 9) (.b1 .any (.lc [("need", 12), ("there", 13)] (.tp [12, 13]) .zip (.idx (.var 8) (.cst (.int 2))) (.var 3) .noe (.cmp .gt (.var 12) (.var 13))))) (.consB .cnt .nilB) .nilB) (.consB (.asp [10, 11] [false, false] (.cons (.bin .mul (.idx (.var 2) (.var 7)) (.idx (.idx (.var 4) (.var 7)) (.cst (.int 0)))) (.cons (.idx (.idx (.var 4) (.var 7)) (.cst (.int 1))) .nil))) (.consB (.ifs (.or (.cmp .is (.var 6) (.cst .none)) (.cmp .lt (.bin .mul (.var 10) (.idx (.var 6) (.cst (.int 1)))) (.bin .mul (.idx (.var 6) (.cst (.int 0))) (.var 11)))) (.consB (.asg (.nm 6) (.tup (.cons (.var 10) (.cons (.var 11) (.cons (.var 7) .nil))))) .nilB) .nilB) .nilB))))) (.consB (.ifs (.cmp .is (.var 6) (.cst .none)) (.consB .brk .nilB) .nilB) (.consB (.aug 2 (.idx (.var 6) (.cst (.int 2))) .add (.cst (.int 1))) (.consB (.asg (.nm 3) (.lc [("need", 12), ("there", 13)] (.tp [12, 13]) .zip (.idx (.idx (.var 0) (.idx (.var 6) (.cst (.int 2)))) (.cst (.int 2))) (.var 3) .noe (.bin .sub (.var 13) (.var 12)))) .nilB)))))) (.consB (.ret (.var 2)) .nilB)))
def k93_b__law_makes : Sm := (.consB (.asg (.nm 2) (.lc [("there", 3), ("need", 4)] (.tp [3, 4]) .zip (.var 1) (.idx (.var 0) (.cst (.int 2))) (.cmp .gt (.var 4) (.cst (.int 0))) (.bin .fdv (.var 3) (.var 4)))) (.consB (.ret (.b1 .min (.ite (.cmp .is (.idx (.var 0) (.cst (.int 3))) (.cst .none)) (.var 2) (.bin .add (.var 2) (.lst (.cons (.idx (.var 0) (.cst (.int 3))) .nil)))))) .nilB))
def k93_b_is_count : Sm := (.consB (.ret (.and (.call 7 (.cons (.var 0) .nil)) (.cmp .ge (.var 0) (.cst (.int 0))))) .nilB)
def k93_b_want_user_shares : Sm := (.consB (.ifs (.or (.nt (.call 30 (.cons (.var 1) .nil))) (.cmp .ge (.var 1) (.b1 .len (.var 0)))) (.consB .nev .nilB) .nilB) .nilB)
def k93_b_want_needs : Sm := (.consB (.ifs (.nt (.call 9 (.cons (.var 1) (.cons (.b1 .len (.idx (.idx (.var 0) (.cst (.int 0))) (.cst (.int 2)))) .nil)))) (.consB .nev .nilB) .nilB) .nilB)
def k93_b_whole_makes : Sm := (.consB (.asg (.nm 2) (.b1 .min (.lc [("one", 3), ("need", 4)] (.tp [3, 4]) .zip (.var 1) (.idx (.var 0) (.cst (.int 2))) (.cmp .gt (.var 4) (.cst (.int 0))) (.bin .fdv (.var 3) (.var 4))))) (.consB (.ret (.ite (.cmp .is (.idx (.var 0) (.cst (.int 3))) (.cst .none)) (.var 2) (.b2 .min (.var 2) (.idx (.var 0) (.cst (.int 3)))))) .nilB))
def k93_b_true_of : Sm := (.consB (.asg (.nm 4) (.bin .add (.bin .add (.slc (.var 0) .noe (.var 2)) (.tup (.cons (.bin .add (.bin .add (.slc (.idx (.var 0) (.var 2)) .noe (.cst (.int 2))) (.tup (.cons (.var 3) .nil))) (.slc (.idx (.var 0) (.var 2)) (.cst (.int 3)) .noe)) .nil))) (.slc (.var 0) (.bin .add (.var 2) (.cst (.int 1))) .noe))) (.consB (.asg (.nm 5) (.idx (.call 25 (.cons (.var 4) (.cons (.var 1) .nil))) (.var 2))) (.consB (.ret (.call 33 (.cons (.idx (.var 0) (.var 2)) (.cons (.lc [("need", 6)] (.nm 6) .walk (.var 3) .noe .noe (.bin .mul (.var 5) (.var 6))) .nil)))) .nilB)))
def k93_b_true_pieces : Sm := (.consB (.exp (.call 16 (.cons (.var 0) (.cons (.var 1) .nil)))) (.consB (.exp (.call 31 (.cons (.var 0) (.cons (.var 2) .nil)))) (.consB (.exp (.call 32 (.cons (.var 0) (.cons (.var 3) .nil)))) (.consB (.ret (.call 34 (.cons (.var 0) (.cons (.var 1) (.cons (.var 2) (.cons (.var 3) .nil)))))) .nilB))))
def k93_b__law_truly : Sm := (.consB (.asg (.nm 4) (.bin .add (.bin .add (.slc (.var 0) .noe (.var 2)) (.tup (.cons (.bin .add (.slc (.idx (.var 0) (.var 2)) .noe (.cst (.int 2))) (.tup (.cons (.b1 .tup (.var 3)) (.cons (.idx (.idx (.var 0) (.var 2)) (.cst (.int 3))) .nil)))) .nil))) (.slc (.var 0) (.bin .add (.var 2) (.cst (.int 1))) .noe))) (.consB (.asg (.nm 5) (.idx (.call 28 (.cons (.var 4) (.cons (.var 1) .nil))) (.var 2))) (.consB (.ret (.call 29 (.cons (.idx (.var 0) (.var 2)) (.cons (.lc [("need", 6)] (.nm 6) .walk (.var 3) .noe .noe (.bin .mul (.var 5) (.var 6))) .nil)))) .nilB)))
def k93_b_piece_envy : Sm := (.consB (.exp (.call 16 (.cons (.var 0) (.cons (.var 1) .nil)))) (.consB (.exp (.call 31 (.cons (.var 0) (.cons (.var 2) .nil)))) (.consB (.exp (.call 31 (.cons (.var 0) (.cons (.var 3) .nil)))) (.consB (.asg (.nm 4) (.b2 .max (.cst (.int 0)) (.bin .sub (.idx (.call 25 (.cons (.var 0) (.cons (.var 1) .nil))) (.var 3)) (.cst (.int 1))))) (.consB (.ret (.call 33 (.cons (.idx (.var 0) (.var 2)) (.cons (.lc [("need", 5)] (.nm 5) .walk (.idx (.idx (.var 0) (.var 3)) (.cst (.int 2))) .noe .noe (.bin .mul (.var 4) (.var 5))) .nil)))) .nilB)))))
def k93_b__law_pieces_right : Sm := (.consB (.asg (.nm 1) (.call 3 (.cons (.mu 0) (.cons (.bin .add (.cst (.int 1)) (.call 1 (.cons (.mu 0) (.cons (.cst (.int 6)) .nil)))) (.cons (.bin .add (.cst (.int 1)) (.call 1 (.cons (.mu 0) (.cons (.cst (.int 4)) .nil)))) (.cons (.call 2 (.cons (.mu 0) (.cons (.lst (.cons (.cst (.int 4)) (.cons (.cst (.int 99)) .nil))) .nil))) .nil)))))) (.consB (.asg (.nm 2) (.call 4 (.cons (.mu 0) (.cons (.var 1) (.cons (.cst (.int 10)) .nil))))) (.consB (.asp [3, 4] [false, false] (.cons (.b1 .repr (.lst (.cons (.var 1) (.cons (.var 2) .nil)))) (.cons (.call 28 (.cons (.var 1) (.cons (.var 2) .nil))) .nil))) (.consB (.aso 5 (.m1 .fr (.call 26 (.cons (.var 1) (.cons (.var 2) .nil))) .noe)) (.consB (.ifs (.cmp .ne (.b1 .repr (.var 5)) (.b1 .repr (.var 4))) (.consB (.ret (.cst (.bool false))) .nilB) .nilB) (.consB (.app 5 (.cst .none)) (.consB (.for_ (.nm 6) .rng (.cst (.int 2)) .noe (.consB (.asp [7, 8] [false, false] (.cons (.call 1 (.cons (.mu 0) (.cons (.b1 .len (.var 1)) .nil))) (.cons (.call 1 (.cons (.mu 0) (.cons (.b1 .len (.var 1)) .nil))) .nil))) (.consB (.asg (.nm 9) (.call 29 (.cons (.idx (.var 1) (.var 7)) (.cons (.lc [("need", 12)] (.nm 12) .walk (.idx (.idx (.var 1) (.var 8)) (.cst (.int 2))) .noe .noe (.bin .mul (.b2 .max (.cst (.int 0)) (.bin .sub (.idx (.var 4) (.var 8)) (.cst (.int 1)))) (.var 12))) .nil)))) (.consB (.ifs (.or (.cmp .gt (.var 9) (.idx (.var 4) (.var 7))) (.cmp .ne (.b1 .repr (.call 37 (.cons (.var 1) (.cons (.var 2) (.cons (.var 7) (.cons (.var 8) .nil)))))) (.b1 .repr (.var 9)))) (.consB (.ret (.cst (.bool false))) .nilB) .nilB) (.consB (.asg (.nm 10) (.b1 .tup (.lc [("need", 12)] (.nm 12) .walk (.idx (.idx (.var 1) (.var 7)) (.cst (.int 2))) .noe .noe (.b2 .max (.cst (.int 0)) (.bin .sub (.bin .add (.var 12) (.call 1 (.cons (.mu 0) (.cons (.cst (.int 5)) .nil)))) (.cst (.int 2))))))) (.consB (.asg (.nm 10) (.call 2 (.cons (.mu 0) (.cons (.lst (.cons (.var 10) (.cons (.idx (.idx (.var 1) (.var 8)) (.cst (.int 2))) (.cons (.b1 .tup (.lc [("need", 12)] (.nm 12) .walk (.var 10) .noe .noe (.bin .mul (.cst (.int 2)) (.var 12)))) .nil)))) .nil)))) (.consB (.asg (.nm 10) (.ite (.or (.cmp .eq (.b1 .sum (.var 10)) (.cst (.int 0))) (.cmp .gt (.b1 .max (.var 10)) (.cst (.int 99)))) (.idx (.idx (.var 1) (.var 7)) (.cst (.int 2))) (.var 10))) (.consB (.asg (.nm 11) (.b1 .min (.lc [("need", 12), ("there", 13)] (.tp [12, 13]) .zip (.var 10) (.var 2) (.cmp .gt (.var 12) (.cst (.int 0))) (.bin .fdv (.var 13) (.var 12))))) (.consB (.asg (.nm 10) (.ite (.cmp .gt (.var 11) (.cst (.int 40))) (.idx (.idx (.var 1) (.var 7)) (.cst (.int 2))) (.var 10))) (.consB (.ifs (.cmp .ne (.b1 .repr (.calk 35 .nil (.cons (.var 10) (.cons (.var 7) (.cons (.var 2) (.cons (.var 1) .nil)))) [3, 2, 1, 0])) (.b1 .repr (.call 36 (.cons (.var 1) (.cons (.var 2) (.cons (.var 7) (.cons (.var 10) .nil))))))) (.consB (.ret (.cst (.bool false))) .nilB) .nilB) .nilB)))))))))) (.consB (.ret (.and (.cmp .eq (.b1 .repr (.calk 26 .nil (.cons (.var 2) (.cons (.var 1) .nil)) [1, 0])) (.b1 .repr (.var 4))) (.cmp .eq (.b1 .repr (.lst (.cons (.var 1) (.cons (.var 2) .nil)))) (.var 3)))) .nilB))))))))
def k93_b__law_rows : Sm := (.consB (.asg (.nm 2) (.lst (.cons (.tup .nil) .nil))) (.consB (.for_ (.nm 3) .rng (.var 0) .noe (.consB (.aso 4 (.lst .nil)) (.consB (.for_ (.nm 5) .walk (.var 2) .noe (.consB (.ext 4 (.lc [("number", 6)] (.nm 6) .rng (.bin .add (.var 1) (.cst (.int 1))) .noe .noe (.bin .add (.var 5) (.tup (.cons (.var 6) .nil))))) .nilB)) (.consB (.asg (.nm 2) (.var 4)) .nilB)))) (.consB (.ret (.var 2)) .nilB)))
def k93_b_want_most : Sm := (.consB (.ifs (.nt (.call 8 (.cons (.var 0) (.cons (.cst (.int 1)) (.cons (.var 1) .nil))))) (.consB .nev .nilB) .nilB) .nilB)
def k93_b_want_few : Sm := (.consB (.asg (.nm 3) (.cst (.int 1))) (.consB (.for_ (.nm 4) .rng (.var 1) .noe (.consB (.asg (.nm 3) (.bin .mul (.var 3) (.bin .add (.var 0) (.cst (.int 1))))) .nilB)) (.consB (.ifs (.cmp .gt (.var 3) (.var 2)) (.consB .nev .nilB) .nilB) .nilB)))
def k93_b_tuples_to : Sm := (.consB (.asg (.nm 2) (.lst (.cons (.tup .nil) .nil))) (.consB (.for_ (.nm 3) .rng (.var 1) .noe (.consB (.aso 4 (.lst .nil)) (.consB (.for_ (.nm 5) .walk (.var 2) .noe (.consB (.ext 4 (.lc [("number", 6)] (.nm 6) .rng (.bin .add (.var 0) (.cst (.int 1))) .noe .noe (.bin .add (.var 5) (.tup (.cons (.var 6) .nil))))) .nilB)) (.consB (.asg (.nm 2) (.var 4)) .nilB)))) (.consB (.ret (.var 2)) .nilB)))
def k93_b_gaining_needs : Sm := (.consB (.exp (.call 16 (.cons (.var 0) (.cons (.var 1) .nil)))) (.consB (.exp (.call 31 (.cons (.var 0) (.cons (.var 2) .nil)))) (.consB (.exp (.call 40 (.cons (.var 3) (.cons (.glo "MOST_NEED" (.int 99)) .nil)))) (.consB (.asg (.nm 4) (.b1 .len (.var 1))) (.consB (.exp (.call 41 (.cons (.var 3) (.cons (.var 4) (.cons (.glo "MOST_TELLINGS" (.int 400)) .nil))))) (.consB (.asg (.nm 5) (.idx (.call 25 (.cons (.var 0) (.cons (.var 1) .nil))) (.var 2))) (.consB (.for_ (.nm 6) .walk (.slc (.call 42 (.cons (.var 3) (.cons (.var 4) .nil))) (.cst (.int 1)) .noe) .noe (.consB (.ifs (.cmp .gt (.call 34 (.cons (.var 0) (.cons (.var 1) (.cons (.var 2) (.cons (.var 6) .nil))))) (.var 5)) (.consB (.ret (.var 6)) .nilB) .nilB) .nilB)) (.consB (.ret (.cst .none)) .nilB))))))))
def k93_b__law_gains_right : Sm := (.consB (.asg (.nm 1) (.call 3 (.cons (.mu 0) (.cons (.bin .add (.cst (.int 2)) (.call 1 (.cons (.mu 0) (.cons (.cst (.int 2)) .nil)))) (.cons (.bin .add (.cst (.int 1)) (.call 1 (.cons (.mu 0) (.cons (.cst (.int 2)) .nil)))) (.cons (.cst (.int 4)) .nil)))))) (.consB (.asp [2, 3] [false, false] (.cons (.call 4 (.cons (.mu 0) (.cons (.var 1) (.cons (.cst (.int 4)) .nil)))) (.cons (.call 1 (.cons (.mu 0) (.cons (.b1 .len (.var 1)) .nil))) .nil))) (.consB (.asg (.nm 4) (.bin .add (.cst (.int 1)) (.call 1 (.cons (.mu 0) (.cons (.ite (.cmp .eq (.b1 .len (.var 2)) (.cst (.int 1))) (.cst (.int 8)) (.cst (.int 4))) .nil))))) (.consB (.asp [5, 6] [false, false] (.cons (.idx (.call 28 (.cons (.var 1) (.cons (.var 2) .nil))) (.var 3)) (.cons (.cst .none) .nil))) (.consB (.for_ (.nm 7) .walk (.call 39 (.cons (.b1 .len (.var 2)) (.cons (.var 4) .nil))) .noe (.consB (.ifs (.and (.cmp .is (.var 6) (.cst .none)) (.and (.cmp .gt (.b1 .sum (.var 7)) (.cst (.int 0))) (.cmp .gt (.call 36 (.cons (.var 1) (.cons (.var 2) (.cons (.var 3) (.cons (.var 7) .nil))))) (.var 5)))) (.consB (.asg (.nm 6) (.var 7)) .nilB) .nilB) .nilB)) (.consB (.asg (.nm 8) (.lst (.cons (.call 43 (.cons (.var 1) (.cons (.var 2) (.cons (.var 3) (.cons (.var 4) .nil))))) (.cons (.calk 43 .nil (.cons (.var 4) (.cons (.var 3) (.cons (.var 2) (.cons (.var 1) .nil)))) [3, 2, 1, 0]) .nil)))) (.consB (.ret (.cmp .eq (.b1 .repr (.var 8)) (.b1 .repr (.lst (.cons (.var 6) (.cons (.var 6) .nil)))))) .nilB)))))))
def k93_b__law_has : Sm := (.consB (.ret (.b1 .sum (.lc [("worth", 3), ("owner", 4)] (.tp [3, 4]) .zip (.idx (.var 0) (.var 2)) (.var 1) (.cmp .eq (.var 4) (.var 2)) (.var 3)))) .nilB)
def k93_b__law_worth : Sm := (.consB (.asp [2, 3] [false, false] (.cons (.lc [("user", 5)] (.nm 5) .rng (.b1 .len (.var 0)) .noe .noe (.call 45 (.cons (.var 0) (.cons (.var 1) (.cons (.var 5) .nil))))) (.cons (.cst (.int 1)) .nil))) (.consB (.for_ (.nm 4) .walk (.var 2) .noe (.consB (.asg (.nm 3) (.bin .mul (.var 3) (.b2 .max (.cst (.int 1)) (.var 4)))) .nilB)) (.consB (.ret (.tup (.cons (.b1 .len (.lc [("much", 4)] (.nm 4) .walk (.var 2) .noe (.cmp .gt (.var 4) (.cst (.int 0))) (.var 4))) (.cons (.var 3) .nil)))) .nilB)))
def k93_b__law_best : Sm := (.consB (.asp [1, 2] [false, false] (.cons (.cst .none) (.cons (.cst .none) .nil))) (.consB (.for_ (.nm 3) .walk (.call 39 (.cons (.b1 .len (.idx (.var 0) (.cst (.int 0)))) (.cons (.bin .sub (.b1 .len (.var 0)) (.cst (.int 1))) .nil))) .noe (.consB (.asg (.nm 4) (.call 46 (.cons (.var 0) (.cons (.var 3) .nil)))) (.consB (.ifs (.or (.cmp .is (.var 1) (.cst .none)) (.cmp .gt (.var 4) (.var 1))) (.consB (.asp [1, 2] [false, false] (.cons (.var 4) (.cons (.var 3) .nil))) .nilB) .nilB) .nilB))) (.consB (.ret (.var 2)) .nilB)))
def k93_b_is_row : Sm := (.consB (.ret (.and (.isi (.var 0) ["tuple"]) (.and (.cmp .eq (.b1 .len (.var 0)) (.var 1)) (.b1 .all (.lc [("one", 2)] (.nm 2) .walk (.var 0) .noe .noe (.call 8 (.cons (.var 2) (.cons (.cst (.int 0)) (.cons (.glo "MOST_WORTH" (.int 9)) .nil))))))))) .nilB)
def k93_b_are_worths : Sm := (.consB (.ifs (.or (.nt (.isi (.var 0) ["tuple"])) (.or (.nt (.chn .le .le (.cst (.int 1)) (.b1 .len (.var 0)) (.glo "MOST_ROWS" (.int 3)))) (.nt (.isi (.idx (.var 0) (.cst (.int 0))) ["tuple"])))) (.consB (.ret (.cst (.bool false))) .nilB) .nilB) (.consB (.asg (.nm 1) (.b1 .len (.idx (.var 0) (.cst (.int 0))))) (.consB (.ret (.and (.chn .le .le (.cst (.int 1)) (.var 1) (.glo "MOST_MACHINES" (.int 4))) (.b1 .all (.lc [("one", 2)] (.nm 2) .walk (.var 0) .noe .noe (.call 48 (.cons (.var 2) (.cons (.var 1) .nil))))))) .nilB)))
def k93_b_want_worths : Sm := (.consB (.ifs (.nt (.call 49 (.cons (.var 0) .nil))) (.consB .nev .nilB) .nilB) .nilB)
def k93_b_want_user_wholes : Sm := (.consB (.ifs (.or (.nt (.call 30 (.cons (.var 1) .nil))) (.cmp .ge (.var 1) (.b1 .len (.var 0)))) (.consB .nev .nilB) .nilB) .nilB)
def k93_b_worth_of : Sm := (.consB (.ret (.b1 .sum (.lc [("worth", 3), ("owner", 4)] (.tp [3, 4]) .zip (.var 0) (.var 1) (.cmp .eq (.var 4) (.var 2)) (.var 3)))) .nilB)
def k93_b_all_owners : Sm := (.consB (.ret (.call 42 (.cons (.bin .sub (.b1 .len (.var 0)) (.cst (.int 1))) (.cons (.b1 .len (.idx (.var 0) (.cst (.int 0)))) .nil)))) .nilB)
def k93_b_all_have : Sm := (.consB (.ret (.lc [("user", 2), ("row", 3)] (.tp [2, 3]) .enm (.var 0) .noe .noe (.call 52 (.cons (.var 3) (.cons (.var 1) (.cons (.var 2) .nil)))))) .nilB)
def k93_b_goodness : Sm := (.consB (.asp [2, 3] [false, false] (.cons (.cst (.int 0)) (.cons (.cst (.int 1)) .nil))) (.consB (.for_ (.nm 4) .walk (.call 54 (.cons (.var 0) (.cons (.var 1) .nil))) .noe (.consB (.ifs (.cmp .gt (.var 4) (.cst (.int 0))) (.consB (.asp [2, 3] [false, false] (.cons (.bin .add (.var 2) (.cst (.int 1))) (.cons (.bin .mul (.var 3) (.var 4)) .nil))) .nilB) .nilB) .nilB)) (.consB (.ret (.tup (.cons (.var 2) (.cons (.var 3) .nil)))) .nilB)))
def k93_b_best_of : Sm := (.consB (.asp [1, 2] [false, false] (.cons (.cst .none) (.cons (.cst .none) .nil))) (.consB (.for_ (.nm 3) .walk (.call 53 (.cons (.var 0) .nil)) .noe (.consB (.asg (.nm 4) (.call 55 (.cons (.var 0) (.cons (.var 3) .nil)))) (.consB (.ifs (.or (.cmp .is (.var 1) (.cst .none)) (.cmp .gt (.var 4) (.var 1))) (.consB (.asp [1, 2] [false, false] (.cons (.var 4) (.cons (.var 3) .nil))) .nilB) .nilB) .nilB))) (.consB (.ret (.var 2)) .nilB)))
def k93_b_gaining_worths : Sm := (.consB (.exp (.call 50 (.cons (.var 0) .nil))) (.consB (.exp (.call 51 (.cons (.var 0) (.cons (.var 1) .nil)))) (.consB (.exp (.call 40 (.cons (.var 2) (.cons (.glo "MOST_WORTH" (.int 9)) .nil)))) (.consB (.asg (.nm 3) (.b1 .len (.idx (.var 0) (.cst (.int 0))))) (.consB (.exp (.call 41 (.cons (.var 2) (.cons (.var 3) (.cons (.glo "MOST_TOLD" (.int 256)) .nil))))) (.consB (.asg (.nm 4) (.call 52 (.cons (.idx (.var 0) (.var 1)) (.cons (.call 56 (.cons (.var 0) .nil)) (.cons (.var 1) .nil))))) (.consB (.for_ (.nm 5) .walk (.call 42 (.cons (.var 2) (.cons (.var 3) .nil))) .noe (.consB (.asg (.nm 6) (.call 56 (.cons (.bin .add (.bin .add (.slc (.var 0) .noe (.var 1)) (.tup (.cons (.var 5) .nil))) (.slc (.var 0) (.bin .add (.var 1) (.cst (.int 1))) .noe)) .nil))) (.consB (.ifs (.cmp .gt (.call 52 (.cons (.idx (.var 0) (.var 1)) (.cons (.var 6) (.cons (.var 1) .nil)))) (.var 4)) (.consB (.ret (.var 5)) .nilB) .nilB) .nilB))) (.consB (.ret (.cst .none)) .nilB))))))))
def k93_b__law_telling_right : Sm := (.consB (.asp [2, 3] [false, false] (.cons (.bin .add (.cst (.int 1)) (.call 1 (.cons (.mu 0) (.cons (.cst (.int 3)) .nil)))) (.cons (.bin .add (.cst (.int 1)) (.call 1 (.cons (.mu 0) (.cons (.cst (.int 2)) .nil)))) .nil))) (.consB (.asg (.nm 4) (.b1 .tup (.lc [("user", 5)] (.nm 5) .rng (.var 1) .noe .noe (.b1 .tup (.lc [("machine", 10)] (.nm 10) .rng (.var 2) .noe .noe (.call 1 (.cons (.mu 0) (.cons (.cst (.int 4)) .nil)))))))) (.consB (.asp [5, 6] [false, false] (.cons (.call 1 (.cons (.mu 0) (.cons (.var 1) .nil))) (.cons (.cst .none) .nil))) (.consB (.asg (.nm 7) (.call 45 (.cons (.var 4) (.cons (.call 47 (.cons (.var 4) .nil)) (.cons (.var 5) .nil))))) (.consB (.for_ (.nm 8) .walk (.call 39 (.cons (.var 2) (.cons (.var 3) .nil))) .noe (.consB (.asg (.nm 9) (.bin .add (.bin .add (.slc (.var 4) .noe (.var 5)) (.tup (.cons (.var 8) .nil))) (.slc (.var 4) (.bin .add (.var 5) (.cst (.int 1))) .noe))) (.consB (.ifs (.and (.cmp .is (.var 6) (.cst .none)) (.cmp .gt (.call 45 (.cons (.var 4) (.cons (.call 47 (.cons (.var 9) .nil)) (.cons (.var 5) .nil)))) (.var 7))) (.consB (.asg (.nm 6) (.var 8)) .nilB) .nilB) .nilB))) (.consB (.ret (.cmp .eq (.b1 .repr (.lst (.cons (.call 57 (.cons (.var 4) (.cons (.var 5) (.cons (.var 3) .nil)))) (.cons (.calk 57 .nil (.cons (.var 3) (.cons (.var 5) (.cons (.var 4) .nil))) [2, 1, 0]) .nil)))) (.b1 .repr (.lst (.cons (.var 6) (.cons (.var 6) .nil)))))) .nilB))))))
def k93_b_owners_are_right : Sm := (.consB (.ifs (.or (.nt (.isi (.var 1) ["tuple"])) (.cmp .ne (.b1 .len (.var 1)) (.b1 .len (.idx (.var 0) (.cst (.int 0)))))) (.consB (.ret (.cst (.bool false))) .nilB) .nilB) (.consB (.ret (.b1 .all (.lc [("one", 2)] (.nm 2) .walk (.var 1) .noe .noe (.call 8 (.cons (.var 2) (.cons (.cst (.int 0)) (.cons (.bin .sub (.b1 .len (.var 0)) (.cst (.int 1))) .nil))))))) .nilB))
def k93_b_want_owners : Sm := (.consB (.exp (.call 50 (.cons (.var 0) .nil))) (.consB (.ifs (.nt (.call 59 (.cons (.var 0) (.cons (.var 1) .nil)))) (.consB .nev .nilB) .nilB) .nilB))
def k93_b_better_owners : Sm := (.consB (.exp (.call 60 (.cons (.var 0) (.cons (.var 1) .nil)))) (.consB (.asg (.nm 2) (.call 54 (.cons (.var 0) (.cons (.var 1) .nil)))) (.consB (.for_ (.nm 3) .walk (.call 53 (.cons (.var 0) .nil)) .noe (.consB (.asg (.nm 4) (.call 54 (.cons (.var 0) (.cons (.var 3) .nil)))) (.consB (.ifs (.and (.cmp .ne (.var 4) (.var 2)) (.b1 .all (.lc [("one", 5), ("late", 6)] (.tp [5, 6]) .zip (.var 2) (.var 4) .noe (.cmp .ge (.var 6) (.var 5))))) (.consB (.ret (.var 3)) .nilB) .nilB) .nilB))) (.consB (.ret (.cst .none)) .nilB))))
def k93_b__law_better : Sm := (.consB (.asg (.nm 2) (.lc [("user", 5)] (.nm 5) .rng (.b1 .len (.var 0)) .noe .noe (.call 45 (.cons (.var 0) (.cons (.var 1) (.cons (.var 5) .nil)))))) (.consB (.for_ (.nm 3) .walk (.call 39 (.cons (.b1 .len (.var 1)) (.cons (.bin .sub (.b1 .len (.var 0)) (.cst (.int 1))) .nil))) .noe (.consB (.asg (.nm 4) (.lc [("user", 5)] (.nm 5) .rng (.b1 .len (.var 0)) .noe .noe (.call 45 (.cons (.var 0) (.cons (.var 3) (.cons (.var 5) .nil)))))) (.consB (.ifs (.and (.cmp .ne (.var 2) (.var 4)) (.b1 .all (.lc [("much", 6), ("more", 7)] (.tp [6, 7]) .zip (.var 2) (.var 4) .noe (.cmp .le (.var 6) (.var 7))))) (.consB (.ret (.var 3)) .nilB) .nilB) .nilB))) (.consB (.ret (.cst .none)) .nilB)))
def k93_b_machine_envy : Sm := (.consB (.exp (.call 60 (.cons (.var 0) (.cons (.var 1) .nil)))) (.consB (.exp (.call 51 (.cons (.var 0) (.cons (.var 2) .nil)))) (.consB (.exp (.call 51 (.cons (.var 0) (.cons (.var 3) .nil)))) (.consB (.asg (.nm 4) (.lc [("worth", 5), ("owner", 6)] (.tp [5, 6]) .zip (.idx (.var 0) (.var 2)) (.var 1) (.cmp .eq (.var 6) (.var 3)) (.var 5))) (.consB (.ret (.ite (.cmp .ne (.var 4) (.lst .nil)) (.bin .sub (.b1 .sum (.var 4)) (.b1 .max (.var 4))) (.cst (.int 0)))) .nilB)))))
def k93_b_has : Sm := (.consB (.exp (.call 60 (.cons (.var 0) (.cons (.var 1) .nil)))) (.consB (.exp (.call 51 (.cons (.var 0) (.cons (.var 2) .nil)))) (.consB (.ret (.call 52 (.cons (.idx (.var 0) (.var 2)) (.cons (.var 1) (.cons (.var 2) .nil))))) .nilB)))
def k93_b_best_owners : Sm := (.consB (.exp (.call 50 (.cons (.var 0) .nil))) (.consB (.ret (.call 56 (.cons (.var 0) .nil))) .nilB))
def k93_b_are_owners : Sm := (.consB (.exp (.call 50 (.cons (.var 0) .nil))) (.consB (.ret (.call 59 (.cons (.var 0) (.cons (.var 1) .nil)))) .nilB))
def k93_b__law_machines_right : Sm := (.consB (.asp [1, 2] [false, false] (.cons (.bin .add (.cst (.int 1)) (.call 1 (.cons (.mu 0) (.cons (.cst (.int 3)) .nil)))) (.cons (.bin .add (.cst (.int 1)) (.call 1 (.cons (.mu 0) (.cons (.cst (.int 4)) .nil)))) .nil))) (.consB (.asg (.nm 3) (.b1 .tup (.lc [("user", 12)] (.nm 12) .rng (.var 1) .noe .noe (.b1 .tup (.lc [("machine", 13)] (.nm 13) .rng (.var 2) .noe .noe (.call 1 (.cons (.mu 0) (.cons (.call 2 (.cons (.mu 0) (.cons (.lst (.cons (.cst (.int 2)) (.cons (.cst (.int 4)) (.cons (.cst (.int 10)) .nil)))) .nil))) .nil)))))))) (.consB (.asg (.nm 4) (.b1 .tup (.lc [("machine", 13)] (.nm 13) .rng (.var 2) .noe .noe (.call 1 (.cons (.mu 0) (.cons (.var 1) .nil)))))) (.consB (.asp [5, 6, 7] [false, false, false] (.cons (.call 47 (.cons (.var 3) .nil)) (.cons (.call 1 (.cons (.mu 0) (.cons (.var 1) .nil))) (.cons (.call 1 (.cons (.mu 0) (.cons (.var 1) .nil))) .nil)))) (.consB (.ifs (.or (.cmp .ne (.b1 .repr (.call 65 (.cons (.var 3) .nil))) (.b1 .repr (.var 5))) (.cmp .isn (.call 61 (.cons (.var 3) (.cons (.var 5) .nil))) (.cst .none))) (.consB (.ret (.cst (.bool false))) .nilB) .nilB) (.consB (.ifs (.cmp .ne (.b1 .repr (.calk 61 .nil (.cons (.var 4) (.cons (.var 3) .nil)) [1, 0])) (.b1 .repr (.call 62 (.cons (.var 3) (.cons (.var 4) .nil))))) (.consB (.ret (.cst (.bool false))) .nilB) .nilB) (.consB (.for_ (.nm 8) .walk (.lst (.cons (.var 5) (.cons (.var 4) .nil))) .noe (.consB (.asg (.nm 9) (.lc [("worth", 14), ("owner", 15)] (.tp [14, 15]) .zip (.idx (.var 3) (.var 6)) (.var 8) (.cmp .eq (.var 15) (.var 7)) (.var 14))) (.consB (.asg (.nm 10) (.ite (.cmp .ne (.var 9) (.lst .nil)) (.bin .sub (.b1 .sum (.var 9)) (.b1 .max (.var 9))) (.cst (.int 0)))) (.consB (.ifs (.and (.cmp .eq (.var 8) (.var 5)) (.cmp .gt (.var 10) (.call 45 (.cons (.var 3) (.cons (.var 5) (.cons (.var 6) .nil)))))) (.consB (.ret (.cst (.bool false))) .nilB) .nilB) (.consB (.asg (.nm 11) (.lst (.cons (.call 63 (.cons (.var 3) (.cons (.var 8) (.cons (.var 6) (.cons (.var 7) .nil))))) (.cons (.call 64 (.cons (.var 3) (.cons (.var 8) (.cons (.var 6) .nil)))) (.cons (.calk 64 .nil (.cons (.var 7) (.cons (.var 8) (.cons (.var 3) .nil))) [2, 1, 0]) .nil))))) (.consB (.ifs (.cmp .ne (.b1 .repr (.var 11)) (.b1 .repr (.lst (.cons (.var 10) (.cons (.call 45 (.cons (.var 3) (.cons (.var 8) (.cons (.var 6) .nil)))) (.cons (.call 45 (.cons (.var 3) (.cons (.var 8) (.cons (.var 7) .nil)))) .nil)))))) (.consB (.ret (.cst (.bool false))) .nilB) .nilB) .nilB)))))) (.consB (.ret (.and (.cmp .eq (.lst (.cons (.call 49 (.cons (.var 3) .nil)) (.cons (.call 66 (.cons (.var 3) (.cons (.var 4) .nil))) .nil))) (.lst (.cons (.cst (.bool true)) (.cons (.cst (.bool true)) .nil)))) (.call 58 (.cons (.mu 0) (.cons (.var 1) .nil))))) .nilB))))))))
def k93_b_law : Sm := (.consB (.aso 1 (.m1 .fr (.call 0 (.cons (.var 0) (.cons (.cst (.int 0)) .nil))) .noe)) (.consB (.ret (.and (.call 38 (.cons (.mu 1) .nil)) (.and (.call 44 (.cons (.mu 1) .nil)) (.cf 67 (.call 0 (.cons (.var 0) (.cons (.cst (.int 1)) .nil))))))) .nilB))
def k93_top (i : Nat) : Stmt := PySem.Challenge.pw_promisedhall_k93_whole_pieces_and_machin.main.body.getD i (.Pass ⟨0, 0, 0, 0⟩)
def k93_glo : List (Str × D) := [("MOST_USERS", (.int 6)), ("MOST_GOODS", (.int 4)), ("MOST_WEIGHT", (.int 9)), ("MOST_NEED", (.int 99)), ("MOST_WANT", (.int 999)), ("MOST_TOTAL", (.int 9999)), ("MOST_TELLINGS", (.int 400)), ("MOST_ROWS", (.int 3)), ("MOST_MACHINES", (.int 4)), ("MOST_WORTH", (.int 9)), ("MOST_TOLD", (.int 256))]
def k93_bis : List Str := ["isinstance", "len", "abs", "max", "min", "sum", "all", "any", "int", "str", "repr", "list", "tuple", "divmod", "enumerate", "zip", "range", "bool"]
def k93_d__law_pot : De := ⟨"_law_pot", ["script", "k"], ["script", "k", "cell"], k93_top 80, k93_b__law_pot, true, [], "_law_pot"⟩
def k93_d__law_draw : De := ⟨"_law_draw", ["pot", "many"], ["pot", "many", "digit"], k93_top 81, k93_b__law_draw, false, [], "_law_draw"⟩
def k93_d__law_pick : De := ⟨"_law_pick", ["pot", "some"], ["pot", "some"], k93_top 82, k93_b__law_pick, false, [], "_law_pick"⟩
def k93_d__law_users : De := ⟨"_law_users", ["pot", "many", "goods", "most"], ["pot", "many", "goods", "most", "found", "user", "needs", "good"], k93_top 88, k93_b__law_users, false, [], "_law_users"⟩
def k93_d__law_totals : De := ⟨"_law_totals", ["pot", "users", "most"], ["pot", "users", "most", "found", "good", "needs", "user"], k93_top 89, k93_b__law_totals, false, [], "_law_totals"⟩
def k93_d_is_tuple_of : De := ⟨"is_tuple_of", ["value", "word", "size"], ["value", "word", "size"], k93_top 4, k93_b_is_tuple_of, false, [], "is_tuple_of"⟩
def k93_d_goods_of : De := ⟨"goods_of", ["value"], ["value"], k93_top 32, k93_b_goods_of, false, [], "goods_of"⟩
def k93_d_is_integer : De := ⟨"is_integer", ["value"], ["value"], k93_top 1, k93_b_is_integer, false, [], "is_integer"⟩
def k93_d_is_within : De := ⟨"is_within", ["value", "least", "most"], ["value", "least", "most"], k93_top 3, k93_b_is_within, false, [], "is_within"⟩
def k93_d_are_needs : De := ⟨"are_needs", ["value", "goods"], ["value", "goods", "one"], k93_top 29, k93_b_are_needs, false, [], "are_needs"⟩
def k93_d_is_want : De := ⟨"is_want", ["value"], ["value"], k93_top 30, k93_b_is_want, false, [], "is_want"⟩
def k93_d_is_user : De := ⟨"is_user", ["value", "goods"], ["value", "goods"], k93_top 31, k93_b_is_user, false, [], "is_user"⟩
def k93_d_are_users : De := ⟨"are_users", ["value"], ["value", "goods", "one"], k93_top 33, k93_b_are_users, false, [], "are_users"⟩
def k93_d_want_users : De := ⟨"want_users", ["users"], ["users"], k93_top 35, k93_b_want_users, false, [], "want_users"⟩
def k93_d_totals_are_right : De := ⟨"totals_are_right", ["users", "value"], ["users", "value", "one"], k93_top 34, k93_b_totals_are_right, false, [], "totals_are_right"⟩
def k93_d_want_both : De := ⟨"want_both", ["users", "totals"], ["users", "totals"], k93_top 36, k93_b_want_both, false, [], "want_both"⟩
def k93_d_want_plain : De := ⟨"want_plain", ["users", "totals"], ["users", "totals", "user"], k93_top 43, k93_b_want_plain, false, [], "want_plain"⟩
def k93_d_can_go_on : De := ⟨"can_go_on", ["user", "many", "left"], ["user", "many", "left", "need", "rest"], k93_top 44, k93_b_can_go_on, false, [], "can_go_on"⟩
def k93_d_is_below : De := ⟨"is_below", ["one", "other"], ["one", "other"], k93_top 20, k93_b_is_below, false, [], "is_below"⟩
def k93_d_next_one : De := ⟨"next_one", ["users", "heights", "found", "left"], ["users", "heights", "found", "left", "least", "at_level", "at", "user", "level_now"], k93_top 45, k93_b_next_one, false, [], "next_one"⟩
def k93_d_greatest_of : De := ⟨"greatest_of", ["some"], ["some", "found", "one"], k93_top 21, k93_b_greatest_of, false, [], "greatest_of"⟩
def k93_d_common_part : De := ⟨"common_part", ["one", "other"], ["one", "other"], k93_top 17, k93_b_common_part, false, [], "common_part"⟩
def k93_d_lowest : De := ⟨"lowest", ["top", "bottom"], ["top", "bottom", "part"], k93_top 18, k93_b_lowest, false, [], "lowest"⟩
def k93_d_over : De := ⟨"over", ["one", "other"], ["one", "other"], k93_top 19, k93_b_over, false, [], "over"⟩
def k93_d_height : De := ⟨"height", ["user", "totals"], ["user", "totals", "need", "total"], k93_top 40, k93_b_height, false, [], "height"⟩
def k93_d_pieces_of : De := ⟨"pieces_of", ["users", "totals"], ["users", "totals", "heights", "found", "left", "at", "user", "rest", "need"], k93_top 46, k93_b_pieces_of, true, [], "pieces_of"⟩
def k93_d_pieces : De := ⟨"pieces", ["users", "totals"], ["users", "totals"], k93_top 52, k93_b_pieces, true, [(0, ["totals", "users"], [1, 0])], "pieces"⟩
def k93_d__law_height : De := ⟨"_law_height", ["user", "totals"], ["user", "totals", "found", "need", "total"], k93_top 83, k93_b__law_height, false, [], "_law_height"⟩
def k93_d__law_pieces : De := ⟨"_law_pieces", ["users", "totals"], ["users", "totals", "counts", "left", "heights", "turn", "best", "at", "user", "is_full", "top", "bottom", "need", "there"], k93_top 84, k93_b__law_pieces, false, [], "_law_pieces"⟩
def k93_d__law_makes : De := ⟨"_law_makes", ["user", "goods"], ["user", "goods", "some", "there", "need"], k93_top 85, k93_b__law_makes, false, [], "_law_makes"⟩
def k93_d_is_count : De := ⟨"is_count", ["value"], ["value"], k93_top 2, k93_b_is_count, false, [], "is_count"⟩
def k93_d_want_user_shares : De := ⟨"want_user_shares", ["users", "user"], ["users", "user"], k93_top 37, k93_b_want_user_shares, false, [], "want_user"⟩
def k93_d_want_needs : De := ⟨"want_needs", ["users", "needs"], ["users", "needs"], k93_top 39, k93_b_want_needs, false, [], "want_needs"⟩
def k93_d_whole_makes : De := ⟨"whole_makes", ["user", "goods"], ["user", "goods", "found", "one", "need"], k93_top 47, k93_b_whole_makes, false, [], "whole_makes"⟩
def k93_d_true_of : De := ⟨"true_of", ["users", "totals", "user", "needs"], ["users", "totals", "user", "needs", "told", "many", "need"], k93_top 48, k93_b_true_of, false, [], "true_of"⟩
def k93_d_true_pieces : De := ⟨"true_pieces", ["users", "totals", "user", "needs"], ["users", "totals", "user", "needs"], k93_top 54, k93_b_true_pieces, false, [(0, ["needs", "user", "totals", "users"], [3, 2, 1, 0])], "true_pieces"⟩
def k93_d__law_truly : De := ⟨"_law_truly", ["users", "totals", "user", "needs"], ["users", "totals", "user", "needs", "told", "count", "need"], k93_top 86, k93_b__law_truly, false, [], "_law_truly"⟩
def k93_d_piece_envy : De := ⟨"piece_envy", ["users", "totals", "one", "other"], ["users", "totals", "one", "other", "many", "need"], k93_top 53, k93_b_piece_envy, false, [], "piece_envy"⟩
def k93_d__law_pieces_right : De := ⟨"_law_pieces_right", ["pot"], ["pot", "users", "totals", "shown", "due", "told", "turn", "one", "other", "envied", "needs", "most", "need", "there"], k93_top 90, k93_b__law_pieces_right, false, [], "_law_pieces_right"⟩
def k93_d__law_rows : De := ⟨"_law_rows", ["size", "most"], ["size", "most", "found", "turn", "longer", "row", "number"], k93_top 87, k93_b__law_rows, false, [], "_law_rows"⟩
def k93_d_want_most : De := ⟨"want_most", ["value", "most"], ["value", "most"], k93_top 50, k93_b_want_most, false, [], "want_most"⟩
def k93_d_want_few : De := ⟨"want_few", ["most", "size", "limit"], ["most", "size", "limit", "many", "place"], k93_top 51, k93_b_want_few, false, [], "want_few"⟩
def k93_d_tuples_to : De := ⟨"tuples_to", ["most", "size"], ["most", "size", "found", "place", "later", "one", "number"], k93_top 49, k93_b_tuples_to, false, [], "tuples_to"⟩
def k93_d_gaining_needs : De := ⟨"gaining_needs", ["users", "totals", "user", "most"], ["users", "totals", "user", "most", "goods", "here", "needs"], k93_top 55, k93_b_gaining_needs, false, [(0, ["most", "user", "totals", "users"], [3, 2, 1, 0])], "gaining_needs"⟩
def k93_d__law_gains_right : De := ⟨"_law_gains_right", ["pot"], ["pot", "users", "totals", "user", "most", "now", "due", "needs", "told"], k93_top 91, k93_b__law_gains_right, false, [], "_law_gains_right"⟩
def k93_d__law_has : De := ⟨"_law_has", ["worths", "owners", "user"], ["worths", "owners", "user", "worth", "owner"], k93_top 92, k93_b__law_has, false, [], "_law_has"⟩
def k93_d__law_worth : De := ⟨"_law_worth", ["worths", "owners"], ["worths", "owners", "some", "product", "much", "user"], k93_top 93, k93_b__law_worth, false, [], "_law_worth"⟩
def k93_d__law_best : De := ⟨"_law_best", ["worths"], ["worths", "best", "found", "owners", "worth"], k93_top 94, k93_b__law_best, false, [], "_law_best"⟩
def k93_d_is_row : De := ⟨"is_row", ["value", "size"], ["value", "size", "one"], k93_top 61, k93_b_is_row, false, [], "is_row"⟩
def k93_d_are_worths : De := ⟨"are_worths", ["value"], ["value", "size", "one"], k93_top 62, k93_b_are_worths, false, [], "are_worths"⟩
def k93_d_want_worths : De := ⟨"want_worths", ["worths"], ["worths"], k93_top 64, k93_b_want_worths, false, [], "want_worths"⟩
def k93_d_want_user_wholes : De := ⟨"want_user_wholes", ["worths", "user"], ["worths", "user"], k93_top 66, k93_b_want_user_wholes, false, [], "want_user"⟩
def k93_d_worth_of : De := ⟨"worth_of", ["row", "owners", "user"], ["row", "owners", "user", "worth", "owner"], k93_top 68, k93_b_worth_of, false, [], "worth_of"⟩
def k93_d_all_owners : De := ⟨"all_owners", ["worths"], ["worths"], k93_top 70, k93_b_all_owners, false, [], "all_owners"⟩
def k93_d_all_have : De := ⟨"all_have", ["worths", "owners"], ["worths", "owners", "user", "row"], k93_top 69, k93_b_all_have, false, [], "all_have"⟩
def k93_d_goodness : De := ⟨"goodness", ["worths", "owners"], ["worths", "owners", "many", "product", "one"], k93_top 71, k93_b_goodness, false, [], "goodness"⟩
def k93_d_best_of : De := ⟨"best_of", ["worths"], ["worths", "best", "found", "owners", "here"], k93_top 72, k93_b_best_of, false, [], "best_of"⟩
def k93_d_gaining_worths : De := ⟨"gaining_worths", ["worths", "user", "most"], ["worths", "user", "most", "size", "here", "told", "owners"], k93_top 78, k93_b_gaining_worths, false, [(0, ["most", "user", "worths"], [2, 1, 0])], "gaining_worths"⟩
def k93_d__law_telling_right : De := ⟨"_law_telling_right", ["pot", "many"], ["pot", "many", "size", "most", "worths", "user", "due", "now", "row", "told", "machine"], k93_top 97, k93_b__law_telling_right, false, [], "_law_telling_right"⟩
def k93_d_owners_are_right : De := ⟨"owners_are_right", ["worths", "value"], ["worths", "value", "one"], k93_top 63, k93_b_owners_are_right, false, [], "owners_are_right"⟩
def k93_d_want_owners : De := ⟨"want_owners", ["worths", "owners"], ["worths", "owners"], k93_top 65, k93_b_want_owners, false, [], "want_owners"⟩
def k93_d_better_owners : De := ⟨"better_owners", ["worths", "owners"], ["worths", "owners", "here", "other", "there", "one", "late"], k93_top 76, k93_b_better_owners, false, [(0, ["owners", "worths"], [1, 0])], "better_owners"⟩
def k93_d__law_better : De := ⟨"_law_better", ["worths", "owners"], ["worths", "owners", "old", "other", "new", "user", "much", "more"], k93_top 95, k93_b__law_better, false, [], "_law_better"⟩
def k93_d_machine_envy : De := ⟨"machine_envy", ["worths", "owners", "one", "other"], ["worths", "owners", "one", "other", "some", "worth", "owner"], k93_top 77, k93_b_machine_envy, false, [], "machine_envy"⟩
def k93_d_has : De := ⟨"has", ["worths", "owners", "user"], ["worths", "owners", "user"], k93_top 74, k93_b_has, false, [(0, ["user", "owners", "worths"], [2, 1, 0])], "has"⟩
def k93_d_best_owners : De := ⟨"best_owners", ["worths"], ["worths"], k93_top 75, k93_b_best_owners, false, [], "best_owners"⟩
def k93_d_are_owners : De := ⟨"are_owners", ["worths", "value"], ["worths", "value"], k93_top 73, k93_b_are_owners, false, [], "are_owners"⟩
def k93_d__law_machines_right : De := ⟨"_law_machines_right", ["pot"], ["pot", "many", "size", "worths", "owners", "best", "one", "other", "some", "row", "envied", "told", "user", "machine", "worth", "owner"], k93_top 96, k93_b__law_machines_right, false, [], "_law_machines_right"⟩
def k93_d_law : De := ⟨"law", ["script"], ["script", "pot"], k93_top 98, k93_b_law, false, [], "law"⟩
def k93_ds : List De := [k93_d_law, k93_d__law_machines_right, k93_d_are_owners, k93_d_best_owners, k93_d_has, k93_d_machine_envy, k93_d__law_better, k93_d_better_owners, k93_d_want_owners, k93_d_owners_are_right, k93_d__law_telling_right, k93_d_gaining_worths, k93_d_best_of, k93_d_goodness, k93_d_all_have, k93_d_all_owners, k93_d_worth_of, k93_d_want_user_wholes, k93_d_want_worths, k93_d_are_worths, k93_d_is_row, k93_d__law_best, k93_d__law_worth, k93_d__law_has, k93_d__law_gains_right, k93_d_gaining_needs, k93_d_tuples_to, k93_d_want_few, k93_d_want_most, k93_d__law_rows, k93_d__law_pieces_right, k93_d_piece_envy, k93_d__law_truly, k93_d_true_pieces, k93_d_true_of, k93_d_whole_makes, k93_d_want_needs, k93_d_want_user_shares, k93_d_is_count, k93_d__law_makes, k93_d__law_pieces, k93_d__law_height, k93_d_pieces, k93_d_pieces_of, k93_d_height, k93_d_over, k93_d_lowest, k93_d_common_part, k93_d_greatest_of, k93_d_next_one, k93_d_is_below, k93_d_can_go_on, k93_d_want_plain, k93_d_want_both, k93_d_totals_are_right, k93_d_want_users, k93_d_are_users, k93_d_is_user, k93_d_is_want, k93_d_are_needs, k93_d_is_within, k93_d_is_integer, k93_d_goods_of, k93_d_is_tuple_of, k93_d__law_totals, k93_d__law_users, k93_d__law_pick, k93_d__law_draw, k93_d__law_pot]
end Iv
end
section
set_option Elab.async false
set_option linter.all false
set_option maxRecDepth 100000
set_option maxHeartbeats 1000000
/-! Tables: a def by its own run. Euclid's loops. Rationals. -/
namespace Iv
open PySem PySem.Spec L2
theorem tab_run : ∀ {ds : List De} {j : Nat} {d : De}, ds.reverse[j]? = some d → ∃ Φ : Fn, (∀ i, i < j → Φ i = tab (dfs ds) i) ∧ ∀ a, tab (dfs ds) j a = run Φ d.df a
  | [], _, _, h => by cases h
  | c :: r, j, d, h => by
    rw [List.reverse_cons] at h
    have lr : (dfs r).length = r.length := List.length_map _
    have low : ∀ i, i < r.length → tab (dfs (c :: r)) i = tab (dfs r) i := fun i hi => funext fun a => tab_lt (f := c.df) (r := dfs r) (by rw [lr]; exact hi)
    by_cases hlt : j < r.length
    · rw [List.getElem?_append_left (by rw [List.length_reverse]; exact hlt)] at h
      obtain ⟨Φ, h1, h2⟩ := tab_run h
      refine ⟨Φ, fun i hi => ?_, fun a => ?_⟩
      · rw [low i (by omega)]; exact h1 i hi
      · rw [low j hlt]; exact h2 a
    · rw [List.getElem?_append_right (by rw [List.length_reverse]; omega), List.length_reverse] at h
      have e1 : j = r.length := by
        have := (List.getElem?_eq_some_iff.mp h).1
        simp at this
        omega
      subst e1
      simp at h
      subst h
      refine ⟨tab (dfs r), fun i hi => (low i hi).symm, fun a => ?_⟩
      have := tab_at (f := c.df) (r := dfs r) (a := a)
      rw [lr] at this
      exact this
/-! ### Euclid -/
theorem eu_half {a b : Nat} (hb : b ≠ 0) (hr : a % b ≠ 0) : (b % (a % b)) * 2 < b := by
  have h1 : a % b < b := Nat.mod_lt _ (by omega)
  have h2 := Nat.mod_lt b (show a % b > 0 by omega)
  have h3 := Nat.div_add_mod b (a % b)
  have h4 : 1 ≤ b / (a % b) := Nat.div_pos (by omega) (by omega)
  have h5 : (a % b) * 1 ≤ (a % b) * (b / (a % b)) := Nat.mul_le_mul_left _ h4
  omega
/-- so many steps, stopping at nought -/
def eu : Nat → Nat → Nat → Option Nat
  | 0, a, b => if b = 0 then some a else none
  | n + 1, a, b => if b = 0 then some a else eu n b (a % b)
theorem eu_zero : ∀ (n a : Nat), eu n a 0 = some a
  | 0, a => rfl
  | n + 1, a => rfl
theorem eu_ok : ∀ (k n a b : Nat), b < 2 ^ k → 2 * k ≤ n → eu n a b = some (Nat.gcd b a)
  | 0, n, a, b, h, _ => by
    have e : b = 0 := by simpa using h
    subst e
    rw [eu_zero, Nat.gcd_zero_left]
  | k + 1, n, a, b, h, hn => by
    obtain ⟨m, rfl⟩ : ∃ m, n = m + 2 := ⟨n - 2, by omega⟩
    by_cases hb : b = 0
    · subst hb
      rw [eu_zero, Nat.gcd_zero_left]
    · rw [Nat.gcd_rec]
      show (if b = 0 then some a else (if a % b = 0 then some b else eu m (a % b) (b % (a % b)))) = _
      rw [if_neg hb]
      by_cases hr : a % b = 0
      · rw [if_pos hr, hr, Nat.gcd_zero_left]
      · rw [if_neg hr, Nat.gcd_rec]
        refine eu_ok k m (a % b) (b % (a % b)) ?_ (by omega)
        have := eu_half hb hr
        rw [Nat.pow_succ] at h
        omega
/-! ### rationals -/
def rt (q : Rat) : D := .tuple [.int q.num, .int q.den]
theorem rt_div {a b : Int} (hb : 0 < b) : rt ((a : Rat) / (b : Rat)) = .tuple [.int (a / (Nat.gcd b.natAbs a.natAbs : Nat)), .int (b / (Nat.gcd b.natAbs a.natAbs : Nat))] := by
  have e : ((a : Rat) / (b : Rat)) = Rat.divInt a b := (Rat.divInt_eq_div a b).symm
  have hs : b.sign = 1 := Int.sign_eq_one_of_pos hb
  unfold rt
  rw [e, Rat.num_divInt, Rat.den_divInt, if_neg (by omega), hs, Int.one_mul]
  have h2 : ((b.natAbs / b.gcd a : Nat) : Int) = b / (Nat.gcd b.natAbs a.natAbs : Nat) := by
    show ((b.natAbs / Nat.gcd b.natAbs a.natAbs : Nat) : Int) = _
    rw [Int.natCast_ediv]
    congr 1
    omega
  rw [h2]
  rfl
end Iv
end
section
set_option Elab.async false
set_option linter.all false
set_option maxRecDepth 100000
set_option maxHeartbeats 1000000
/-! Loops and comprehensions of the evaluator, as maps and folds. -/
namespace Iv
open PySem PySem.Spec L2
theorem exs_nx {Φ : Fn} {s b : Sm} {e e1 : Ev} {o : Option Out} (h : exs Φ s e = some (.nx e1)) (h2 : exs Φ b e1 = o) : exs Φ (.consB s b) e = o := by
  simp only [exs, h, h2]
theorem for_nx {g : Tg} {f : Ev → Option Out} {d : D} {ds : List D} {e e1 e2 : Ev} {o : Option Out} (ht : tgOk e g = true) (hb : bindT g d e = some e1) (hf : f e1 = some (.nx e2)) (hr : forGo g f ds e2 = o) : forGo g f (d :: ds) e = o := by
  rw [forGo, if_pos ht]
  simp only [hb, hf, hr]
theorem for_bk {g : Tg} {f : Ev → Option Out} {d : D} {ds : List D} {e e1 e2 : Ev} (ht : tgOk e g = true) (hb : bindT g d e = some e1) (hf : f e1 = some (.bk e2)) : forGo g f (d :: ds) e = some (.nx e2) := by
  rw [forGo, if_pos ht]
  simp only [hb, hf]
theorem for_map {α S : Type} {g : Tg} {f : Ev → Option Out} (φ : α → D) (env : S → Ev) (step : S → α → S) (I : S → Prop) : ∀ (xs : List α) (s : S), (∀ s x, x ∈ xs → I s → tgOk (env s) g = true ∧ (∃ e1, bindT g (φ x) (env s) = some e1 ∧ f e1 = some (.nx (env (step s x)))) ∧ I (step s x)) → I s →
    forGo g f (xs.map φ) (env s) = some (.nx (env (xs.foldl step s))) ∧ I (xs.foldl step s)
  | [], s, _, h0 => ⟨rfl, h0⟩
  | x :: xs, s, h, h0 => by
    obtain ⟨h1, ⟨e1, h2, h3⟩, h4⟩ := h s x List.mem_cons_self h0
    obtain ⟨g1, g2⟩ := for_map φ env step I xs (step s x) (fun s y hy => h s y (List.mem_cons_of_mem _ hy)) h4
    exact ⟨for_nx h1 h2 h3 g1, g2⟩
/-- a loop whose state hangs on the turn -/
theorem for_at {α Z : Type} {g : Tg} {f : Ev → Option Out} (φ : α → D) (env : Nat → Z → Ev) (ok : Z → Prop) : ∀ (xs : List α) (k : Nat) (z : Z), ok z →
    (∀ i x z, xs[i]? = some x → ok z → tgOk (env (k + i) z) g = true ∧ ∃ e1 z', bindT g (φ x) (env (k + i) z) = some e1 ∧ f e1 = some (.nx (env (k + i + 1) z')) ∧ ok z') →
    ∃ z', ok z' ∧ forGo g f (xs.map φ) (env k z) = some (.nx (env (k + xs.length) z'))
  | [], k, z, hz, _ => ⟨z, hz, rfl⟩
  | x :: xs, k, z, hz, h => by
    obtain ⟨h1, e1, z', h2, h3, h4⟩ := h 0 x z rfl hz
    obtain ⟨z2, g1, g2⟩ := for_at φ env ok xs (k + 1) z' h4 fun i y w hy hw => by
      have := h (i + 1) y w hy hw
      rw [show k + (i + 1) = k + 1 + i by omega] at this
      exact this
    refine ⟨z2, g1, ?_⟩
    rw [List.length_cons, show k + (xs.length + 1) = k + 1 + xs.length by omega]
    exact for_nx h1 h2 h3 g2
theorem wipeE_length (e : Ev) : ∀ vs : List Nat, (wipeE e vs).length = e.length
  | [] => rfl
  | v :: vs => by
    show ((wipeE e vs).set v .un).length = _
    rw [List.length_set, wipeE_length e vs]
theorem back_wipe {e e3 : Ev} {own : List Nat} (h : wipeE e3 own = wipeE e own) : backE e e3 own = e := by
  have hl : e3.length = e.length := by
    have := congrArg List.length h
    rwa [wipeE_length, wipeE_length] at this
  refine List.ext_getElem? fun j => ?_
  by_cases hj : j ∈ own
  · cases q : (backE e e3 own)[j]? with
    | none =>
      have : (backE e e3 own).length ≤ j := List.getElem?_eq_none_iff.mp q
      rw [backE_len, hl] at this
      rw [List.getElem?_eq_none this]
    | some s =>
      have e1 := backE_in hj q
      have lj : j < e.length := by
        have := (List.getElem?_eq_some_iff.mp q).1
        rwa [backE_len, hl] at this
      rw [e1, List.getD_eq_getElem?_getD, List.getElem?_eq_getElem lj]
      rfl
  · rw [backE_out hj, ← wipeE_out (e := e3) hj, h, wipeE_out hj]
theorem wipe_set {e : Ev} {i : Nat} {s : Sl} : ∀ {own : List Nat}, i ∈ own → wipeE (e.set i s) own = wipeE e own := fun {own} h => by
  refine List.ext_getElem? fun j => ?_
  by_cases hj : j ∈ own
  · cases q : (wipeE (e.set i s) own)[j]? with
    | none =>
      have : (wipeE (e.set i s) own).length ≤ j := List.getElem?_eq_none_iff.mp q
      rw [wipeE_length, List.length_set] at this
      rw [List.getElem?_eq_none (by rw [wipeE_length]; exact this)]
    | some a =>
      have lj : j < (wipeE e own).length := by
        have := (List.getElem?_eq_some_iff.mp q).1
        rwa [wipeE_length, List.length_set, ← wipeE_length e own] at this
      have e1 := wipeE_in hj q
      have e2 := wipeE_in hj (List.getElem?_eq_getElem lj)
      rw [List.getElem?_eq_getElem lj, e1, e2]
  · rw [wipeE_out hj, wipeE_out hj, List.getElem?_set_ne (fun q => hj (by rw [← q]; exact h))]
theorem wipe_idem {e : Ev} {own : List Nat} : wipeE (wipeE e own) own = wipeE e own := by
  refine List.ext_getElem? fun j => ?_
  by_cases hj : j ∈ own
  · by_cases lj : j < e.length
    · have l1 : j < (wipeE (wipeE e own) own).length := by rw [wipeE_length, wipeE_length]; exact lj
      have l2 : j < (wipeE e own).length := by rw [wipeE_length]; exact lj
      rw [List.getElem?_eq_getElem l1, List.getElem?_eq_getElem l2, wipeE_in hj (List.getElem?_eq_getElem l1), wipeE_in hj (List.getElem?_eq_getElem l2)]
    · rw [List.getElem?_eq_none (by rw [wipeE_length, wipeE_length]; omega), List.getElem?_eq_none (by rw [wipeE_length]; omega)]
  · rw [wipeE_out hj]
/-- a comprehension that changes nothing -/
theorem lc_pure {α : Type} {own : List Nat} {g : Tg} {c : Ev → Option (Bool × Ev)} {f : Ev → Option (D × Ev)} (φ : α → D) (b : α → Bool) (v : α → D) {e : Ev} : ∀ (xs : List α) (e' : Ev) (acc : List D), wipeE e' own = wipeE e own →
    (∀ x ∈ xs, ∃ e1, bindT g (φ x) (wipeE e own) = some e1 ∧ c e1 = some (b x, e1) ∧ (b x = true → f e1 = some (v x, e1)) ∧ wipeE e1 own = wipeE e own) → acc.length + xs.length ≤ sizeLine →
    ∃ e3, lcGo own g c f (xs.map φ) e' acc = some (acc ++ (xs.filter b).map v, e3) ∧ wipeE e3 own = wipeE e own
  | [], e', acc, hw, _, _ => ⟨e', by simp [lcGo], hw⟩
  | x :: xs, e', acc, hw, h, hl => by
    obtain ⟨e1, h1, h2, h3, h4⟩ := h x List.mem_cons_self
    rw [List.length_cons] at hl
    cases hb : b x with
    | false =>
      obtain ⟨e3, g1, g2⟩ := lc_pure φ b v xs e1 acc h4 (fun y hy => h y (List.mem_cons_of_mem _ hy)) (by omega)
      refine ⟨e3, ?_, g2⟩
      rw [hb] at h2
      simp only [List.map_cons, lcGo, hw, h1, h2, g1, List.filter_cons, hb, Bool.false_eq_true, if_false]
    | true =>
      obtain ⟨e3, g1, g2⟩ := lc_pure φ b v xs e1 (acc ++ [v x]) h4 (fun y hy => h y (List.mem_cons_of_mem _ hy)) (by rw [List.length_append, List.length_singleton]; omega)
      refine ⟨e3, ?_, g2⟩
      rw [hb] at h2
      simp only [List.map_cons, lcGo, hw, h1, h2, h3 hb, if_pos (show acc.length < sizeLine by omega), g1, List.filter_cons, hb, if_true, List.append_assoc, List.singleton_append]
/-- the term of such a comprehension -/
theorem ev_lcP {α : Type} {Φ : Fn} {own : List (Str × Nat)} {g : Tg} {k : Ik} {a b c f : Ex} {x y : D} {e : Ev} (φ : α → D) (t : α → Bool) (v : α → D) (xs : List α) (h1 : ev Φ a e = some (x, e)) (h2 : ev Φ b e = some (y, e)) (h3 : walkD k x y = some (xs.map φ))
    (h : ∀ z ∈ xs, ∃ e1, bindT g (φ z) (wipeE e (own.map (·.2))) = some e1 ∧ lcT c (ev Φ c) e1 = some (t z, e1) ∧ (t z = true → ev Φ f e1 = some (v z, e1)) ∧ wipeE e1 (own.map (·.2)) = wipeE e (own.map (·.2))) (hl : xs.length ≤ sizeLine) :
    ev Φ (.lc own g k a b c f) e = some (.list ((xs.filter t).map v), e) := by
  obtain ⟨e3, g1, g2⟩ := lc_pure (c := lcT c (ev Φ c)) (f := ev Φ f) φ t v xs e [] rfl h (by simpa using hl)
  simp only [ev, h1, h2, h3, g1, back_wipe g2, List.nil_append]
end Iv
end
section
set_option Elab.async false
set_option linter.all false
set_option maxRecDepth 100000
set_option maxHeartbeats 1000000
/-! What repr may be asked of. -/
namespace Iv
open PySem PySem.Spec L2
structure RP (k m : Nat) (d : D) : Prop where
  sh : d.showable = true
  nd : d.hasDict = false
  dp : d.depth ≤ k
  ln : d.shown.length ≤ m
theorem RP.up {k k' m m' : Nat} {d : D} (h : RP k m d) (h1 : k ≤ k') (h2 : m ≤ m') : RP k' m' d := ⟨h.sh, h.nd, Nat.le_trans h.dp h1, Nat.le_trans h.ln h2⟩
theorem RP.int {i : Int} (h : i.natAbs.log2 < 1920) : RP 0 1921 (.int i) := ⟨decide_eq_true h, rfl, Nat.le_of_eq (by simp [PyData.depth]), by
  show (PySem.Str.ofString (toString i)).length ≤ 1921
  rw [PySem.ofString_length]
  exact PySem.int_text_length_le (k := 1920) (by decide) h⟩
theorem RP.none : RP 0 4 .none := ⟨rfl, rfl, Nat.le_of_eq (by simp [PyData.depth]), by decide⟩
theorem RP.bool (b : Bool) : RP 0 5 (.bool b) := by cases b <;> exact ⟨rfl, rfl, Nat.le_of_eq (by simp [PyData.depth]), by decide⟩
theorem tf_len : ∀ (ts : List Str) (k : Nat) (acc : Str), (PySem.textFrom k acc ts).length ≤ acc.length + (ts.map fun t => t.length + 2).sum
  | [], k, acc => by simp [PySem.textFrom]
  | t :: r, k, acc => by
    have h := tf_len r (k + 1) (acc ++ (if k > 0 then ", " else "" : String) ++ t)
    have e : (acc ++ (if k > 0 then ", " else "" : String) ++ t).length ≤ acc.length + 2 + t.length := by
      rw [PySem.strLen_append, PySem.strLen_append]
      have : ((if k > 0 then ", " else "" : String) : Str).length ≤ 2 := by split <;> decide
      omega
    rw [PySem.textFrom, List.map_cons, List.sum_cons]
    omega
theorem sum_le {m : Nat} : ∀ ts : List Str, (∀ t ∈ ts, t.length ≤ m) → (ts.map fun t => t.length + 2).sum ≤ ts.length * (m + 2)
  | [], _ => by simp
  | t :: r, h => by
    have h1 := sum_le r fun x hx => h x (List.mem_cons_of_mem _ hx)
    have h2 := h t List.mem_cons_self
    rw [List.map_cons, List.sum_cons, List.length_cons, Nat.succ_mul]
    omega
theorem shownAll_map : ∀ ds : List D, PyData.shownAll ds = ds.map PyData.shown
  | [] => by simp [PyData.shownAll]
  | d :: ds => by rw [PyData.shownAll, shownAll_map ds]; rfl
theorem showAll {k m : Nat} : ∀ {ds : List D}, (∀ d ∈ ds, RP k m d) → PyData.showableAll ds = true ∧ PyData.hasDictAll ds = false ∧ PyData.depthAll ds ≤ k
  | [], _ => ⟨by simp [PyData.showableAll], by simp [PyData.hasDictAll], by simp [PyData.depthAll]⟩
  | d :: ds, h => by
    obtain ⟨h1, h2, h3⟩ := showAll fun x hx => h x (List.mem_cons_of_mem _ hx)
    have g := h d List.mem_cons_self
    refine ⟨by rw [PyData.showableAll, g.sh, h1]; rfl, by rw [PyData.hasDictAll, g.nd, h2]; rfl, ?_⟩
    rw [PyData.depthAll]
    exact Nat.max_le.mpr ⟨g.dp, h3⟩
theorem shown_le {k m : Nat} {ds : List D} (h : ∀ d ∈ ds, RP k m d) : ((PyData.shownAll ds).map fun t => t.length + 2).sum ≤ ds.length * (m + 2) := by
  rw [shownAll_map]
  have := sum_le (m := m) (ds.map PyData.shown) fun t ht => by
    obtain ⟨d, hd, rfl⟩ := List.mem_map.mp ht
    exact (h d hd).ln
  rwa [List.length_map] at this
theorem RP.list {k m : Nat} {ds : List D} (h : ∀ d ∈ ds, RP k m d) : RP (k + 1) (ds.length * (m + 2) + 3) (.list ds) := by
  obtain ⟨h1, h2, h3⟩ := showAll h
  refine ⟨by rw [PyData.showable]; exact h1, by rw [PyData.hasDict]; exact h2, by rw [PyData.depth]; omega, ?_⟩
  show (PySem.textFrom 0 "[" (PyData.shownAll ds) ++ ("]" : String)).length ≤ _
  rw [PySem.strLen_append]
  have g1 := tf_len (PyData.shownAll ds) 0 "["
  have g2 := shown_le h
  have e1 : (("[" : String) : Str).length = 1 := rfl
  have e2 : (("]" : String) : Str).length = 1 := rfl
  rw [e1] at g1
  rw [e2]
  omega
theorem RP.tup {k m : Nat} {ds : List D} (h : ∀ d ∈ ds, RP k m d) : RP (k + 1) (ds.length * (m + 2) + 3) (.tuple ds) := by
  obtain ⟨h1, h2, h3⟩ := showAll h
  refine ⟨by rw [PyData.showable]; exact h1, by rw [PyData.hasDict]; exact h2, by rw [PyData.depth]; omega, ?_⟩
  show ((("(" : String) : Str) ++ PySem.Str.join ", " (PyData.shownAll ds) ++ (if (PyData.shownAll ds).length == 1 then ",)" else ")" : String)).length ≤ _
  rw [PySem.strLen_append, PySem.strLen_append]
  have g2 := shown_le h
  have e1 : (("(" : String) : Str).length = 1 := rfl
  have e3 : (((if (PyData.shownAll ds).length == 1 then ",)" else ")" : String) : Str)).length ≤ 2 := by split <;> decide
  rw [e1]
  by_cases hn : PyData.shownAll ds = []
  · have e4 : (PySem.Str.join ", " (PyData.shownAll ds)).length = 0 := by rw [hn]; rfl
    rw [e4]
    omega
  · have h5 := PySem.join_length_add (PyData.shownAll ds) hn
    have h6 : PySem.piled (PyData.shownAll ds) = ((PyData.shownAll ds).map fun t => t.length + 2).sum := rfl
    rw [h6] at h5
    omega
theorem RP.repr {k m : Nat} {d : D} (h : RP k m d) (hk : k ≤ 60) (hm : m ≤ sizeLine) : b1D .repr d = some (.str d.shown) := by
  show (if d.showable && !d.hasDict && decide (d.depth ≤ 60) && decide (d.shown.length ≤ sizeLine) then some (PyData.str d.shown) else Option.none) = _
  rw [h.sh, h.nd, decide_eq_true (Nat.le_trans h.dp hk), decide_eq_true (Nat.le_trans h.ln hm)]
  rfl
theorem ne_str (s : Str) : cmpD .ne (.str s) (.str s) = some false := by
  show (eqD (.str s) (.str s)).map (!·) = _
  have : eqD (.str s) (.str s) = some (decide (s = s)) := rfl
  rw [this, decide_eq_true rfl]
  rfl
theorem eq_str (s : Str) : cmpD .eq (.str s) (.str s) = some true := by
  show eqD (.str s) (.str s) = _
  have : eqD (.str s) (.str s) = some (decide (s = s)) := rfl
  rw [this, decide_eq_true rfl]
end Iv
end
section
set_option linter.all false
/-! Weighted filling: part, envy, telling, from what a fair share is. -/
namespace Iv
def S : Nat → (Nat → Rat) → Rat
  | 0, _ => 0
  | n + 1, f => S n f + f n
theorem S_le {f g : Nat → Rat} : ∀ {n : Nat}, (∀ i, i < n → f i ≤ g i) → S n f ≤ S n g
  | 0, _ => by simp [S]
  | n + 1, h => by
    have h1 := S_le (n := n) fun i hi => h i (by omega)
    have h2 := h n (by omega)
    simp only [S]
    grind
theorem S_congr {f g : Nat → Rat} : ∀ {n : Nat}, (∀ i, i < n → f i = g i) → S n f = S n g
  | 0, _ => rfl
  | n + 1, h => by
    simp only [S, S_congr (n := n) fun i hi => h i (by omega), h n (by omega)]
theorem S_mul {f : Nat → Rat} (c : Rat) : ∀ n : Nat, S n (fun i => c * f i) = c * S n f
  | 0 => by simp [S]
  | n + 1 => by
    simp only [S, S_mul c n]
    grind
theorem S_add {f g : Nat → Rat} : ∀ n : Nat, S n (fun i => f i + g i) = S n f + S n g
  | 0 => by simp only [S]; grind
  | n + 1 => by
    simp only [S, S_add n]
    grind
theorem S_nonneg {f : Nat → Rat} : ∀ {n : Nat}, (∀ i, i < n → 0 ≤ f i) → 0 ≤ S n f
  | 0, _ => by simp [S]
  | n + 1, h => by
    have h1 := S_nonneg (n := n) fun i hi => h i (by omega)
    have h2 := h n (by omega)
    simp only [S]
    grind
theorem S_ge {f : Nat → Rat} {i : Nat} : ∀ {n : Nat}, i < n → (∀ i, i < n → 0 ≤ f i) → f i ≤ S n f
  | 0, h, _ => by omega
  | n + 1, h, h0 => by
    have h2 := h0 n (by omega)
    simp only [S]
    by_cases e : i = n
    · subst e
      have h1 := S_nonneg (n := i) (f := f) fun j hj => h0 j (by omega)
      grind
    · have h1 := S_ge (n := n) (f := f) (i := i) (by omega) fun j hj => h0 j (by omega)
      grind
theorem S_lt {f g : Nat → Rat} : ∀ {n : Nat}, S n f < S n g → ∃ i, i < n ∧ f i < g i
  | 0, h => by simp [S] at h
  | n + 1, h => by
    simp only [S] at h
    by_cases hn : f n < g n
    · exact ⟨n, by omega, hn⟩
    · have : S n f < S n g := by grind
      obtain ⟨i, h1, h2⟩ := S_lt this
      exact ⟨i, by omega, h2⟩
theorem exists_min (p : Nat → Prop) (f : Nat → Rat) : ∀ {n : Nat}, (∃ i, i < n ∧ p i) → ∃ i, i < n ∧ p i ∧ ∀ j, j < n → p j → f i ≤ f j
  | 0, h => by obtain ⟨i, h, _⟩ := h; omega
  | n + 1, h => by
    by_cases hn : ∃ i, i < n ∧ p i
    · obtain ⟨i, h1, h2, h3⟩ := exists_min p f hn
      by_cases hp : p n ∧ f n < f i
      · refine ⟨n, by omega, hp.1, fun j hj pj => ?_⟩
        by_cases e : j = n
        · subst e; grind
        · have := h3 j (by omega) pj
          grind
      · refine ⟨i, by omega, h2, fun j hj pj => ?_⟩
        by_cases e : j = n
        · subst e
          grind
        · exact h3 j (by omega) pj
    · obtain ⟨i, h1, h2⟩ := h
      have e : i = n := by
        by_cases hi : i < n
        · exact absurd ⟨i, hi, h2⟩ hn
        · omega
      subst e
      refine ⟨i, by omega, h2, fun j hj pj => ?_⟩
      by_cases e : j = i
      · subst e; grind
      · exact absurd ⟨j, by omega, pj⟩ hn
/-- a sharing problem: n users, G goods -/
structure Pr where
  n : Nat
  G : Nat
  w : Nat → Rat
  nd : Nat → Nat → Rat
  T : Nat → Rat
  want : Nat → Option Rat
  h : Nat → Rat
structure Pr.Ok (P : Pr) : Prop where
  w : ∀ i, i < P.n → 0 < P.w i
  nd : ∀ i g, i < P.n → g < P.G → 0 ≤ P.nd i g
  T : ∀ g, g < P.G → 0 < P.T g
  le : ∀ i g, i < P.n → g < P.G → P.nd i g ≤ P.h i * P.T g
  top : ∀ i, i < P.n → ∃ g, g < P.G ∧ P.nd i g = P.h i * P.T g
  h : ∀ i, i < P.n → 0 < P.h i
/-- a share with its levels: in units of w/h -/
structure Fair (P : Pr) (a l : Nat → Rat) : Prop where
  lev : ∀ i, i < P.n → a i * P.h i = l i * P.w i
  nn : ∀ i, i < P.n → 0 ≤ l i
  fit : ∀ g, g < P.G → S P.n (fun i => a i * P.nd i g) ≤ P.T g
  want : ∀ i v, i < P.n → P.want i = some v → a i ≤ v
  stop : ∀ i, i < P.n → P.want i = some (a i) ∨ ∃ g, g < P.G ∧ 0 < P.nd i g ∧ S P.n (fun i => a i * P.nd i g) = P.T g ∧ ∀ j, j < P.n → 0 < P.nd j g → l j ≤ l i
section
variable {P : Pr} {a l : Nat → Rat}
theorem mul_le {a b c : Rat} (h : a ≤ b) (hc : 0 ≤ c) : c * a ≤ c * b := Rat.mul_le_mul_of_nonneg_left h hc
theorem nn2 {a b : Rat} (ha : 0 ≤ a) (hb : 0 ≤ b) : 0 ≤ a * b := Rat.mul_nonneg ha hb
theorem nn3 {a b c : Rat} (ha : 0 ≤ a) (hb : 0 ≤ b) (hc : 0 ≤ c) : 0 ≤ a * b * c := Rat.mul_nonneg (Rat.mul_nonneg ha hb) hc
theorem le_of_mul {a b c : Rat} (h : c * a ≤ c * b) (hc : 0 < c) : a ≤ b := by
  by_cases q : a ≤ b
  · exact q
  · have : c * b < c * a := Rat.mul_lt_mul_of_pos_left (by grind) hc
    grind
theorem Fair.an (F : Fair P a l) (ok : P.Ok) {i : Nat} (hi : i < P.n) : 0 ≤ a i := by
  have h1 := F.lev i hi
  have h2 := mul_le (F.nn i hi) (show 0 ≤ P.w i by have := ok.w i hi; grind)
  refine le_of_mul (c := P.h i) ?_ (ok.h i hi)
  grind
/-- what a user takes of a good is at most its level times its weight times the good -/
theorem Fair.takes (F : Fair P a l) (ok : P.Ok) {i g : Nat} (hi : i < P.n) (hg : g < P.G) : a i * P.nd i g ≤ l i * P.w i * P.T g := by
  have h1 := mul_le (ok.le i g hi hg) (F.an ok hi)
  have h2 : a i * (P.h i * P.T g) = l i * P.w i * P.T g := by rw [← F.lev i hi, Rat.mul_assoc]
  rw [← h2]
  exact h1
theorem part_ok (ok : P.Ok) (F : Fair P a l) {i : Nat} (hi : i < P.n) {x : Rat} (hw : ∀ v, P.want i = some v → x ≤ v) (hx : ∀ g, g < P.G → x * S P.n P.w * P.nd i g ≤ P.w i * P.T g) : x ≤ a i := by
  rcases F.stop i hi with h | ⟨g, hg, h0, hf, hl⟩
  · exact hw _ h
  · have hW : 0 < S P.n P.w := by
      have h1 := S_ge (f := P.w) hi fun j hj => by have := ok.w j hj; grind
      have := ok.w i hi
      grind
    -- the good is full: so l i ≥ 1 / W
    have h1 : P.T g ≤ l i * P.T g * S P.n P.w := by
      have e1 : S P.n (fun j => a j * P.nd j g) ≤ S P.n (fun j => l i * P.T g * P.w j) := ?_
      · rw [S_mul, hf] at e1
        exact e1
      refine S_le fun j hj => ?_
      by_cases hj0 : 0 < P.nd j g
      · have k1 := F.takes ok hj hg
        have k2 := mul_le (hl j hj hj0) (show 0 ≤ P.w j * P.T g by
          have := ok.w j hj
          have := ok.T g hg
          have := mul_le (show (0 : Rat) ≤ P.T g by grind) (show (0 : Rat) ≤ P.w j by grind)
          grind)
        grind
      · have k1 : P.nd j g = 0 := by
          have := ok.nd j g hj hg
          grind
        have k2 := nn3 (F.nn i hi) (Rat.le_of_lt (ok.T g hg)) (Rat.le_of_lt (ok.w j hj))
        rw [k1]
        grind
    have h2 : 1 ≤ l i * S P.n P.w := by
      refine le_of_mul (c := P.T g) ?_ (ok.T g hg)
      grind
    obtain ⟨q, hq, e⟩ := ok.top i hi
    have h3 := hx q hq
    rw [e] at h3
    have hT := ok.T q hq
    -- x * W * h ≤ w
    have h4 : x * S P.n P.w * P.h i ≤ P.w i := by
      refine le_of_mul (c := P.T q) ?_ hT
      grind
    have h5 := mul_le h2 (show 0 ≤ P.w i by have := ok.w i hi; grind)
    have h6 := F.lev i hi
    have h8 : a i * (S P.n P.w * P.h i) = P.w i * (l i * S P.n P.w) := by
      have : a i * (S P.n P.w * P.h i) = (a i * P.h i) * S P.n P.w := by grind
      rw [this, h6]
      grind
    have h7 : x * (S P.n P.w * P.h i) ≤ a i * (S P.n P.w * P.h i) := by
      rw [h8]
      grind
    have hp : 0 < S P.n P.w * P.h i := Rat.mul_pos hW (ok.h i hi)
    refine le_of_mul (c := S P.n P.w * P.h i) ?_ hp
    grind
/-- what one could make of another's goods, by the weights, is at most one's own -/
theorem envy_ok (ok : P.Ok) (F : Fair P a l) {i f : Nat} (hi : i < P.n) (hf : f < P.n) {x : Rat} (hw : ∀ v, P.want i = some v → x ≤ v) (hx : ∀ g, g < P.G → 0 < P.nd i g → x * P.nd i g * P.w f ≤ a f * P.nd f g * P.w i) : x ≤ a i := by
  rcases F.stop i hi with h | ⟨g, hg, h0, _, hl⟩
  · exact hw _ h
  · have wf := ok.w f hf
    have wi := ok.w i hi
    have ai := F.an ok hi
    by_cases hfg : 0 < P.nd f g
    · have lf := hl f hf hfg
      obtain ⟨q, hq, e⟩ := ok.top i hi
      have hT := ok.T q hq
      have hh := ok.h i hi
      have k1 := hx q hq (by rw [e]; exact Rat.mul_pos hh hT)
      have k2 := F.takes ok hf hq
      have k3 : l f * (P.w f * P.T q * P.w i) ≤ l i * (P.w f * P.T q * P.w i) := by
        have := mul_le lf (nn3 (Rat.le_of_lt wf) (Rat.le_of_lt hT) (Rat.le_of_lt wi))
        grind
      have k4 : a f * P.nd f q * P.w i ≤ l f * P.w f * P.T q * P.w i := by
        have := mul_le k2 (Rat.le_of_lt wi)
        grind
      have k5 := F.lev i hi
      have k6 : l i * (P.w f * P.T q * P.w i) = a i * P.h i * (P.w f * P.T q) := by
        rw [k5]; grind
      have hp : 0 < P.h i * P.T q * P.w f := Rat.mul_pos (Rat.mul_pos hh hT) wf
      refine le_of_mul (c := P.h i * P.T q * P.w f) ?_ hp
      rw [e] at k1
      grind
    · have e0 : P.nd f g = 0 := by
        have := ok.nd f g hf hg
        grind
      have k1 := hx g hg h0
      rw [e0] at k1
      have hp : 0 < P.nd i g * P.w f := Rat.mul_pos h0 wf
      have k2 := mul_le ai (Rat.le_of_lt hp)
      refine le_of_mul (c := P.nd i g * P.w f) ?_ hp
      grind
/-- telling otherwise gains nothing -/
theorem truly_ok {P' : Pr} {a' l' : Nat → Rat} (ok : P.Ok) (ok' : P'.Ok) (F : Fair P a l) (F' : Fair P' a' l') (hn : P'.n = P.n) (hG : P'.G = P.G) (hT : ∀ g, g < P.G → P'.T g = P.T g) {i : Nat} (hi : i < P.n) (hwi : P'.w i = P.w i)
    (same : ∀ j, j < P.n → j ≠ i → P'.w j = P.w j ∧ (∀ g, g < P.G → P'.nd j g = P.nd j g) ∧ P'.want j = P.want j ∧ P'.h j = P.h j)
    {x : Rat} (hw : ∀ v, P.want i = some v → x ≤ v) (hx : ∀ g, g < P.G → x * P.nd i g ≤ a' i * P'.nd i g) : x ≤ a i := by
  by_cases hle : x ≤ a i
  · exact hle
  have hlt : a i < x := by grind
  rcases F.stop i hi with h | ⟨g0, hg0, h0, hf0, hl0⟩
  · exact absurd (hw _ h) (by grind)
  -- a smaller amount has a smaller level
  have cmpl : ∀ {j : Nat} {b c m k : Rat}, j < P.n → b * P.h j = m * P.w j → c * P.h j = k * P.w j → b < c → m < k := fun {j b c m k} hj e1 e2 h => by
    by_cases q : m < k
    · exact q
    · have : k ≤ m := by grind
      have k1 := mul_le this (Rat.le_of_lt (ok.w j hj))
      have k2 : P.h j * b < P.h j * c := Rat.mul_lt_mul_of_pos_left h (ok.h j hj)
      grind
  have cmpa : ∀ {j : Nat} {b c m k : Rat}, j < P.n → b * P.h j = m * P.w j → c * P.h j = k * P.w j → m ≤ k → b ≤ c := fun {j b c m k} hj e1 e2 h => by
    by_cases q : b ≤ c
    · exact q
    · exact absurd (cmpl hj e2 e1 (by grind)) (by grind)
  have lev' : ∀ j, j < P.n → j ≠ i → a' j * P.h j = l' j * P.w j := fun j hj ne => by
    obtain ⟨s1, _, _, s4⟩ := same j hj ne
    have := F'.lev j (by omega)
    rw [s1, s4] at this
    exact this
  -- others lose something of a good that is full for i
  have less : ∀ {g : Nat}, g < P.G → 0 < P.nd i g → S P.n (fun j => a j * P.nd j g) = P.T g → ∃ j, j < P.n ∧ j ≠ i ∧ 0 < P.nd j g ∧ a' j < a j := fun {g} hg hp hfull => by
    by_cases q : ∃ j, j < P.n ∧ j ≠ i ∧ 0 < P.nd j g ∧ a' j < a j
    · exact q
    · have fit := F'.fit g (by omega)
      rw [hn, hT g hg, ← hfull] at fit
      have hd : ∀ j, j < P.n → a j * P.nd j g ≤ a' j * P'.nd j g := fun j hj => by
        by_cases e : j = i
        · subst e
          have k1 := hx g hg
          have k2 := mul_le (Rat.le_of_lt hlt) (Rat.le_of_lt hp)
          grind
        · rw [(same j hj e).2.1 g hg]
          by_cases hp2 : 0 < P.nd j g
          · have k0 : a j ≤ a' j := by
              by_cases w : a' j < a j
              · exact absurd ⟨j, hj, e, hp2, w⟩ q
              · grind
            have := mul_le k0 (Rat.le_of_lt hp2)
            grind
          · have e0 : P.nd j g = 0 := by
              have := ok.nd j g hj hg
              grind
            rw [e0]
            grind
      have hs : a i * P.nd i g < a' i * P'.nd i g := by
        have k1 := hx g hg
        have k2 : P.nd i g * a i < P.nd i g * x := Rat.mul_lt_mul_of_pos_left hlt hp
        grind
      have e1 := S_le (n := P.n) hd
      -- strictly
      have e2 : S P.n (fun j => a' j * P'.nd j g - a j * P.nd j g) ≤ 0 := by
        have k1 := S_add (f := fun j => a' j * P'.nd j g - a j * P.nd j g) (g := fun j => a j * P.nd j g) P.n
        have k2 : S P.n (fun j => a' j * P'.nd j g - a j * P.nd j g + a j * P.nd j g) = S P.n (fun j => a' j * P'.nd j g) := S_congr fun j _ => by grind
        rw [k2] at k1
        grind
      have e3 := S_ge (f := fun j => a' j * P'.nd j g - a j * P.nd j g) hi fun j hj => by
        have := hd j hj
        grind
      exact absurd e3 (by grind)
  obtain ⟨j0, hj0, nj0, pj0, lj0⟩ := less hg0 h0 hf0
  obtain ⟨j, hj, ⟨nj, lj⟩, hmin⟩ := exists_min (fun j => j ≠ i ∧ a' j < a j) l' ⟨j0, hj0, nj0, lj0⟩
  -- its level is under that of i
  have under : l' j < l i := by
    have k1 := hmin j0 hj0 ⟨nj0, lj0⟩
    have k2 := cmpl hj0 (lev' j0 hj0 nj0) (F.lev j0 hj0) lj0
    have k3 := hl0 j0 hj0 pj0
    grind
  obtain ⟨s1, s2, s3, s4⟩ := same j hj nj
  rcases F'.stop j (by omega) with h | ⟨g1, hg1, p1, f1, m1⟩
  · rw [s3] at h
    exact absurd (F.want j _ hj h) (by grind)
  rw [hG] at hg1
  rw [s2 g1 hg1] at p1
  rw [hn, hT g1 hg1] at f1
  -- of that good somebody takes more
  have more : ∃ k, k < P.n ∧ a k * P.nd k g1 < a' k * P'.nd k g1 := by
    have fit := F.fit g1 hg1
    by_cases q : ∃ k, k < P.n ∧ a k * P.nd k g1 < a' k * P'.nd k g1
    · exact q
    · have hd : ∀ k, k < P.n → a' k * P'.nd k g1 ≤ a k * P.nd k g1 := fun k hk => by
        by_cases w : a k * P.nd k g1 < a' k * P'.nd k g1
        · exact absurd ⟨k, hk, w⟩ q
        · grind
      have e2 : S P.n (fun k => a k * P.nd k g1 - a' k * P'.nd k g1) ≤ 0 := by
        have k1 := S_add (f := fun k => a k * P.nd k g1 - a' k * P'.nd k g1) (g := fun k => a' k * P'.nd k g1) P.n
        have k2 : S P.n (fun k => a k * P.nd k g1 - a' k * P'.nd k g1 + a' k * P'.nd k g1) = S P.n (fun k => a k * P.nd k g1) := S_congr fun k _ => by grind
        rw [k2] at k1
        grind
      have e3 := S_ge (f := fun k => a k * P.nd k g1 - a' k * P'.nd k g1) hj fun k hk => by
        have := hd k hk
        grind
      have e4 : P.nd j g1 * a' j < P.nd j g1 * a j := Rat.mul_lt_mul_of_pos_left lj p1
      rw [s2 g1 hg1] at e3
      exact absurd e3 (by grind)
  obtain ⟨k, hk, km⟩ := more
  have ak := F.an ok hk
  have ak' := F'.an ok' (show k < P'.n by omega)
  have nk := ok.nd k g1 hk hg1
  have nk' := ok'.nd k g1 (by omega) (by omega)
  have pk' : 0 < P'.nd k g1 := by
    by_cases q : 0 < P'.nd k g1
    · exact q
    · have e0 : P'.nd k g1 = 0 := by grind
      rw [e0] at km
      have := nn2 ak nk
      grind
  have lk' : l' k ≤ l' j := m1 k (by omega) pk'
  by_cases e : k = i
  · subst e
    -- i itself: at its greatest need
    obtain ⟨q, hq, eq⟩ := ok.top k hk
    have h1 := hx q hq
    have h2 := F'.takes ok' (show k < P'.n by omega) (show q < P'.G by omega)
    rw [hT q hq, hwi] at h2
    rw [eq] at h1
    have hTq := ok.T q hq
    have h3 : x * P.h k ≤ l' k * P.w k := by
      refine le_of_mul (c := P.T q) ?_ hTq
      grind
    have h4 := mul_le lk' (Rat.le_of_lt (ok.w k hk))
    have h5 := F.lev k hk
    have h6 : P.h k * a k < P.h k * x := Rat.mul_lt_mul_of_pos_left hlt (ok.h k hk)
    have h7 : P.w k * l' j < P.w k * l k := Rat.mul_lt_mul_of_pos_left under (ok.w k hk)
    exact absurd h6 (by grind)
  · obtain ⟨t1, t2, t3, t4⟩ := same k hk e
    rw [t2 g1 hg1] at km pk'
    have hak : a k < a' k := by
      by_cases q : a k < a' k
      · exact q
      · have := mul_le (show a' k ≤ a k by grind) (Rat.le_of_lt pk')
        grind
    have lk : l k < l' k := cmpl hk (F.lev k hk) (lev' k hk e) hak
    rcases F.stop k hk with h | ⟨g2, hg2, p2, f2, m2⟩
    · have := F'.want k (a k) (by omega) (by rw [t3]; exact h)
      exact absurd this (by grind)
    · -- in the true run that good is full: another loses, at a lower level yet
      have lose : ∃ m, m < P.n ∧ m ≠ i ∧ 0 < P.nd m g2 ∧ a' m < a m := by
        have fit := F'.fit g2 (by omega)
        rw [hn, hT g2 hg2, ← f2] at fit
        by_cases q : ∃ m, m < P.n ∧ m ≠ i ∧ 0 < P.nd m g2 ∧ a' m < a m
        · exact q
        · have hd : ∀ m, m < P.n → a m * P.nd m g2 ≤ a' m * P'.nd m g2 := fun m hm => by
            by_cases em : m = i
            · subst em
              have k1 := hx g2 hg2
              have k2 := mul_le (Rat.le_of_lt hlt) (ok.nd m g2 hm hg2)
              grind
            · rw [(same m hm em).2.1 g2 hg2]
              by_cases hp2 : 0 < P.nd m g2
              · have k0 : a m ≤ a' m := by
                  by_cases w : a' m < a m
                  · exact absurd ⟨m, hm, em, hp2, w⟩ q
                  · grind
                have := mul_le k0 (Rat.le_of_lt hp2)
                grind
              · have e0 : P.nd m g2 = 0 := by
                  have := ok.nd m g2 hm hg2
                  grind
                rw [e0]
                grind
          have e2 : S P.n (fun m => a' m * P'.nd m g2 - a m * P.nd m g2) ≤ 0 := by
            have k1 := S_add (f := fun m => a' m * P'.nd m g2 - a m * P.nd m g2) (g := fun m => a m * P.nd m g2) P.n
            have k2 : S P.n (fun m => a' m * P'.nd m g2 - a m * P.nd m g2 + a m * P.nd m g2) = S P.n (fun m => a' m * P'.nd m g2) := S_congr fun m _ => by grind
            rw [k2] at k1
            grind
          have e3 := S_ge (f := fun m => a' m * P'.nd m g2 - a m * P.nd m g2) hk fun m hm => by
            have := hd m hm
            grind
          have e4 : P.nd k g2 * a k < P.nd k g2 * a' k := Rat.mul_lt_mul_of_pos_left hak p2
          rw [t2 g2 hg2] at e3
          exact absurd e3 (by grind)
      obtain ⟨m, hm, nm, pm, lm⟩ := lose
      have k1 := hmin m hm ⟨nm, lm⟩
      have k2 := cmpl hm (lev' m hm nm) (F.lev m hm) lm
      have k3 := m2 m hm pm
      grind
end
end Iv
end
section
set_option linter.all false
/-! The filling, and that it gives a fair share. -/
namespace Iv
def lo (m x : Rat) : Rat := if x < m then x else m
theorem lo_le (xs : List Rat) : ∀ x : Rat, xs.foldl lo x ≤ x ∧ (∀ y ∈ xs, xs.foldl lo x ≤ y) ∧ (xs.foldl lo x = x ∨ xs.foldl lo x ∈ xs) := by
  induction xs with
  | nil => intro x; exact ⟨Rat.le_refl, fun y h => by simp at h, .inl rfl⟩
  | cons a xs ih =>
    intro x
    obtain ⟨h1, h2, h3⟩ := ih (lo x a)
    have k1 : lo x a ≤ x ∧ lo x a ≤ a ∧ (lo x a = x ∨ lo x a = a) := by
      unfold lo
      split
      · grind
      · grind
    rw [List.foldl_cons]
    refine ⟨by grind, fun y hy => ?_, ?_⟩
    · rcases List.mem_cons.mp hy with rfl | h
      · grind
      · exact h2 y h
    · rcases h3 with h3 | h3
      · rcases k1.2.2 with e | e
        · exact .inl (by rw [h3, e])
        · exact .inr (by rw [h3, e]; exact List.mem_cons_self)
      · exact .inr (List.mem_cons_of_mem _ h3)
structure Fl where
  n : Nat
  G : Nat
  nd : Nat → Nat → Nat
  T : Nat → Nat
  want : Nat → Option Nat
  s : Nat → Rat
namespace Fl
variable (P : Fl)
def rate (R : List Nat) (g : Nat) : Rat := S P.n fun i => if i ∈ R then P.s i * (P.nd i g : Rat) else 0
def fixd (R : List Nat) (am : Nat → Rat) (g : Nat) : Rat := S P.n fun i => if i ∈ R then 0 else am i * (P.nd i g : Rat)
def gst (R : List Nat) (am : Nat → Rat) (g : Nat) : Option Rat := if P.rate R g = 0 then none else some (((P.T g : Rat) - P.fixd R am g) / P.rate R g)
def wst (i : Nat) : Option Rat := (P.want i).map fun v => (v : Rat) / P.s i
def cands (R : List Nat) (am : Nat → Rat) : List Rat := (List.range P.G).filterMap (P.gst R am) ++ R.filterMap P.wst
def mark (R : List Nat) (am : Nat → Rat) : Rat := match P.cands R am with
  | [] => 0
  | x :: xs => xs.foldl lo x
def full (R : List Nat) (am : Nat → Rat) : List Nat := (List.range P.G).filter fun g => decide (P.gst R am g = some (P.mark R am))
def out (R : List Nat) (am : Nat → Rat) (i : Nat) : Bool := decide (P.wst i = some (P.mark R am)) || (P.full R am).any fun g => decide (0 < P.nd i g)
def stp (R : List Nat) (am : Nat → Rat) : List Nat := R.filter (P.out R am)
def am2 (R : List Nat) (am : Nat → Rat) : Nat → Rat := fun i => if i ∈ P.stp R am then P.mark R am * P.s i else am i
def R2 (R : List Nat) (am : Nat → Rat) : List Nat := R.filter fun i => !decide (i ∈ P.stp R am)
def fill : Nat → List Nat → (Nat → Rat) → (Nat → Rat)
  | 0, _, am => am
  | _ + 1, [], am => am
  | k + 1, i :: R, am => fill k (P.R2 (i :: R) am) (P.am2 (i :: R) am)
structure Ok : Prop where
  s : ∀ i, i < P.n → 0 < P.s i
  some : ∀ i, i < P.n → ∃ g, g < P.G ∧ 0 < P.nd i g
def v (R : List Nat) (am : Nat → Rat) (c : Rat) (i : Nat) : Rat := if i ∈ R then c * P.s i else am i
/-- while it fills -/
structure At (R : List Nat) (am l : Nat → Rat) (c : Rat) : Prop where
  lt : ∀ i ∈ R, i < P.n
  cn : 0 ≤ c
  lev : ∀ i, i < P.n → i ∉ R → am i = l i * P.s i ∧ 0 ≤ l i ∧ l i ≤ c
  fit : ∀ g, g < P.G → S P.n (fun i => P.v R am c i * (P.nd i g : Rat)) ≤ (P.T g : Rat)
  want : ∀ (i x : Nat), i < P.n → P.want i = Option.some x → P.v R am c i ≤ ((x : Nat) : Rat)
  stop : ∀ i, i < P.n → i ∉ R → (∃ x : Nat, P.want i = Option.some x ∧ am i = ((x : Nat) : Rat)) ∨ ∃ g, g < P.G ∧ 0 < P.nd i g ∧ S P.n (fun i => P.v R am c i * (P.nd i g : Rat)) = (P.T g : Rat) ∧ ∀ j, j < P.n → 0 < P.nd j g → j ∉ R ∧ l j ≤ l i
variable {P}
variable {R : List Nat} {am l : Nat → Rat} {c : Rat}
theorem S_v (c : Rat) (g : Nat) : S P.n (fun i => P.v R am c i * (P.nd i g : Rat)) = P.fixd R am g + c * P.rate R g := by
  unfold fixd rate
  rw [← S_mul, ← S_add]
  refine S_congr fun i _ => ?_
  unfold v
  split <;> grind
theorem cast_pos {n : Nat} (h : 0 < n) : (0 : Rat) < (n : Rat) := by exact_mod_cast h
theorem cast_nn (n : Nat) : (0 : Rat) ≤ (n : Rat) := by exact_mod_cast Nat.zero_le n
theorem rate_nn (ok : P.Ok) (g : Nat) : 0 ≤ P.rate R g := by
  refine S_nonneg fun i hi => ?_
  split
  · exact nn2 (Rat.le_of_lt (ok.s i hi)) (cast_nn _)
  · grind
theorem rate_pos (ok : P.Ok) {i g : Nat} (hi : i < P.n) (hR : i ∈ R) (hn : 0 < P.nd i g) : 0 < P.rate R g := by
  have h1 := S_ge (f := fun i => if i ∈ R then P.s i * (P.nd i g : Rat) else 0) hi fun j hj => by
    split
    · exact nn2 (Rat.le_of_lt (ok.s j hj)) (cast_nn _)
    · grind
  rw [if_pos hR] at h1
  have h2 : 0 < P.s i * (P.nd i g : Rat) := Rat.mul_pos (ok.s i hi) (cast_pos hn)
  unfold rate
  grind
theorem rate_ex (ok : P.Ok) {g : Nat} (h : 0 < P.rate R g) : ∃ i, i < P.n ∧ i ∈ R ∧ 0 < P.nd i g := by
  have h0 : S P.n (fun _ => (0 : Rat)) = 0 := by
    have := S_mul (f := fun _ => (0 : Rat)) 0 P.n
    simp at this
    exact this
  unfold rate at h
  rw [← h0] at h
  obtain ⟨i, hi, h1⟩ := S_lt h
  by_cases hR : i ∈ R
  · rw [if_pos hR] at h1
    refine ⟨i, hi, hR, ?_⟩
    by_cases q : P.nd i g = 0
    · rw [q] at h1
      simp at h1
    · omega
  · rw [if_neg hR] at h1
    grind
theorem mark_spec (ok : P.Ok) (A : P.At R am l c) (hR : R ≠ []) : (∀ y ∈ P.cands R am, P.mark R am ≤ y) ∧ P.mark R am ∈ P.cands R am := by
  have ne : P.cands R am ≠ [] := by
    cases R with
    | nil => exact absurd rfl hR
    | cons i R =>
      have hi := A.lt i List.mem_cons_self
      obtain ⟨g, hg, hn⟩ := ok.some i hi
      have hp := rate_pos (R := i :: R) ok hi List.mem_cons_self hn
      intro e
      have : (((P.T g : Rat) - P.fixd (i :: R) am g) / P.rate (i :: R) g) ∈ P.cands (i :: R) am := by
        unfold cands
        refine List.mem_append_left _ (List.mem_filterMap.mpr ⟨g, List.mem_range.mpr hg, ?_⟩)
        unfold gst
        rw [if_neg (by grind)]
      rw [e] at this
      cases this
  unfold mark
  cases h : P.cands R am with
  | nil => exact absurd h ne
  | cons x xs =>
    obtain ⟨h1, h2, h3⟩ := lo_le xs x
    refine ⟨fun y hy => ?_, ?_⟩
    · rcases List.mem_cons.mp hy with rfl | hy
      · exact h1
      · exact h2 y hy
    · show xs.foldl lo x ∈ x :: xs
      rcases h3 with h3 | h3
      · rw [h3]; exact List.mem_cons_self
      · exact List.mem_cons_of_mem _ h3
theorem gst_in {g : Nat} (hg : g < P.G) {y : Rat} (h : P.gst R am g = some y) : y ∈ P.cands R am := List.mem_append_left _ (List.mem_filterMap.mpr ⟨g, List.mem_range.mpr hg, h⟩)
theorem wst_in {i : Nat} (hi : i ∈ R) {y : Rat} (h : P.wst i = some y) : y ∈ P.cands R am := List.mem_append_right _ (List.mem_filterMap.mpr ⟨i, hi, h⟩)
theorem gst_eq {g : Nat} {y : Rat} (ok : P.Ok) (h : P.gst R am g = some y) : 0 < P.rate R g ∧ P.fixd R am g + y * P.rate R g = (P.T g : Rat) := by
  unfold gst at h
  split at h
  · cases h
  · rename_i h0
    have hp : 0 < P.rate R g := by
      have := rate_nn (R := R) ok g
      grind
    cases h
    refine ⟨hp, ?_⟩
    grind
theorem wst_eq {i : Nat} {y : Rat} (ok : P.Ok) (hi : i < P.n) (h : P.wst i = some y) : ∃ x : Nat, P.want i = some x ∧ y * P.s i = ((x : Nat) : Rat) := by
  have k := ok.s i hi
  cases h1 : P.want i with
  | none =>
    unfold wst at h
    rw [h1] at h
    cases h
  | some x =>
    unfold wst at h
    rw [h1] at h
    cases h
    exact ⟨x, rfl, by grind⟩
theorem step (ok : P.Ok) (A : P.At R am l c) (hR : R ≠ []) : c ≤ P.mark R am ∧ P.At (P.R2 R am) (P.am2 R am) (fun i => if i ∈ P.stp R am then P.mark R am else l i) (P.mark R am) ∧ (P.R2 R am).length < R.length := by
  obtain ⟨m1, m2⟩ := mark_spec ok A hR
  have stR : ∀ i, i ∈ P.stp R am → i ∈ R := fun i h => (List.mem_filter.mp h).1
  have inR2 : ∀ i, i ∈ P.R2 R am ↔ i ∈ R ∧ i ∉ P.stp R am := fun i => by
    unfold R2
    rw [List.mem_filter]
    simp
  have hc : c ≤ P.mark R am := by
    rcases List.mem_append.mp m2 with h | h
    · obtain ⟨g, hg, h⟩ := List.mem_filterMap.mp h
      have hg := List.mem_range.mp hg
      obtain ⟨hp, e⟩ := gst_eq ok h
      have f := A.fit g hg
      rw [S_v] at f
      have : P.rate R g * c ≤ P.rate R g * P.mark R am := by grind
      exact le_of_mul this hp
    · obtain ⟨i, hi, h⟩ := List.mem_filterMap.mp h
      have hn := A.lt i hi
      obtain ⟨x, e1, e2⟩ := wst_eq ok hn h
      have w := A.want i x hn e1
      unfold v at w
      rw [if_pos hi] at w
      have : P.s i * c ≤ P.s i * P.mark R am := by grind
      exact le_of_mul this (ok.s i hn)
  -- the virtual amounts at the mark are those of the next state
  have vv : ∀ i, P.v (P.R2 R am) (P.am2 R am) (P.mark R am) i = P.v R am (P.mark R am) i := fun i => by
    unfold v am2
    by_cases h1 : i ∈ P.stp R am
    · have h2 := stR i h1
      rw [if_neg (fun h => ((inR2 i).mp h).2 h1), if_pos h1, if_pos h2]
    · by_cases h2 : i ∈ R
      · rw [if_pos ((inR2 i).mpr ⟨h2, h1⟩), if_pos h2]
      · rw [if_neg (fun h => h2 ((inR2 i).mp h).1), if_neg h1, if_neg h2]
  have vS : ∀ g, S P.n (fun i => P.v (P.R2 R am) (P.am2 R am) (P.mark R am) i * (P.nd i g : Rat)) = P.fixd R am g + P.mark R am * P.rate R g := fun g => by
    rw [← S_v]
    exact S_congr fun i _ => by rw [vv i]
  have some1 : ∃ i, i ∈ P.stp R am := by
    rcases List.mem_append.mp m2 with h | h
    · obtain ⟨g, hg, h⟩ := List.mem_filterMap.mp h
      obtain ⟨hp, _⟩ := gst_eq ok h
      obtain ⟨i, hi, hiR, hn⟩ := rate_ex ok hp
      refine ⟨i, List.mem_filter.mpr ⟨hiR, ?_⟩⟩
      unfold out
      rw [Bool.or_eq_true]
      refine .inr (List.any_eq_true.mpr ⟨g, ?_, decide_eq_true hn⟩)
      exact List.mem_filter.mpr ⟨hg, decide_eq_true h⟩
    · obtain ⟨i, hi, h⟩ := List.mem_filterMap.mp h
      refine ⟨i, List.mem_filter.mpr ⟨hi, ?_⟩⟩
      unfold out
      rw [Bool.or_eq_true]
      exact .inl (decide_eq_true h)
  refine ⟨hc, ⟨fun i hi => A.lt i ((inR2 i).mp hi).1, by have := A.cn; grind, fun i hi hn => ?_, fun g hg => ?_, fun i x hi hx => ?_, fun i hi hn => ?_⟩, ?_⟩
  · by_cases h1 : i ∈ P.stp R am
    · have := A.cn
      show (if i ∈ P.stp R am then P.mark R am * P.s i else am i) = (if i ∈ P.stp R am then P.mark R am else l i) * P.s i ∧ 0 ≤ (if i ∈ P.stp R am then P.mark R am else l i) ∧ (if i ∈ P.stp R am then P.mark R am else l i) ≤ P.mark R am
      rw [if_pos h1, if_pos h1]
      exact ⟨rfl, by grind, Rat.le_refl⟩
    · have h2 : i ∉ R := fun h => hn ((inR2 i).mpr ⟨h, h1⟩)
      obtain ⟨e1, e2, e3⟩ := A.lev i hi h2
      unfold am2
      rw [if_neg h1]
      simp only [if_neg h1]
      exact ⟨e1, e2, by grind⟩
  · rw [vS]
    by_cases h0 : P.rate R g = 0
    · have f := A.fit g hg
      rw [S_v, h0] at f
      rw [h0]
      grind
    · have hp : 0 < P.rate R g := by
        have := rate_nn (R := R) ok g
        grind
      have e : P.gst R am g = some (((P.T g : Rat) - P.fixd R am g) / P.rate R g) := by
        unfold gst
        rw [if_neg h0]
      obtain ⟨_, e2⟩ := gst_eq ok e
      have := mul_le (m1 _ (gst_in hg e)) (Rat.le_of_lt hp)
      grind
  · rw [vv]
    unfold v
    by_cases h1 : i ∈ R
    · rw [if_pos h1]
      have e : P.wst i = some ((x : Rat) / P.s i) := by
        unfold wst
        rw [hx]
        rfl
      have k1 := mul_le (m1 _ (wst_in h1 e)) (Rat.le_of_lt (ok.s i hi))
      have k2 := ok.s i hi
      have k3 : P.s i * ((x : Rat) / P.s i) = (x : Rat) := by
        clear k1 e m1 inR2 vv vS stR some1
        grind
      rw [k3] at k1
      rw [Rat.mul_comm]
      exact k1
    · rw [if_neg h1]
      have w := A.want i x hi hx
      unfold v at w
      rw [if_neg h1] at w
      exact w
  · by_cases h1 : i ∈ P.stp R am
    · have h2 := (List.mem_filter.mp h1).2
      unfold out at h2
      rw [Bool.or_eq_true] at h2
      rcases h2 with h2 | h2
      · obtain ⟨x, e1, e2⟩ := wst_eq ok hi (of_decide_eq_true h2)
        refine .inl ⟨x, e1, ?_⟩
        unfold am2
        rw [if_pos h1]
        exact e2
      · obtain ⟨g, hg, h2⟩ := List.any_eq_true.mp h2
        obtain ⟨hg1, hg2⟩ := List.mem_filter.mp hg
        have hg1 := List.mem_range.mp hg1
        obtain ⟨hp, e⟩ := gst_eq ok (of_decide_eq_true hg2)
        refine .inr ⟨g, hg1, of_decide_eq_true h2, by rw [vS]; exact e, fun j hj hn => ?_⟩
        simp only [if_pos h1]
        by_cases hjR : j ∈ R
        · have hjs : j ∈ P.stp R am := by
            refine List.mem_filter.mpr ⟨hjR, ?_⟩
            unfold out
            rw [Bool.or_eq_true]
            exact .inr (List.any_eq_true.mpr ⟨g, hg, decide_eq_true hn⟩)
          refine ⟨fun h => ((inR2 j).mp h).2 hjs, ?_⟩
          simp only [if_pos hjs]
          exact Rat.le_refl
        · refine ⟨fun h => hjR ((inR2 j).mp h).1, ?_⟩
          obtain ⟨_, _, e3⟩ := A.lev j hj hjR
          simp only [if_neg (fun h => hjR (stR j h))]
          grind
    · have h2 : i ∉ R := fun h => hn ((inR2 i).mpr ⟨h, h1⟩)
      rcases A.stop i hi h2 with ⟨x, e1, e2⟩ | ⟨g, hg, h3, h4, h5⟩
      · refine .inl ⟨x, e1, ?_⟩
        unfold am2
        rw [if_neg h1]
        exact e2
      · refine .inr ⟨g, hg, h3, ?_, fun j hj hn => ?_⟩
        · rw [vS]
          rw [S_v] at h4
          have h0 : P.rate R g = 0 := by
            by_cases q : P.rate R g = 0
            · exact q
            · have hp : 0 < P.rate R g := by
                have := rate_nn (R := R) ok g
                grind
              obtain ⟨j, hj, hjR, hjn⟩ := rate_ex ok hp
              exact absurd hjR (h5 j hj hjn).1
          rw [h0] at h4 ⊢
          grind
        · obtain ⟨k1, k2⟩ := h5 j hj hn
          refine ⟨fun h => k1 ((inR2 j).mp h).1, ?_⟩
          simp only [if_neg h1, if_neg (fun h => k1 (stR j h))]
          exact k2
  · obtain ⟨i, hi⟩ := some1
    unfold R2
    have : (R.filter fun i => !decide (i ∈ P.stp R am)).length < R.length := by
      refine List.length_filter_lt_length_iff_exists.mpr ⟨i, stR i hi, ?_⟩
      simp [hi]
    exact this
theorem fill_at (ok : P.Ok) : ∀ (k : Nat) (R : List Nat) (am l : Nat → Rat) (c : Rat), R.length ≤ k → P.At R am l c → ∃ l' c', P.At [] (P.fill k R am) l' c'
  | 0, R, am, l, c, hk, A => by
    cases R with
    | nil => exact ⟨l, c, A⟩
    | cons => simp at hk
  | k + 1, [], am, l, c, _, A => ⟨l, c, A⟩
  | k + 1, i :: R, am, l, c, hk, A => by
    obtain ⟨_, h2, h3⟩ := step ok A (by simp)
    exact fill_at ok k _ _ _ _ (by omega) h2
theorem start (ok : P.Ok) : P.At (List.range P.n) (fun _ => 0) (fun _ => 0) 0 := by
  have vz : ∀ i, P.v (List.range P.n) (fun _ => 0) 0 i = 0 := fun i => by
    unfold v
    split <;> grind
  have no : ∀ i, i < P.n → i ∉ List.range P.n → False := fun i hi h => h (List.mem_range.mpr hi)
  have z : ∀ g, S P.n (fun i => P.v (List.range P.n) (fun _ => 0) 0 i * (P.nd i g : Rat)) = 0 := fun g => by
    rw [S_congr (g := fun i => 0 * (P.nd i g : Rat)) fun i _ => by rw [vz i]]
    rw [S_mul]
    grind
  refine ⟨fun i h => List.mem_range.mp h, Rat.le_refl, fun i hi h => (no i hi h).elim, fun g _ => by rw [z]; exact cast_nn _, fun i x hi _ => by rw [vz]; exact cast_nn _, fun i hi h => (no i hi h).elim⟩
/-- the share -/
def share (P : Fl) : Nat → Rat := P.fill P.n (List.range P.n) fun _ => 0
end Fl
end Iv
end
section
set_option linter.all false
/-! Bounds by common denominators. -/
namespace Iv
structure Bd (m V : Nat) (q : Rat) : Prop where
  nn : 0 ≤ q
  le : q ≤ (V : Rat)
  dv : ∃ z : Int, q * (m : Rat) = (z : Rat)
section
variable {m k V W : Nat} {q r : Rat}
theorem Bd.nat (n : Nat) (h : n ≤ V) : Bd 1 V (n : Rat) := ⟨by exact_mod_cast Nat.zero_le n, by exact_mod_cast h, (n : Int), by simp [Rat.intCast_natCast]⟩
theorem Bd.zero : Bd m V 0 := ⟨Rat.le_refl, by exact_mod_cast Nat.zero_le V, 0, by simp⟩
theorem Bd.wide (h : Bd m V q) (hv : V ≤ W) : Bd m W q := ⟨h.nn, by
  have h1 := h.le
  have : (V : Rat) ≤ (W : Rat) := by exact_mod_cast hv
  grind, h.dv⟩
theorem Bd.times (h : Bd m V q) (k : Nat) : Bd (m * k) V q := by
  obtain ⟨z, e⟩ := h.dv
  refine ⟨h.nn, h.le, z * (k : Int), ?_⟩
  rw [Rat.natCast_mul, ← Rat.mul_assoc, e, Rat.intCast_mul, Rat.intCast_natCast]
theorem Bd.of (h : Bd m V q) (e : m = k) : Bd k V q := by subst e; exact h
theorem Bd.dvd (h : Bd m V q) (hd : m ∣ k) : Bd k V q := by
  obtain ⟨c, rfl⟩ := hd
  exact h.times c
theorem Bd.add (h : Bd m V q) (h2 : Bd m W r) : Bd m (V + W) (q + r) := by
  obtain ⟨z, e⟩ := h.dv
  obtain ⟨y, e2⟩ := h2.dv
  refine ⟨?_, ?_, z + y, ?_⟩
  · have := h.nn
    have := h2.nn
    grind
  · have := h.le
    have := h2.le
    rw [Rat.natCast_add]
    grind
  · rw [Rat.add_mul, e, e2, Rat.intCast_add]
theorem Bd.mul (h : Bd m V q) (h2 : Bd k W r) : Bd (m * k) (V * W) (q * r) := by
  obtain ⟨z, e⟩ := h.dv
  obtain ⟨y, e2⟩ := h2.dv
  refine ⟨Rat.mul_nonneg h.nn h2.nn, ?_, z * y, ?_⟩
  · have k1 := Rat.mul_le_mul_of_nonneg_right h.le h2.nn
    have k2 := Rat.mul_le_mul_of_nonneg_left h2.le (show (0 : Rat) ≤ (V : Rat) by exact_mod_cast Nat.zero_le V)
    rw [Rat.natCast_mul]
    grind
  · rw [Rat.natCast_mul, Rat.intCast_mul, ← e, ← e2]
    grind
/-- a - b, where it is not negative -/
theorem Bd.sub (h : Bd m V q) (h2 : Bd m W r) (hle : r ≤ q) : Bd m V (q - r) := by
  obtain ⟨z, e⟩ := h.dv
  obtain ⟨y, e2⟩ := h2.dv
  refine ⟨by grind, ?_, z - y, ?_⟩
  · have := h.le
    have := h2.nn
    grind
  · rw [Rat.sub_eq_add_neg, Rat.add_mul, Rat.neg_mul, e, e2, Rat.intCast_sub]
    grind
theorem den_num (hm : 0 < m) {z : Int} (h : q * (m : Rat) = (z : Rat)) : q.den ≤ m ∧ q.num.natAbs ≤ z.natAbs := by
  have hm0 : (m : Rat) ≠ 0 := by
    intro e
    have : m = 0 := by exact_mod_cast e
    omega
  have e : q = Rat.divInt z (m : Int) := by
    rw [Rat.divInt_eq_div, Rat.intCast_natCast]
    grind
  rw [e]
  refine ⟨?_, ?_⟩
  · rw [Rat.den_divInt]
    split
    · omega
    · rw [Int.natAbs_natCast]
      exact Nat.div_le_self _ _
  · rw [Rat.num_divInt, Int.sign_eq_one_of_pos (by omega), Int.one_mul, Int.natAbs_ediv_of_dvd]
    · exact Nat.div_le_self _ _
    · exact Int.gcd_dvd_right ..
theorem Bd.small (h : Bd m V q) (hm : 0 < m) : q.den ≤ m ∧ q.num.natAbs ≤ V * m := by
  obtain ⟨z, e⟩ := h.dv
  obtain ⟨h1, h2⟩ := den_num hm e
  refine ⟨h1, Nat.le_trans h2 ?_⟩
  have hm' : (0 : Rat) ≤ (m : Rat) := by exact_mod_cast Nat.zero_le m
  have k1 := Rat.mul_le_mul_of_nonneg_right h.le hm'
  have k2 := Rat.mul_nonneg h.nn hm'
  rw [e] at k1 k2
  have k3 : (0 : Int) ≤ z := by exact_mod_cast k2
  have k4 : (z : Rat) ≤ ((V * m : Nat) : Rat) := by rw [Rat.natCast_mul]; exact k1
  have k5 : z ≤ ((V * m : Nat) : Int) := by exact_mod_cast k4
  omega
/-- n / d -/
theorem Bd.frac (n d : Nat) (hd : 0 < d) : Bd d n ((n : Rat) / (d : Rat)) := by
  have hd0 : (0 : Rat) < (d : Rat) := by exact_mod_cast hd
  have hn : (0 : Rat) ≤ (n : Rat) := by exact_mod_cast Nat.zero_le n
  have e : ((n : Rat) / (d : Rat)) * (d : Rat) = ((n : Int) : Rat) := by
    rw [Rat.intCast_natCast]
    grind
  have h1 : (1 : Rat) ≤ (d : Rat) := by exact_mod_cast hd
  have e' : ((n : Rat) / (d : Rat)) * (d : Rat) = (n : Rat) := by rw [e, Rat.intCast_natCast]
  have nn : 0 ≤ (n : Rat) / (d : Rat) := by
    refine le_of_mul (c := (d : Rat)) ?_ hd0
    rw [Rat.mul_comm (d : Rat) ((n : Rat) / (d : Rat)), e']
    grind
  refine ⟨nn, ?_, n, e⟩
  have := Rat.mul_le_mul_of_nonneg_left h1 nn
  grind
/-- q / r, where r * m is a whole number -/
theorem Bd.div (h : Bd k V q) (h2 : Bd m W r) (hr : 0 < r) (hm : 0 < m) : ∃ N : Nat, 0 < N ∧ N ≤ W * m ∧ r * (m : Rat) = (N : Rat) ∧ Bd (k * N) (V * m) (q / r) := by
  obtain ⟨z, e⟩ := h.dv
  obtain ⟨y, e2⟩ := h2.dv
  have hm' : (0 : Rat) < (m : Rat) := by exact_mod_cast hm
  have hy : (0 : Rat) < (y : Rat) := by rw [← e2]; exact Rat.mul_pos hr hm'
  have hy' : 0 < y := by exact_mod_cast hy
  have eN : ((y.toNat : Nat) : Rat) = (y : Rat) := by
    rw [← Rat.intCast_natCast]
    congr 1
    omega
  have hN : r * (m : Rat) = ((y.toNat : Nat) : Rat) := by rw [e2, eN]
  have hNp : 0 < y.toNat := by omega
  have hNr : (0 : Rat) < ((y.toNat : Nat) : Rat) := by rw [eN]; exact hy
  refine ⟨y.toNat, hNp, ?_, hN, ?_, ?_, z * (m : Int), ?_⟩
  · have k1 := Rat.mul_le_mul_of_nonneg_right h2.le (Rat.le_of_lt hm')
    rw [hN, ← Rat.natCast_mul] at k1
    exact_mod_cast k1
  · have e3 : r * (q / r) = q := by grind
    refine le_of_mul (c := r) ?_ hr
    rw [e3]
    have := h.nn
    grind
  · -- q / r ≤ V * m as r * m ≥ 1
    have k1 : (1 : Rat) ≤ r * (m : Rat) := by
      rw [hN]
      exact_mod_cast hNp
    have e3 : (q / r) * r = q := by grind
    refine le_of_mul (c := r) ?_ hr
    rw [Rat.mul_comm r (q / r), e3, Rat.natCast_mul]
    have k2 := Rat.mul_le_mul_of_nonneg_left k1 (show (0 : Rat) ≤ (V : Rat) by exact_mod_cast Nat.zero_le V)
    have := h.le
    grind
  · rw [Rat.natCast_mul, Rat.intCast_mul, Rat.intCast_natCast, ← e, ← hN]
    have e3 : (q / r) * r = q := by grind
    have e4 : q / r * ((k : Rat) * (r * (m : Rat))) = ((q / r) * r) * (k : Rat) * (m : Rat) := by grind
    rw [e4, e3]
end
end Iv
end
section
set_option Elab.async false
set_option linter.all false
set_option maxRecDepth 100000
set_option exponentiation.threshold 3000
set_option maxHeartbeats 4000000
/-! What holds of the evaluator at any table (taken out of the texts of k92 by mkga.py). -/
namespace Iv
open PySem PySem.Spec L2
section
variable {x y : Rat}
theorem log_lt {a k : Nat} (h : a < 2 ^ k) : a.log2 ≤ k := by
  by_cases h0 : a = 0
  · subst h0; simp
  · exact Nat.le_of_lt ((Nat.log2_lt h0).mpr h)
theorem mul_ok {i j : Int} {k l : Nat} (h1 : i.natAbs < 2 ^ k) (h2 : j.natAbs < 2 ^ l) (h : k + l < 1000000 := by decide) : mulOk i j = true := by
  unfold mulOk
  have := log_lt h1
  have := log_lt h2
  exact decide_eq_true (by omega)
theorem div_ok {j : Int} {k : Nat} (h0 : 0 < j) (h1 : j.natAbs < 2 ^ k) (h : k < 9000 := by decide) : divOk j = true := by
  unfold divOk
  have := log_lt h1
  rw [decide_eq_true h0, decide_eq_true (by omega)]
  rfl
theorem cp_loop (Φ : Fn) : ∀ (n a b r : Nat), eu n a b = some r → whlGo (tst Φ (.cmp .gt (.var 1) (.cst (.int 0)))) (exs Φ (.consB (.asp [0, 1] [false, false] (.cons (.var 1) (.cons (.bin .mod (.var 0) (.var 1)) .nil))) .nilB)) (n + 1) [.sh (.int a), .sh (.int b)] = some (.nx [.sh (.int r), .sh (.int 0)])
  | 0, a, b, r, h => by
    unfold eu at h
    split at h
    · rename_i hb
      subst hb
      cases h
      simp [whlGo, tst, opT, opd, ev, op2, res, cmpD, truth]
    · cases h
  | n + 1, a, b, r, h => by
    unfold eu at h
    split at h
    · rename_i hb
      subst hb
      cases h
      simp [whlGo, tst, opT, opd, ev, op2, res, cmpD, truth]
    · rename_i hb
      have ih := cp_loop Φ n b (a % b) r h
      have h0 : (0 : Int) < (b : Int) := by omega
      rw [whlGo]
      simp only [tst, opT, opd, ev, op2, res, cmpD, truth, exs, rdv, putSl, putOk, binD, List.getElem?_cons_zero, List.getElem?_cons_succ, Option.map_some, decide_eq_true h0, List.set_cons_zero, List.set_cons_succ, if_pos h0, if_true]
      have e : ((a : Int) % (b : Int)) = ((a % b : Nat) : Int) := by simp
      rw [e]
      exact ih
theorem outs_sh : ∀ (ds : List D) (e : Ev), ds.length ≤ e.length → outs (ds.map Sl.sh) e = some (ds.map Sl.sh)
  | [], _, _ => rfl
  | d :: ds, [], h => by simp at h
  | d :: ds, s :: e, h => by
    show (outs (ds.map Sl.sh) e).map (.sh d :: ·) = _
    rw [outs_sh ds e (by simpa using h)]
    rfl
theorem abs_int (i : Int) : (if i < 0 then -i else i) = (i.natAbs : Int) := by split <;> omega
theorem z1 : (1 : Nat) ≤ sizeLine := by decide
theorem z2 : (2 : Nat) ≤ sizeLine := by decide
theorem z3 : (3 : Nat) ≤ sizeLine := by decide
theorem z4 : (4 : Nat) ≤ sizeLine := by decide
def Fit (q : Rat) : Prop := q.den < 2 ^ 480 ∧ q.num.natAbs < 2 ^ 520
theorem den_pos (q : Rat) : 0 < (q.den : Int) := by have := q.den_nz; omega
theorem rat_eq (q : Rat) : (q.num : Rat) / (q.den : Rat) = q := by
  rw [show ((q.den : Nat) : Rat) = (((q.den : Nat) : Int) : Rat) from (Rat.intCast_natCast _).symm, ← Rat.divInt_eq_div]
  exact Rat.num_divInt_den q
theorem den_ne (q : Rat) : ((q.den : Nat) : Rat) ≠ 0 := by
  intro h
  have := q.den_nz
  exact this (by exact_mod_cast h)
theorem div_eq (x y : Rat) (hy : 0 < y) : (((x.num * y.den : Int)) : Rat) / ((x.den * y.num : Int) : Rat) = x / y := by
  have h1 := rat_eq x
  have h2 := rat_eq y
  have h3 := den_ne x
  have h4 := den_ne y
  have h5 : (y.num : Rat) ≠ 0 := by
    intro h
    rw [h] at h2
    grind
  rw [Rat.intCast_mul, Rat.intCast_mul, Rat.intCast_natCast, Rat.intCast_natCast]
  grind
theorem num_pos' {y : Rat} (h : 0 < y) : 0 < y.num := by
  have := (Rat.lt_iff 0 y).mp h
  simpa using this
theorem nb {a b : Int} {k l : Nat} (h1 : a.natAbs < 2 ^ k) (h2 : b.natAbs < 2 ^ l) : (a * b).natAbs < 2 ^ (k + l) := by
  rw [Int.natAbs_mul, Nat.pow_add]
  exact Nat.mul_lt_mul'' h1 h2
theorem nadd {a b : Int} {k : Nat} (h1 : a.natAbs < 2 ^ k) (h2 : b.natAbs < 2 ^ k) : (a + b).natAbs < 2 ^ (k + 1) := by
  have := Int.natAbs_add_le a b
  rw [Nat.pow_succ]
  omega
theorem nsub {a b : Int} {k : Nat} (h1 : a.natAbs < 2 ^ k) (h2 : b.natAbs < 2 ^ k) : (a - b).natAbs < 2 ^ (k + 1) := by
  have := Int.natAbs_sub_le a b
  rw [Nat.pow_succ]
  omega
theorem up_pow {a : Nat} {k l : Nat} (h : a < 2 ^ k) (hk : k ≤ l) : a < 2 ^ l := Nat.lt_of_lt_of_le h (Nat.pow_le_pow_right (by decide) hk)
theorem fd (hx : Fit x) : ((x.den : Nat) : Int).natAbs < 2 ^ 480 := by rw [Int.natAbs_natCast]; exact hx.1
end
section
def hi (m x : Rat) : Rat := if m < x then x else m
theorem Fit.hi {m x : Rat} (h1 : Fit m) (h2 : Fit x) : Fit (hi m x) := by unfold Iv.hi; split <;> assumption
theorem cut1 (d : D) (ds : List D) : cutL (d :: ds) (some 1) none = ds := by
  unfold cutL
  have h1 : HT.sIx (d :: ds).length 0 (some 1) = 1 := by
    simp [HT.sIx]
  have h2 : HT.sIx (d :: ds).length (d :: ds).length none = (d :: ds).length := by rfl
  rw [h1, h2]
  simp
theorem fold_fst {α β γ : Type} {f : α → β → α} {g : α → γ → β → γ} : ∀ (xs : List β) (a : α) (c : γ), (xs.foldl (fun (s : α × γ) y => (f s.1 y, g s.1 s.2 y)) (a, c)).1 = xs.foldl f a
  | [], _, _ => rfl
  | x :: xs, a, c => fold_fst xs (f a x) (g a c x)
theorem fold_run {Φ : Fn} {st : Sl} {cal : Ex} {cmp : Rat → Rat → Rat} (hf : ∀ m x : Rat, Fit m → Fit x → Fit (cmp m x))
    (hb : ∀ m y : Rat, Fit m → Fit y → exs Φ (.consB (.asg (.nm 1) (.ite cal (.var 2) (.var 1))) .nilB) [st, .sh (rt m), .sh (rt y)] = some (.nx [st, .sh (rt (cmp m y)), .sh (rt y)])) {x : Rat} {xs : List Rat} (hx : Fit x) (hs : ∀ y ∈ xs, Fit y) :
    ∃ s3, forGo (.nm 2) (exs Φ (.consB (.asg (.nm 1) (.ite cal (.var 2) (.var 1))) .nilB)) (xs.map rt) [st, .sh (rt x), .un] = some (.nx [st, .sh (rt (xs.foldl cmp x)), s3]) := by
  have fl := for_map (g := .nm 2) (f := exs Φ (.consB (.asg (.nm 1) (.ite cal (.var 2) (.var 1))) .nilB)) rt
    (fun s : Rat × Sl => [st, .sh (rt s.1), s.2]) (fun s y => (cmp s.1 y, .sh (rt y))) (fun s => Fit s.1 ∧ (s.2 = .un ∨ ∃ d, s.2 = .sh d)) xs (x, .un)
    (fun s y hy ⟨h1, h2⟩ => by
      refine ⟨?_, ⟨[st, .sh (rt s.1), .sh (rt y)], rfl, hb _ _ h1 (hs y hy)⟩, hf _ _ h1 (hs y hy), .inr ⟨_, rfl⟩⟩
      rcases h2 with h2 | ⟨d, h2⟩ <;> rw [h2] <;> rfl) ⟨hx, .inl rfl⟩
  have g1 := fl.1
  rw [show (xs.foldl (fun (s : Rat × Sl) y => (cmp s.1 y, Sl.sh (rt y))) (x, Sl.un)).1 = xs.foldl cmp x from fold_fst (f := cmp) (g := fun _ _ y => Sl.sh (rt y)) xs x .un] at g1
  exact ⟨_, g1⟩
theorem hi_self (x : Rat) : hi x x = x := by unfold hi; split <;> rfl
structure U where
  w : Nat
  ns : List Nat
  want : Option Nat
def wd : Option Nat → D
  | none => .none
  | some n => .int (n : Int)
def nd (n : Nat) : D := .int (n : Int)
def ud (u : U) : D := .tuple [.str "user", nd u.w, .tuple (u.ns.map nd), wd u.want]
def one1 (n : Nat) : D := .tuple [.int (n : Int), .int 1]
theorem rt_nat (n : Nat) : rt (n : Rat) = one1 n := rfl
theorem fit_nat {n : Nat} (h : n < 2 ^ 400) : Fit (n : Rat) := by
  refine ⟨?_, ?_⟩
  · show 1 < 2 ^ 480; exact Nat.one_lt_two_pow (by decide)
  · show ((n : Int)).natAbs < 2 ^ 520
    rw [Int.natAbs_natCast]
    exact up_pow h (by decide)
def hgt (u : U) (ts : List Nat) : List Rat := (u.ns.zip ts).map fun p => (p.1 : Rat) / (p.2 : Rat)
def hgtM (u : U) (ts : List Nat) : Rat := match hgt u ts with
  | [] => 0
  | x :: xs => xs.foldl hi x
structure Vu (G : Nat) (u : U) : Prop where
  w0 : 1 ≤ u.w
  w1 : u.w ≤ 9
  len : u.ns.length = G
  le : ∀ n ∈ u.ns, n ≤ 99
  ex : ∃ n ∈ u.ns, 0 < n
  want : ∀ v, u.want = some v → v ≤ 999
structure Vt (ts : List Nat) : Prop where
  l0 : 1 ≤ ts.length
  l1 : ts.length ≤ 4
  le : ∀ t ∈ ts, 1 ≤ t ∧ t ≤ 9999
theorem Bd.fit {m V : Nat} {q : Rat} (h : Bd m V q) (hm : 0 < m) (h1 : m < 2 ^ 450) (h2 : V < 2 ^ 60) : Fit q := by
  obtain ⟨k1, k2⟩ := h.small hm
  refine ⟨Nat.lt_of_le_of_lt k1 (up_pow h1 (by decide)), Nat.lt_of_le_of_lt k2 ?_⟩
  have := Nat.mul_lt_mul'' h2 h1
  rw [← Nat.pow_add] at this
  exact up_pow this (by decide)
theorem fit_frac {n d : Nat} (hd : 0 < d) (h1 : d < 2 ^ 450) (h2 : n < 2 ^ 60) : Fit ((n : Rat) / (d : Rat)) := (Bd.frac n d hd).fit hd h1 h2
theorem fold_gen {g : Tg} {f : Ev → Option Out} (env : Rat → Sl → Ev) {cmp : Rat → Rat → Rat} (hok : ∀ m s, (s = .un ∨ ∃ d, s = .sh d) → tgOk (env m s) g = true ∧ ∀ y, bindT g (rt y) (env m s) = some (env m (.sh (rt y)))) (hf : ∀ m x : Rat, Fit m → Fit x → Fit (cmp m x))
    (hb : ∀ m y : Rat, Fit m → Fit y → f (env m (.sh (rt y))) = some (.nx (env (cmp m y) (.sh (rt y))))) {x : Rat} {xs : List Rat} (hx : Fit x) (hs : ∀ y ∈ xs, Fit y) :
    ∃ s3, forGo g f (xs.map rt) (env x .un) = some (.nx (env (xs.foldl cmp x) s3)) := by
  have fl := for_map (g := g) (f := f) rt (fun s : Rat × Sl => env s.1 s.2) (fun s y => (cmp s.1 y, .sh (rt y))) (fun s => Fit s.1 ∧ (s.2 = .un ∨ ∃ d, s.2 = .sh d)) xs (x, .un)
    (fun s y hy ⟨h1, h2⟩ => ⟨(hok _ _ h2).1, ⟨_, (hok _ _ h2).2 y, hb _ _ h1 (hs y hy)⟩, hf _ _ h1 (hs y hy), .inr ⟨_, rfl⟩⟩) ⟨hx, .inl rfl⟩
  have g1 := fl.1
  rw [show (xs.foldl (fun (s : Rat × Sl) y => (cmp s.1 y, Sl.sh (rt y))) (x, Sl.un)).1 = xs.foldl cmp x from fold_fst (f := cmp) (g := fun _ _ y => Sl.sh (rt y)) xs x .un] at g1
  exact ⟨_, g1⟩
def pr2 (p : Nat × Nat) : D := .tuple [nd p.1, nd p.2]
theorem zip_nd (a b : List Nat) : ((a.map nd).zip (b.map nd)).map (fun p => PyData.tuple [p.1, p.2]) = (a.zip b).map pr2 := by
  rw [List.zip_map, List.map_map] <;> rfl
theorem walk_zip (a b : List Nat) : walkD .zip (.tuple (a.map nd)) (.tuple (b.map nd)) = some ((a.zip b).map pr2) := by
  show some (((a.map nd).zip (b.map nd)).map fun p => PyData.tuple [p.1, p.2]) = _
  rw [zip_nd]
end
section
variable {u : U} {ts : List Nat}
theorem hgt_fit (hu : Vu ts.length u) (ht : Vt ts) : ∀ q ∈ hgt u ts, Fit q := fun q h => by
  obtain ⟨p, hp, rfl⟩ := List.mem_map.mp h
  obtain ⟨h1, h2⟩ := List.of_mem_zip hp
  have k1 := hu.le _ h1
  have k2 := ht.le _ h2
  exact fit_frac (by omega) (by exact Nat.lt_of_le_of_lt k2.2 (by decide)) (by exact Nat.lt_of_le_of_lt k1 (by decide))
theorem hgt_ne (hu : Vu ts.length u) (ht : Vt ts) : ∃ x xs, hgt u ts = x :: xs := by
  have h1 := hu.len
  have h2 := ht.l0
  unfold hgt
  cases e1 : u.ns with
  | nil => rw [e1] at h1; simp at h1; omega
  | cons a r =>
    cases e2 : ts with
    | nil => rw [e2] at h2; simp at h2
    | cons b s => exact ⟨_, _, rfl⟩
theorem zlen (hu : Vu ts.length u) (ht : Vt ts) : (u.ns.zip ts).length ≤ 100 := by
  have h1 := hu.len
  have h2 := ht.l1
  rw [List.length_zip]
  omega
theorem sz {n : Nat} (h : n ≤ 100) : n ≤ sizeLine := Nat.le_trans h (by decide)
theorem hi_spec (xs : List Rat) : ∀ x : Rat, x ≤ xs.foldl hi x ∧ (∀ y ∈ xs, y ≤ xs.foldl hi x) ∧ (xs.foldl hi x = x ∨ xs.foldl hi x ∈ xs) := by
  induction xs with
  | nil => intro x; exact ⟨Rat.le_refl, fun y h => by simp at h, .inl rfl⟩
  | cons a xs ih =>
    intro x
    obtain ⟨h1, h2, h3⟩ := ih (hi x a)
    have k1 : x ≤ hi x a ∧ a ≤ hi x a ∧ (hi x a = x ∨ hi x a = a) := by
      unfold hi
      split <;> grind
    rw [List.foldl_cons]
    refine ⟨by grind, fun y hy => ?_, ?_⟩
    · rcases List.mem_cons.mp hy with rfl | h
      · grind
      · exact h2 y h
    · rcases h3 with h3 | h3
      · rcases k1.2.2 with e | e
        · exact .inl (by rw [h3, e])
        · exact .inr (by rw [h3, e]; exact List.mem_cons_self)
      · exact .inr (List.mem_cons_of_mem _ h3)
theorem hgtM_spec (hu : Vu ts.length u) (ht : Vt ts) : hgtM u ts ∈ hgt u ts ∧ ∀ y ∈ hgt u ts, y ≤ hgtM u ts := by
  obtain ⟨x, xs, e⟩ := hgt_ne hu ht
  obtain ⟨h1, h2, h3⟩ := hi_spec xs x
  have em : hgtM u ts = xs.foldl hi x := by unfold hgtM; rw [e]
  rw [em, e]
  refine ⟨?_, fun y hy => ?_⟩
  · rcases h3 with h3 | h3
    · rw [h3]; exact List.mem_cons_self
    · exact List.mem_cons_of_mem _ h3
  · rcases List.mem_cons.mp hy with rfl | h
    · exact h1
    · exact h2 y h
theorem frac_pos {n d : Nat} (hn : 0 < n) (hd : 0 < d) : (0 : Rat) < (n : Rat) / (d : Rat) := by
  have h1 := Fl.cast_pos hn
  have h2 := Fl.cast_pos hd
  have h3 : ((n : Rat) / (d : Rat)) * (d : Rat) = (n : Rat) := by grind
  by_cases q : (0 : Rat) < (n : Rat) / (d : Rat)
  · exact q
  · have := mul_le (show (n : Rat) / (d : Rat) ≤ 0 by grind) (Rat.le_of_lt h2)
    grind
theorem hgtM_at (hu : Vu ts.length u) (ht : Vt ts) : ∃ n t : Nat, (n, t) ∈ u.ns.zip ts ∧ 1 ≤ n ∧ n ≤ 99 ∧ 1 ≤ t ∧ t ≤ 9999 ∧ hgtM u ts = (n : Rat) / (t : Rat) := by
  obtain ⟨h1, h2⟩ := hgtM_spec hu ht
  obtain ⟨⟨n, t⟩, hp, e⟩ := List.mem_map.mp h1
  obtain ⟨m1, m2⟩ := List.of_mem_zip hp
  have kt := ht.le _ m2
  obtain ⟨m, hm, hm0⟩ := hu.ex
  obtain ⟨i, hi⟩ := List.mem_iff_getElem?.mp hm
  have li := (List.getElem?_eq_some_iff.mp hi).1
  rw [hu.len] at li
  have kz : (m, ts[i]) ∈ u.ns.zip ts := by
    refine List.mem_iff_getElem?.mpr ⟨i, ?_⟩
    rw [List.getElem?_zip_eq_some]
    exact ⟨hi, List.getElem?_eq_getElem li⟩
  have kp := h2 _ (List.mem_map.mpr ⟨_, kz, rfl⟩)
  have kq : (0 : Rat) < (m : Rat) / ((ts[i] : Nat) : Rat) := frac_pos hm0 (by have := (ht.le _ (List.getElem_mem li)).1; omega)
  refine ⟨n, t, hp, ?_, hu.le _ m1, kt.1, kt.2, e.symm⟩
  by_cases q : n = 0
  · subst q
    have e' : hgtM u ts = ((0 : Nat) : Rat) / (t : Rat) := e.symm
    rw [e'] at kp
    have : ((0 : Nat) : Rat) / (t : Rat) = 0 := by
      rw [Rat.div_def]
      simp
    rw [this] at kp
    have kp : (m : Rat) / ((ts[i] : Nat) : Rat) ≤ 0 := kp
    grind
  · omega
theorem hgtM_pos (hu : Vu ts.length u) (ht : Vt ts) : 0 < hgtM u ts := by
  obtain ⟨n, t, _, h1, _, h2, _, e⟩ := hgtM_at hu ht
  rw [e]
  exact frac_pos (by omega) (by omega)
theorem hgtM_fit (hu : Vu ts.length u) (ht : Vt ts) : Fit (hgtM u ts) := hgt_fit hu ht _ (hgtM_spec hu ht).1
end
section
def U0 : U := ⟨0, [], none⟩
def usD (us : List U) : D := .tuple (us.map ud)
def tsD (ts : List Nat) : D := .tuple (ts.map nd)
def ixD (R : List Nat) : D := .list (R.map nd)
end
section
theorem flat_ix (R : List Nat) : (R.map nd).all flat = true := by
  rw [List.all_map]
  exact List.all_eq_true.mpr fun _ _ => rfl
theorem in_ix (i : Nat) (R : List Nat) : inD (nd i) (ixD R) = some (decide (i ∈ R)) := by
  have h : inD (nd i) (ixD R) = if flat (nd i) && (R.map nd).all flat then some ((R.map nd).any fun y => PyData.eqv y (nd i)) else (if SeqAt.shaped (nd i) && SeqAt.shaped (ixD R) then some ((R.map nd).any fun y => PyData.eqv y (nd i)) else none) := rfl
  rw [h, flat_ix]
  have e : ((R.map nd).any fun y => PyData.eqv y (nd i)) = decide (i ∈ R) := by
    rw [List.any_map]
    by_cases hm : i ∈ R
    · rw [decide_eq_true hm]
      refine List.any_eq_true.mpr ⟨i, hm, ?_⟩
      simp [nd, PyData.eqv]
    · rw [decide_eq_false hm]
      refine List.any_eq_false.mpr fun j hj => ?_
      have : j ≠ i := fun q => hm (q ▸ hj)
      simp [nd, PyData.eqv]
      omega
  rw [e]
  rfl
def at2 {α : Type} (φ : α → D) (p : α × Nat) : D := .tuple [nd p.2, φ p.1]
theorem walk_enm_t {α : Type} (φ : α → D) (xs : List α) : walkD .enm (.tuple (xs.map φ)) .none = some (xs.zipIdx.map (at2 φ)) := by
  show some ((xs.map φ).zipIdx.map fun p => PyData.tuple [.int (p.2 : Nat), p.1]) = _
  rw [List.zipIdx_map, List.map_map]
  rfl
theorem walk_enm_l {α : Type} (φ : α → D) (xs : List α) : walkD .enm (.list (xs.map φ)) .none = some (xs.zipIdx.map (at2 φ)) := by
  show some ((xs.map φ).zipIdx.map fun p => PyData.tuple [.int (p.2 : Nat), p.1]) = _
  rw [List.zipIdx_map, List.map_map]
  rfl
theorem at_nat {α : Type} {xs : List α} {i : Nat} {x : α} (h : xs[i]? = some x) : atI xs (i : Int) = some x := by
  have hi := (List.getElem?_eq_some_iff.mp h).1
  unfold atI ixN
  rw [if_pos (by omega), if_pos (by omega)]
  simp [h]
theorem idx_l {α : Type} (φ : α → D) {xs : List α} {i : Nat} {x : α} (h : xs[i]? = some x) : idxD (.list (xs.map φ)) (nd i) = some (φ x) := at_nat (by rw [List.getElem?_map, h]; rfl)
theorem idx_t {α : Type} (φ : α → D) {xs : List α} {i : Nat} {x : α} (h : xs[i]? = some x) : idxD (.tuple (xs.map φ)) (nd i) = some (φ x) := at_nat (by rw [List.getElem?_map, h]; rfl)
end
section
variable {us : List U} {ts R : List Nat} {am : List Rat}
theorem one1_nd (n : Nat) : one1 n = .tuple [nd n, .int 1] := rfl
theorem getD_of {α : Type} {xs : List α} {i : Nat} {x d : α} (h : xs[i]? = some x) : xs.getD i d = x := by
  rw [List.getD_eq_getElem?_getD, h]
  rfl
theorem at_lt {α : Type} {xs : List α} {i : Nat} (h : i < xs.length) (d : α) : xs[i]? = some (xs.getD i d) := by
  rw [List.getD_eq_getElem?_getD, List.getElem?_eq_getElem h]
  rfl
end
section
variable {us : List U} {ts R : List Nat} {am : List Rat} {Φ : Fn} {s6 s7 s8 s9 s10 s11 s12 s13 s14 s15 : Sl} {rows : List D}
theorem all_true {α : Type} (xs : List α) : xs.filter (fun _ => true) = xs := List.filter_eq_self.mpr fun _ _ => rfl
theorem bools_map {α : Type} (f : α → Bool) : ∀ xs : List α, boolsOf (xs.map fun x => PyData.bool (f x)) = some (xs.map f)
  | [] => rfl
  | x :: xs => by
    show (boolsOf (xs.map fun x => PyData.bool (f x))).map (f x :: ·) = _
    rw [bools_map f xs]
    rfl
end
section
variable {us : List U} {ts R : List Nat} {am : List Rat} {Φ : Fn}
theorem exs_ift {Φ : Fn} {c : Ex} {a b : Sm} {e e1 : Ev} (nv : ∀ i, c ≠ .var i) (h : ev Φ c e = some (.bool true, e1)) : exs Φ (.ifs c a b) e = exs Φ a e1 := by
  have : opT c (ev Φ c) e = some (true, e1) := by
    unfold opT opd
    cases c <;> first | (exact absurd rfl (nv _)) | (simp only [h, res, truth]; rfl)
  simp only [exs, tst, this]
theorem exs_iff {Φ : Fn} {c : Ex} {a b : Sm} {e e1 : Ev} (nv : ∀ i, c ≠ .var i) (h : ev Φ c e = some (.bool false, e1)) : exs Φ (.ifs c a b) e = exs Φ b e1 := by
  have : opT c (ev Φ c) e = some (false, e1) := by
    unfold opT opd
    cases c <;> first | (exact absurd rfl (nv _)) | (simp only [h, res, truth]; rfl)
  simp only [exs, tst, this]
end
section
variable {us : List U} {ts R : List Nat} {am : List Rat} {Φ : Fn} {rows : List D}
def junk (s : Sl) : Prop := s = .un ∨ (∃ d, s = .sh d) ∨ ∃ ds, s = .own true ds
theorem put_junk {e : Ev} {i : Nat} {s : Sl} (h : e[i]? = some s) (j : junk s) : putOk e i = true := by
  unfold putOk
  rw [h]
  rcases j with rfl | ⟨d, rfl⟩ | ⟨ds, rfl⟩ <;> rfl
theorem asg_nm {Φ : Fn} {x : Ex} {e e1 : Ev} {d : D} {i : Nat} (h : ev Φ x e = some (d, e1)) (hp : putOk e1 i = true) : exs Φ (.asg (.nm i) x) e = some (.nx (e1.set i (.sh d))) := by
  simp only [exs, h, tgOk, tgIxs, List.all_cons, List.all_nil, hp, Bool.and_true, if_true, bindT, Option.map_some]
theorem aso_nil {Φ : Fn} {e : Ev} {i : Nat} (hp : putOk e i = true) : exs Φ (.aso i (.lst .nil)) e = some (.nx (e.set i (.own true []))) := by
  have hz : (0 : Nat) ≤ sizeLine := Nat.zero_le _
  simp [exs, ev, hp]
end
section
variable {us : List U} {ts R : List Nat} {am : List Rat} {Φ : Fn} {l : Nat → Rat} {c : Rat} {L M : Nat}
structure Ps (us : List U) (ts : List Nat) : Prop where
  l0 : 1 ≤ us.length
  l1 : us.length ≤ 6
  ok : ∀ u ∈ us, Vu ts.length u
  vt : Vt ts
theorem getD_mem {α : Type} {xs : List α} {i : Nat} {d : α} (h : i < xs.length) : xs.getD i d ∈ xs := List.mem_of_getElem? (at_lt h d)
theorem getD_out {α : Type} {xs : List α} {i : Nat} {d : α} (h : ¬ i < xs.length) : xs.getD i d = d := by
  rw [List.getD_eq_getElem?_getD, List.getElem?_eq_none (by omega)]
  rfl
end
section
variable {us : List U} {ts R : List Nat} {am : List Rat} {Φ : Fn} {l : Nat → Rat} {c : Rat} {L M : Nat}
theorem can_ix : ∀ R : List Nat, PyData.canLayAll0 (R.map nd) = true
  | [] => by simp [PyData.canLayAll0]
  | n :: R => by
    have := can_ix R
    simp [PyData.canLayAll0, nd, PyData.canLay0] at this ⊢
    exact this
theorem dep_ix : ∀ R : List Nat, PyData.depthAll (R.map nd) = 0
  | [] => by simp [PyData.depthAll]
  | n :: R => by
    have := dep_ix R
    simp [PyData.depthAll, nd, PyData.depth] at this ⊢
    exact this
theorem shaped_ix (R : List Nat) : SeqAt.shaped (ixD R) = true := by
  unfold SeqAt.shaped ixD
  rw [PyData.canLay0, can_ix, PyData.depth, dep_ix]
  rfl
theorem ne_ix (R : List Nat) : cmpD .ne (ixD R) (.list []) = some (!R.isEmpty) := by
  have h : cmpD .ne (ixD R) (.list []) = (if SeqAt.shaped (ixD R) && SeqAt.shaped (.list []) then some (PyData.eqv (ixD R) (.list [])) else none).map (!·) := rfl
  have h2 : SeqAt.shaped (.list []) = true := shaped_ix []
  rw [h, shaped_ix, h2]
  cases R with
  | nil => simp [ixD, PyData.eqv, PyData.eqvAll]
  | cons => simp [ixD, PyData.eqv, PyData.eqvAll]
end
section
variable {us : List U} {ts : List Nat} {Φ : Fn} {L : Nat}
theorem exs_whl {c : Ex} {s : Sm} {e : Ev} : exs Φ (.whl c s) e = whlGo (tst Φ c) (exs Φ s) turns e := by simp only [exs]
theorem rng_nd (n : Nat) : rngD 0 n = (List.range n).map nd := by
  unfold rngD nd
  have : ((n : Int) - 0).toNat = n := by omega
  rw [this]
  refine List.map_congr_left fun i _ => ?_
  rw [Int.zero_add]
theorem evl_cons {a r : Ex} {e e1 e2 : Ev} {d : D} {ds : List D} (h : ev Φ a e = some (d, e1)) (h2 : ev Φ r e1 = some (.tuple ds, e2)) : ev Φ (.cons a r) e = some (.tuple (d :: ds), e2) := by simp only [ev, h, h2]
theorem evl_nil {e : Ev} : ev Φ .nil e = some (.tuple [], e) := by simp only [ev]
theorem ev_lst0 {e : Ev} : ev Φ (.lst .nil) e = some (.list [], e) := by
  have hz0 : (0 : Nat) ≤ sizeLine := Nat.zero_le _
  simp [ev, hz0]
theorem exs_asp {is : List Nat} {os : List Bool} {as : Ex} {e e1 e2 : Ev} {ds : List D} (h : ev Φ as e = some (.tuple ds, e1)) (h2 : putSl e1 is os ds = some e2) : exs Φ (.asp is os as) e = some (.nx e2) := by simp only [exs, h, h2, Option.map_some]
theorem ev_rep {as n : Ex} {e e1 e2 : Ev} {ds : List D} {k v : D} (h : ev Φ as e = some (.tuple ds, e1)) (hl : ds.length ≤ sizeLine) (h2 : ev Φ n e1 = some (k, e2)) (h3 : repD (.list ds) k = some v) : ev Φ (.rep as n) e = some (v, e2) := by simp only [ev, h, if_pos hl, h2, h3, Option.map_some]
end
section
variable {u : U} {us : List U} {ts : List Nat}
theorem ev_lcF {α : Type} {Φ : Fn} {own : List (Str × Nat)} {g : Tg} {k : Ik} {a b c f : Ex} {x y : D} {e0 e1 e : Ev} (φ : α → D) (t : α → Bool) (v : α → D) (xs : List α) (h1 : ev Φ a e0 = some (x, e1)) (h2 : ev Φ b e1 = some (y, e)) (h3 : walkD k x y = some (xs.map φ))
    (h : ∀ z ∈ xs, ∃ e1, bindT g (φ z) (wipeE e (own.map (·.2))) = some e1 ∧ lcT c (ev Φ c) e1 = some (t z, e1) ∧ (t z = true → ev Φ f e1 = some (v z, e1)) ∧ wipeE e1 (own.map (·.2)) = wipeE e (own.map (·.2))) (hl : xs.length ≤ sizeLine) :
    ev Φ (.lc own g k a b c f) e0 = some (.list ((xs.filter t).map v), e) := by
  obtain ⟨e3, g1, g2⟩ := lc_pure (c := lcT c (ev Φ c)) (f := ev Φ f) φ t v xs e [] rfl h (by simpa using hl)
  simp only [ev, h1, h2, h3, g1, back_wipe g2, List.nil_append]
end
section
variable {us : List U} {ts R : List Nat} {am : List Rat} {Φ : Fn} {rows : List D} {s0 s1 s2 s3 s4 s5 s6 s7 s8 s9 s10 s11 s12 s13 s14 s15 s16 s17 s18 s19 s20 : Sl}
def forS : Sm → Sm
  | .for_ _ _ _ _ s => s
  | s => s
def nthS : Nat → Sm → Sm
  | 0, .consB s _ => s
  | n + 1, .consB _ b => nthS n b
  | _, s => s
def jk (s : Sl) : Prop := s = .un ∨ ∃ d, s = .sh d
theorem jk.put {s : Sl} {e : Ev} {i : Nat} (j : jk s) (h : e[i]? = some s) : putOk e i = true := by
  unfold putOk
  rw [h]
  rcases j with rfl | ⟨d, rfl⟩ <;> rfl
theorem jk.sh (d : D) : jk (.sh d) := .inr ⟨d, rfl⟩
end
section
variable {us : List U} {ts R : List Nat} {am : List Rat} {Φ : Fn} {rows : List D} {s0 s1 s2 s3 s4 s5 s6 s7 s8 s9 s10 s11 s12 s13 s14 s15 s16 s17 s18 s19 s20 : Sl}
theorem lcT_bool {Φ : Fn} {c : Ex} {e e1 : Ev} {b : Bool} (nv : ∀ i, c ≠ .var i) (nn : c ≠ .noe) (h : ev Φ c e = some (.bool b, e1)) : lcT c (ev Φ c) e = some (b, e1) := by
  have h2 : opT c (ev Φ c) e = some (b, e1) := by
    unfold opT opd
    cases c <;> first | (exact absurd rfl (nv _)) | (simp only [h, res, truth, Option.map_some])
  cases c <;> first | (exact absurd rfl nn) | exact h2
theorem isn_wd (w : Option Nat) : cmpD .isn (wd w) .none = some w.isSome := by cases w <;> rfl
end
section
variable {us : List U} {ts R : List Nat} {am : List Rat} {Φ : Fn} {rows : List D} {s0 s1 s2 s3 s4 s5 s6 s7 s8 s9 s10 s11 s12 s13 s14 s15 s16 s17 s18 s19 s20 : Sl}
theorem set_at {e : Ev} {i n : Nat} {v : D} {ds : List D} (h1 : e[2]? = some (.own true ds)) (h2 : ds.length = n) (hi : i < n) : setAt e 2 (nd i) v = some (e.set 2 (.own true (ds.set i v))) := by
  have ix : ixN n (i : Int) = some i := by
    unfold ixN
    rw [if_pos (by omega), if_pos (by omega)]
    simp
  unfold setAt ownAt nd
  simp [h1, h2, ix]
theorem l_eq (R : List Nat) : eqD (ixD R) (.list []) = some R.isEmpty := by
  have h : eqD (ixD R) (.list []) = (if SeqAt.shaped (ixD R) && SeqAt.shaped (.list []) then some (PyData.eqv (ixD R) (.list [])) else none) := rfl
  have h2 : SeqAt.shaped (.list []) = true := shaped_ix []
  rw [h, shaped_ix, h2]
  cases R with
  | nil => simp [ixD, PyData.eqv, PyData.eqvAll]
  | cons => simp [ixD, PyData.eqv, PyData.eqvAll]
end
section
variable {us : List U} {ts : List Nat} {Φ : Fn} {L : Nat}
theorem exs_for {g : Tg} {k : Ik} {a b : Ex} {s : Sm} {e e1 e2 : Ev} {x y : D} {ds : List D} (h1 : ev Φ a e = some (x, e1)) (h2 : ev Φ b e1 = some (y, e2)) (h3 : walkD k x y = some ds) : exs Φ (.for_ g k a b s) e = forGo g (exs Φ s) ds e2 := by simp only [exs, h1, h2, h3]
end
section
variable {us : List U} {u : U} {ts : List Nat} {G : Nat}
def isI : D → Bool
  | .int _ => true
  | _ => false
def isC : D → Bool
  | .int i => decide (0 ≤ i)
  | _ => false
def isW (lo hi : Int) : D → Bool
  | .int i => decide (lo ≤ i) && decide (i ≤ hi)
  | _ => false
theorem isW_nd {n : Nat} {a b : Int} (h1 : a ≤ (n : Int)) (h2 : (n : Int) ≤ b) : isW a b (nd n) = true := by
  unfold isW nd
  simp [h1, h2]
theorem all_bools {α : Type} (f : α → Bool) (xs : List α) : b1D .all (.list (xs.map fun x => PyData.bool (f x))) = some (.bool (xs.all f)) := by
  simp only [b1D, bools_map, Option.map_some, List.all_map]
  rfl
theorem any_bools {α : Type} (f : α → Bool) (xs : List α) : b1D .any (.list (xs.map fun x => PyData.bool (f x))) = some (.bool (xs.any f)) := by
  simp only [b1D, bools_map, Option.map_some, List.any_map]
  rfl
theorem ev_b1 {Φ : Fn} {b : B1} {a : Ex} {e e1 : Ev} {x d : D} (nv : ∀ i, a ≠ .var i) (h : ev Φ a e = some (x, e1)) (h2 : b1D b x = some d) : ev Φ (.b1 b a) e = some (d, e1) := by
  rw [ev.eq_def Φ (.b1 _ _)]
  show op1 a (ev Φ a) (b1D b) e = _
  unfold op1 opd
  cases a <;> first | (exact absurd rfl (nv _)) | (simp only [h, res, h2, Option.map_some])
theorem evl_and {Φ : Fn} {a b : Ex} {e e1 e2 : Ev} {x y : Bool} (h : ev Φ a e = some (.bool x, e1)) (h2 : ev Φ b e1 = some (.bool y, e2)) (he : e2 = e1) : ev Φ (.and a b) e = some (.bool (x && y), e1) := by
  subst he
  cases x <;> simp only [ev, h, h2, Bool.true_and, Bool.false_and]
theorem us_cons (p : Ps us ts) : ∃ u r, us = u :: r := by
  have := p.l0
  cases us with
  | nil => simp at this
  | cons u r => exact ⟨u, r, rfl⟩
def seqD (b : Bool) (ds : List D) : D := if b then .list ds else .tuple ds
end
section
variable {a b c d : Nat} {x y : Rat}
variable {us : List U} {u v : U} {ts : List Nat} {L : Nat}
theorem gt_nd (n : Nat) : cmpD .gt (nd n) (.int 0) = some (decide (0 < n)) := by
  show some (decide ((0 : Int) < (n : Int))) = _
  congr 1
  simp
theorem exs_aso {Φ : Fn} {x : Ex} {e e1 : Ev} {ds : List D} {i : Nat} (h : ev Φ x e = some (.list ds, e1)) (hp : putOk e1 i = true) : exs Φ (.aso i x) e = some (.nx (e1.set i (.own true ds))) := by
  simp only [exs, h, hp, if_true]
theorem ev_call {Φ : Fn} {j : Nat} {as : Ex} {e e1 e2 : Ev} {ds : List D} {sl os : List Sl} {r : D} (h : ev Φ as e = some (.tuple ds, e1)) (ha : argSl as ds e1 = some sl) (hm : nodupB (musOf as) = true) (hc : Φ j sl = some (r, os)) (hw : wbk as os e1 = some e2) : ev Φ (.call j as) e = some (r, e2) := by
  simp only [ev, h, ha, hm, if_true, hc, hw, Option.map_some]
theorem n99 {n : Nat} (h : n ≤ 99) : n < 2 ^ 7 := Nat.lt_of_le_of_lt h (by decide)
end
section
variable {us : List U} {u v : U} {ts : List Nat} {L : Nat}
theorem ev_tup {Φ : Fn} {as : Ex} {e e1 : Ev} {ds : List D} (h : ev Φ as e = some (.tuple ds, e1)) (hl : ds.length ≤ sizeLine) : ev Φ (.tup as) e = some (.tuple ds, e1) := by simp only [ev, h, if_pos hl]
theorem exs_ret {Φ : Fn} {x : Ex} {b : Sm} {e e1 : Ev} {d : D} (h : ev Φ x e = some (d, e1)) : exs Φ (.consB (.ret x) b) e = some (.rt d e1) := by simp only [exs, h]
theorem ints_nd {α : Type} (f : α → Nat) : ∀ xs : List α, intsOf (xs.map fun x => nd (f x)) = some (xs.map fun x => (f x : Int))
  | [] => rfl
  | x :: xs => by
    show (intsOf (xs.map fun x => nd (f x))).map ((f x : Int) :: ·) = _
    rw [ints_nd f xs]
    rfl
theorem sum_cast (ns : List Nat) : (ns.map fun (n : Nat) => (n : Int)).sum = ((ns.sum : Nat) : Int) := by
  induction ns with
  | nil => rfl
  | cons n ns ih => rw [List.map_cons, List.sum_cons, List.sum_cons, ih]; omega
end
section
variable {us : List U} {u v : U} {ts : List Nat} {L : Nat}
theorem add_tt (a b : List D) (h : a.length + b.length ≤ sizeLine) : addD (.tuple a) (.tuple b) = some (.tuple (a ++ b)) := if_pos h
theorem cut_to {α : Type} (xs : List α) (i : Nat) : cutL xs none (some (i : Int)) = xs.take i := by
  unfold cutL
  rw [HT.sIx_none, HT.sIx_nat]
  by_cases h : i ≤ xs.length
  · rw [Nat.min_eq_left h]
    rfl
  · rw [Nat.min_eq_right (by omega), List.drop_zero, Nat.sub_zero, List.take_of_length_le (Nat.le_refl _), List.take_of_length_le (by omega)]
theorem cut_from {α : Type} (xs : List α) (i : Nat) : cutL xs (some (i : Int)) none = xs.drop i := by
  unfold cutL
  rw [HT.sIx_none, HT.sIx_nat]
  by_cases h : i ≤ xs.length
  · rw [Nat.min_eq_left h, List.take_of_length_le (by rw [List.length_drop]; exact Nat.le_refl _)]
  · rw [Nat.min_eq_right (by omega), List.drop_eq_nil_of_le (Nat.le_refl _), List.drop_eq_nil_of_le (by omega)]
    simp
end
section
variable {us : List U} {u v : U} {ts : List Nat} {L : Nat}
theorem getD_set_ne {xs : List U} {i j : Nat} {v : U} (h : j ≠ i) : (xs.set i v).getD j U0 = xs.getD j U0 := by
  rw [List.getD_eq_getElem?_getD, List.getD_eq_getElem?_getD, List.getElem?_set_ne (fun q => h q.symm)]
theorem getD_set_eq {xs : List U} {i : Nat} {v : U} (h : i < xs.length) : (xs.set i v).getD i U0 = v := by
  rw [List.getD_eq_getElem?_getD, List.getElem?_set_self h]
  rfl
theorem set_self {xs : List U} {i : Nat} (h : i < xs.length) : xs.set i (xs.getD i U0) = xs := by
  refine List.ext_getElem? fun j => ?_
  by_cases e : j = i
  · subst e
    rw [List.getElem?_set_self h, ← at_lt h U0]
  · rw [List.getElem?_set_ne (fun q => e q.symm)]
end
section
def Pot (P : List D) : Prop := ∃ a b : Int, P = [.int a, .int b] ∧ 0 ≤ a ∧ 0 ≤ b ∧ b < 2 ^ 31
theorem dvm_small {a m : Int} (h1 : 1 ≤ m) (h2 : m ≤ 10000) : b2D .dvm (.int a) (.int m) = some (.tuple [.int (a / m), .int (a % m)]) := by
  have h : Builtin.divisionGoesByPylong a m = false := PyProof.noPylong_small (by omega)
  show (if 0 < m ∧ Builtin.divisionGoesByPylong a m = false then some (PyData.tuple [.int (a / m), .int (a % m)]) else none) = _
  rw [if_pos ⟨by omega, h⟩]
theorem nd_of {i : Int} (h : 0 ≤ i) : ∃ n : Nat, PyData.int i = nd n ∧ (n : Int) = i := ⟨i.toNat, by unfold nd; congr 1; omega, by omega⟩
theorem idx_seqD {b : Bool} {xs : List D} {i : Nat} {x : D} (h : xs[i]? = some x) : idxD (seqD b xs) (nd i) = some x := by
  cases b <;> exact at_nat h
theorem for_ex {α Z : Type} {g : Tg} {f : Ev → Option Out} (φ : α → D) (env : Z → Ev) (ok : Nat → Z → Prop) : ∀ (xs : List α) (k : Nat) (z : Z), ok k z →
    (∀ i x z, xs[i]? = some x → ok (k + i) z → tgOk (env z) g = true ∧ ∃ e1 z', bindT g (φ x) (env z) = some e1 ∧ f e1 = some (.nx (env z')) ∧ ok (k + i + 1) z') →
    ∃ z', ok (k + xs.length) z' ∧ forGo g f (xs.map φ) (env z) = some (.nx (env z'))
  | [], k, z, hz, _ => ⟨z, hz, rfl⟩
  | x :: xs, k, z, hz, h => by
    obtain ⟨h1, e1, z', h2, h3, h4⟩ := h 0 x z rfl hz
    obtain ⟨z2, g1, g2⟩ := for_ex φ env ok xs (k + 1) z' h4 fun i y w hy hw => by
      have := h (i + 1) y w hy (by rw [show k + (i + 1) = k + 1 + i by omega]; exact hw)
      rw [show k + (i + 1) = k + 1 + i by omega] at this
      exact this
    refine ⟨z2, ?_, for_nx h1 h2 h3 g2⟩
    rw [List.length_cons, show k + (xs.length + 1) = k + 1 + xs.length by omega]
    exact g1
theorem lc_ex {α Z : Type} {own : List Nat} {g : Tg} {c : Ev → Option (Bool × Ev)} {f : Ev → Option (D × Ev)} (φ : α → D) (env : Z → Ev) (ok : Z → Prop) (Q : D → Prop) : ∀ (xs : List α) (z : Z) (acc : List D), ok z →
    (∀ x ∈ xs, ∀ z, ok z → ∃ e1 y z', bindT g (φ x) (wipeE (env z) own) = some e1 ∧ c e1 = some (true, e1) ∧ f e1 = some (y, env z') ∧ ok z' ∧ Q y) → acc.length + xs.length ≤ sizeLine →
    ∃ ys z', lcGo own g c f (xs.map φ) (env z) acc = some (acc ++ ys, env z') ∧ ok z' ∧ ys.length = xs.length ∧ ∀ y ∈ ys, Q y
  | [], z, acc, hz, _, _ => ⟨[], z, by simp [lcGo], hz, rfl, fun y h => by cases h⟩
  | x :: xs, z, acc, hz, h, hl => by
    obtain ⟨e1, y, z1, h1, h2, h3, h4, h5⟩ := h x List.mem_cons_self z hz
    rw [List.length_cons] at hl
    obtain ⟨ys, z', g1, g2, g3, g4⟩ := lc_ex φ env ok Q xs z1 (acc ++ [y]) h4 (fun y hy => h y (List.mem_cons_of_mem _ hy)) (by rw [List.length_append, List.length_singleton]; omega)
    refine ⟨y :: ys, z', ?_, g2, by rw [List.length_cons, List.length_cons, g3], fun w hw => ?_⟩
    · simp only [List.map_cons, lcGo, h1, h2, h3, if_pos (show acc.length < sizeLine by omega), g1, List.append_assoc, List.singleton_append]
    · rcases List.mem_cons.mp hw with rfl | hw
      · exact h5
      · exact g4 w hw
end
section
variable {Φ : Fn} {G most : Nat}
theorem map_of {α : Type} (φ : α → D) (Q : α → Prop) : ∀ ys : List D, (∀ y ∈ ys, ∃ n, Q n ∧ y = φ n) → ∃ ns : List α, ys = ns.map φ ∧ ∀ n ∈ ns, Q n
  | [], _ => ⟨[], rfl, fun n h => by cases h⟩
  | y :: ys, h => by
    obtain ⟨n, h1, rfl⟩ := h y List.mem_cons_self
    obtain ⟨ns, rfl, h2⟩ := map_of φ Q ys fun z hz => h z (List.mem_cons_of_mem _ hz)
    refine ⟨n :: ns, rfl, fun m hm => ?_⟩
    rcases List.mem_cons.mp hm with rfl | hm
    · exact h1
    · exact h2 m hm
theorem eqv_ix : ∀ a b : List Nat, PyData.eqvAll (a.map nd) (b.map nd) = decide (a = b)
  | [], [] => by simp [PyData.eqvAll]
  | [], b :: bs => by simp [PyData.eqvAll]
  | a :: as, [] => by simp [PyData.eqvAll]
  | a :: as, b :: bs => by
    have ih := eqv_ix as bs
    have e : PyData.eqvAll ((a :: as).map nd) ((b :: bs).map nd) = (PyData.eqv (nd a) (nd b) && PyData.eqvAll (as.map nd) (bs.map nd)) := by
      simp [PyData.eqvAll]
    rw [e, ih]
    have e2 : PyData.eqv (nd a) (nd b) = decide (a = b) := by
      by_cases h : a = b
      · subst h; simp [nd, PyData.eqv]
      · simp [nd, PyData.eqv, h]; omega
    rw [e2]
    by_cases h : a = b <;> simp [h]
theorem eq_ix (a b : List Nat) : eqD (ixD a) (ixD b) = some (decide (a = b)) := by
  have h : eqD (ixD a) (ixD b) = (if SeqAt.shaped (ixD a) && SeqAt.shaped (ixD b) then some (PyData.eqv (ixD a) (ixD b)) else none) := rfl
  have h2 : PyData.eqv (ixD a) (ixD b) = PyData.eqvAll (a.map nd) (b.map nd) := by simp [ixD, PyData.eqv]
  rw [h, shaped_ix, shaped_ix, h2, eqv_ix]
  rfl
theorem rep_nd (x n : Nat) (h : n ≤ 100) : repD (.list [nd x]) (nd n) = some (ixD (List.replicate n x)) := by
  have hz : [nd x].length * ((n : Int)).toNat ≤ sizeLine := by
    have : ((n : Int)).toNat = n := by omega
    rw [this, List.length_singleton, Nat.one_mul]
    exact sz h
  unfold nd
  simp only [repD, if_pos (show -(2 ^ 63) ≤ (n : Int) ∧ (n : Int) < 2 ^ 63 ∧ [PyData.int (x : Int)].length * ((n : Int)).toNat ≤ sizeLine from ⟨by omega, by omega, hz⟩)]
  unfold ixD
  congr 2
  have : ((n : Int)).toNat = n := by omega
  rw [this, List.map_replicate]
  clear h hz this
  induction n with
  | zero => rfl
  | succ n ih => rw [List.replicate_succ, List.replicate_succ, List.flatten_cons, ih]; rfl
theorem not_zero {ns : List Nat} {G : Nat} (hl : ns.length = G) (h : ns ≠ List.replicate G 0) : ∃ n ∈ ns, 0 < n := by
  by_cases q : ∃ n ∈ ns, 0 < n
  · exact q
  · refine absurd (List.eq_replicate_iff.mpr ⟨hl, fun n hn => ?_⟩) h
    by_cases q2 : n = 0
    · exact q2
    · exact absurd ⟨n, hn, by omega⟩ q
theorem walk_rng' {n : Nat} (hn : n ≤ 100) : walkD .rng (nd n) .none = some ((List.range n).map nd) := by
  have hs : small62 (n : Int) = true := by
    unfold small62
    rw [decide_eq_true (by omega), decide_eq_true (by omega)]
    rfl
  unfold nd
  simp only [walkD, hs, if_true]
  rw [rng_nd]
  rfl
theorem set_at6 {e : Ev} {j i : Nat} {v : D} {ds : List D} (h1 : e[j]? = some (.own true ds)) (hi : i < ds.length) : setAt e j (nd i) v = some (e.set j (.own true (ds.set i v))) := by
  have ix : ixN ds.length (i : Int) = some i := by
    unfold ixN
    rw [if_pos (by omega), if_pos (by omega)]
    simp
  unfold setAt ownAt nd
  simp [h1, ix]
theorem ev_lc_go {Φ : Fn} {own : List (Str × Nat)} {g : Tg} {k : Ik} {a b c f : Ex} {x y : D} {e e1 e2 e3 : Ev} {ds acc : List D} (h1 : ev Φ a e = some (x, e1)) (h2 : ev Φ b e1 = some (y, e2)) (h3 : walkD k x y = some ds) (h4 : lcGo (own.map (·.2)) g (lcT c (ev Φ c)) (ev Φ f) ds e2 [] = some (acc, e3)) : ev Φ (.lc own g k a b c f) e = some (.list acc, backE e2 e3 (own.map (·.2))) := by
  simp only [ev, h1, h2, h3, h4]
end
section
variable {Φ : Fn} {G most : Nat}
theorem nmul_bd {a b c d : Nat} (h1 : a ≤ b) (h2 : c ≤ d) : a * c ≤ b * d := Nat.mul_le_mul h1 h2
theorem mul_nd (a b : Nat) (ha : a < 2 ^ 64) (hb : b < 2 ^ 64) : binD .mul (nd a) (nd b) = some (nd (a * b)) := by
  have h : mulOk (a : Int) (b : Int) = true := mul_ok (k := 64) (l := 64) (by rw [Int.natAbs_natCast]; exact ha) (by rw [Int.natAbs_natCast]; exact hb)
  show (if mulOk (a : Int) (b : Int) then some (PyData.int ((a : Int) * (b : Int))) else none) = _
  rw [h]
  simp [nd]
theorem add_nd (a b : Nat) : binD .add (nd a) (nd b) = some (nd (a + b)) := by
  show some (PyData.int ((a : Int) + (b : Int))) = _
  simp [nd]
theorem ev_cmp' {Φ : Fn} {o : Co} {a b : Ex} {e e1 e2 : Ev} {x y : Op} {p q : D} {t : Bool} (h1 : opd a (ev Φ a e) e = some (x, e1)) (h2 : opd b (ev Φ b e1) e1 = some (y, e2)) (r1 : res e2 x = some p) (r2 : res e2 y = some q) (h : cmpD o p q = some t) : ev Φ (.cmp o a b) e = some (.bool t, e2) := by
  simp only [ev, op2, h1, h2, r1, r2, h, Option.map_some]
theorem opd_nv {Φ : Fn} {a : Ex} {e e1 : Ev} {d : D} (nv : ∀ i, a ≠ .var i) (h : ev Φ a e = some (d, e1)) : opd a (ev Φ a e) e = some (.v d, e1) := by
  cases a <;> first | (exact absurd rfl (nv _)) | (simp only [opd, h])
end
section
variable {Φ : Fn} {G most : Nat} {us : List U} {ts : List Nat}
theorem upd {ns : List Nat} {i v : Nat} (h : ∀ n ∈ ns, n ≤ 99) (hv : v ≤ 99) : ∀ n ∈ ns.set i v, n ≤ 99 := fun n hn => by
  rcases List.mem_or_eq_of_mem_set hn with h1 | h1
  · exact h n h1
  · omega
theorem cmp_nd (a b : Nat) : cmpD .eq (nd a) (.int (b : Int)) = some (decide (a = b)) := by
  show some (decide ((a : Int) = (b : Int))) = _
  rw [decide_eq_decide.mpr (show ((a : Int) = (b : Int)) ↔ a = b by omega)]
theorem min_nd (a b : Nat) : b2D .min (nd a) (nd b) = some (nd (min a b)) := by
  show some (PyData.int (if (b : Int) < (a : Int) then (b : Int) else (a : Int))) = _
  unfold nd
  congr 2
  split <;> omega
end
section
variable {Φ : Fn} {G most : Nat} {us : List U} {ts : List Nat}
theorem cmp_ne_ix (a b : List Nat) : cmpD .ne (ixD a) (ixD b) = some (!decide (a = b)) := by
  show (eqD (ixD a) (ixD b)).map (!·) = _
  rw [eq_ix]
  rfl
theorem ev_itet {c a b : Ex} {e e1 : Ev} {r : Option (D × Ev)} (nv : ∀ i, c ≠ .var i) (h : ev Φ c e = some (.bool true, e1)) (h2 : ev Φ a e1 = r) : ev Φ (.ite c a b) e = r := by
  have : opT c (ev Φ c) e = some (true, e1) := by
    unfold opT opd
    cases c <;> first | (exact absurd rfl (nv _)) | (simp only [h, res, truth]; rfl)
  simp only [ev, this, h2]
theorem ev_itef {c a b : Ex} {e e1 : Ev} {r : Option (D × Ev)} (nv : ∀ i, c ≠ .var i) (h : ev Φ c e = some (.bool false, e1)) (h2 : ev Φ b e1 = r) : ev Φ (.ite c a b) e = r := by
  have : opT c (ev Φ c) e = some (false, e1) := by
    unfold opT opd
    cases c <;> first | (exact absurd rfl (nv _)) | (simp only [h, res, truth]; rfl)
  simp only [ev, this, h2]
end
section
variable {Φ : Fn} {us : List U} {ts : List Nat} {oth : List Rat} {great : Bool}
variable {s7 s8 s9 s10 s11 s12 s13 s14 : Sl}
theorem ev_lst {Φ : Fn} {as : Ex} {e e1 : Ev} {ds : List D} (h : ev Φ as e = some (.tuple ds, e1)) (hl : ds.length ≤ sizeLine) : ev Φ (.lst as) e = some (.list ds, e1) := by simp only [ev, h, if_pos hl]
theorem ev_calk {Φ : Fn} {j : Nat} {as ks : Ex} {perm : List Nat} {e e1 e2 : Ev} {ds es : List D} {sl os : List Sl} {r : D} (h1 : ev Φ as e = some (.tuple ds, e1)) (h2 : ev Φ ks e1 = some (.tuple es, e2)) (hp : permL perm ((ds ++ es).map Sl.sh) = some sl) (hc : Φ j sl = some (r, os)) : ev Φ (.calk j as ks perm) e = some (r, e2) := by
  simp only [ev, h1, h2, hp, hc, Option.map_some]
theorem ev_b1v {Φ : Fn} {b : B1} {i : Nat} {e : Ev} {x d : D} (h : e[i]? = some (.sh x)) (h2 : b1D b x = some d) : ev Φ (.b1 b (.var i)) e = some (d, e) := by
  simp only [ev, op1, opd, h, res, h2, Option.map_some]
theorem evl_or {Φ : Fn} {a b : Ex} {e e1 e2 : Ev} {t : Bool} (h : ev Φ a e = some (.bool false, e1)) (h2 : ev Φ b e1 = some (.bool t, e2)) : ev Φ (.or a b) e = some (.bool t, e2) := by simp only [ev, h, h2]
theorem ev_andt {Φ : Fn} {a b : Ex} {e e1 e2 : Ev} {t : Bool} (h : ev Φ a e = some (.bool true, e1)) (h2 : ev Φ b e1 = some (.bool t, e2)) : ev Φ (.and a b) e = some (.bool t, e2) := by simp only [ev, h, h2]
theorem ev_idxv {Φ : Fn} {a i : Nat} {e : Ev} {x y d : D} (h : e[a]? = some (.sh x)) (h2 : e[i]? = some (.sh y)) (h3 : idxD x y = some d) : ev Φ (.idx (.var a) (.var i)) e = some (d, e) := by
  simp only [ev, op2, opd, h, h2, res, h3, Option.map_some]
theorem ev_ne_rep {Φ : Fn} {a b : Ex} {e e1 e2 : Ev} {s : Str} (na : ∀ i, a ≠ .var i) (nb : ∀ i, b ≠ .var i) (h1 : ev Φ a e = some (.str s, e1)) (h2 : ev Φ b e1 = some (.str s, e2)) : ev Φ (.cmp .ne a b) e = some (.bool false, e2) := ev_cmp' (opd_nv na h1) (opd_nv nb h2) rfl rfl (ne_str s)
theorem rp_nd {n : Nat} (h : n ≤ 9999) : RP 0 1921 (nd n) := RP.int (Nat.lt_of_le_of_lt (log_lt (k := 14) (by rw [Int.natAbs_natCast]; omega)) (by decide))
theorem rp_tup {ns : List Nat} (hl : ns.length ≤ 4) (h : ∀ n ∈ ns, n ≤ 9999) : RP 1 7695 (.tuple (ns.map nd)) := by
  have := RP.tup (k := 0) (m := 1921) (ds := ns.map nd) (fun d hd => by
    obtain ⟨n, hn, rfl⟩ := List.mem_map.mp hd
    exact rp_nd (h n hn))
  refine this.up (Nat.le_refl _) ?_
  rw [List.length_map]
  have := Nat.mul_le_mul_right (1921 + 2) hl
  omega
theorem rp_ud {u : U} {G : Nat} (hu : Vu G u) (hG : G ≤ 4) : RP 2 30791 (ud u) := by
  have hs : RP 1 7695 (.str "user") := RP.up (k := 0) (m := 6) ⟨rfl, rfl, Nat.le_of_eq (by simp [PyData.depth]), by decide +kernel⟩ (by decide) (by decide)
  have hw : RP 1 7695 (wd u.want) := by
    cases e : u.want with
    | none => exact RP.none.up (by decide) (by decide)
    | some v => exact (rp_nd (Nat.le_trans (hu.want v e) (by decide))).up (by decide) (by decide)
  have := RP.tup (k := 1) (m := 7695) (ds := [.str "user", nd u.w, .tuple (u.ns.map nd), wd u.want]) (fun d hd => by
    simp at hd
    rcases hd with rfl | rfl | rfl | rfl
    · exact hs
    · exact (rp_nd (Nat.le_trans hu.w1 (by decide))).up (by decide) (by decide)
    · exact rp_tup (by rw [hu.len]; exact hG) fun n hn => Nat.le_trans (hu.le n hn) (by decide)
    · exact hw)
  exact this
theorem rp_both (p : Ps us ts) : RP 4 369535 (.list [usD us, tsD ts]) := by
  have h1 : RP 3 184761 (usD us) := by
    have := RP.tup (k := 2) (m := 30791) (ds := us.map ud) (fun d hd => by
      obtain ⟨u, hu, rfl⟩ := List.mem_map.mp hd
      exact rp_ud (p.ok u hu) p.vt.l1)
    refine this.up (Nat.le_refl _) ?_
    rw [List.length_map]
    have := Nat.mul_le_mul_right (30791 + 2) p.l1
    omega
  have h2 : RP 3 184761 (tsD ts) := (rp_tup p.vt.l1 fun t ht => (p.vt.le t ht).2).up (by decide) (by decide)
  have := RP.list (k := 3) (m := 184761) (ds := [usD us, tsD ts]) (fun d hd => by
    simp at hd
    rcases hd with rfl | rfl
    · exact h1
    · exact h2)
  exact this.up (Nat.le_refl _) (by show 2 * (184761 + 2) + 3 ≤ 369535; decide)
theorem z_of {m : Nat} (h : m ≤ 400000) : m ≤ sizeLine := Nat.le_trans h (by decide)
theorem rep_both (p : Ps us ts) : b1D .repr (.list [usD us, tsD ts]) = some (.str (PyData.list [usD us, tsD ts]).shown) := (rp_both p).repr (by decide) (z_of (by decide))
theorem len_us (us : List U) : b1D .len (usD us) = some (nd us.length) := by
  show some (PyData.int ((us.map ud).length : Nat)) = _
  rw [List.length_map]
  rfl
end
section
variable {Φ : Fn} {us : List U} {ts : List Nat} {oth : List Rat} {great : Bool} {s7 s8 s9 s10 s11 s12 s13 s14 : Sl}
theorem exs_asg {Φ : Fn} {g : Tg} {x : Ex} {e e1 e2 : Ev} {d : D} (h : ev Φ x e = some (d, e1)) (ht : tgOk e1 g = true) (hb : bindT g d e1 = some e2) : exs Φ (.asg g x) e = some (.nx e2) := by
  simp only [exs, h, ht, if_true, hb, Option.map_some]
end
end Iv
end
section
set_option Elab.async false
set_option linter.all false
set_option maxRecDepth 100000
set_option exponentiation.threshold 3000
set_option maxHeartbeats 4000000
/-! k93: defs as in k92 (printed by trans93.py) -/
namespace Iv
open PySem PySem.Spec L2
section
variable {x y : Rat}
abbrev T : Fn := tab (dfs k93_ds)
def Gv (j : Nat) (as : List D) (d : D) : Prop := T j (as.map Sl.sh) = some (d, as.map Sl.sh)
theorem gv {j : Nat} {d : De} {as : List D} {r : D} (hj : k93_ds.reverse[j]? = some d) (hn : as.length = d.ps.length) (h : ∀ Φ : Fn, (∀ i, i < j → Φ i = T i) → ∃ e, exs Φ d.body (as.map Sl.sh ++ List.replicate (d.N.length - d.ps.length) .un) = some (.rt r e) ∧ as.length ≤ e.length) : Gv j as r := by
  obtain ⟨Φ, hΦ, hT⟩ := tab_run hj
  obtain ⟨e, h1, h2⟩ := h Φ hΦ
  unfold Gv
  rw [T, hT]
  unfold run De.df
  simp only [List.length_map, hn, if_true, h1, outs_sh as e h2, Option.map_some]
theorem gvn {j : Nat} {d : De} {as : List D} (hj : k93_ds.reverse[j]? = some d) (hn : as.length = d.ps.length) (h : ∀ Φ : Fn, (∀ i, i < j → Φ i = T i) → ∃ e, exs Φ d.body (as.map Sl.sh ++ List.replicate (d.N.length - d.ps.length) .un) = some (.nx e) ∧ as.length ≤ e.length) : Gv j as .none := by
  obtain ⟨Φ, hΦ, hT⟩ := tab_run hj
  obtain ⟨e, h1, h2⟩ := h Φ hΦ
  unfold Gv
  rw [T, hT]
  unfold run De.df
  simp only [List.length_map, hn, if_true, h1, outs_sh as e h2, Option.map_some]
theorem Gv.on {j : Nat} {as : List D} {d : D} {Φ : Fn} (h : Gv j as d) (e : Φ j = T j) : Φ j (as.map Sl.sh) = some (d, as.map Sl.sh) := by rw [e]; exact h
theorem common_ok {a b : Int} (hb : b.natAbs < 2 ^ 1000) : Gv 21 [.int a, .int b] (.int (Nat.gcd b.natAbs a.natAbs : Nat)) := by
  refine gv (d := k93_d_common_part) rfl rfl fun Φ hΦ => ?_
  have hl := cp_loop Φ 999999 a.natAbs b.natAbs _ (eu_ok 1000 999999 a.natAbs b.natAbs hb (by decide))
  rw [show 999999 + 1 = turns from rfl] at hl
  refine ⟨[.sh (.int (Nat.gcd b.natAbs a.natAbs : Nat)), .sh (.int 0)], ?_, by simp⟩
  refine exs_nx (e1 := [.sh (.int a.natAbs), .sh (.int b.natAbs)]) ?_ (exs_nx hl ?_)
  · simp [k93_d_common_part, exs, ev, op1, opd, res, rdv, b1D, putSl, putOk, abs_int]
  · simp [exs, ev, rdv]
theorem lowest_ok {a b : Int} (h0 : 0 < b) (hb : b.natAbs < 2 ^ 1000) : Gv 22 [.int a, .int b] (rt ((a : Rat) / (b : Rat))) := by
  refine gv (d := k93_d_lowest) rfl rfl fun Φ hΦ => ?_
  have hc := (common_ok (a := a) hb).on (hΦ 21 (by decide))
  have hg : 0 < Nat.gcd b.natAbs a.natAbs := Nat.gcd_pos_of_pos_left _ (by omega)
  have hd : divOk ((Nat.gcd b.natAbs a.natAbs : Nat) : Int) = true := div_ok (k := 1000) (by omega) (by
    rw [Int.natAbs_natCast]
    exact Nat.lt_of_le_of_lt (Nat.gcd_le_left _ (by omega)) hb)
  refine ⟨[.sh (.int a), .sh (.int b), .sh (.int (Nat.gcd b.natAbs a.natAbs : Nat))], ?_, by simp⟩
  rw [rt_div h0]
  simp at hc
  simp [k93_d_lowest, k93_b_lowest, exs, ev, op1, op2, opd, res, opT, rdv, bindT, tgOk, tgIxs, putOk, argSl, musOf, nodupB, wbk, cmpD, truth, binD, hc, hd, h0, z2]
theorem pover_ok (hx : Fit x) (hy : Fit y) (h : 0 < y) : Gv 23 [rt x, rt y] (rt (x / y)) := by
  refine gv (d := k93_d_over) rfl rfl fun Φ hΦ => ?_
  have hn : 0 < y.num := num_pos' h
  have hb : ((x.den : Int) * y.num).natAbs < 2 ^ 1000 := up_pow (nb (fd hx) hy.2) (by decide)
  have ht : (x.num * y.den).natAbs < 2 ^ 1000 := nb hx.2 (fd hy)
  have h0 : 0 < (x.den : Int) * y.num := Int.mul_pos (den_pos x) hn
  have hc := (lowest_ok (a := x.num * y.den) h0 hb).on (hΦ 22 (by decide))
  rw [div_eq x y h] at hc
  simp only [List.map_cons, List.map_nil] at hc
  have m1 : mulOk x.num y.den = true := mul_ok hx.2 (fd hy)
  have m2 : mulOk y.num x.den = true := mul_ok hy.2 (fd hx)
  have m3 : mulOk x.den y.den = true := mul_ok (fd hx) (fd hy)
  have m4 : mulOk x.num y.num = true := mul_ok hx.2 hy.2
  have m5 : mulOk x.den y.num = true := mul_ok (fd hx) hy.2
  refine ⟨[.sh (rt x), .sh (rt y)], ?_, by simp⟩
  unfold rt at hc ⊢
  simp [k93_d_over, k93_b_over, exs, ev, op2, opd, res, argSl, musOf, nodupB, wbk, binD, addD, mulD, idxD, atI, ixN, m1, m2, m3, m4, m5, hc]
theorem pbelow_ok (hx : Fit x) (hy : Fit y) : Gv 18 [rt x, rt y] (.bool (decide (x < y))) := by
  refine gv (d := k93_d_is_below) rfl rfl fun Φ hΦ => ?_
  have m1 : mulOk x.num y.den = true := mul_ok hx.2 (fd hy)
  have m2 : mulOk y.num x.den = true := mul_ok hy.2 (fd hx)
  have m3 : mulOk x.den y.den = true := mul_ok (fd hx) (fd hy)
  have m4 : mulOk x.num y.num = true := mul_ok hx.2 hy.2
  have m5 : mulOk x.den y.num = true := mul_ok (fd hx) hy.2
  refine ⟨[.sh (rt x), .sh (rt y)], ?_, by simp⟩
  unfold rt
  simp [k93_d_is_below, k93_b_is_below, exs, ev, op2, opd, res, binD, mulD, idxD, atI, ixN, cmpD, ltD, Rat.lt_iff, m1, m2, m3, m4, m5]
end
section
variable {us : List U} {ts R : List Nat} {am : List Rat}
theorem gv2 {j : Nat} {d : De} {args os : List Sl} {r : D} (hj : k93_ds.reverse[j]? = some d) (hn : args.length = d.ps.length) (h : ∀ Φ : Fn, (∀ i, i < j → Φ i = T i) → ∃ e, exs Φ d.body (args ++ List.replicate (d.N.length - d.ps.length) .un) = some (.rt r e) ∧ outs args e = some os) : T j args = some (r, os) := by
  obtain ⟨Φ, hΦ, hT⟩ := tab_run hj
  obtain ⟨e, h1, h2⟩ := h Φ hΦ
  rw [T, hT]
  unfold run De.df
  simp only [hn, if_true, h1, h2, Option.map_some]
end
section
variable {Φ : Fn} {G most : Nat}
theorem gv3 {j : Nat} {d : De} {args os : List Sl} {r : D} {e : Ev} (hT : ∀ a, tab (dfs k93_ds) j a = run Φ d.df a) (hn : args.length = d.ps.length) (h1 : exs Φ d.body (args ++ List.replicate (d.N.length - d.ps.length) .un) = some (.rt r e)) (h2 : outs args e = some os) : T j args = some (r, os) := by
  rw [T, hT]
  unfold run De.df
  simp only [hn, if_true, h1, h2, Option.map_some]
end
section
theorem greatest_ok {x : Rat} {xs : List Rat} (hx : Fit x) (hs : ∀ y ∈ xs, Fit y) : Gv 20 [.list ((x :: xs).map rt)] (rt (xs.foldl hi x)) := by
  refine gv (d := k93_d_greatest_of) rfl rfl fun Φ hΦ => ?_
  obtain ⟨s3, fl⟩ := fold_run (Φ := Φ) (st := .sh (.list ((x :: xs).map rt))) (cal := .call 18 (.cons (.var 1) (.cons (.var 2) .nil))) (cmp := hi) (fun m x => Fit.hi) (fun m y h1 h2 => by
      have hc := (pbelow_ok h1 h2).on (hΦ 18 (by decide))
      simp only [List.map_cons, List.map_nil] at hc
      by_cases hlt : m < y
      · simp [exs, ev, opT, opd, res, rdv, argSl, musOf, nodupB, wbk, hc, truth, tgOk, tgIxs, putOk, bindT, hi, hlt]
      · simp [exs, ev, opT, opd, res, rdv, argSl, musOf, nodupB, wbk, hc, truth, tgOk, tgIxs, putOk, bindT, hi, hlt]) hx hs
  refine ⟨[.sh (.list ((x :: xs).map rt)), .sh (rt (xs.foldl hi x)), s3], ?_, by simp⟩
  refine exs_nx (e1 := [.sh (.list ((x :: xs).map rt)), .sh (rt x), .un]) ?_ (exs_nx (e1 := [.sh (.list ((x :: xs).map rt)), .sh (rt (xs.foldl hi x)), s3]) ?_ ?_)
  · simp [k93_d_greatest_of, exs, ev, op2, opd, res, idxD, atI, ixN, tgOk, tgIxs, putOk, bindT]
  · rw [← fl]
    simp only [exs, ev, opd, res, List.getElem?_cons_zero, partOf, slcD, List.map_cons, cut1, Option.map_some, walkD, itemsOf, List.append_nil]
  · simp [exs, ev, rdv]
end
section
variable {u : U} {ts : List Nat}
theorem height_ok (hu : Vu ts.length u) (ht : Vt ts) : Gv 24 [ud u, .tuple (ts.map nd)] (rt (hgtM u ts)) := by
  refine gv (d := k93_d_height) rfl rfl fun Φ hΦ => ?_
  refine ⟨[.sh (ud u), .sh (.tuple (ts.map nd)), .un, .un], ?_, by simp⟩
  obtain ⟨x, xs, e⟩ := hgt_ne hu ht
  have hfit := hgt_fit hu ht
  rw [e] at hfit
  have hl : ev Φ (.lc [("need", 2), ("total", 3)] (.tp [2, 3]) .zip (.idx (.var 0) (.cst (.int 2))) (.var 1) .noe (.call 23 (.cons (.tup (.cons (.var 2) (.cons (.cst (.int 1)) .nil))) (.cons (.tup (.cons (.var 3) (.cons (.cst (.int 1)) .nil))) .nil)))) [.sh (ud u), .sh (.tuple (ts.map nd)), .un, .un] = some (.list ((x :: xs).map rt), [.sh (ud u), .sh (.tuple (ts.map nd)), .un, .un]) := by
    have := ev_lcP (Φ := Φ) (own := [("need", 2), ("total", 3)]) (g := .tp [2, 3]) (k := .zip) (a := .idx (.var 0) (.cst (.int 2))) (b := .var 1) (c := .noe) (f := .call 23 (.cons (.tup (.cons (.var 2) (.cons (.cst (.int 1)) .nil))) (.cons (.tup (.cons (.var 3) (.cons (.cst (.int 1)) .nil))) .nil)))
      (e := [.sh (ud u), .sh (.tuple (ts.map nd)), .un, .un]) pr2 (fun _ => true) (fun p => rt ((p.1 : Rat) / (p.2 : Rat))) (u.ns.zip ts) (by simp [ev, op2, opd, res, idxD, atI, ixN, ud]) rfl (walk_zip u.ns ts) (fun p hp => by
        obtain ⟨h1, h2⟩ := List.of_mem_zip hp
        have k1 := hu.le _ h1
        have k2 := ht.le _ h2
        have f1 : Fit (p.1 : Rat) := fit_nat (Nat.lt_of_le_of_lt k1 (by decide))
        have f2 : Fit (p.2 : Rat) := fit_nat (Nat.lt_of_le_of_lt k2.2 (by decide))
        have hc := (pover_ok f1 f2 (Fl.cast_pos (by omega))).on (hΦ 23 (by decide))
        rw [rt_nat, rt_nat] at hc
        simp only [List.map_cons, List.map_nil, one1] at hc
        refine ⟨[.sh (ud u), .sh (.tuple (ts.map nd)), .sh (nd p.1), .sh (nd p.2)], rfl, rfl, fun _ => ?_, rfl⟩
        simp [ev, rdv, argSl, musOf, nodupB, wbk, nd, z2, hc]) (sz (zlen hu ht))
    rw [this]
    rw [show (u.ns.zip ts).filter (fun _ => true) = u.ns.zip ts from List.filter_eq_self.mpr fun _ _ => rfl]
    rw [← e]
    unfold hgt
    rw [List.map_map]
    rfl
  have hc := (greatest_ok (x := x) (xs := xs) (hfit x List.mem_cons_self) (fun y hy => hfit y (List.mem_cons_of_mem _ hy))).on (hΦ 20 (by decide))
  have em : hgtM u ts = xs.foldl hi x := by unfold hgtM; rw [e]
  rw [em]
  simp only [List.map_cons, List.map_nil] at hc hl
  show exs Φ (.consB (.ret (.call 20 (.cons _ .nil))) .nilB) [.sh (ud u), .sh (.tuple (ts.map nd)), .un, .un] = _
  simp only [exs, ev.eq_def Φ (.call 20 _), ev.eq_def Φ (.cons _ _), ev.eq_def Φ .nil, hl, argSl, musOf, nodupB, hc, wbk]
  rfl
end
section
variable {us : List U} {u : U} {ts : List Nat} {G : Nat}
theorem is_integer_ok (d : D) : Gv 7 [d] (.bool (isI d)) := by
  refine gv (d := k93_d_is_integer) rfl rfl fun Φ hΦ => ⟨[.sh d], ?_, by simp⟩
  cases d <;> simp [k93_d_is_integer, k93_b_is_integer, exs, ev, op1, opd, res, isaAny, isaD, truth, isI]
theorem is_count_ok (d : D) : Gv 30 [d] (.bool (isC d)) := by
  refine gv (d := k93_d_is_count) rfl rfl fun Φ hΦ => ⟨[.sh d], ?_, by simp⟩
  have c := (is_integer_ok d).on (hΦ 7 (by decide))
  simp only [List.map_cons, List.map_nil] at c
  cases d <;> simp [isI] at c <;> simp [k93_d_is_count, k93_b_is_count, exs, ev, op2, opd, res, rdv, argSl, musOf, nodupB, wbk, c, cmpD, isC]
theorem is_within_ok (d : D) (lo hi : Int) : Gv 8 [d, .int lo, .int hi] (.bool (isW lo hi d)) := by
  refine gv (d := k93_d_is_within) rfl rfl fun Φ hΦ => ⟨[.sh d, .sh (.int lo), .sh (.int hi)], ?_, by simp⟩
  have c := (is_integer_ok d).on (hΦ 7 (by decide))
  simp only [List.map_cons, List.map_nil] at c
  cases d with
  | int i =>
    simp [isI] at c
    by_cases h1 : lo ≤ i
    · simp [k93_d_is_within, k93_b_is_within, exs, ev, op2, opd, res, rdv, argSl, musOf, nodupB, wbk, c, cmpD, isW, h1]
    · simp [k93_d_is_within, k93_b_is_within, exs, ev, op2, opd, res, rdv, argSl, musOf, nodupB, wbk, c, cmpD, isW, h1]
  | _ =>
    simp [isI] at c
    simp [k93_d_is_within, k93_b_is_within, exs, ev, op2, opd, res, rdv, argSl, musOf, nodupB, wbk, c, cmpD, isW]
theorem tuple_of_ok (a b c : D) : Gv 5 [.tuple [.str "user", a, b, c], .str "user", .int 4] (.bool true) := by
  refine gv (d := k93_d_is_tuple_of) rfl rfl fun Φ hΦ => ⟨[.sh (.tuple [.str "user", a, b, c]), .sh (.str "user"), .sh (.int 4)], ?_, by simp⟩
  simp [k93_d_is_tuple_of, k93_b_is_tuple_of, exs, ev, op1, op2, opT, opd, res, rdv, isaAny, isaD, truth, b1D, cmpD, eqD, idxD, atI, ixN, tst]
theorem needs_ok (hu : Vu G u) (hG : G ≤ 4) : Gv 9 [.tuple (u.ns.map nd), nd G] (.bool true) := by
  have hl := hu.len
  refine gv (d := k93_d_are_needs) rfl rfl fun Φ hΦ => ⟨[.sh (.tuple (u.ns.map nd)), .sh (nd G), .un], ?_, by simp⟩
  refine exs_nx (e1 := [.sh (.tuple (u.ns.map nd)), .sh (nd G), .un]) ?_ ?_
  · simp [k93_d_are_needs, exs, ev, op1, op2, opT, opd, res, rdv, isaAny, isaD, truth, b1D, cmpD, eqD, tst, nd, hl]
  · have e1 : ev Φ (.lc [("one", 2)] (.nm 2) .walk (.var 0) .noe .noe (.call 8 (.cons (.var 2) (.cons (.cst (.int 0)) (.cons (.glo "MOST_NEED" (.int 99)) .nil))))) [.sh (.tuple (u.ns.map nd)), .sh (nd G), .un] = some (.list (u.ns.map fun n => PyData.bool true), [.sh (.tuple (u.ns.map nd)), .sh (nd G), .un]) := by
      refine (ev_lcP nd (fun _ => true) (fun _ => PyData.bool true) u.ns rfl rfl rfl (fun n hn => ?_) (sz (by omega))).trans (by rw [all_true])
      have c := (is_within_ok (nd n) 0 99).on (hΦ 8 (by decide))
      rw [isW_nd (a := 0) (b := 99) (by omega) (by have := hu.le n hn; omega)] at c
      simp only [List.map_cons, List.map_nil] at c
      refine ⟨[.sh (.tuple (u.ns.map nd)), .sh (nd G), .sh (nd n)], rfl, rfl, fun _ => ?_, rfl⟩
      simp [ev, rdv, argSl, musOf, nodupB, wbk, c]
    have e2 : ev Φ (.lc [("one", 2)] (.nm 2) .walk (.var 0) .noe .noe (.cmp .gt (.var 2) (.cst (.int 0)))) [.sh (.tuple (u.ns.map nd)), .sh (nd G), .un] = some (.list (u.ns.map fun n => PyData.bool (decide (0 < n))), [.sh (.tuple (u.ns.map nd)), .sh (nd G), .un]) := by
      refine (ev_lcP nd (fun _ => true) (fun n => PyData.bool (decide (0 < n))) u.ns rfl rfl rfl (fun n hn => ?_) (sz (by omega))).trans (by rw [all_true])
      refine ⟨[.sh (.tuple (u.ns.map nd)), .sh (nd G), .sh (nd n)], rfl, rfl, fun _ => ?_, rfl⟩
      simp [ev, op2, opd, res, cmpD, nd]
    have k1 : (u.ns.all fun _ => true) = true := by simp
    have k2 : (u.ns.any fun n => decide (0 < n)) = true := by
      obtain ⟨n, hn, h0⟩ := hu.ex
      exact List.any_eq_true.mpr ⟨n, hn, decide_eq_true h0⟩
    have h3 := evl_and (ev_b1 (b := .all) (by intro i q; cases q) e1 (all_bools _ _)) (ev_b1 (b := .any) (by intro i q; cases q) e2 (any_bools _ _)) rfl
    rw [k1, k2] at h3
    show (exs Φ (.consB (.ret _) .nilB) _) = _
    rw [exs.eq_def]
    simp only [exs, h3]
    rfl
theorem isw_ok {w : Option Nat} (h : ∀ v, w = some v → v ≤ 999) : Gv 10 [wd w] (.bool true) := by
  refine gv (d := k93_d_is_want) rfl rfl fun Φ hΦ => ⟨[.sh (wd w)], ?_, by simp⟩
  cases w with
  | none => simp [k93_d_is_want, k93_b_is_want, exs, ev, op2, opd, res, cmpD, wd, isNone]
  | some v =>
    have c := (is_within_ok (nd v) 0 999).on (hΦ 8 (by decide))
    rw [isW_nd (a := 0) (b := 999) (by omega) (by have := h v rfl; omega)] at c
    simp only [List.map_cons, List.map_nil, nd] at c
    simp [k93_d_is_want, k93_b_is_want, exs, ev, op2, opd, res, rdv, cmpD, wd, isNone, argSl, musOf, nodupB, wbk, c]
theorem is_user_ok (hu : Vu G u) (hG : G ≤ 4) : Gv 11 [ud u, nd G] (.bool true) := by
  refine gv (d := k93_d_is_user) rfl rfl fun Φ hΦ => ⟨[.sh (ud u), .sh (nd G)], ?_, by simp⟩
  have c1 := (tuple_of_ok (nd u.w) (.tuple (u.ns.map nd)) (wd u.want)).on (hΦ 5 (by decide))
  have c2 := (is_within_ok (nd u.w) 1 9).on (hΦ 8 (by decide))
  rw [isW_nd (a := 1) (b := 9) (by have := hu.w0; omega) (by have := hu.w1; omega)] at c2
  have c3 := (needs_ok hu hG).on (hΦ 9 (by decide))
  have c4 := (isw_ok hu.want).on (hΦ 10 (by decide))
  simp only [List.map_cons, List.map_nil] at c1 c2 c3 c4
  unfold ud
  simp [k93_d_is_user, k93_b_is_user, exs, ev, op1, op2, opT, opd, res, rdv, truth, idxD, atI, ixN, tst, argSl, musOf, nodupB, wbk, c1, c2, c3, c4]
theorem goods_ok (p : Ps us ts) : Gv 6 [usD us] (nd ts.length) := by
  obtain ⟨u, r, rfl⟩ := us_cons p
  refine gv (d := k93_d_goods_of) rfl rfl fun Φ hΦ => ⟨[.sh (usD (u :: r))], ?_, by simp⟩
  have c1 := (tuple_of_ok (nd u.w) (.tuple (u.ns.map nd)) (wd u.want)).on (hΦ 5 (by decide))
  simp only [List.map_cons, List.map_nil, nd] at c1
  have hl := (p.ok u List.mem_cons_self).len
  have h0 : eqD (.int ((r.length : Int) + 1)) (.int 0) = some false := by
    show some (decide ((r.length : Int) + 1 = 0)) = _
    rw [decide_eq_false (by omega)]
  unfold usD ud
  simp [k93_d_goods_of, k93_b_goods_of, exs, ev, op1, op2, opT, opd, res, rdv, truth, idxD, atI, ixN, tst, argSl, musOf, nodupB, wbk, c1, isaAny, isaD, cmpD, b1D, h0, hl, nd]
theorem are_users_ok (p : Ps us ts) : Gv 12 [usD us] (.bool true) := by
  refine gv (d := k93_d_are_users) rfl rfl fun Φ hΦ => ⟨[.sh (usD us), .sh (nd ts.length), .un], ?_, by simp⟩
  have c1 := (goods_ok p).on (hΦ 6 (by decide))
  simp only [List.map_cons, List.map_nil] at c1
  have g0 := p.vt.l0
  have g1 := p.vt.l1
  have l1 := p.l1
  refine exs_nx (e1 := [.sh (usD us), .sh (nd ts.length), .un]) ?_ (exs_nx (e1 := [.sh (usD us), .sh (nd ts.length), .un]) ?_ ?_)
  · simp [k93_d_are_users, exs, ev, rdv, argSl, musOf, nodupB, wbk, c1, tgOk, tgIxs, putOk, bindT]
  · have e0 : (1 : Int) ≤ (ts.length : Int) := by omega
    have e1 : (ts.length : Int) ≤ 4 := by omega
    have e2 : ¬ (6 < (us.length : Int)) := by omega
    have e3 : b1D .len (usD us) = some (.int (us.length : Nat)) := by
      show some (PyData.int ((us.map ud).length : Nat)) = _
      rw [List.length_map]
    have e4 : ¬ (6 < us.length) := by omega
    have e5 : 1 ≤ ts.length := g0
    have e6 : ts.length ≤ 4 := g1
    simp [exs, ev, op1, op2, opT, opd, res, rdv, truth, tst, cmpD, nd, e0, e1, e2, e3, e4, e5, e6]
  · have e1 : ev Φ (.lc [("one", 2)] (.nm 2) .walk (.var 0) .noe .noe (.call 11 (.cons (.var 2) (.cons (.var 1) .nil)))) [.sh (usD us), .sh (nd ts.length), .un] = some (.list (us.map fun _ => PyData.bool true), [.sh (usD us), .sh (nd ts.length), .un]) := by
      refine (ev_lcP ud (fun _ => true) (fun _ => PyData.bool true) us rfl rfl rfl (fun u hu => ?_) (sz (by omega))).trans (by rw [all_true])
      have c := (is_user_ok (p.ok u hu) g1).on (hΦ 11 (by decide))
      simp only [List.map_cons, List.map_nil] at c
      refine ⟨[.sh (usD us), .sh (nd ts.length), .sh (ud u)], rfl, rfl, fun _ => ?_, rfl⟩
      simp [ev, rdv, argSl, musOf, nodupB, wbk, c]
    have k1 : (us.all fun _ => true) = true := by simp
    have h3 := ev_b1 (b := .all) (by intro i q; cases q) e1 (all_bools _ _)
    rw [k1] at h3
    rw [exs.eq_def]
    simp only [exs, h3]
theorem totals_ok (p : Ps us ts) : Gv 14 [usD us, tsD ts] (.bool true) := by
  refine gv (d := k93_d_totals_are_right) rfl rfl fun Φ hΦ => ⟨[.sh (usD us), .sh (tsD ts), .un], ?_, by simp⟩
  have g1 := p.vt.l1
  refine exs_nx (e1 := [.sh (usD us), .sh (tsD ts), .un]) ?_ ?_
  · obtain ⟨u, r, rfl⟩ := us_cons p
    have hl := (p.ok u List.mem_cons_self).len
    unfold usD tsD ud
    simp [k93_d_totals_are_right, exs, ev, op1, op2, opT, opd, res, rdv, truth, idxD, atI, ixN, tst, isaAny, isaD, cmpD, eqD, b1D, hl]
  · have e1 : ev Φ (.lc [("one", 2)] (.nm 2) .walk (.var 1) .noe .noe (.call 8 (.cons (.var 2) (.cons (.cst (.int 1)) (.cons (.glo "MOST_TOTAL" (.int 9999)) .nil))))) [.sh (usD us), .sh (tsD ts), .un] = some (.list (ts.map fun n => PyData.bool true), [.sh (usD us), .sh (tsD ts), .un]) := by
      refine (ev_lcP nd (fun _ => true) (fun _ => PyData.bool true) ts rfl rfl rfl (fun n hn => ?_) (sz (by omega))).trans (by rw [all_true])
      have c := (is_within_ok (nd n) 1 9999).on (hΦ 8 (by decide))
      rw [isW_nd (a := 1) (b := 9999) (by have := (p.vt.le n hn).1; omega) (by have := (p.vt.le n hn).2; omega)] at c
      simp only [List.map_cons, List.map_nil] at c
      refine ⟨[.sh (usD us), .sh (tsD ts), .sh (nd n)], rfl, rfl, fun _ => ?_, rfl⟩
      simp [ev, rdv, argSl, musOf, nodupB, wbk, c]
    have k1 : (ts.all fun _ => true) = true := by simp
    have h3 := ev_b1 (b := .all) (by intro i q; cases q) e1 (all_bools _ _)
    rw [k1] at h3
    rw [exs.eq_def]
    simp only [exs, h3]
theorem want_users_ok (p : Ps us ts) : Gv 13 [usD us] .none := by
  refine gvn (d := k93_d_want_users) rfl rfl fun Φ hΦ => ⟨[.sh (usD us)], ?_, by simp⟩
  have c := (are_users_ok p).on (hΦ 12 (by decide))
  simp only [List.map_cons, List.map_nil] at c
  simp [k93_d_want_users, k93_b_want_users, exs, ev, op1, opT, opd, res, rdv, truth, tst, argSl, musOf, nodupB, wbk, c]
theorem want_both_ok (p : Ps us ts) : Gv 15 [usD us, tsD ts] .none := by
  refine gvn (d := k93_d_want_both) rfl rfl fun Φ hΦ => ⟨[.sh (usD us), .sh (tsD ts)], ?_, by simp⟩
  have c1 := (want_users_ok p).on (hΦ 13 (by decide))
  have c2 := (totals_ok p).on (hΦ 14 (by decide))
  simp only [List.map_cons, List.map_nil] at c1 c2
  simp [k93_d_want_both, k93_b_want_both, exs, ev, op1, opT, opd, res, rdv, truth, tst, argSl, musOf, nodupB, wbk, c1, c2]
theorem want_user_ok {i : Nat} (hi : i < us.length) : Gv 31 [usD us, nd i] .none := by
  refine gvn (d := k93_d_want_user_shares) rfl rfl fun Φ hΦ => ⟨[.sh (usD us), .sh (nd i)], ?_, by simp⟩
  have c1 := (is_count_ok (nd i)).on (hΦ 30 (by decide))
  have e3 : b1D .len (usD us) = some (.int (us.length : Nat)) := by
    show some (PyData.int ((us.map ud).length : Nat)) = _
    rw [List.length_map]
  have e4 : ¬ us.length ≤ i := by omega
  simp [isC, nd] at c1
  simp [k93_d_want_user_shares, k93_b_want_user_shares, exs, ev, op1, op2, opT, opd, res, rdv, truth, tst, argSl, musOf, nodupB, wbk, c1, nd, e3, cmpD, e4]
theorem want_needs_ok (p : Ps us ts) {v : U} (hv : Vu ts.length v) : Gv 32 [usD us, .tuple (v.ns.map nd)] .none := by
  refine gvn (d := k93_d_want_needs) rfl rfl fun Φ hΦ => ⟨[.sh (usD us), .sh (.tuple (v.ns.map nd))], ?_, by simp⟩
  have c1 := (needs_ok hv p.vt.l1).on (hΦ 9 (by decide))
  obtain ⟨u, r, rfl⟩ := us_cons p
  have hl := (p.ok u List.mem_cons_self).len
  simp only [List.map_cons, List.map_nil, nd] at c1
  unfold usD ud
  simp [k93_d_want_needs, k93_b_want_needs, exs, ev, op1, op2, opT, opd, res, rdv, truth, idxD, atI, ixN, tst, argSl, musOf, nodupB, wbk, b1D, hl, nd, c1]
end
section
theorem draw_ok {P : List D} (hP : Pot P) (m : Int) (h1 : 1 ≤ m) (h2 : m ≤ 10000) : ∃ (d : Nat) (P' : List D), T 1 [.own false P, .sh (.int m)] = some (nd d, [.own false P', .sh (.int m)]) ∧ (d : Int) < m ∧ Pot P' := by
  obtain ⟨a, b, rfl, ha, hb, hb2⟩ := hP
  by_cases h0 : 0 < a
  · have k1 := Int.emod_nonneg a (show m ≠ 0 by omega)
    have k2 := Int.emod_lt_of_pos a (show 0 < m by omega)
    have k3 : 0 ≤ a / m := Int.ediv_nonneg ha (by omega)
    obtain ⟨n, e1, e2⟩ := nd_of k1
    refine ⟨n, [.int (a / m), .int b], ?_, by omega, a / m, b, rfl, k3, hb, hb2⟩
    refine gv2 (d := k93_d__law_draw) rfl rfl fun Φ hΦ => ⟨[.own false [.int (a / m), .int b], .sh (.int m), .sh (nd n)], ?_, rfl⟩
    rw [← e1]
    simp [k93_d__law_draw, k93_b__law_draw, exs, tst, opT, opd, ev, op2, res, rdv, idxD, atI, ixN, cmpD, truth, h0, dvm_small h1 h2, ownAt, setAt, putOk]
  · have e0 : a = 0 := by omega
    subst e0
    have c1 := Int.emod_nonneg (b * 39373 + 337) (show (2147483587 : Int) ≠ 0 by decide)
    have c2 := Int.emod_lt_of_pos (b * 39373 + 337) (show (0 : Int) < 2147483587 by decide)
    have mb : ∀ {x : Int}, 0 ≤ x → x < 2 ^ 31 → x.natAbs < 2 ^ 31 := fun h h' => by omega
    have m1 : mulOk b 39373 = true := mul_ok (k := 31) (l := 16) (mb hb hb2) (by decide)
    have m2 : mulOk ((b * 39373 + 337) % 2147483587) ((b * 39373 + 337) % 2147483587) = true := mul_ok (k := 31) (l := 31) (mb c1 (by omega)) (mb c1 (by omega))
    have d1 : divOk 19 = true := by decide
    have g1 := Int.emod_nonneg (((b * 39373 + 337) % 2147483587 * ((b * 39373 + 337) % 2147483587)) % 2147483563 / 19) (show m ≠ 0 by omega)
    have g2 := Int.emod_lt_of_pos (((b * 39373 + 337) % 2147483587 * ((b * 39373 + 337) % 2147483587)) % 2147483563 / 19) (show 0 < m by omega)
    obtain ⟨n, e1, e2⟩ := nd_of g1
    refine ⟨n, [.int 0, .int ((b * 39373 + 337) % 2147483587)], ?_, by omega, 0, _, rfl, by omega, c1, by omega⟩
    refine gv2 (d := k93_d__law_draw) rfl rfl fun Φ hΦ => ⟨[.own false [.int 0, .int ((b * 39373 + 337) % 2147483587)], .sh (.int m), .un], ?_, rfl⟩
    rw [← e1]
    have hm : 0 < m := by omega
    simp [k93_d__law_draw, k93_b__law_draw, exs, tst, opT, opd, ev, op1, op2, res, rdv, idxD, atI, ixN, cmpD, truth, ownAt, setAt, putOk, binD, addD, mulD, m1, m2, d1, b1D, hm]
theorem pick_ok {P : List D} (hP : Pot P) (b : Bool) (xs : List D) (h1 : 1 ≤ xs.length) (h2 : xs.length ≤ 10000) : ∃ (x : D) (P' : List D), T 2 [.own false P, .sh (seqD b xs)] = some (x, [.own false P', .sh (seqD b xs)]) ∧ x ∈ xs ∧ Pot P' := by
  obtain ⟨d, P', e, hd, hP'⟩ := draw_ok hP xs.length (by omega) (by omega)
  have hd : d < xs.length := by omega
  refine ⟨xs[d], P', ?_, List.getElem_mem hd, hP'⟩
  refine gv2 (d := k93_d__law_pick) rfl rfl fun Φ hΦ => ⟨[.own false P', .sh (seqD b xs)], ?_, rfl⟩
  rw [← hΦ 1 (by decide)] at e
  have hl : b1D .len (seqD b xs) = some (.int (xs.length : Nat)) := by cases b <;> rfl
  have hi : idxD (seqD b xs) (nd d) = some xs[d] := idx_seqD (List.getElem?_eq_getElem hd)
  simp [k93_d__law_pick, k93_b__law_pick, exs, ev, op1, op2, opd, res, argSl, musOf, nodupB, wbk, hl, e, hi]
end
end Iv
end
section
set_option Elab.async false
set_option linter.all false
set_option maxRecDepth 100000
set_option maxHeartbeats 4000000
/-! Pieces one by one: what the row comes to; nobody envies by a piece. -/
namespace Iv
open PySem PySem.Spec L2
def lev (us : List U) (ts : List Nat) (c : List Nat) (i : Nat) : Rat := (c.getD i 0 : Rat) * hgtM (us.getD i U0) ts
def fits (u : U) (l : List Nat) : Bool := (u.ns.zip l).all fun p => decide (p.1 ≤ p.2)
def can (u : U) (k : Nat) (l : List Nat) : Bool := (match u.want with | none => true | some w => decide (k < w)) && fits u l
def nstep (us : List U) (ts c l : List Nat) (b : Option Nat) (i : Nat) : Option Nat :=
  if can (us.getD i U0) (c.getD i 0) l then (match b with
    | none => some i
    | some j => if lev us ts c i < lev us ts c j then some i else some j) else b
def nxt (us : List U) (ts c l : List Nat) : Option Nat := (List.range us.length).foldl (nstep us ts c l) none
def less (u : U) (l : List Nat) : List Nat := (l.zip u.ns).map fun p => p.1 - p.2
def iter (us : List U) (ts : List Nat) : Nat → List Nat → List Nat → List Nat
  | 0, c, _ => c
  | n + 1, c, l => match nxt us ts c l with
    | none => c
    | some i => iter us ts n (c.set i (c.getD i 0 + 1)) (less (us.getD i U0) l)
def pcs (us : List U) (ts : List Nat) : List Nat := iter us ts 4000 (List.replicate us.length 0) ts
theorem iter_none {us : List U} {ts c l : List Nat} {n : Nat} (h : nxt us ts c l = none) : iter us ts (n + 1) c l = c := by
  rw [iter, h]
theorem iter_some {us : List U} {ts c l : List Nat} {n i : Nat} (h : nxt us ts c l = some i) : iter us ts (n + 1) c l = iter us ts n (c.set i (c.getD i 0 + 1)) (less (us.getD i U0) l) := by
  rw [iter, h]
/-- what the choice comes to -/
theorem nxt_gen (us : List U) (ts c l : List Nat) : ∀ (k : Nat), (match (List.range k).foldl (nstep us ts c l) none with
    | none => ∀ j, j < k → can (us.getD j U0) (c.getD j 0) l = false
    | some i => i < k ∧ can (us.getD i U0) (c.getD i 0) l = true ∧ ∀ j, j < k → can (us.getD j U0) (c.getD j 0) l = true → lev us ts c i ≤ lev us ts c j)
  | 0 => fun j h => by omega
  | k + 1 => by
    have ih := nxt_gen us ts c l k
    rw [List.range_succ, List.foldl_append, List.foldl_cons, List.foldl_nil]
    generalize (List.range k).foldl (nstep us ts c l) none = b at ih
    unfold nstep
    cases hc : can (us.getD k U0) (c.getD k 0) l with
    | false =>
      simp only [Bool.false_eq_true, if_false]
      cases b with
      | none =>
        intro j hj
        by_cases e : j = k
        · subst e; exact hc
        · exact ih j (by omega)
      | some i =>
        obtain ⟨h1, h2, h3⟩ := ih
        refine ⟨by omega, h2, fun j hj hcj => ?_⟩
        by_cases e : j = k
        · subst e; rw [hc] at hcj; cases hcj
        · exact h3 j (by omega) hcj
    | true =>
      simp only [if_true]
      cases b with
      | none =>
        refine ⟨by omega, hc, fun j hj hcj => ?_⟩
        by_cases e : j = k
        · subst e; exact Rat.le_refl
        · have := ih j (by omega)
          rw [this] at hcj; cases hcj
      | some i =>
        obtain ⟨h1, h2, h3⟩ := ih
        by_cases q : lev us ts c k < lev us ts c i
        · simp only [q, if_true]
          refine ⟨by omega, hc, fun j hj hcj => ?_⟩
          by_cases e : j = k
          · subst e; exact Rat.le_refl
          · have := h3 j (by omega) hcj
            grind
        · simp only [q, if_false]
          refine ⟨by omega, h2, fun j hj hcj => ?_⟩
          by_cases e : j = k
          · subst e; grind
          · exact h3 j (by omega) hcj
theorem nxt_none {us : List U} {ts c l : List Nat} (h : nxt us ts c l = none) : ∀ j, j < us.length → can (us.getD j U0) (c.getD j 0) l = false := by
  have := nxt_gen us ts c l us.length
  unfold nxt at h
  rw [h] at this
  exact this
theorem nxt_some {us : List U} {ts c l : List Nat} {i : Nat} (h : nxt us ts c l = some i) : i < us.length ∧ can (us.getD i U0) (c.getD i 0) l = true ∧ ∀ j, j < us.length → can (us.getD j U0) (c.getD j 0) l = true → lev us ts c i ≤ lev us ts c j := by
  have := nxt_gen us ts c l us.length
  unfold nxt at h
  rw [h] at this
  exact this
/-- all that is there falls by what is taken -/
theorem less_sum : ∀ (ns l : List Nat), ns.length = l.length → (∀ p ∈ ns.zip l, p.1 ≤ p.2) → ((l.zip ns).map fun p => p.1 - p.2).sum + ns.sum = l.sum
  | [], [], _, _ => rfl
  | n :: ns, x :: l, hl, h => by
    have ih := less_sum ns l (by simpa using hl) fun p hp => h p (List.mem_cons_of_mem _ hp)
    have h1 := h (n, x) List.mem_cons_self
    simp only [List.zip_cons_cons, List.map_cons, List.sum_cons]
    simp only at h1
    omega
  | [], _ :: _, h, _ => by simp at h
  | _ :: _, [], h, _ => by simp at h
theorem sum_pos : ∀ {ns : List Nat}, (∃ n ∈ ns, 0 < n) → 0 < ns.sum
  | [], ⟨_, h, _⟩ => by cases h
  | a :: ns, ⟨n, h, h0⟩ => by
    rw [List.sum_cons]
    rcases List.mem_cons.mp h with rfl | h
    · omega
    · have := sum_pos ⟨n, h, h0⟩
      omega
theorem less_len {u : U} {l : List Nat} (h : u.ns.length = l.length) : (less u l).length = l.length := by
  unfold less
  rw [List.length_map, List.length_zip]
  omega
theorem can_fits {u : U} {k : Nat} {l : List Nat} (h : can u k l = true) : (∀ p ∈ u.ns.zip l, p.1 ≤ p.2) ∧ ∀ w, u.want = some w → k < w := by
  unfold can at h
  rw [Bool.and_eq_true] at h
  refine ⟨fun p hp => of_decide_eq_true (List.all_eq_true.mp h.2 p hp), fun w hw => ?_⟩
  rw [hw] at h
  exact of_decide_eq_true h.1
theorem less_at {u : U} {l : List Nat} {g : Nat} (h : u.ns.length = l.length) (hg : g < l.length) : (less u l).getD g 0 = l.getD g 0 - u.ns.getD g 0 := by
  unfold less
  have e : (l.zip u.ns)[g]? = some (l.getD g 0, u.ns.getD g 0) := List.getElem?_zip_eq_some.mpr ⟨at_lt hg 0, at_lt (by omega) 0⟩
  rw [List.getD_eq_getElem?_getD, List.getElem?_map, e]
  rfl
theorem sum_set : ∀ (c : List Nat) (i : Nat), i < c.length → (c.set i (c.getD i 0 + 1)).sum = c.sum + 1
  | x :: c, 0, _ => by simp; omega
  | x :: c, i + 1, h => by
    have := sum_set c i (by simpa using h)
    simp only [List.set_cons_succ, List.sum_cons, List.getD_cons_succ]
    omega
/-- what holds of a state of the row -/
structure St1 (us : List U) (ts c l : List Nat) : Prop where
  cl : c.length = us.length
  ll : l.length = ts.length
  sm : c.sum + l.sum ≤ ts.sum
theorem St1.step {us : List U} {ts c l : List Nat} (p : Ps us ts) (s : St1 us ts c l) {i : Nat} (h : nxt us ts c l = some i) : St1 us ts (c.set i (c.getD i 0 + 1)) (less (us.getD i U0) l) ∧ (less (us.getD i U0) l).sum < l.sum := by
  obtain ⟨h1, h2, _⟩ := nxt_some h
  have hu := p.ok _ (getD_mem (d := U0) h1)
  have e1 := less_sum _ l (by rw [hu.len, s.ll]) (can_fits h2).1
  have e2 := sum_pos hu.ex
  have e3 := sum_set c i (by rw [s.cl]; exact h1)
  have e4 : (less (us.getD i U0) l).sum + (us.getD i U0).ns.sum = l.sum := e1
  have sm := s.sm
  refine ⟨⟨by rw [List.length_set, s.cl], by rw [less_len (by rw [hu.len, s.ll]), s.ll], ?_⟩, by omega⟩
  rw [e3]
  omega
theorem St1.start {us : List U} {ts : List Nat} : St1 us ts (List.replicate us.length 0) ts := ⟨by rw [List.length_replicate], rfl, by rw [List.sum_replicate_nat]; omega⟩
/-- whatever holds at the begin and stays holds at the end, where nobody can go on -/
theorem iter_inv {us : List U} {ts : List Nat} (p : Ps us ts) (I : List Nat → List Nat → Prop) (hs : ∀ c l i, St1 us ts c l → I c l → nxt us ts c l = some i → I (c.set i (c.getD i 0 + 1)) (less (us.getD i U0) l)) : ∀ (n : Nat) (c l : List Nat), St1 us ts c l → I c l → l.sum ≤ n → ∃ l', St1 us ts (iter us ts n c l) l' ∧ I (iter us ts n c l) l' ∧ nxt us ts (iter us ts n c l) l' = none
  | 0, c, l, s, h, hn => by
    refine ⟨l, s, h, ?_⟩
    cases q : nxt us ts c l with
    | none => exact q
    | some i =>
      have := (s.step p q).2
      omega
  | n + 1, c, l, s, h, hn => by
    cases q : nxt us ts c l with
    | none =>
      rw [iter_none q]
      exact ⟨l, s, h, q⟩
    | some i =>
      obtain ⟨s', lt⟩ := s.step p q
      rw [iter_some q]
      exact iter_inv p I hs n _ _ s' (hs c l i s h q) (by omega)
end Iv
end
section
set_option Elab.async false
set_option linter.all false
set_option maxRecDepth 100000
set_option maxHeartbeats 4000000
/-! Nobody envies by a piece. -/
namespace Iv
open PySem PySem.Spec L2
def mkl (u : U) (gs : List Nat) : List Nat := ((gs.zip u.ns).filter fun p => decide (0 < p.2)).map fun p => p.1 / p.2
def minL : List Nat → Nat
  | [] => 0
  | x :: xs => xs.foldl min x
def mkN (u : U) (gs : List Nat) : Nat := minL (mkl u gs ++ u.want.toList)
theorem foldl_min : ∀ (xs : List Nat) (x : Nat), xs.foldl min x ≤ x ∧ ∀ y ∈ xs, xs.foldl min x ≤ y
  | [], x => ⟨Nat.le_refl _, fun y h => by cases h⟩
  | a :: xs, x => by
    obtain ⟨h1, h2⟩ := foldl_min xs (min x a)
    rw [List.foldl_cons]
    refine ⟨by omega, fun y hy => ?_⟩
    rcases List.mem_cons.mp hy with rfl | hy
    · omega
    · exact h2 y hy
theorem minL_le {xs : List Nat} {y : Nat} (h : y ∈ xs) : minL xs ≤ y := by
  cases xs with
  | nil => cases h
  | cons x xs =>
    obtain ⟨h1, h2⟩ := foldl_min xs x
    rcases List.mem_cons.mp h with rfl | h
    · exact h1
    · exact h2 y h
theorem mkN_want {u : U} {gs : List Nat} {w : Nat} (h : u.want = some w) : mkN u gs ≤ w := minL_le (List.mem_append_right _ (by rw [h]; simp))
theorem mkN_good {u : U} {gs : List Nat} {g a n : Nat} (h1 : gs[g]? = some a) (h2 : u.ns[g]? = some n) (h0 : 0 < n) : mkN u gs * n ≤ a := by
  have hm : a / n ∈ mkl u gs := by
    unfold mkl
    refine List.mem_map.mpr ⟨(a, n), List.mem_filter.mpr ⟨List.mem_of_getElem? (List.getElem?_zip_eq_some.mpr ⟨h1, h2⟩), decide_eq_true h0⟩, rfl⟩
  have := minL_le (List.mem_append_left u.want.toList hm)
  have k : mkN u gs ≤ a / n := this
  exact Nat.le_trans (Nat.mul_le_mul_right n k) (Nat.div_mul_le_self a n)
def envN (us : List U) (c : List Nat) (a b : Nat) : Nat := mkN (us.getD a U0) ((us.getD b U0).ns.map fun n => (c.getD b 0 - 1) * n)
/-- the arithmetic of it -/
theorem ef1_arith {c y m ng og ns os : Nat} (hs : 0 < ns) (h1 : (c + 1) * ns ≤ (y + m) * os) (h2 : (c + 1) * ng ≤ (y + m) * og) (h3 : y * os ≤ c * ns) (h4 : m * og < ng) : False := by
  rw [Nat.add_mul, Nat.add_mul] at h1 h2
  rw [Nat.one_mul] at h1 h2
  have k1 : ns ≤ m * os := by omega
  have k2 : c * ng < y * og := by omega
  have a1 : c * ng * ns < y * og * ns := (Nat.mul_lt_mul_right hs).mpr k2
  have a2 : y * os * ng ≤ c * ns * ng := Nat.mul_le_mul_right ng h3
  have e1 : c * ng * ns = c * ns * ng := by rw [Nat.mul_assoc, Nat.mul_comm ng ns, ← Nat.mul_assoc]
  have a3 : y * (os * ng) < y * (og * ns) := by
    rw [← Nat.mul_assoc, ← Nat.mul_assoc]
    omega
  have a4 := Nat.lt_of_mul_lt_mul_left a3
  have b1 : m * og * ns < ng * ns := (Nat.mul_lt_mul_right hs).mpr h4
  have b2 : ng * ns ≤ ng * (m * os) := Nat.mul_le_mul_left ng k1
  have e2 : ng * (m * os) = m * (os * ng) := by rw [Nat.mul_comm ng, Nat.mul_assoc]
  have b3 : m * (og * ns) < m * (os * ng) := by
    rw [← Nat.mul_assoc]
    omega
  have b4 := Nat.lt_of_mul_lt_mul_left b3
  omega
section
variable {us : List U} {ts : List Nat}
/-- what holds all the way of two users -/
def Ef (us : List U) (ts : List Nat) (a b : Nat) (c l : List Nat) : Prop :=
  (∃ w, (us.getD a U0).want = some w ∧ w ≤ c.getD a 0) ∨
  ∃ x m, c.getD b 0 = x + m ∧ (x = 0 ∨ ∃ y, x = y + 1 ∧ (y : Rat) * hgtM (us.getD b U0) ts ≤ (c.getD a 0 : Rat) * hgtM (us.getD a U0) ts) ∧
    (m = 0 ∨ ∃ g, g < ts.length ∧ m * (us.getD b U0).ns.getD g 0 + l.getD g 0 < (us.getD a U0).ns.getD g 0)
theorem getD_set {c : List Nat} {i j v : Nat} (hi : i < c.length) : (c.set i v).getD j 0 = if i = j then v else c.getD j 0 := by
  rw [List.getD_eq_getElem?_getD, List.getElem?_set]
  by_cases h : i = j
  · subst h
    simp [hi]
  · simp [h, List.getD_eq_getElem?_getD]
theorem not_fits {u : U} {l : List Nat} (hl : u.ns.length = l.length) (h : fits u l = false) : ∃ g, g < l.length ∧ l.getD g 0 < u.ns.getD g 0 := by
  unfold fits at h
  obtain ⟨p, hp, hlt⟩ := List.all_eq_false.mp h
  obtain ⟨g, hg⟩ := List.mem_iff_getElem?.mp hp
  obtain ⟨h1, h2⟩ := List.getElem?_zip_eq_some.mp hg
  refine ⟨g, (List.getElem?_eq_some_iff.mp h2).1, ?_⟩
  rw [getD_of h1, getD_of h2]
  simp at hlt
  omega
theorem fits_at {u : U} {l : List Nat} {g : Nat} (hl : u.ns.length = l.length) (hg : g < l.length) (h : ∀ p ∈ u.ns.zip l, p.1 ≤ p.2) : u.ns.getD g 0 ≤ l.getD g 0 :=
  h (u.ns.getD g 0, l.getD g 0) (List.mem_of_getElem? (List.getElem?_zip_eq_some.mpr ⟨at_lt (by omega) 0, at_lt hg 0⟩))
theorem ef_step (p : Ps us ts) {a b : Nat} (ha : a < us.length) (hb : b < us.length) (hab : a ≠ b) {c l : List Nat} {i : Nat} (s : St1 us ts c l) (I : Ef us ts a b c l) (h : nxt us ts c l = some i) : Ef us ts a b (c.set i (c.getD i 0 + 1)) (less (us.getD i U0) l) := by
  obtain ⟨h1, h2, h3⟩ := nxt_some h
  obtain ⟨h4, h5⟩ := can_fits h2
  have hcl : i < c.length := by rw [s.cl]; exact h1
  have hui := p.ok _ (getD_mem (d := U0) h1)
  have hua := p.ok _ (getD_mem (d := U0) ha)
  have lat : ∀ g, g < ts.length → (less (us.getD i U0) l).getD g 0 = l.getD g 0 - (us.getD i U0).ns.getD g 0 := fun g hg => less_at (by rw [hui.len, s.ll]) (by rw [s.ll]; exact hg)
  have fit : ∀ g, g < ts.length → (us.getD i U0).ns.getD g 0 ≤ l.getD g 0 := fun g hg => fits_at (by rw [hui.len, s.ll]) (by rw [s.ll]; exact hg) h4
  unfold Ef
  rw [getD_set hcl, getD_set hcl]
  by_cases ia : i = a
  · subst ia
    rw [if_pos rfl, if_neg hab]
    rcases I with ⟨w, w1, w2⟩ | ⟨x, m, e1, e2, e3⟩
    · have := h5 w w1
      omega
    · refine .inr ⟨x, m, e1, ?_, ?_⟩
      · rcases e2 with e2 | ⟨y, e2, e4⟩
        · exact .inl e2
        · refine .inr ⟨y, e2, ?_⟩
          have hp := hgtM_pos hui p.vt
          have e5 : ((c.getD i 0 + 1 : Nat) : Rat) = (c.getD i 0 : Rat) + 1 := by simp
          rw [e5]
          grind
      · rcases e3 with e3 | ⟨g, g1, g2⟩
        · exact .inl e3
        · have := fit g g1
          omega
  · rw [if_neg ia]
    by_cases ib : i = b
    · subst ib
      rw [if_pos rfl]
      rcases I with ⟨w, w1, w2⟩ | ⟨x, m, e1, e2, e3⟩
      · exact .inl ⟨w, w1, w2⟩
      · cases hc : can (us.getD a U0) (c.getD a 0) l with
        | true =>
          have := h3 a ha hc
          exact .inr ⟨c.getD i 0 + 1, 0, rfl, .inr ⟨_, rfl, this⟩, .inl rfl⟩
        | false =>
          unfold can at hc
          rw [Bool.and_eq_false_iff] at hc
          rcases hc with hc | hc
          · cases hw : (us.getD a U0).want with
            | none => rw [hw] at hc; cases hc
            | some w =>
              rw [hw] at hc
              exact .inl ⟨w, rfl, Nat.le_of_not_lt (of_decide_eq_false hc)⟩
          · refine .inr ⟨x, m + 1, by omega, e2, .inr ?_⟩
            rcases e3 with e3 | ⟨g, g1, g2⟩
            · subst e3
              obtain ⟨g, g1, g2⟩ := not_fits (by rw [hua.len, s.ll]) hc
              rw [s.ll] at g1
              have := fit g g1
              exact ⟨g, g1, by rw [lat g g1]; omega⟩
            · have := fit g g1
              refine ⟨g, g1, ?_⟩
              rw [lat g g1, Nat.add_mul]
              omega
    · rw [if_neg ib]
      rcases I with I | ⟨x, m, e1, e2, e3⟩
      · exact .inl I
      · refine .inr ⟨x, m, e1, e2, ?_⟩
        rcases e3 with e3 | ⟨g, g1, g2⟩
        · exact .inl e3
        · exact .inr ⟨g, g1, by rw [lat g g1]; omega⟩
/-- the level of a user by its greatest good -/
theorem top_good (p : Ps us ts) {a b : Nat} (ha : a < us.length) (hb : b < us.length) : ∃ (g : Nat) (n o : Nat) (t : Nat), g < ts.length ∧ (us.getD a U0).ns[g]? = some n ∧ (us.getD b U0).ns[g]? = some o ∧ 0 < n ∧ 0 < t ∧ hgtM (us.getD a U0) ts = (n : Rat) / (t : Rat) ∧ (o : Rat) / (t : Rat) ≤ hgtM (us.getD b U0) ts := by
  have hua := p.ok _ (getD_mem (d := U0) ha)
  have hub := p.ok _ (getD_mem (d := U0) hb)
  obtain ⟨n, t, m1, n1, _, t1, _, e⟩ := hgtM_at hua p.vt
  obtain ⟨g, hg⟩ := List.mem_iff_getElem?.mp m1
  obtain ⟨k1, k2⟩ := List.getElem?_zip_eq_some.mp hg
  have lg := (List.getElem?_eq_some_iff.mp k2).1
  refine ⟨g, n, (us.getD b U0).ns.getD g 0, t, lg, k1, at_lt (by rw [hub.len]; exact lg) 0, n1, t1, e, ?_⟩
  refine (hgtM_spec hub p.vt).2 _ (List.mem_map.mpr ⟨((us.getD b U0).ns.getD g 0, t), List.mem_of_getElem? (List.getElem?_zip_eq_some.mpr ⟨at_lt (by rw [hub.len]; exact lg) 0, k2⟩), rfl⟩)
theorem lev_nat {y o c n t : Nat} {h : Rat} (ht : 0 < t) (h1 : (o : Rat) / (t : Rat) ≤ h) (h2 : (y : Rat) * h ≤ (c : Rat) * ((n : Rat) / (t : Rat))) : y * o ≤ c * n := by
  have t0 := Fl.cast_pos ht
  have e1 : ((o : Rat) / (t : Rat)) * (t : Rat) = (o : Rat) := by grind
  have e2 : ((n : Rat) / (t : Rat)) * (t : Rat) = (n : Rat) := by grind
  have y0 : (0 : Rat) ≤ (y : Rat) := by exact_mod_cast Nat.zero_le y
  have k1 : (y : Rat) * ((o : Rat) / (t : Rat)) ≤ (y : Rat) * h := mul_le h1 y0
  generalize (o : Rat) / (t : Rat) = z at *
  generalize (n : Rat) / (t : Rat) = v at *
  have k2 : (y : Rat) * z ≤ (c : Rat) * v := Rat.le_trans k1 h2
  have k3 := mul_le k2 (Rat.le_of_lt t0)
  have k4 : (y : Rat) * (o : Rat) ≤ (c : Rat) * (n : Rat) := by
    rw [← e1, ← e2]
    generalize (t : Rat) = T at *
    generalize (y : Rat) = Y at *
    generalize (c : Rat) = C at *
    have f1 : Y * (z * T) = T * (Y * z) := by grind
    have f2 : C * (v * T) = T * (C * v) := by grind
    rw [f1, f2]
    exact k3
  have : ((y * o : Nat) : Rat) ≤ ((c * n : Nat) : Rat) := by
    rw [Rat.natCast_mul, Rat.natCast_mul]; exact k4
  exact_mod_cast this
theorem ef_end (p : Ps us ts) {a b : Nat} (ha : a < us.length) (hb : b < us.length) {c l : List Nat} (I : Ef us ts a b c l) : envN us c a b ≤ c.getD a 0 := by
  rcases I with ⟨w, w1, w2⟩ | ⟨x, m, e1, e2, e3⟩
  · exact Nat.le_trans (mkN_want w1) w2
  · have hua := p.ok _ (getD_mem (d := U0) ha)
    have hub := p.ok _ (getD_mem (d := U0) hb)
    have good : ∀ g n o, (us.getD a U0).ns[g]? = some n → (us.getD b U0).ns[g]? = some o → 0 < n → envN us c a b * n ≤ (c.getD b 0 - 1) * o := fun g n o h1 h2 h0 => mkN_good (by rw [List.getElem?_map, h2]; rfl) h1 h0
    obtain ⟨g, n, o, t, lg, k1, k2, n0, t0, eh, le⟩ := top_good p ha hb
    have G := good g n o k1 k2 n0
    rw [eh] at e2
    generalize envN us c a b = k at G good ⊢
    by_cases hk : k ≤ c.getD a 0
    · exact hk
    · exfalso
      have hk : c.getD a 0 + 1 ≤ k := by omega
      generalize c.getD a 0 = ca at *
      rw [e1] at G good
      have G1 := Nat.le_trans (Nat.mul_le_mul_right n hk) G
      rcases e2 with rfl | ⟨y, rfl, e4⟩
      · rcases e3 with rfl | ⟨g2, l2, lt⟩
        · rw [Nat.zero_add, Nat.zero_sub, Nat.zero_mul, Nat.add_mul] at G1
          omega
        · have j1 := at_lt (show g2 < (us.getD a U0).ns.length by rw [hua.len]; exact l2) 0
          have j2 := at_lt (show g2 < (us.getD b U0).ns.length by rw [hub.len]; exact l2) 0
          have G2 := good g2 _ _ j1 j2 (by omega)
          have G3 := Nat.le_trans (Nat.mul_le_mul_right _ hk) G2
          have G4 : (0 + m - 1) * (us.getD b U0).ns.getD g2 0 ≤ m * (us.getD b U0).ns.getD g2 0 := Nat.mul_le_mul_right _ (by omega)
          rw [Nat.add_mul, Nat.one_mul] at G3
          omega
      · have L := lev_nat t0 le e4
        have ex : y + 1 + m - 1 = y + m := by omega
        rw [ex] at G1 good
        rcases e3 with rfl | ⟨g2, l2, lt⟩
        · rw [Nat.add_mul, Nat.one_mul] at G1
          simp only [Nat.add_zero] at G1
          omega
        · have j1 := at_lt (show g2 < (us.getD a U0).ns.length by rw [hua.len]; exact l2) 0
          have j2 := at_lt (show g2 < (us.getD b U0).ns.length by rw [hub.len]; exact l2) 0
          have G2 := good g2 _ _ j1 j2 (by omega)
          have G3 := Nat.le_trans (Nat.mul_le_mul_right _ hk) G2
          exact ef1_arith n0 G1 G3 L (by omega)
theorem self_envy (p : Ps us ts) {a : Nat} (ha : a < us.length) (c : List Nat) : envN us c a a ≤ c.getD a 0 := by
  obtain ⟨g, n, o, t, lg, k1, k2, n0, t0, eh, le⟩ := top_good p ha ha
  have G : envN us c a a * n ≤ (c.getD a 0 - 1) * n := mkN_good (by rw [List.getElem?_map, k1]; rfl) k1 n0
  have := Nat.le_of_mul_le_mul_right G n0
  omega
theorem no_piece_envy (p : Ps us ts) (hs : ts.sum ≤ 4000) {a b : Nat} (ha : a < us.length) (hb : b < us.length) : envN us (pcs us ts) a b ≤ (pcs us ts).getD a 0 := by
  by_cases hab : a = b
  · subst hab; exact self_envy p ha _
  · obtain ⟨l', _, I, _⟩ := iter_inv p (Ef us ts a b) (fun c l i s I h => ef_step p ha hb hab s I h) 4000 _ _ St1.start
      (.inr ⟨0, 0, by rw [List.getD_eq_getElem?_getD, List.getElem?_replicate]; split <;> rfl, .inl rfl, .inl rfl⟩) hs
    exact ef_end p ha hb I
end
end Iv
end
section
set_option Elab.async false
set_option linter.all false
set_option maxRecDepth 100000
set_option exponentiation.threshold 3000
set_option maxHeartbeats 4000000
namespace Iv
open PySem PySem.Spec L2
theorem mul_ndb (a b : Nat) (ha : a < 2 ^ 600) (hb : b < 2 ^ 600) : binD .mul (nd a) (nd b) = some (nd (a * b)) := by
  have h : mulOk (a : Int) (b : Int) = true := mul_ok (k := 600) (l := 600) (by rw [Int.natAbs_natCast]; exact ha) (by rw [Int.natAbs_natCast]; exact hb)
  show (if mulOk (a : Int) (b : Int) then some (PyData.int ((a : Int) * (b : Int))) else none) = _
  rw [h]
  simp [nd]
theorem lt_nd (a b : Nat) : cmpD .lt (nd a) (nd b) = some (decide (a < b)) := by
  show some (decide ((a : Int) < (b : Int))) = _
  simp
theorem le_nd (a b : Nat) : cmpD .le (nd a) (nd b) = some (decide (a ≤ b)) := by
  show some (decide ((a : Int) ≤ (b : Int))) = _
  simp
theorem ge_nd (a b : Nat) : cmpD .ge (nd a) (nd b) = some (decide (b ≤ a)) := by
  show some (decide ((b : Int) ≤ (a : Int))) = _
  simp
theorem gt_nn (a b : Nat) : cmpD .gt (nd a) (nd b) = some (decide (b < a)) := by
  show some (decide ((b : Int) < (a : Int))) = _
  simp
theorem exs_rt {Φ : Fn} {s b : Sm} {e e1 : Ev} {d : D} (h : exs Φ s e = some (.rt d e1)) : exs Φ (.consB s b) e = some (.rt d e1) := by
  simp only [exs, h]
theorem ix0 (x : D) (r : List D) : idxD (.tuple (x :: r)) (.int 0) = some x := at_nat (i := 0) rfl
theorem ix1 (x y : D) (r : List D) : idxD (.tuple (x :: y :: r)) (.int 1) = some y := at_nat (i := 1) rfl
theorem ix2 (x y z : D) (r : List D) : idxD (.tuple (x :: y :: z :: r)) (.int 2) = some z := at_nat (i := 2) rfl
theorem ix3 (x y z w : D) (r : List D) : idxD (.tuple (x :: y :: z :: w :: r)) (.int 3) = some w := at_nat (i := 3) rfl
theorem below_ok {a b c d : Nat} (ha : a < 2 ^ 600) (hb : b < 2 ^ 600) (hc : c < 2 ^ 600) (hd : d < 2 ^ 600) : Gv 18 [pr2 (a, b), pr2 (c, d)] (.bool (decide (a * d < c * b))) := by
  refine gv (d := k93_d_is_below) rfl rfl fun Φ hΦ => ⟨[.sh (pr2 (a, b)), .sh (pr2 (c, d))], ?_, by simp⟩
  have b1 := mul_ndb a d ha hd
  have b2 := mul_ndb c b hc hb
  have l1 := lt_nd (a * d) (c * b)
  unfold pr2
  simp [k93_d_is_below, k93_b_is_below, exs, ev, op2, opd, res, ix0, ix1, b1, b2, l1]
section
variable {us : List U} {ts c l : List Nat} {u : U}
theorem walk_zip' (a b : List Nat) : walkD .zip (.tuple (a.map nd)) (ixD b) = some ((a.zip b).map pr2) := walk_zip a b
theorem walk_zip'' (a b : List Nat) : walkD .zip (ixD a) (.tuple (b.map nd)) = some ((a.zip b).map pr2) := walk_zip a b
theorem walk_zipl (a b : List Nat) : walkD .zip (ixD a) (ixD b) = some ((a.zip b).map pr2) := walk_zip a b
theorem can_ok (hl : u.ns.length ≤ 100) (k : Nat) : Gv 17 [ud u, nd k, ixD l] (.bool (can u k l)) := by
  refine gv (d := k93_d_can_go_on) rfl rfl fun Φ hΦ => ⟨[.sh (ud u), .sh (nd k), .sh (ixD l), .un, .un], ?_, by simp⟩
  have e1 : ev Φ (.lc [("need", 3), ("rest", 4)] (.tp [3, 4]) .zip (.idx (.var 0) (.cst (.int 2))) (.var 2) .noe (.cmp .le (.var 3) (.var 4))) [.sh (ud u), .sh (nd k), .sh (ixD l), .un, .un] = some (.list ((u.ns.zip l).map fun p => PyData.bool (decide (p.1 ≤ p.2))), [.sh (ud u), .sh (nd k), .sh (ixD l), .un, .un]) := by
    refine (ev_lcP pr2 (fun _ => true) (fun p => PyData.bool (decide (p.1 ≤ p.2))) (u.ns.zip l) (by simp [ev, op2, opd, res, ud, ix2]) rfl (walk_zip' u.ns l) (fun p hp => ?_) (sz (by rw [List.length_zip]; omega))).trans (by rw [all_true])
    refine ⟨[.sh (ud u), .sh (nd k), .sh (ixD l), .sh (nd p.1), .sh (nd p.2)], rfl, rfl, fun _ => ?_, rfl⟩
    simp [ev, op2, opd, res, le_nd]
  have e2 := ev_b1 (b := .all) (by intro i q; cases q) e1 (all_bools _ _)
  have e3 : exs Φ (.consB (.ret (.b1 .all (.lc [("need", 3), ("rest", 4)] (.tp [3, 4]) .zip (.idx (.var 0) (.cst (.int 2))) (.var 2) .noe (.cmp .le (.var 3) (.var 4))))) .nilB) [.sh (ud u), .sh (nd k), .sh (ixD l), .un, .un] = some (.rt (.bool (fits u l)) [.sh (ud u), .sh (nd k), .sh (ixD l), .un, .un]) := exs_ret e2
  have i3 : idxD (ud u) (.int 3) = some (wd u.want) := ix3 _ _ _ _ _
  have hbody : k93_d_can_go_on.body = .consB (.ifs (.and (.cmp .isn (.idx (.var 0) (.cst (.int 3))) (.cst .none)) (.cmp .ge (.var 1) (.idx (.var 0) (.cst (.int 3))))) (.consB (.ret (.cst (.bool false))) .nilB) .nilB) (.consB (.ret (.b1 .all (.lc [("need", 3), ("rest", 4)] (.tp [3, 4]) .zip (.idx (.var 0) (.cst (.int 2))) (.var 2) .noe (.cmp .le (.var 3) (.var 4))))) .nilB) := rfl
  rw [hbody]
  have hst : [ud u, nd k, ixD l].map Sl.sh ++ List.replicate (k93_d_can_go_on.N.length - k93_d_can_go_on.ps.length) Sl.un = [.sh (ud u), .sh (nd k), .sh (ixD l), .un, .un] := rfl
  rw [hst]
  cases hw : u.want with
  | none =>
    rw [hw] at i3
    have hcan : can u k l = fits u l := by unfold can; rw [hw]; rfl
    rw [hcan, ← e3]
    refine exs_nx ((exs_iff (by intro i q; cases q) (e1 := [.sh (ud u), .sh (nd k), .sh (ixD l), .un, .un]) ?_).trans rfl) rfl
    simp [ev, op2, opd, res, i3, wd, cmpD, isNone]
  | some w =>
    rw [hw] at i3
    have i3 : idxD (ud u) (.int 3) = some (nd w) := i3
    have g1 := ge_nd k w
    have n1 : cmpD .isn (nd w) .none = some true := rfl
    by_cases h : k < w
    · rw [decide_eq_false (show ¬ w ≤ k by omega)] at g1
      have hcan : can u k l = fits u l := by
        unfold can
        rw [hw]
        show (decide (k < w) && _) = _
        rw [decide_eq_true h]
        rfl
      rw [hcan, ← e3]
      refine exs_nx ((exs_iff (by intro i q; cases q) (e1 := [.sh (ud u), .sh (nd k), .sh (ixD l), .un, .un]) ?_).trans rfl) rfl
      simp [ev, op2, opd, res, i3, n1, g1]
    · rw [decide_eq_true (show w ≤ k by omega)] at g1
      have hcan : can u k l = false := by
        unfold can
        rw [hw]
        show (decide (k < w) && _) = _
        rw [decide_eq_false h]
        rfl
      rw [hcan]
      have ex : exs Φ (.ifs (.and (.cmp .isn (.idx (.var 0) (.cst (.int 3))) (.cst .none)) (.cmp .ge (.var 1) (.idx (.var 0) (.cst (.int 3))))) (.consB (.ret (.cst (.bool false))) .nilB) .nilB) [.sh (ud u), .sh (nd k), .sh (ixD l), .un, .un] = some (.rt (.bool false) [.sh (ud u), .sh (nd k), .sh (ixD l), .un, .un]) := by
        refine (exs_ift (by intro i q; cases q) (e1 := [.sh (ud u), .sh (nd k), .sh (ixD l), .un, .un]) ?_).trans rfl
        simp [ev, op2, opd, res, i3, n1, g1]
      exact exs_rt ex
end
end Iv
end
section
set_option Elab.async false
set_option linter.all false
set_option maxRecDepth 100000
set_option exponentiation.threshold 3000
set_option maxHeartbeats 4000000
namespace Iv
open PySem PySem.Spec L2
/-- a ratio as a pair of whole numbers -/
structure Rep (q : Rat) (p : Nat × Nat) : Prop where
  d0 : 0 < p.2
  eq : q = (p.1 : Rat) / (p.2 : Rat)
theorem rep_lt {q q' : Rat} {p p' : Nat × Nat} (h : Rep q p) (h' : Rep q' p') (c c' : Nat) : (c * p.1 * p'.2 < c' * p'.1 * p.2) ↔ ((c : Rat) * q < (c' : Rat) * q') := by
  have d0 := Fl.cast_pos h.d0
  have d1 := Fl.cast_pos h'.d0
  rw [h.eq, h'.eq]
  have e1 : ((p.1 : Rat) / (p.2 : Rat)) * (p.2 : Rat) = (p.1 : Rat) := by grind
  have e2 : ((p'.1 : Rat) / (p'.2 : Rat)) * (p'.2 : Rat) = (p'.1 : Rat) := by grind
  generalize (p.1 : Rat) / (p.2 : Rat) = z at *
  generalize (p'.1 : Rat) / (p'.2 : Rat) = w at *
  have f1 : ((c * p.1 * p'.2 : Nat) : Rat) = ((p.2 : Rat) * (p'.2 : Rat)) * ((c : Rat) * z) := by
    rw [Rat.natCast_mul, Rat.natCast_mul, ← e1]
    generalize (p.2 : Rat) = A
    generalize (p'.2 : Rat) = B
    generalize (c : Rat) = C
    grind
  have f2 : ((c' * p'.1 * p.2 : Nat) : Rat) = ((p.2 : Rat) * (p'.2 : Rat)) * ((c' : Rat) * w) := by
    rw [Rat.natCast_mul, Rat.natCast_mul, ← e2]
    generalize (p.2 : Rat) = A
    generalize (p'.2 : Rat) = B
    generalize (c' : Rat) = C
    grind
  have dd : (0 : Rat) < (p.2 : Rat) * (p'.2 : Rat) := Rat.mul_pos d0 d1
  have g : (c * p.1 * p'.2 < c' * p'.1 * p.2) ↔ (((c * p.1 * p'.2 : Nat) : Rat) < ((c' * p'.1 * p.2 : Nat) : Rat)) := by
    constructor
    · intro h; exact_mod_cast h
    · intro h; exact_mod_cast h
  rw [g, f1, f2]
  exact Rat.mul_lt_mul_left dd
def hp (u : U) (ts : List Nat) : Nat × Nat := ((hgtM u ts).num.toNat, (hgtM u ts).den)
section
variable {us : List U} {ts c l : List Nat} {u : U}
theorem hp_num (hu : Vu ts.length u) (ht : Vt ts) : (((hp u ts).1 : Nat) : Int) = (hgtM u ts).num := by
  have := num_pos' (hgtM_pos hu ht)
  unfold hp
  show (((hgtM u ts).num.toNat : Nat) : Int) = _
  omega
theorem hp_rt (hu : Vu ts.length u) (ht : Vt ts) : rt (hgtM u ts) = pr2 (hp u ts) := by
  unfold rt pr2 nd
  rw [hp_num hu ht]
  rfl
theorem hp_rep (hu : Vu ts.length u) (ht : Vt ts) : Rep (hgtM u ts) (hp u ts) := by
  refine ⟨(hgtM u ts).den_pos, ?_⟩
  have h1 := rat_eq (hgtM u ts)
  have h2 := hp_num hu ht
  rw [← h2] at h1
  exact h1.symm
theorem hp_bd (hu : Vu ts.length u) (ht : Vt ts) : (hp u ts).1 < 2 ^ 520 ∧ (hp u ts).2 < 2 ^ 480 := by
  obtain ⟨h1, h2⟩ := hgtM_fit hu ht
  refine ⟨?_, h1⟩
  have := hp_num hu ht
  have e : (hgtM u ts).num.natAbs = (hp u ts).1 := by omega
  rw [← e]
  exact h2
def hsD (us : List U) (ts : List Nat) : D := .list ((us.map fun u => hp u ts).map pr2)
def oD : Option Nat → D
  | none => .none
  | some i => nd i
def lvD (us : List U) (ts c : List Nat) : Option Nat → D
  | none => .none
  | some j => pr2 (c.getD j 0 * (hp (us.getD j U0) ts).1, (hp (us.getD j U0) ts).2)
theorem le_sum : ∀ {c : List Nat} {x : Nat}, x ∈ c → x ≤ c.sum
  | a :: c, x, h => by
    rw [List.sum_cons]
    rcases List.mem_cons.mp h with rfl | h
    · omega
    · have := le_sum h
      omega
theorem sum_bd {M : Nat} : ∀ {c : List Nat}, (∀ x ∈ c, x ≤ M) → c.sum ≤ c.length * M
  | [], _ => by simp
  | a :: c, h => by
    have h1 := h a List.mem_cons_self
    have h2 := sum_bd fun x hx => h x (List.mem_cons_of_mem _ hx)
    rw [List.sum_cons, List.length_cons, Nat.succ_mul]
    omega
theorem St1.bd (p : Ps us ts) (s : St1 us ts c l) (i : Nat) : c.getD i 0 < 2 ^ 20 := by
  by_cases hi : i < c.length
  · have h1 := le_sum (getD_mem (d := 0) hi)
    have h2 := sum_bd (M := 9999) fun x hx => (p.vt.le x hx).2
    have h3 := s.sm
    have h4 := p.vt.l1
    have h5 : ts.length * 9999 ≤ 4 * 9999 := Nat.mul_le_mul_right _ h4
    omega
  · rw [getD_out hi]; decide
theorem mul_bd {a b k m : Nat} (h1 : a < 2 ^ k) (h2 : b < 2 ^ m) : a * b < 2 ^ (k + m) := by
  rw [Nat.pow_add]
  exact Nat.mul_lt_mul'' h1 h2
def noB : Sm := forS (nthS 1 k93_b_next_one)
variable {Φ : Fn}
theorem no_turn (hΦ : ∀ i, i < 19 → Φ i = T i) (p : Ps us ts) (s : St1 us ts c l) {b : Option Nat} (hb : ∀ j, b = some j → j < us.length) {i : Nat} (hi : i < us.length) (s8 : Sl) (j8 : jk s8) :
    ∃ s8', jk s8' ∧ exs Φ noB [.sh (usD us), .sh (hsD us ts), .own false (c.map nd), .sh (ixD l), .sh (oD b), .sh (lvD us ts c b), .sh (nd i), .sh (ud (us.getD i U0)), s8] = some (.nx [.sh (usD us), .sh (hsD us ts), .own false (c.map nd), .sh (ixD l), .sh (oD (nstep us ts c l b i)), .sh (lvD us ts c (nstep us ts c l b i)), .sh (nd i), .sh (ud (us.getD i U0)), s8']) := by
  have hu := p.ok _ (getD_mem (d := U0) hi)
  have c1 := (can_ok (u := us.getD i U0) (l := l) (by rw [hu.len]; have := p.vt.l1; omega) (c.getD i 0)).on (hΦ 17 (by decide))
  simp only [List.map_cons, List.map_nil] at c1
  have i1 : idxD (.list (c.map nd)) (nd i) = some (nd (c.getD i 0)) := idx_l nd (at_lt (by rw [s.cl]; exact hi) 0)
  have i2 : idxD (hsD us ts) (nd i) = some (pr2 (hp (us.getD i U0) ts)) := idx_l pr2 (by rw [List.getElem?_map, at_lt hi U0]; rfl)
  have te : ev Φ (.call 17 (.cons (.var 7) (.cons (.idx (.var 2) (.var 6)) (.cons (.var 3) .nil)))) [.sh (usD us), .sh (hsD us ts), .own false (c.map nd), .sh (ixD l), .sh (oD b), .sh (lvD us ts c b), .sh (nd i), .sh (ud (us.getD i U0)), s8] = some (.bool (can (us.getD i U0) (c.getD i 0) l), [.sh (usD us), .sh (hsD us ts), .own false (c.map nd), .sh (ixD l), .sh (oD b), .sh (lvD us ts c b), .sh (nd i), .sh (ud (us.getD i U0)), s8]) := by
    simp [ev, op2, opd, res, rdv, argSl, musOf, nodupB, wbk, i1, c1, -List.getD_eq_getElem?_getD]
  unfold nstep
  cases hc : can (us.getD i U0) (c.getD i 0) l with
  | false =>
    rw [hc] at te
    exact ⟨s8, j8, exs_nx ((exs_iff (by intro i q; cases q) te).trans rfl) rfl⟩
  | true =>
    rw [hc] at te
    have B := hp_bd hu p.vt
    have b0 := s.bd p i
    have m1 := mul_bd b0 B.1
    have mu := mul_ndb (c.getD i 0) (hp (us.getD i U0) ts).1 (up_pow b0 (by decide)) (up_pow B.1 (by decide))
    refine ⟨.sh (pr2 (c.getD i 0 * (hp (us.getD i U0) ts).1, (hp (us.getD i U0) ts).2)), .inr ⟨_, rfl⟩, ?_⟩
    refine exs_nx ((exs_ift (by intro i q; cases q) te).trans ?_) rfl
    have p0 : idxD (pr2 (hp (us.getD i U0) ts)) (.int 0) = some (nd (hp (us.getD i U0) ts).1) := ix0 _ _
    have p1 : idxD (pr2 (hp (us.getD i U0) ts)) (.int 1) = some (nd (hp (us.getD i U0) ts).2) := ix1 _ _ _
    refine exs_nx (e1 := [.sh (usD us), .sh (hsD us ts), .own false (c.map nd), .sh (ixD l), .sh (oD b), .sh (lvD us ts c b), .sh (nd i), .sh (ud (us.getD i U0)), .sh (pr2 (c.getD i 0 * (hp (us.getD i U0) ts).1, (hp (us.getD i U0) ts).2))]) ?_ ?_
    · refine Eq.trans (asg_nm (d := pr2 (c.getD i 0 * (hp (us.getD i U0) ts).1, (hp (us.getD i U0) ts).2)) (e1 := [.sh (usD us), .sh (hsD us ts), .own false (c.map nd), .sh (ixD l), .sh (oD b), .sh (lvD us ts c b), .sh (nd i), .sh (ud (us.getD i U0)), s8]) ?_ (j8.put rfl)) rfl
      unfold pr2 at p0 p1 i2 ⊢
      simp [ev, op2, opd, res, i1, i2, p0, p1, mu, z2, -List.getD_eq_getElem?_getD]
    · have take : ∀ e : Ev, e = [.sh (usD us), .sh (hsD us ts), .own false (c.map nd), .sh (ixD l), .sh (oD b), .sh (lvD us ts c b), .sh (nd i), .sh (ud (us.getD i U0)), .sh (pr2 (c.getD i 0 * (hp (us.getD i U0) ts).1, (hp (us.getD i U0) ts).2))] → exs Φ (.consB (.asp [4, 5] [false, false] (.cons (.var 6) (.cons (.var 8) .nil))) .nilB) e = some (.nx [.sh (usD us), .sh (hsD us ts), .own false (c.map nd), .sh (ixD l), .sh (oD (some i)), .sh (lvD us ts c (some i)), .sh (nd i), .sh (ud (us.getD i U0)), .sh (pr2 (c.getD i 0 * (hp (us.getD i U0) ts).1, (hp (us.getD i U0) ts).2))]) := fun e he => by
        subst he
        exact exs_nx (exs_asp (evl_cons (d := nd i) rfl (evl_cons (d := pr2 (c.getD i 0 * (hp (us.getD i U0) ts).1, (hp (us.getD i U0) ts).2)) rfl evl_nil)) rfl) rfl
      cases b with
      | none =>
        refine exs_nx ((exs_ift (by intro i q; cases q) (e1 := [.sh (usD us), .sh (hsD us ts), .own false (c.map nd), .sh (ixD l), .sh (oD none), .sh (lvD us ts c none), .sh (nd i), .sh (ud (us.getD i U0)), .sh (pr2 (c.getD i 0 * (hp (us.getD i U0) ts).1, (hp (us.getD i U0) ts).2))]) ?_).trans (take _ rfl)) rfl
        simp [ev, op2, opd, res, oD, cmpD, isNone]
      | some j =>
        have hj := hb j rfl
        have huj := p.ok _ (getD_mem (d := U0) hj)
        have Bj := hp_bd huj p.vt
        have bj := s.bd p j
        have mj := mul_bd bj Bj.1
        have cb := (below_ok (a := c.getD i 0 * (hp (us.getD i U0) ts).1) (b := (hp (us.getD i U0) ts).2) (c := c.getD j 0 * (hp (us.getD j U0) ts).1) (d := (hp (us.getD j U0) ts).2) (up_pow m1 (by decide)) (up_pow B.2 (by decide)) (up_pow mj (by decide)) (up_pow Bj.2 (by decide))).on (hΦ 18 (by decide))
        rw [decide_eq_decide.mpr (rep_lt (hp_rep hu p.vt) (hp_rep huj p.vt) (c.getD i 0) (c.getD j 0))] at cb
        simp only [List.map_cons, List.map_nil] at cb
        have ed : ((c.getD i 0 : Rat) * hgtM (us.getD i U0) ts < (c.getD j 0 : Rat) * hgtM (us.getD j U0) ts) = (lev us ts c i < lev us ts c j) := rfl
        have ti : ev Φ (.or (.cmp .is (.var 4) (.cst .none)) (.call 18 (.cons (.var 8) (.cons (.var 5) .nil)))) [.sh (usD us), .sh (hsD us ts), .own false (c.map nd), .sh (ixD l), .sh (oD (some j)), .sh (lvD us ts c (some j)), .sh (nd i), .sh (ud (us.getD i U0)), .sh (pr2 (c.getD i 0 * (hp (us.getD i U0) ts).1, (hp (us.getD i U0) ts).2))] = some (.bool (decide (lev us ts c i < lev us ts c j)), [.sh (usD us), .sh (hsD us ts), .own false (c.map nd), .sh (ixD l), .sh (oD (some j)), .sh (lvD us ts c (some j)), .sh (nd i), .sh (ud (us.getD i U0)), .sh (pr2 (c.getD i 0 * (hp (us.getD i U0) ts).1, (hp (us.getD i U0) ts).2))]) := by
          have n0 : cmpD .is (oD (some j)) .none = some false := rfl
          refine evl_or (e1 := [.sh (usD us), .sh (hsD us ts), .own false (c.map nd), .sh (ixD l), .sh (oD (some j)), .sh (lvD us ts c (some j)), .sh (nd i), .sh (ud (us.getD i U0)), .sh (pr2 (c.getD i 0 * (hp (us.getD i U0) ts).1, (hp (us.getD i U0) ts).2))]) (by simp [ev, op2, opd, res, n0]) ?_
          exact ev_call (evl_cons (d := pr2 (c.getD i 0 * (hp (us.getD i U0) ts).1, (hp (us.getD i U0) ts).2)) rfl (evl_cons (d := lvD us ts c (some j)) rfl evl_nil)) rfl rfl cb rfl
        by_cases q : lev us ts c i < lev us ts c j
        · rw [decide_eq_true q] at ti
          simp only [q, if_true]
          exact exs_nx ((exs_ift (by intro i q; cases q) ti).trans (take _ rfl)) rfl
        · rw [decide_eq_false q] at ti
          simp only [q, if_true, if_false]
          exact exs_nx ((exs_iff (by intro i q; cases q) ti).trans rfl) rfl
theorem next_ok (p : Ps us ts) (s : St1 us ts c l) : T 19 [.sh (usD us), .sh (hsD us ts), .own false (c.map nd), .sh (ixD l)] = some (oD (nxt us ts c l), [.sh (usD us), .sh (hsD us ts), .own false (c.map nd), .sh (ixD l)]) := by
  refine gv2 (d := k93_d_next_one) rfl rfl fun Φ hΦ => ?_
  obtain ⟨z, ⟨o1, o2, o3, o4⟩, lp⟩ := for_ex (g := .tp [6, 7]) (f := exs Φ noB) (at2 ud) (fun z : Option Nat × Sl × Sl × Sl => [.sh (usD us), .sh (hsD us ts), .own false (c.map nd), .sh (ixD l), .sh (oD z.1), .sh (lvD us ts c z.1), z.2.1, z.2.2.1, z.2.2.2])
    (fun k z => z.1 = (List.range k).foldl (nstep us ts c l) none ∧ jk z.2.1 ∧ jk z.2.2.1 ∧ jk z.2.2.2) us.zipIdx 0 (none, .un, .un, .un) ⟨rfl, .inl rfl, .inl rfl, .inl rfl⟩ (fun i x z hx ⟨q1, q2, q3, q4⟩ => by
      rw [List.getElem?_zipIdx] at hx
      obtain ⟨u, hu, rfl⟩ := Option.map_eq_some_iff.mp hx
      have hi := (List.getElem?_eq_some_iff.mp hu).1
      have eu : u = us.getD i U0 := (getD_of hu).symm
      subst eu
      rw [Nat.zero_add] at *
      have hb : ∀ j, z.1 = some j → j < us.length := fun j hj => by
        have := nxt_gen us ts c l i
        rw [← q1, hj] at this
        omega
      obtain ⟨s8', j8, tr⟩ := no_turn hΦ p s hb hi z.2.2.2 q4
      refine ⟨?_, _, (nstep us ts c l z.1 i, .sh (nd i), .sh (ud (us.getD i U0)), s8'), rfl, tr, ?_, jk.sh _, jk.sh _, j8⟩
      · show (putOk _ 6 && (putOk _ 7 && true)) = true
        rw [q2.put rfl, q3.put rfl]
        rfl
      · show _ = (List.range (i + 1)).foldl _ none
        rw [List.range_succ, List.foldl_append, ← q1]
        rfl)
  rw [List.length_zipIdx, Nat.zero_add] at o1
  refine ⟨[.sh (usD us), .sh (hsD us ts), .own false (c.map nd), .sh (ixD l), .sh (oD z.1), .sh (lvD us ts c z.1), z.2.1, z.2.2.1, z.2.2.2], ?_, rfl⟩
  have e1 : exs Φ (.for_ (.tp [6, 7]) .enm (.var 0) .noe noB) [.sh (usD us), .sh (hsD us ts), .own false (c.map nd), .sh (ixD l), .sh .none, .sh .none, .un, .un, .un] = _ := (exs_for rfl rfl (walk_enm_t ud us)).trans lp
  refine exs_nx (e1 := [.sh (usD us), .sh (hsD us ts), .own false (c.map nd), .sh (ixD l), .sh .none, .sh .none, .un, .un, .un]) rfl (exs_nx e1 ?_)
  have en : nxt us ts c l = z.1 := o1.symm
  rw [en]
  exact exs_ret rfl
end
end Iv
end
section
set_option Elab.async false
set_option linter.all false
set_option maxRecDepth 100000
set_option exponentiation.threshold 3000
set_option maxHeartbeats 4000000
namespace Iv
open PySem PySem.Spec L2
theorem sub_nd {a b : Nat} (h : b ≤ a) : binD .sub (nd a) (nd b) = some (nd (a - b)) := by
  show some (PyData.int ((a : Int) - (b : Int))) = _
  have : ((a : Int) - (b : Int)) = ((a - b : Nat) : Int) := by omega
  rw [this]
  rfl
theorem isn_oD (b : Option Nat) : cmpD .isn (oD b) .none = some b.isSome := by cases b <;> rfl
section
variable {us : List U} {ts c l : List Nat} {u : U} {Φ : Fn}
def poW : Sm := nthS 2 k93_b_pieces_of
def poB : Sm := match poW with
  | .whl _ b => b
  | _ => .nilB
def poC : Ex := .cmp .isn (.var 5) (.cst .none)
theorem zip_le {ns : List Nat} (hl : ns.length = l.length) (h : ∀ p ∈ ns.zip l, p.1 ≤ p.2) : ∀ p ∈ l.zip ns, p.2 ≤ p.1 := fun p hp => by
  obtain ⟨g, hg⟩ := List.mem_iff_getElem?.mp hp
  obtain ⟨h1, h2⟩ := List.getElem?_zip_eq_some.mp hg
  exact h (p.2, p.1) (List.mem_of_getElem? (List.getElem?_zip_eq_some.mpr ⟨h2, h1⟩))
/-- what is left behind a piece -/
theorem ev_less {e : Ev} {i : Nat} (a b x y : Nat) (f g : Str) (hxy : x ≠ y) (hx : x < e.length) (hy : y < e.length) (k : Ex) (ha : e[a]? = some (.sh (ixD l))) (hk : ev Φ k e = some (.tuple (u.ns.map nd), e)) (hl : u.ns.length = l.length) (h100 : l.length ≤ 100) (hf : ∀ p ∈ u.ns.zip l, p.1 ≤ p.2) :
    ev Φ (.lc [(f, x), (g, y)] (.tp [x, y]) .zip (.var a) k .noe (.bin .sub (.var x) (.var y))) e = some (ixD (less u l), e) := by
  have hv : ev Φ (.var a) e = some (ixD l, e) := by
    show rdv e a = _
    unfold rdv
    rw [ha]
  refine (ev_lcP pr2 (fun _ => true) (fun p => nd (p.1 - p.2)) (l.zip u.ns) hv hk (walk_zip'' l u.ns) (fun p hp => ?_) (sz (by rw [List.length_zip]; omega))).trans ?_
  · have lw : (wipeE e ([(f, x), (g, y)].map (·.2))).length = e.length := wipeE_length _ _
    refine ⟨((wipeE e ([(f, x), (g, y)].map (·.2))).set x (.sh (nd p.1))).set y (.sh (nd p.2)), rfl, rfl, fun _ => ?_, ?_⟩
    · have gx : (((wipeE e ([(f, x), (g, y)].map (·.2))).set x (.sh (nd p.1))).set y (.sh (nd p.2)))[x]? = some (.sh (nd p.1)) := by
        rw [List.getElem?_set_ne hxy.symm, List.getElem?_set_self (by rw [lw]; exact hx)]
      have gy : (((wipeE e ([(f, x), (g, y)].map (·.2))).set x (.sh (nd p.1))).set y (.sh (nd p.2)))[y]? = some (.sh (nd p.2)) := by
        rw [List.getElem?_set_self (by rw [List.length_set, lw]; exact hy)]
      have sb := sub_nd (zip_le hl hf p hp)
      simp only [ev, op2, opd, res, gx, gy, sb, Option.map_some]
    · rw [wipe_set (by simp), wipe_set (by simp), wipe_idem]
  · rw [all_true]
    unfold ixD less
    rw [List.map_map]
    rfl
theorem no_call (hΦ : ∀ i, i < 25 → Φ i = T i) (p : Ps us ts) (s : St1 us ts c l) (a5 : Sl) (s6 s7 s8 : Sl) :
    ev Φ (.call 19 (.cons (.var 0) (.cons (.var 2) (.cons (.mu 3) (.cons (.var 4) .nil))))) [.sh (usD us), .sh (tsD ts), .sh (hsD us ts), .own true (c.map nd), .sh (ixD l), a5, s6, s7, s8] = some (oD (nxt us ts c l), [.sh (usD us), .sh (tsD ts), .sh (hsD us ts), .own true (c.map nd), .sh (ixD l), a5, s6, s7, s8]) := by
  have n := next_ok p s
  rw [← hΦ 19 (by decide)] at n
  exact ev_call (evl_cons (d := usD us) rfl (evl_cons (d := hsD us ts) rfl (evl_cons (d := .none) rfl (evl_cons (d := ixD l) rfl evl_nil)))) rfl rfl n rfl
theorem po_turn (hΦ : ∀ i, i < 25 → Φ i = T i) (p : Ps us ts) (s : St1 us ts c l) {i : Nat} (h : nxt us ts c l = some i) (s6 s7 s8 : Sl) :
    exs Φ poB [.sh (usD us), .sh (tsD ts), .sh (hsD us ts), .own true (c.map nd), .sh (ixD l), .sh (nd i), s6, s7, s8] = some (.nx [.sh (usD us), .sh (tsD ts), .sh (hsD us ts), .own true ((c.set i (c.getD i 0 + 1)).map nd), .sh (ixD (less (us.getD i U0) l)), .sh (oD (nxt us ts (c.set i (c.getD i 0 + 1)) (less (us.getD i U0) l))), s6, s7, s8]) := by
  obtain ⟨h1, h2, _⟩ := nxt_some h
  have hu := p.ok _ (getD_mem (d := U0) h1)
  have hc : i < c.length := by rw [s.cl]; exact h1
  have i1 : idxD (.list (c.map nd)) (nd i) = some (nd (c.getD i 0)) := idx_l nd (at_lt hc 0)
  have a1 : binD .add (nd (c.getD i 0)) (.int 1) = some (nd (c.getD i 0 + 1)) := add_nd _ 1
  refine exs_nx (e1 := [.sh (usD us), .sh (tsD ts), .sh (hsD us ts), .own true ((c.set i (c.getD i 0 + 1)).map nd), .sh (ixD l), .sh (nd i), s6, s7, s8]) ?_ (exs_nx (e1 := [.sh (usD us), .sh (tsD ts), .sh (hsD us ts), .own true ((c.set i (c.getD i 0 + 1)).map nd), .sh (ixD (less (us.getD i U0) l)), .sh (nd i), s6, s7, s8]) ?_ (exs_nx (e1 := [.sh (usD us), .sh (tsD ts), .sh (hsD us ts), .own true ((c.set i (c.getD i 0 + 1)).map nd), .sh (ixD (less (us.getD i U0) l)), .sh (oD (nxt us ts (c.set i (c.getD i 0 + 1)) (less (us.getD i U0) l))), s6, s7, s8]) ?_ rfl))
  · have st := set_at6 (e := [.sh (usD us), .sh (tsD ts), .sh (hsD us ts), .own true (c.map nd), .sh (ixD l), .sh (nd i), s6, s7, s8]) (j := 3) (v := nd (c.getD i 0 + 1)) rfl (show i < (c.map nd).length by rw [List.length_map]; exact hc)
    simp [exs, ev, op2, opd, res, rdv, ownAt, i1, a1, st, -List.getD_eq_getElem?_getD]
  · have ik : ev Φ (.idx (.idx (.var 0) (.var 5)) (.cst (.int 2))) [.sh (usD us), .sh (tsD ts), .sh (hsD us ts), .own true ((c.set i (c.getD i 0 + 1)).map nd), .sh (ixD l), .sh (nd i), s6, s7, s8] = some (.tuple ((us.getD i U0).ns.map nd), [.sh (usD us), .sh (tsD ts), .sh (hsD us ts), .own true ((c.set i (c.getD i 0 + 1)).map nd), .sh (ixD l), .sh (nd i), s6, s7, s8]) := by
      have j1 : idxD (usD us) (nd i) = some (ud (us.getD i U0)) := idx_t ud (at_lt h1 U0)
      have j2 : idxD (ud (us.getD i U0)) (.int 2) = some (.tuple ((us.getD i U0).ns.map nd)) := ix2 _ _ _ _
      simp [ev, op2, opd, res, j1, j2, -List.getD_eq_getElem?_getD]
    have el := ev_less (u := us.getD i U0) (l := l) (Φ := Φ) (i := i) 4 5 7 8 "rest" "need" (by decide) (by simp) (by simp) _ rfl ik (by rw [hu.len, s.ll]) (by rw [s.ll]; have := p.vt.l1; omega) (can_fits h2).1
    exact Eq.trans (asg_nm el rfl) rfl
  · have n := no_call hΦ p (s.step p h).1 (.sh (nd i)) s6 s7 s8
    exact Eq.trans (asg_nm n rfl) rfl
theorem po_loop (hΦ : ∀ i, i < 25 → Φ i = T i) (p : Ps us ts) (s6 s7 s8 : Sl) : ∀ (n m : Nat) (c l : List Nat), St1 us ts c l → l.sum ≤ n → n < m →
    ∃ l' b', whlGo (tst Φ poC) (exs Φ poB) m [.sh (usD us), .sh (tsD ts), .sh (hsD us ts), .own true (c.map nd), .sh (ixD l), .sh (oD (nxt us ts c l)), s6, s7, s8] = some (.nx [.sh (usD us), .sh (tsD ts), .sh (hsD us ts), .own true ((iter us ts n c l).map nd), .sh (ixD l'), b', s6, s7, s8])
  | n, 0, c, l, s, hn, hm => by omega
  | n, m + 1, c, l, s, hn, hm => by
    have hc : tst Φ poC [.sh (usD us), .sh (tsD ts), .sh (hsD us ts), .own true (c.map nd), .sh (ixD l), .sh (oD (nxt us ts c l)), s6, s7, s8] = some ((nxt us ts c l).isSome, [.sh (usD us), .sh (tsD ts), .sh (hsD us ts), .own true (c.map nd), .sh (ixD l), .sh (oD (nxt us ts c l)), s6, s7, s8]) := by
      have := isn_oD (nxt us ts c l)
      simp [tst, poC, opT, ev, op2, opd, res, this, truth]
    cases h : nxt us ts c l with
    | none =>
      rw [h] at hc
      refine ⟨l, .sh .none, ?_⟩
      have ei : iter us ts n c l = c := by
        cases n with
        | zero => rfl
        | succ n => exact iter_none h
      rw [whlGo, hc, ei]
      rfl
    | some i =>
      rw [h] at hc
      obtain ⟨s', lt⟩ := s.step p h
      have t := po_turn hΦ p s h s6 s7 s8
      cases n with
      | zero => omega
      | succ n =>
        obtain ⟨l', b', g⟩ := po_loop hΦ p s6 s7 s8 n m _ _ s' (by omega) (by omega)
        refine ⟨l', b', ?_⟩
        rw [iter_some h, ← g, whlGo, hc]
        simp only [Option.isSome_some]
        have t' : exs Φ poB [.sh (usD us), .sh (tsD ts), .sh (hsD us ts), .own true (c.map nd), .sh (ixD l), .sh (oD (some i)), s6, s7, s8] = _ := t
        rw [t']
theorem pieces_of_ok (p : Ps us ts) (hs : ts.sum ≤ 4000) : Gv 25 [usD us, tsD ts] (ixD (pcs us ts)) := by
  have z : (4000 : Nat) < turns := by decide
  refine gv (d := k93_d_pieces_of) rfl rfl fun Φ hΦ => ?_
  obtain ⟨l', b', lp⟩ := po_loop hΦ p .un .un .un 4000 turns _ _ St1.start hs z
  have hh : ev Φ (.lc [("user", 6)] (.nm 6) .walk (.var 0) .noe .noe (.call 24 (.cons (.var 6) (.cons (.var 1) .nil)))) [.sh (usD us), .sh (tsD ts), .un, .un, .un, .un, .un, .un, .un] = some (hsD us ts, [.sh (usD us), .sh (tsD ts), .un, .un, .un, .un, .un, .un, .un]) := by
    refine (ev_lcP ud (fun _ => true) (fun u => pr2 (hp u ts)) us rfl rfl rfl (fun u hu => ?_) (sz (by have := p.l1; omega))).trans (by rw [all_true]; unfold hsD; rw [List.map_map]; rfl)
    have c := (height_ok (p.ok u hu) p.vt).on (hΦ 24 (by decide))
    rw [hp_rt (p.ok u hu) p.vt] at c
    refine ⟨[.sh (usD us), .sh (tsD ts), .un, .un, .un, .un, .sh (ud u), .un, .un], rfl, rfl, fun _ => ?_, rfl⟩
    exact ev_call (evl_cons (d := ud u) rfl (evl_cons (d := tsD ts) rfl evl_nil)) rfl rfl c rfl
  have hr : repD (.list [nd 0]) (nd us.length) = some (ixD (List.replicate us.length 0)) := rep_nd 0 _ (by have := p.l1; omega)
  have hl : ev Φ (.b1 .len (.var 0)) [.sh (usD us), .sh (tsD ts), .un, .un, .un, .un, .un, .un, .un] = some (nd us.length, [.sh (usD us), .sh (tsD ts), .un, .un, .un, .un, .un, .un, .un]) := ev_b1v rfl (len_us us)
  have ht : ev Φ (.b1 .list (.var 1)) [.sh (usD us), .sh (tsD ts), .un, .un, .un, .un, .un, .un, .un] = some (ixD ts, [.sh (usD us), .sh (tsD ts), .un, .un, .un, .un, .un, .un, .un]) := ev_b1v rfl rfl
  refine ⟨[.sh (usD us), .sh (tsD ts), .sh (hsD us ts), .un, .sh (ixD l'), b', .un, .un, .un], ?_, by simp⟩
  refine exs_nx (e1 := [.sh (usD us), .sh (tsD ts), .sh (hsD us ts), .own true ((List.replicate us.length 0).map nd), .sh (ixD ts), .un, .un, .un, .un]) (exs_asp (evl_cons hh (evl_cons (ev_rep (ds := [nd 0]) rfl z1 hl hr) (evl_cons ht evl_nil))) rfl) ?_
  refine exs_nx (e1 := [.sh (usD us), .sh (tsD ts), .sh (hsD us ts), .own true ((List.replicate us.length 0).map nd), .sh (ixD ts), .sh (oD (nxt us ts (List.replicate us.length 0) ts)), .un, .un, .un]) (Eq.trans (asg_nm (no_call hΦ p St1.start .un .un .un .un) rfl) rfl) ?_
  refine exs_nx (e1 := _) (exs_whl.trans lp) ?_
  rfl
theorem want_plain_ok (p : Ps us ts) (h1 : ∀ u ∈ us, u.w = 1) : Gv 16 [usD us, tsD ts] .none := by
  refine gvn (d := k93_d_want_plain) rfl rfl fun Φ hΦ => ⟨[.sh (usD us), .sh (tsD ts), .un], ?_, by simp⟩
  have c1 := (want_users_ok p).on (hΦ 13 (by decide))
  have c2 := (want_both_ok p).on (hΦ 15 (by decide))
  simp only [List.map_cons, List.map_nil] at c1 c2
  refine exs_nx (e1 := [.sh (usD us), .sh (tsD ts), .un]) ?_ (exs_nx (e1 := [.sh (usD us), .sh (tsD ts), .un]) ?_ ?_)
  · simp [k93_d_want_plain, exs, ev, rdv, argSl, musOf, nodupB, wbk, c1]
  · have e1 : ev Φ (.lc [("user", 2)] (.nm 2) .walk (.var 0) .noe .noe (.cmp .ne (.idx (.var 2) (.cst (.int 1))) (.cst (.int 1)))) [.sh (usD us), .sh (tsD ts), .un] = some (.list (us.map fun _ => PyData.bool false), [.sh (usD us), .sh (tsD ts), .un]) := by
      refine (ev_lcP ud (fun _ => true) (fun _ => PyData.bool false) us rfl rfl rfl (fun u hu => ?_) (sz (by have := p.l1; omega))).trans (by rw [all_true])
      refine ⟨[.sh (usD us), .sh (tsD ts), .sh (ud u)], rfl, rfl, fun _ => ?_, rfl⟩
      have j1 : idxD (ud u) (.int 1) = some (nd 1) := by rw [← h1 u hu]; exact ix1 _ _ _
      have n1 : cmpD .ne (nd 1) (.int 1) = some false := rfl
      simp [ev, op2, opd, res, j1, n1]
    have e2 := ev_b1 (b := .any) (by intro i q; cases q) e1 (any_bools (fun _ => false) us)
    have e3 : (us.any fun _ => false) = false := by simp
    rw [e3] at e2
    exact (exs_iff (by intro i q; cases q) e2).trans rfl
  · simp [exs, ev, rdv, argSl, musOf, nodupB, wbk, c2]
theorem pieces_ok (p : Ps us ts) (h1 : ∀ u ∈ us, u.w = 1) (hs : ts.sum ≤ 4000) : Gv 26 [usD us, tsD ts] (ixD (pcs us ts)) := by
  refine gv (d := k93_d_pieces) rfl rfl fun Φ hΦ => ⟨[.sh (usD us), .sh (tsD ts)], ?_, by simp⟩
  have c1 := (want_plain_ok p h1).on (hΦ 16 (by decide))
  have c2 := (pieces_of_ok p hs).on (hΦ 25 (by decide))
  simp only [List.map_cons, List.map_nil] at c1 c2
  unfold ixD at c2 ⊢
  simp [k93_d_pieces, k93_b_pieces, exs, ev, rdv, argSl, musOf, nodupB, wbk, c1, c2]
end
end Iv
end
section
set_option Elab.async false
set_option linter.all false
set_option maxRecDepth 100000
set_option exponentiation.threshold 3000
set_option maxHeartbeats 4000000
namespace Iv
open PySem PySem.Spec L2
def lhF (f p : Nat × Nat) : Nat × Nat := if f.1 * p.2 < p.1 * f.2 then p else f
def lh (u : U) (ts : List Nat) : Nat × Nat := (u.ns.zip ts).foldl lhF (0, 1)
theorem one_mulR (x : Rat) : ((1 : Nat) : Rat) * x = x := by
  have : ((1 : Nat) : Rat) = 1 := rfl
  rw [this, Rat.one_mul]
theorem lh_fold : ∀ (ps : List (Nat × Nat)) (f : Nat × Nat) (r : Rat), Rep r f → (∀ p ∈ ps, 0 < p.2) → Rep ((ps.map fun p => (p.1 : Rat) / (p.2 : Rat)).foldl hi r) (ps.foldl lhF f)
  | [], f, r, h, _ => h
  | p :: ps, f, r, h, hp => by
    rw [List.map_cons, List.foldl_cons, List.foldl_cons]
    refine lh_fold ps _ _ ?_ fun q hq => hp q (List.mem_cons_of_mem _ hq)
    have rp : Rep ((p.1 : Rat) / (p.2 : Rat)) p := ⟨hp p List.mem_cons_self, rfl⟩
    have k := rep_lt h rp 1 1
    rw [Nat.one_mul, Nat.one_mul, one_mulR, one_mulR] at k
    unfold hi lhF
    by_cases q : f.1 * p.2 < p.1 * f.2
    · rw [if_pos q, if_pos (k.mp q)]; exact rp
    · rw [if_neg q, if_neg (fun z => q (k.mpr z))]; exact h
theorem lh_bd : ∀ (ps : List (Nat × Nat)) (f : Nat × Nat), (f.1 < 2 ^ 20 ∧ f.2 < 2 ^ 20) → (∀ p ∈ ps, p.1 < 2 ^ 20 ∧ p.2 < 2 ^ 20) → (ps.foldl lhF f).1 < 2 ^ 20 ∧ (ps.foldl lhF f).2 < 2 ^ 20
  | [], f, h, _ => h
  | p :: ps, f, h, hp => by
    rw [List.foldl_cons]
    refine lh_bd ps _ ?_ fun q hq => hp q (List.mem_cons_of_mem _ hq)
    unfold lhF
    split
    · exact hp p List.mem_cons_self
    · exact h
/-- a loop whose state hangs on the turn, with `continue` -/
theorem for_exc {α Z : Type} {g : Tg} {f : Ev → Option Out} (φ : α → D) (env : Z → Ev) (ok : Nat → Z → Prop) : ∀ (xs : List α) (k : Nat) (z : Z), ok k z →
    (∀ i x z, xs[i]? = some x → ok (k + i) z → tgOk (env z) g = true ∧ ∃ e1 z', bindT g (φ x) (env z) = some e1 ∧ (f e1 = some (.nx (env z')) ∨ f e1 = some (.ct (env z'))) ∧ ok (k + i + 1) z') →
    ∃ z', ok (k + xs.length) z' ∧ forGo g f (xs.map φ) (env z) = some (.nx (env z'))
  | [], k, z, hz, _ => ⟨z, hz, rfl⟩
  | x :: xs, k, z, hz, h => by
    obtain ⟨h1, e1, z', h2, h3, h4⟩ := h 0 x z rfl hz
    obtain ⟨z2, g1, g2⟩ := for_exc φ env ok xs (k + 1) z' h4 fun i y w hy hw => by
      have := h (i + 1) y w hy (by rw [show k + (i + 1) = k + 1 + i by omega]; exact hw)
      rw [show k + (i + 1) = k + 1 + i by omega] at this
      exact this
    refine ⟨z2, by rw [List.length_cons, show k + (xs.length + 1) = k + 1 + xs.length by omega]; exact g1, ?_⟩
    rw [List.map_cons, forGo, if_pos h1]
    rcases h3 with h3 | h3 <;> simp only [h2, h3, g2]
theorem exs_aug {Φ : Fn} {k x : Ex} {e : Ev} {i n v d : Nat} {ds : List D} (h0 : e[i]? = some (.own true ds)) (hk : ev Φ k e = some (nd n, e)) (hn : ds[n]? = some (nd v)) (hx : ev Φ x e = some (nd d, e)) : exs Φ (.aug i k .add x) e = some (.nx (e.set i (.own true (ds.set n (nd (v + d)))))) := by
  have ho : ownAt e i = some (true, ds) := by unfold ownAt; rw [h0]
  have ha : atI ds (n : Int) = some (.int (v : Int)) := at_nat hn
  have hk : ev Φ k e = some (.int (n : Int), e) := hk
  have hx : ev Φ x e = some (.int (d : Int), e) := hx
  have st : setAt e i (.int (n : Int)) (.int ((v : Int) + (d : Int))) = some (e.set i (.own true (ds.set n (nd (v + d))))) := by
    have := set_at6 (v := nd (v + d)) h0 (List.getElem?_eq_some_iff.mp hn).1
    have e1 : nd (v + d) = .int ((v : Int) + (d : Int)) := by unfold nd; simp
    rw [← e1]
    exact this
  simp only [exs, ho, Option.isSome_some, if_true, hk, ha, hx, st, Option.map_some]
theorem walk_rngN {n : Nat} (hn : n ≤ 100000) : walkD .rng (nd n) .none = some ((List.range n).map nd) := by
  have hs : small62 (n : Int) = true := by
    unfold small62
    rw [decide_eq_true (by omega), decide_eq_true (by omega)]
    rfl
  unfold nd
  simp only [walkD, hs, if_true]
  rw [rng_nd]
  rfl
section
variable {us : List U} {ts c l : List Nat} {u : U} {Φ : Fn}
theorem lh_rep (hu : Vu ts.length u) (ht : Vt ts) : Rep (hgtM u ts) (lh u ts) := by
  obtain ⟨x, xs, e⟩ := hgt_ne hu ht
  have h0 : Rep 0 (0, 1) := ⟨by decide, by show (0 : Rat) = ((0 : Nat) : Rat) / ((1 : Nat) : Rat); rw [Rat.div_def]; simp⟩
  have := lh_fold (u.ns.zip ts) (0, 1) 0 h0 fun p hp => by
    have := (ht.le _ (List.of_mem_zip hp).2).1
    omega
  have e2 : (u.ns.zip ts).map (fun p => (p.1 : Rat) / (p.2 : Rat)) = x :: xs := e
  rw [e2, List.foldl_cons] at this
  have x0 : hi 0 x = x := by
    have hx : x ∈ hgt u ts := by rw [e]; exact List.mem_cons_self
    obtain ⟨p, hp, rfl⟩ := List.mem_map.mp hx
    have k := (ht.le _ (List.of_mem_zip hp).2).1
    have : (0 : Rat) ≤ (p.1 : Rat) / (p.2 : Rat) := by
      by_cases q : p.1 = 0
      · rw [q]
        have : ((0 : Nat) : Rat) / (p.2 : Rat) = 0 := by
          rw [Rat.div_def]; simp
        rw [this]; exact Rat.le_refl
      · exact Rat.le_of_lt (frac_pos (by omega) (by omega))
    unfold hi
    split <;> grind
  rw [x0] at this
  have em : hgtM u ts = xs.foldl hi x := by unfold hgtM; rw [e]
  rw [em]
  exact this
theorem lh_small (hu : Vu ts.length u) (ht : Vt ts) : (lh u ts).1 < 2 ^ 20 ∧ (lh u ts).2 < 2 ^ 20 := by
  refine lh_bd _ _ (by decide) fun p hp => ?_
  have k1 := hu.le _ (List.of_mem_zip hp).1
  have k2 := (ht.le _ (List.of_mem_zip hp).2).2
  constructor <;> omega
theorem law_height_ok (hu : Vu ts.length u) (ht : Vt ts) : Gv 27 [ud u, tsD ts] (pr2 (lh u ts)) := by
  refine gv (d := k93_d__law_height) rfl rfl fun Φ hΦ => ?_
  obtain ⟨z, ⟨o1, o2, o3, o4, o5⟩, lp⟩ := for_ex (g := .tp [3, 4]) (f := exs Φ (forS (nthS 1 k93_b__law_height))) pr2 (fun z : (Nat × Nat) × Sl × Sl => [.sh (ud u), .sh (tsD ts), .sh (pr2 z.1), z.2.1, z.2.2])
    (fun k z => z.1 = ((u.ns.zip ts).take k).foldl lhF (0, 1) ∧ z.1.1 < 2 ^ 20 ∧ z.1.2 < 2 ^ 20 ∧ jk z.2.1 ∧ jk z.2.2) (u.ns.zip ts) 0 ((0, 1), .un, .un) ⟨rfl, by decide, by decide, .inl rfl, .inl rfl⟩ (fun i x z hx ⟨q1, q2, q3, q4, q5⟩ => by
      have hm := List.mem_of_getElem? hx
      have k1 := hu.le _ (List.of_mem_zip hm).1
      have k2 := (ht.le _ (List.of_mem_zip hm).2).2
      have b1 := mul_ndb x.1 z.1.2 (Nat.lt_of_le_of_lt k1 (by decide)) (up_pow q3 (by decide))
      have b2 := mul_ndb z.1.1 x.2 (up_pow q2 (by decide)) (Nat.lt_of_le_of_lt k2 (by decide))
      have g := gt_nn (x.1 * z.1.2) (z.1.1 * x.2)
      rw [Nat.zero_add] at *
      refine ⟨?_, [.sh (ud u), .sh (tsD ts), .sh (pr2 z.1), .sh (nd x.1), .sh (nd x.2)], (lhF z.1 x, .sh (nd x.1), .sh (nd x.2)), rfl, ?_, ?_, ?_, ?_, jk.sh _, jk.sh _⟩
      · show (putOk _ 3 && (putOk _ 4 && true)) = true
        rw [q4.put rfl, q5.put rfl]
        rfl
      · refine exs_nx (e1 := [.sh (ud u), .sh (tsD ts), .sh (pr2 (lhF z.1 x)), .sh (nd x.1), .sh (nd x.2)]) (Eq.trans (asg_nm (d := pr2 (lhF z.1 x)) (e1 := [.sh (ud u), .sh (tsD ts), .sh (pr2 z.1), .sh (nd x.1), .sh (nd x.2)]) ?_ rfl) rfl) rfl
        have te : ev Φ (.cmp .gt (.bin .mul (.var 3) (.idx (.var 2) (.cst (.int 1)))) (.bin .mul (.idx (.var 2) (.cst (.int 0))) (.var 4))) [.sh (ud u), .sh (tsD ts), .sh (pr2 z.1), .sh (nd x.1), .sh (nd x.2)] = some (.bool (decide (z.1.1 * x.2 < x.1 * z.1.2)), [.sh (ud u), .sh (tsD ts), .sh (pr2 z.1), .sh (nd x.1), .sh (nd x.2)]) := by
          have p0 : idxD (pr2 z.1) (.int 0) = some (nd z.1.1) := ix0 _ _
          have p1 : idxD (pr2 z.1) (.int 1) = some (nd z.1.2) := ix1 _ _ _
          simp [ev, op2, opd, res, p0, p1, b1, b2, g]
        unfold lhF
        by_cases h : z.1.1 * x.2 < x.1 * z.1.2
        · rw [decide_eq_true h] at te
          rw [if_pos h]
          exact ev_itet (by intro i q; cases q) te (ev_tup (evl_cons (d := nd x.1) rfl (evl_cons (d := nd x.2) rfl evl_nil)) z2)
        · rw [decide_eq_false h] at te
          rw [if_neg h]
          exact ev_itef (by intro i q; cases q) te rfl
      · show lhF z.1 x = _
        rw [List.take_add_one, hx, List.foldl_append, ← q1]
        rfl
      · show (lhF z.1 x).1 < _
        unfold lhF
        split
        · exact Nat.lt_of_le_of_lt k1 (by decide)
        · exact q2
      · show (lhF z.1 x).2 < _
        unfold lhF
        split
        · exact Nat.lt_of_le_of_lt k2 (by decide)
        · exact q3)
  rw [Nat.zero_add, List.take_length] at o1
  refine ⟨[.sh (ud u), .sh (tsD ts), .sh (pr2 z.1), z.2.1, z.2.2], ?_, by simp⟩
  have i2 : ev Φ (.idx (.var 0) (.cst (.int 2))) [.sh (ud u), .sh (tsD ts), .sh (pr2 (0, 1)), .un, .un] = some (.tuple (u.ns.map nd), [.sh (ud u), .sh (tsD ts), .sh (pr2 (0, 1)), .un, .un]) := by
    have : idxD (ud u) (.int 2) = some (.tuple (u.ns.map nd)) := ix2 _ _ _ _
    simp [ev, op2, opd, res, this]
  have e0 : exs Φ (nthS 0 k93_b__law_height) [.sh (ud u), .sh (tsD ts), .un, .un, .un] = some (.nx [.sh (ud u), .sh (tsD ts), .sh (pr2 (0, 1)), .un, .un]) := by
    refine Eq.trans (asg_nm (d := pr2 (0, 1)) (e1 := [.sh (ud u), .sh (tsD ts), .un, .un, .un]) ?_ rfl) rfl
    exact ev_tup (evl_cons (d := nd 0) rfl (evl_cons (d := nd 1) rfl evl_nil)) z2
  refine exs_nx e0 (exs_nx ((exs_for i2 rfl (walk_zip u.ns ts)).trans lp) ?_)
  show exs Φ (.consB (.ret (.var 2)) .nilB) _ = _
  rw [show lh u ts = z.1 from o1.symm]
  exact exs_ret rfl
end
end Iv
end
section
set_option Elab.async false
set_option linter.all false
set_option maxRecDepth 100000
set_option exponentiation.threshold 3000
set_option maxHeartbeats 4000000
namespace Iv
open PySem PySem.Spec L2
theorem evl_or2 {Φ : Fn} {a b : Ex} {e e1 e2 : Ev} {x y : Bool} (h : ev Φ a e = some (.bool x, e1)) (h2 : ev Φ b e1 = some (.bool y, e2)) (he : e2 = e1) : ev Φ (.or a b) e = some (.bool (x || y), e1) := by
  subst he
  cases x <;> simp only [ev, h, h2, Bool.true_or, Bool.false_or]
theorem evl_ort {Φ : Fn} {a b : Ex} {e e1 : Ev} (h : ev Φ a e = some (.bool true, e1)) : ev Φ (.or a b) e = some (.bool true, e1) := by
  simp only [ev, h]
theorem exs_ct {Φ : Fn} {s b : Sm} {e e1 : Ev} (h : exs Φ s e = some (.ct e1)) : exs Φ (.consB s b) e = some (.ct e1) := by
  simp only [exs, h]
theorem exs_bk {Φ : Fn} {s b : Sm} {e e1 : Ev} (h : exs Φ s e = some (.bk e1)) : exs Φ (.consB s b) e = some (.bk e1) := by
  simp only [exs, h]
def fullB (u : U) (k : Nat) : Bool := match u.want with
  | none => false
  | some w => decide (w ≤ k)
theorem not_can (u : U) (k : Nat) (l : List Nat) : (fullB u k || (u.ns.zip l).any fun p => decide (p.2 < p.1)) = !can u k l := by
  have h1 : ((u.ns.zip l).any fun p => decide (p.2 < p.1)) = !fits u l := by
    unfold fits
    rw [List.not_all_eq_any_not]
    congr 1
    funext p
    by_cases h : p.1 ≤ p.2
    · rw [decide_eq_true h, decide_eq_false (by omega)]; rfl
    · rw [decide_eq_false h, decide_eq_true (by omega)]; rfl
  rw [h1]
  unfold fullB can
  cases u.want with
  | none => rfl
  | some w =>
    show (decide (w ≤ k) || _) = !(decide (k < w) && _)
    by_cases h : k < w
    · rw [decide_eq_true h, decide_eq_false (show ¬ w ≤ k by omega)]; simp
    · rw [decide_eq_false h, decide_eq_true (show w ≤ k by omega)]; simp
theorem swap_less : ∀ (ns l : List Nat), (ns.zip l).map (fun p => p.2 - p.1) = (l.zip ns).map fun p => p.1 - p.2
  | [], l => by simp
  | _ :: _, [] => by simp
  | n :: ns, x :: l => by
    rw [List.zip_cons_cons, List.zip_cons_cons, List.map_cons, List.map_cons, swap_less ns l]
section
variable {us : List U} {ts c l : List Nat} {u : U} {Φ : Fn}
def lhD (us : List U) (ts : List Nat) : D := .list ((us.map fun u => lh u ts).map pr2)
def lbD (us : List U) (ts c : List Nat) : Option Nat → D
  | none => .none
  | some j => .tuple [nd (c.getD j 0 * (lh (us.getD j U0) ts).1), nd (lh (us.getD j U0) ts).2, nd j]
abbrev E14 (us : List U) (ts c l : List Nat) (s5 s6 s7 s8 s9 s10 s11 : Sl) : Ev := [.sh (usD us), .sh (tsD ts), .own true (c.map nd), .sh (ixD l), .sh (lhD us ts), s5, s6, s7, s8, s9, s10, s11, .un, .un]
def lpT : Sm := forS (nthS 1 k93_b__law_pieces)
def lpU : Sm := forS (nthS 1 lpT)
theorem lp_full (p : Ps us ts) (s : St1 us ts c l) {i : Nat} (hi : i < us.length) (s5 s6 s9 s10 s11 : Sl) (j9 : jk s9) :
    exs Φ (nthS 0 lpU) (E14 us ts c l s5 s6 (.sh (nd i)) (.sh (ud (us.getD i U0))) s9 s10 s11) = some (.nx (E14 us ts c l s5 s6 (.sh (nd i)) (.sh (ud (us.getD i U0))) (.sh (.bool (fullB (us.getD i U0) (c.getD i 0)))) s10 s11)) := by
  have i1 : idxD (.list (c.map nd)) (nd i) = some (nd (c.getD i 0)) := idx_l nd (at_lt (by rw [s.cl]; exact hi) 0)
  have i3 : idxD (ud (us.getD i U0)) (.int 3) = some (wd (us.getD i U0).want) := ix3 _ _ _ _ _
  refine Eq.trans (asg_nm (d := .bool (fullB (us.getD i U0) (c.getD i 0))) (e1 := E14 us ts c l s5 s6 (.sh (nd i)) (.sh (ud (us.getD i U0))) s9 s10 s11) ?_ (j9.put rfl)) rfl
  unfold fullB
  cases hw : (us.getD i U0).want with
  | none =>
    rw [hw] at i3
    have i3 : idxD (ud (us.getD i U0)) (.int 3) = some .none := i3
    have n1 : cmpD .isn .none .none = some false := rfl
    simp [ev, op2, opd, res, i3, n1, -List.getD_eq_getElem?_getD]
  | some w =>
    rw [hw] at i3
    have i3 : idxD (ud (us.getD i U0)) (.int 3) = some (nd w) := i3
    have n1 : cmpD .isn (nd w) .none = some true := rfl
    have g1 := ge_nd (c.getD i 0) w
    simp [ev, op2, opd, res, i1, i3, n1, g1, -List.getD_eq_getElem?_getD]
theorem lp_test (p : Ps us ts) (s : St1 us ts c l) {i : Nat} (hi : i < us.length) (s5 s6 s10 s11 : Sl) :
    ev Φ (.or (.var 9) (.b1 .any (.lc [("need", 12), ("there", 13)] (.tp [12, 13]) .zip (.idx (.var 8) (.cst (.int 2))) (.var 3) .noe (.cmp .gt (.var 12) (.var 13))))) (E14 us ts c l s5 s6 (.sh (nd i)) (.sh (ud (us.getD i U0))) (.sh (.bool (fullB (us.getD i U0) (c.getD i 0)))) s10 s11) = some (.bool (!can (us.getD i U0) (c.getD i 0) l), E14 us ts c l s5 s6 (.sh (nd i)) (.sh (ud (us.getD i U0))) (.sh (.bool (fullB (us.getD i U0) (c.getD i 0)))) s10 s11) := by
  have hu := p.ok _ (getD_mem (d := U0) hi)
  rw [← not_can]
  have i2 : idxD (ud (us.getD i U0)) (.int 2) = some (.tuple ((us.getD i U0).ns.map nd)) := ix2 _ _ _ _
  have e1 : ev Φ (.lc [("need", 12), ("there", 13)] (.tp [12, 13]) .zip (.idx (.var 8) (.cst (.int 2))) (.var 3) .noe (.cmp .gt (.var 12) (.var 13))) (E14 us ts c l s5 s6 (.sh (nd i)) (.sh (ud (us.getD i U0))) (.sh (.bool (fullB (us.getD i U0) (c.getD i 0)))) s10 s11) = some (.list (((us.getD i U0).ns.zip l).map fun p => PyData.bool (decide (p.2 < p.1))), E14 us ts c l s5 s6 (.sh (nd i)) (.sh (ud (us.getD i U0))) (.sh (.bool (fullB (us.getD i U0) (c.getD i 0)))) s10 s11) := by
    refine (ev_lcP pr2 (fun _ => true) (fun p => PyData.bool (decide (p.2 < p.1))) ((us.getD i U0).ns.zip l) (by simp [ev, op2, opd, res, i2, -List.getD_eq_getElem?_getD]) rfl (walk_zip' _ l) (fun q hq => ?_) (sz (by have := p.vt.l1; have := hu.len; rw [List.length_zip]; omega))).trans (by rw [all_true])
    refine ⟨[.sh (usD us), .sh (tsD ts), .own true (c.map nd), .sh (ixD l), .sh (lhD us ts), s5, s6, .sh (nd i), .sh (ud (us.getD i U0)), .sh (.bool (fullB (us.getD i U0) (c.getD i 0))), s10, s11, .sh (nd q.1), .sh (nd q.2)], rfl, rfl, fun _ => ?_, rfl⟩
    simp [ev, op2, opd, res, gt_nn]
  exact evl_or2 rfl (ev_b1 (b := .any) (by intro i q; cases q) e1 (any_bools _ _)) rfl
theorem lp_turn (p : Ps us ts) (s : St1 us ts c l) {b : Option Nat} (hb : ∀ j, b = some j → j < us.length) {i : Nat} (hi : i < us.length) (s5 s9 s10 s11 : Sl) (j9 : jk s9) (j10 : jk s10) (j11 : jk s11) :
    ∃ s9' s10' s11', jk s9' ∧ jk s10' ∧ jk s11' ∧
      (exs Φ lpU (E14 us ts c l s5 (.sh (lbD us ts c b)) (.sh (nd i)) (.sh (ud (us.getD i U0))) s9 s10 s11) = some (.nx (E14 us ts c l s5 (.sh (lbD us ts c (nstep us ts c l b i))) (.sh (nd i)) (.sh (ud (us.getD i U0))) s9' s10' s11')) ∨
       exs Φ lpU (E14 us ts c l s5 (.sh (lbD us ts c b)) (.sh (nd i)) (.sh (ud (us.getD i U0))) s9 s10 s11) = some (.ct (E14 us ts c l s5 (.sh (lbD us ts c (nstep us ts c l b i))) (.sh (nd i)) (.sh (ud (us.getD i U0))) s9' s10' s11'))) := by
  have hu := p.ok _ (getD_mem (d := U0) hi)
  have f := lp_full (Φ := Φ) p s hi s5 (.sh (lbD us ts c b)) s9 s10 s11 j9
  have t := lp_test (Φ := Φ) p s hi s5 (.sh (lbD us ts c b)) s10 s11
  unfold nstep
  cases hc : can (us.getD i U0) (c.getD i 0) l with
  | false =>
    rw [hc] at t
    refine ⟨.sh (.bool (fullB (us.getD i U0) (c.getD i 0))), s10, s11, jk.sh _, j10, j11, .inr ?_⟩
    refine exs_nx f ?_
    have : exs Φ (nthS 1 lpU) (E14 us ts c l s5 (.sh (lbD us ts c b)) (.sh (nd i)) (.sh (ud (us.getD i U0))) (.sh (.bool (fullB (us.getD i U0) (c.getD i 0)))) s10 s11) = some (.ct (E14 us ts c l s5 (.sh (lbD us ts c b)) (.sh (nd i)) (.sh (ud (us.getD i U0))) (.sh (.bool (fullB (us.getD i U0) (c.getD i 0)))) s10 s11)) := (exs_ift (by intro i q; cases q) t).trans rfl
    exact exs_ct this
  | true =>
    rw [hc] at t
    have B := lh_small hu p.vt
    have b0 := s.bd p i
    have m1 := mul_bd b0 B.1
    have mu := mul_ndb (c.getD i 0) (lh (us.getD i U0) ts).1 (up_pow b0 (by decide)) (up_pow B.1 (by decide))
    have i1 : idxD (.list (c.map nd)) (nd i) = some (nd (c.getD i 0)) := idx_l nd (at_lt (by rw [s.cl]; exact hi) 0)
    have i2 : idxD (lhD us ts) (nd i) = some (pr2 (lh (us.getD i U0) ts)) := idx_l pr2 (by rw [List.getElem?_map, at_lt hi U0]; rfl)
    have p0 : idxD (pr2 (lh (us.getD i U0) ts)) (.int 0) = some (nd (lh (us.getD i U0) ts).1) := ix0 _ _
    have p1 : idxD (pr2 (lh (us.getD i U0) ts)) (.int 1) = some (nd (lh (us.getD i U0) ts).2) := ix1 _ _ _
    let top := nd (c.getD i 0 * (lh (us.getD i U0) ts).1)
    let bot := nd (lh (us.getD i U0) ts).2
    refine ⟨.sh (.bool (fullB (us.getD i U0) (c.getD i 0))), .sh top, .sh bot, jk.sh _, jk.sh _, jk.sh _, .inl ?_⟩
    refine exs_nx f (exs_nx ((exs_iff (by intro i q; cases q) t).trans rfl) ?_)
    refine exs_nx (e1 := E14 us ts c l s5 (.sh (lbD us ts c b)) (.sh (nd i)) (.sh (ud (us.getD i U0))) (.sh (.bool (fullB (us.getD i U0) (c.getD i 0)))) (.sh top) (.sh bot)) ?_ ?_
    · have ha : ev Φ (.bin .mul (.idx (.var 2) (.var 7)) (.idx (.idx (.var 4) (.var 7)) (.cst (.int 0)))) (E14 us ts c l s5 (.sh (lbD us ts c b)) (.sh (nd i)) (.sh (ud (us.getD i U0))) (.sh (.bool (fullB (us.getD i U0) (c.getD i 0)))) s10 s11) = some (top, (E14 us ts c l s5 (.sh (lbD us ts c b)) (.sh (nd i)) (.sh (ud (us.getD i U0))) (.sh (.bool (fullB (us.getD i U0) (c.getD i 0)))) s10 s11)) := by
        simp [ev, op2, opd, res, i1, i2, p0, mu, top, -List.getD_eq_getElem?_getD]
      have hb : ev Φ (.idx (.idx (.var 4) (.var 7)) (.cst (.int 1))) (E14 us ts c l s5 (.sh (lbD us ts c b)) (.sh (nd i)) (.sh (ud (us.getD i U0))) (.sh (.bool (fullB (us.getD i U0) (c.getD i 0)))) s10 s11) = some (bot, (E14 us ts c l s5 (.sh (lbD us ts c b)) (.sh (nd i)) (.sh (ud (us.getD i U0))) (.sh (.bool (fullB (us.getD i U0) (c.getD i 0)))) s10 s11)) := by
        simp [ev, op2, opd, res, i2, p1, bot, -List.getD_eq_getElem?_getD]
      refine exs_asp (ds := [top, bot]) (evl_cons ha (evl_cons hb evl_nil)) ?_
      rcases j10 with rfl | ⟨_, rfl⟩ <;> rcases j11 with rfl | ⟨_, rfl⟩ <;> rfl
    · have take : ∀ b : Option Nat, exs Φ (.consB (.asg (.nm 6) (.tup (.cons (.var 10) (.cons (.var 11) (.cons (.var 7) .nil))))) .nilB) (E14 us ts c l s5 (.sh (lbD us ts c b)) (.sh (nd i)) (.sh (ud (us.getD i U0))) (.sh (.bool (fullB (us.getD i U0) (c.getD i 0)))) (.sh top) (.sh bot)) = some (.nx (E14 us ts c l s5 (.sh (lbD us ts c (some i))) (.sh (nd i)) (.sh (ud (us.getD i U0))) (.sh (.bool (fullB (us.getD i U0) (c.getD i 0)))) (.sh top) (.sh bot))) := fun b =>
        exs_nx (Eq.trans (asg_nm (ev_tup (evl_cons (d := top) rfl (evl_cons (d := bot) rfl (evl_cons (d := nd i) rfl evl_nil))) z3) rfl) rfl) rfl
      cases b with
      | none =>
        have ti : ev Φ (.or (.cmp .is (.var 6) (.cst .none)) (.cmp .lt (.bin .mul (.var 10) (.idx (.var 6) (.cst (.int 1)))) (.bin .mul (.idx (.var 6) (.cst (.int 0))) (.var 11)))) (E14 us ts c l s5 (.sh (lbD us ts c none)) (.sh (nd i)) (.sh (ud (us.getD i U0))) (.sh (.bool (fullB (us.getD i U0) (c.getD i 0)))) (.sh top) (.sh bot)) = some (.bool true, E14 us ts c l s5 (.sh (lbD us ts c none)) (.sh (nd i)) (.sh (ud (us.getD i U0))) (.sh (.bool (fullB (us.getD i U0) (c.getD i 0)))) (.sh top) (.sh bot)) := by
          have n0 : cmpD .is (lbD us ts c none) .none = some true := rfl
          exact evl_ort (by simp [ev, op2, opd, res, n0])
        exact exs_nx ((exs_ift (by intro i q; cases q) ti).trans (take none)) rfl
      | some j =>
        have hj := hb j rfl
        have huj := p.ok _ (getD_mem (d := U0) hj)
        have Bj := lh_small huj p.vt
        have bj := s.bd p j
        have mj := mul_bd bj Bj.1
        have ti : ev Φ (.or (.cmp .is (.var 6) (.cst .none)) (.cmp .lt (.bin .mul (.var 10) (.idx (.var 6) (.cst (.int 1)))) (.bin .mul (.idx (.var 6) (.cst (.int 0))) (.var 11)))) (E14 us ts c l s5 (.sh (lbD us ts c (some j))) (.sh (nd i)) (.sh (ud (us.getD i U0))) (.sh (.bool (fullB (us.getD i U0) (c.getD i 0)))) (.sh top) (.sh bot)) = some (.bool (decide (lev us ts c i < lev us ts c j)), E14 us ts c l s5 (.sh (lbD us ts c (some j))) (.sh (nd i)) (.sh (ud (us.getD i U0))) (.sh (.bool (fullB (us.getD i U0) (c.getD i 0)))) (.sh top) (.sh bot)) := by
          have n0 : cmpD .is (lbD us ts c (some j)) .none = some false := rfl
          refine evl_or (e1 := E14 us ts c l s5 (.sh (lbD us ts c (some j))) (.sh (nd i)) (.sh (ud (us.getD i U0))) (.sh (.bool (fullB (us.getD i U0) (c.getD i 0)))) (.sh top) (.sh bot)) (by simp [ev, op2, opd, res, n0]) ?_
          have q0 : idxD (lbD us ts c (some j)) (.int 0) = some (nd (c.getD j 0 * (lh (us.getD j U0) ts).1)) := ix0 _ _
          have q1 : idxD (lbD us ts c (some j)) (.int 1) = some (nd (lh (us.getD j U0) ts).2) := ix1 _ _ _
          have w1 := mul_ndb (c.getD i 0 * (lh (us.getD i U0) ts).1) (lh (us.getD j U0) ts).2 (up_pow m1 (by decide)) (up_pow Bj.2 (by decide))
          have w2 := mul_ndb (c.getD j 0 * (lh (us.getD j U0) ts).1) (lh (us.getD i U0) ts).2 (up_pow mj (by decide)) (up_pow B.2 (by decide))
          have w3 := lt_nd (c.getD i 0 * (lh (us.getD i U0) ts).1 * (lh (us.getD j U0) ts).2) (c.getD j 0 * (lh (us.getD j U0) ts).1 * (lh (us.getD i U0) ts).2)
          rw [decide_eq_decide.mpr (rep_lt (lh_rep hu p.vt) (lh_rep huj p.vt) (c.getD i 0) (c.getD j 0))] at w3
          have ed : ((c.getD i 0 : Rat) * hgtM (us.getD i U0) ts < (c.getD j 0 : Rat) * hgtM (us.getD j U0) ts) = (lev us ts c i < lev us ts c j) := rfl
          refine ev_cmp' (x := .v (nd (c.getD i 0 * (lh (us.getD i U0) ts).1 * (lh (us.getD j U0) ts).2))) (y := .v (nd (c.getD j 0 * (lh (us.getD j U0) ts).1 * (lh (us.getD i U0) ts).2))) (opd_nv (by intro i q; cases q) (e1 := E14 us ts c l s5 (.sh (lbD us ts c (some j))) (.sh (nd i)) (.sh (ud (us.getD i U0))) (.sh (.bool (fullB (us.getD i U0) (c.getD i 0)))) (.sh top) (.sh bot)) ?_) (opd_nv (by intro i q; cases q) ?_) rfl rfl w3
          · simp [ev, op2, opd, res, q1, w1, top, -List.getD_eq_getElem?_getD]
          · simp [ev, op2, opd, res, q0, w2, bot, -List.getD_eq_getElem?_getD]
        by_cases q : lev us ts c i < lev us ts c j
        · rw [decide_eq_true q] at ti
          simp only [q, if_true]
          exact exs_nx ((exs_ift (by intro i q; cases q) ti).trans (take (some j))) rfl
        · rw [decide_eq_false q] at ti
          simp only [q, if_true, if_false]
          exact exs_nx ((exs_iff (by intro i q; cases q) ti).trans rfl) rfl
end
end Iv
end
section
set_option Elab.async false
set_option linter.all false
set_option maxRecDepth 100000
set_option exponentiation.threshold 3000
set_option maxHeartbeats 4000000
namespace Iv
open PySem PySem.Spec L2
section
variable {us : List U} {ts c l : List Nat} {u : U} {Φ : Fn}
theorem lp_inner (p : Ps us ts) (s : St1 us ts c l) (s5 s7 s8 s9 s10 s11 : Sl) (j7 : jk s7) (j8 : jk s8) (j9 : jk s9) (j10 : jk s10) (j11 : jk s11) :
    ∃ s7' s8' s9' s10' s11', jk s7' ∧ jk s8' ∧ jk s9' ∧ jk s10' ∧ jk s11' ∧
      exs Φ (nthS 1 lpT) (E14 us ts c l s5 (.sh .none) s7 s8 s9 s10 s11) = some (.nx (E14 us ts c l s5 (.sh (lbD us ts c (nxt us ts c l))) s7' s8' s9' s10' s11')) := by
  obtain ⟨z, ⟨o1, o2, o3, o4, o5, o6⟩, lp⟩ := for_exc (g := .tp [7, 8]) (f := exs Φ lpU) (at2 ud) (fun z : Option Nat × Sl × Sl × Sl × Sl × Sl => E14 us ts c l s5 (.sh (lbD us ts c z.1)) z.2.1 z.2.2.1 z.2.2.2.1 z.2.2.2.2.1 z.2.2.2.2.2)
    (fun k z => z.1 = (List.range k).foldl (nstep us ts c l) none ∧ jk z.2.1 ∧ jk z.2.2.1 ∧ jk z.2.2.2.1 ∧ jk z.2.2.2.2.1 ∧ jk z.2.2.2.2.2) us.zipIdx 0 (none, s7, s8, s9, s10, s11) ⟨rfl, j7, j8, j9, j10, j11⟩ (fun i x z hx ⟨q1, q2, q3, q4, q5, q6⟩ => by
      rw [List.getElem?_zipIdx] at hx
      obtain ⟨u, hu, rfl⟩ := Option.map_eq_some_iff.mp hx
      have hi := (List.getElem?_eq_some_iff.mp hu).1
      have eu : u = us.getD i U0 := (getD_of hu).symm
      subst eu
      rw [Nat.zero_add] at *
      have hb : ∀ j, z.1 = some j → j < us.length := fun j hj => by
        have := nxt_gen us ts c l i
        rw [← q1, hj] at this
        omega
      obtain ⟨s9', s10', s11', k9, k10, k11, tr⟩ := lp_turn (Φ := Φ) p s hb hi s5 z.2.2.2.1 z.2.2.2.2.1 z.2.2.2.2.2 q4 q5 q6
      refine ⟨?_, E14 us ts c l s5 (.sh (lbD us ts c z.1)) (.sh (nd i)) (.sh (ud (us.getD i U0))) z.2.2.2.1 z.2.2.2.2.1 z.2.2.2.2.2, (nstep us ts c l z.1 i, .sh (nd i), .sh (ud (us.getD i U0)), s9', s10', s11'), rfl, tr, ?_, jk.sh _, jk.sh _, k9, k10, k11⟩
      · show (putOk _ 7 && (putOk _ 8 && true)) = true
        rw [q2.put rfl, q3.put rfl]
        rfl
      · show _ = (List.range (i + 1)).foldl _ none
        rw [List.range_succ, List.foldl_append, ← q1]
        rfl)
  rw [List.length_zipIdx, Nat.zero_add] at o1
  have en : nxt us ts c l = z.1 := o1.symm
  rw [en]
  exact ⟨z.2.1, z.2.2.1, z.2.2.2.1, z.2.2.2.2.1, z.2.2.2.2.2, o2, o3, o4, o5, o6, (exs_for rfl rfl (walk_enm_t ud us)).trans lp⟩
theorem lp_outer (p : Ps us ts) : ∀ (ds : List D) (c l : List Nat), St1 us ts c l → ∀ (s5 s6 s7 s8 s9 s10 s11 : Sl), jk s5 → jk s6 → jk s7 → jk s8 → jk s9 → jk s10 → jk s11 →
    ∃ l' s5' s6' s7' s8' s9' s10' s11', forGo (.nm 5) (exs Φ lpT) ds (E14 us ts c l s5 s6 s7 s8 s9 s10 s11) = some (.nx (E14 us ts (iter us ts ds.length c l) l' s5' s6' s7' s8' s9' s10' s11'))
  | [], c, l, s, s5, s6, s7, s8, s9, s10, s11, _, _, _, _, _, _, _ => ⟨l, s5, s6, s7, s8, s9, s10, s11, rfl⟩
  | d :: ds, c, l, s, s5, s6, s7, s8, s9, s10, s11, j5, j6, j7, j8, j9, j10, j11 => by
    have ok : tgOk (E14 us ts c l s5 s6 s7 s8 s9 s10 s11) (.nm 5) = true := by
      show (putOk _ 5 && true) = true
      rw [j5.put rfl]
      rfl
    have bd : bindT (.nm 5) d (E14 us ts c l s5 s6 s7 s8 s9 s10 s11) = some (E14 us ts c l (.sh d) s6 s7 s8 s9 s10 s11) := rfl
    have t0 : exs Φ (nthS 0 lpT) (E14 us ts c l (.sh d) s6 s7 s8 s9 s10 s11) = some (.nx (E14 us ts c l (.sh d) (.sh .none) s7 s8 s9 s10 s11)) := Eq.trans (asg_nm (d := .none) rfl (j6.put rfl)) rfl
    obtain ⟨s7', s8', s9', s10', s11', k7, k8, k9, k10, k11, t1⟩ := lp_inner (Φ := Φ) p s (.sh d) s7 s8 s9 s10 s11 j7 j8 j9 j10 j11
    cases h : nxt us ts c l with
    | none =>
      rw [h] at t1
      have n0 : cmpD .is (lbD us ts c none) .none = some true := rfl
      have t2 : exs Φ (nthS 2 lpT) (E14 us ts c l (.sh d) (.sh (lbD us ts c none)) s7' s8' s9' s10' s11') = some (.bk (E14 us ts c l (.sh d) (.sh (lbD us ts c none)) s7' s8' s9' s10' s11')) :=
        (exs_ift (by intro i q; cases q) (show ev Φ (.cmp .is (.var 6) (.cst .none)) (E14 us ts c l (.sh d) (.sh (lbD us ts c none)) s7' s8' s9' s10' s11') = some (.bool true, E14 us ts c l (.sh d) (.sh (lbD us ts c none)) s7' s8' s9' s10' s11') by simp [ev, op2, opd, res, n0])).trans rfl
      have ei : iter us ts (d :: ds).length c l = c := iter_none h
      rw [ei]
      exact ⟨l, _, _, s7', s8', s9', s10', s11', for_bk ok bd (exs_nx t0 (exs_nx t1 (exs_bk t2)))⟩
    | some i =>
      rw [h] at t1
      obtain ⟨h1, h2, _⟩ := nxt_some h
      have hu := p.ok _ (getD_mem (d := U0) h1)
      have hc : i < c.length := by rw [s.cl]; exact h1
      have n0 : cmpD .is (lbD us ts c (some i)) .none = some false := rfl
      have q2 : idxD (lbD us ts c (some i)) (.int 2) = some (nd i) := ix2 _ _ _ _
      have t2 : exs Φ (nthS 2 lpT) (E14 us ts c l (.sh d) (.sh (lbD us ts c (some i))) s7' s8' s9' s10' s11') = some (.nx (E14 us ts c l (.sh d) (.sh (lbD us ts c (some i))) s7' s8' s9' s10' s11')) :=
        (exs_iff (by intro i q; cases q) (show ev Φ (.cmp .is (.var 6) (.cst .none)) (E14 us ts c l (.sh d) (.sh (lbD us ts c (some i))) s7' s8' s9' s10' s11') = some (.bool false, E14 us ts c l (.sh d) (.sh (lbD us ts c (some i))) s7' s8' s9' s10' s11') by simp [ev, op2, opd, res, n0])).trans rfl
      have t3 : exs Φ (nthS 3 lpT) (E14 us ts c l (.sh d) (.sh (lbD us ts c (some i))) s7' s8' s9' s10' s11') = some (.nx (E14 us ts (c.set i (c.getD i 0 + 1)) l (.sh d) (.sh (lbD us ts c (some i))) s7' s8' s9' s10' s11')) := by
        refine Eq.trans (exs_aug (Φ := Φ) (n := i) (v := c.getD i 0) (d := 1) (ds := c.map nd) rfl ?_ (by rw [List.getElem?_map, at_lt hc 0]; rfl) rfl) ?_
        · simp [ev, op2, opd, res, q2]
        · rw [show (c.map nd).set i (nd (c.getD i 0 + 1)) = (c.set i (c.getD i 0 + 1)).map nd from (List.map_set ..).symm]
          rfl
      have t4 : exs Φ (nthS 4 lpT) (E14 us ts (c.set i (c.getD i 0 + 1)) l (.sh d) (.sh (lbD us ts c (some i))) s7' s8' s9' s10' s11') = some (.nx (E14 us ts (c.set i (c.getD i 0 + 1)) (less (us.getD i U0) l) (.sh d) (.sh (lbD us ts c (some i))) s7' s8' s9' s10' s11')) := by
        have j1 : idxD (usD us) (nd i) = some (ud (us.getD i U0)) := idx_t ud (at_lt h1 U0)
        have j2 : idxD (ud (us.getD i U0)) (.int 2) = some (.tuple ((us.getD i U0).ns.map nd)) := ix2 _ _ _ _
        have ik : ev Φ (.idx (.idx (.var 0) (.idx (.var 6) (.cst (.int 2)))) (.cst (.int 2))) (E14 us ts (c.set i (c.getD i 0 + 1)) l (.sh d) (.sh (lbD us ts c (some i))) s7' s8' s9' s10' s11') = some (.tuple ((us.getD i U0).ns.map nd), E14 us ts (c.set i (c.getD i 0 + 1)) l (.sh d) (.sh (lbD us ts c (some i))) s7' s8' s9' s10' s11') := by
          simp [ev, op2, opd, res, q2, j1, j2, -List.getD_eq_getElem?_getD]
        have hv : ev Φ (.var 3) (E14 us ts (c.set i (c.getD i 0 + 1)) l (.sh d) (.sh (lbD us ts c (some i))) s7' s8' s9' s10' s11') = some (ixD l, E14 us ts (c.set i (c.getD i 0 + 1)) l (.sh d) (.sh (lbD us ts c (some i))) s7' s8' s9' s10' s11') := rfl
        have el : ev Φ (.lc [("need", 12), ("there", 13)] (.tp [12, 13]) .zip (.idx (.idx (.var 0) (.idx (.var 6) (.cst (.int 2)))) (.cst (.int 2))) (.var 3) .noe (.bin .sub (.var 13) (.var 12))) (E14 us ts (c.set i (c.getD i 0 + 1)) l (.sh d) (.sh (lbD us ts c (some i))) s7' s8' s9' s10' s11') = some (ixD (less (us.getD i U0) l), E14 us ts (c.set i (c.getD i 0 + 1)) l (.sh d) (.sh (lbD us ts c (some i))) s7' s8' s9' s10' s11') := by
          refine (ev_lcP pr2 (fun _ => true) (fun p => nd (p.2 - p.1)) ((us.getD i U0).ns.zip l) ik hv (walk_zip' _ l) (fun q hq => ?_) (sz (by have := p.vt.l1; have := hu.len; rw [List.length_zip]; omega))).trans ?_
          · refine ⟨[.sh (usD us), .sh (tsD ts), .own true ((c.set i (c.getD i 0 + 1)).map nd), .sh (ixD l), .sh (lhD us ts), .sh d, .sh (lbD us ts c (some i)), s7', s8', s9', s10', s11', .sh (nd q.1), .sh (nd q.2)], rfl, rfl, fun _ => ?_, rfl⟩
            have sb := sub_nd ((can_fits h2).1 q hq)
            simp [ev, op2, opd, res, sb]
          · rw [all_true]
            unfold ixD less
            rw [← swap_less, List.map_map]
            rfl
        exact Eq.trans (asg_nm el rfl) rfl
      obtain ⟨l', r5, r6, r7, r8, r9, r10, r11, g⟩ := lp_outer p ds _ _ (s.step p h).1 (.sh d) (.sh (lbD us ts c (some i))) s7' s8' s9' s10' s11' (jk.sh _) (jk.sh _) k7 k8 k9 k10 k11
      have ei : iter us ts (d :: ds).length c l = iter us ts ds.length (c.set i (c.getD i 0 + 1)) (less (us.getD i U0) l) := iter_some h
      rw [ei]
      exact ⟨l', r5, r6, r7, r8, r9, r10, r11, for_nx ok bd (exs_nx t0 (exs_nx t1 (exs_nx t2 (exs_nx t3 (exs_nx t4 rfl))))) g⟩
theorem walk4000 : walkD .rng (.int 4000) .none = some ((List.range 4000).map nd) := walk_rngN (n := 4000) (by omega)
theorem law_pieces_ok (p : Ps us ts) : Gv 28 [usD us, tsD ts] (ixD (pcs us ts)) := by
  refine gv (d := k93_d__law_pieces) rfl rfl fun Φ hΦ => ?_
  obtain ⟨l', r5, r6, r7, r8, r9, r10, r11, g⟩ := lp_outer (Φ := Φ) p ((List.range 4000).map nd) _ _ St1.start .un .un .un .un .un .un .un (.inl rfl) (.inl rfl) (.inl rfl) (.inl rfl) (.inl rfl) (.inl rfl) (.inl rfl)
  have el : ((List.range 4000).map nd).length = 4000 := by rw [List.length_map, List.length_range]
  rw [el] at g
  have hr : repD (.list [nd 0]) (nd us.length) = some (ixD (List.replicate us.length 0)) := rep_nd 0 _ (by have := p.l1; omega)
  let e0 : Ev := [.sh (usD us), .sh (tsD ts), .un, .un, .un, .un, .un, .un, .un, .un, .un, .un, .un, .un]
  have hl : ev Φ (.b1 .len (.var 0)) e0 = some (nd us.length, e0) := ev_b1v rfl (len_us us)
  have ht : ev Φ (.b1 .list (.var 1)) e0 = some (ixD ts, e0) := ev_b1v rfl rfl
  have hh : ev Φ (.lc [("user", 8)] (.nm 8) .walk (.var 0) .noe .noe (.call 27 (.cons (.var 8) (.cons (.var 1) .nil)))) e0 = some (lhD us ts, e0) := by
    refine (ev_lcP ud (fun _ => true) (fun u => pr2 (lh u ts)) us rfl rfl rfl (fun u hu => ?_) (sz (by have := p.l1; omega))).trans (by rw [all_true]; unfold lhD; rw [List.map_map]; rfl)
    have c := (law_height_ok (p.ok u hu) p.vt).on (hΦ 27 (by decide))
    refine ⟨[.sh (usD us), .sh (tsD ts), .un, .un, .un, .un, .un, .un, .sh (ud u), .un, .un, .un, .un, .un], rfl, rfl, fun _ => ?_, rfl⟩
    exact ev_call (evl_cons (d := ud u) rfl (evl_cons (d := tsD ts) rfl evl_nil)) rfl rfl c rfl
  have t0 : exs Φ (nthS 0 k93_b__law_pieces) e0 = some (.nx (E14 us ts (List.replicate us.length 0) ts .un .un .un .un .un .un .un)) := exs_asp (evl_cons (ev_rep (ds := [nd 0]) rfl z1 hl hr) (evl_cons ht (evl_cons hh evl_nil))) rfl
  have t1 : exs Φ (nthS 1 k93_b__law_pieces) (E14 us ts (List.replicate us.length 0) ts .un .un .un .un .un .un .un) = _ := (exs_for rfl rfl walk4000).trans g
  refine ⟨(E14 us ts (pcs us ts) l' r5 r6 r7 r8 r9 r10 r11).set 2 (.sh (ixD (pcs us ts))), ?_, by simp⟩
  exact exs_nx t0 (exs_nx t1 (exs_ret rfl))
end
end Iv
end
section
set_option Elab.async false
set_option linter.all false
set_option maxRecDepth 100000
set_option exponentiation.threshold 3000
set_option maxHeartbeats 4000000
namespace Iv
open PySem PySem.Spec L2
theorem fold_min_cast : ∀ (xs : List Nat) (x : Nat), (xs.map fun (n : Nat) => (n : Int)).foldl (fun m x => if x < m then x else m) (x : Int) = ((xs.foldl min x : Nat) : Int)
  | [], x => rfl
  | a :: xs, x => by
    rw [List.map_cons, List.foldl_cons, List.foldl_cons]
    have : (if (a : Int) < (x : Int) then (a : Int) else (x : Int)) = ((min x a : Nat) : Int) := by split <;> omega
    rw [this, fold_min_cast xs (min x a)]
theorem fold_max_cast : ∀ (xs : List Nat) (x : Nat), (xs.map fun (n : Nat) => (n : Int)).foldl (fun m x => if x > m then x else m) (x : Int) = ((xs.foldl max x : Nat) : Int)
  | [], x => rfl
  | a :: xs, x => by
    rw [List.map_cons, List.foldl_cons, List.foldl_cons]
    have : (if (a : Int) > (x : Int) then (a : Int) else (x : Int)) = ((max x a : Nat) : Int) := by split <;> omega
    rw [this, fold_max_cast xs (max x a)]
theorem ints_ix (xs : List Nat) : intsOf (xs.map nd) = some (xs.map fun (n : Nat) => (n : Int)) := by
  have := ints_nd (fun n : Nat => n) xs
  exact this
theorem min_ix (x : Nat) (xs : List Nat) : b1D .min (ixD (x :: xs)) = some (nd (minL (x :: xs))) := by
  show (match intsOf ((x :: xs).map nd) with
    | some (n :: ns) => some (PyData.int (ns.foldl (fun m x => if x < m then x else m) n))
    | _ => none) = _
  rw [ints_ix, List.map_cons]
  show some (PyData.int _) = _
  rw [fold_min_cast]
  rfl
theorem max_ix (x : Nat) (xs : List Nat) : b1D .max (ixD (x :: xs)) = some (nd (xs.foldl max x)) := by
  show (match intsOf ((x :: xs).map nd) with
    | some (n :: ns) => some (PyData.int (ns.foldl (fun m x => if x > m then x else m) n))
    | _ => none) = _
  rw [ints_ix, List.map_cons]
  show some (PyData.int _) = _
  rw [fold_max_cast]
  rfl
theorem sum_ix (xs : List Nat) : b1D .sum (ixD xs) = some (nd xs.sum) := by
  show (intsOf (xs.map nd)).map _ = _
  rw [ints_ix]
  show some (PyData.int _) = _
  rw [sum_cast]
  rfl
theorem max_ixt (x : Nat) (xs : List Nat) : b1D .max (.tuple ((x :: xs).map nd)) = some (nd (xs.foldl max x)) := by
  show (match intsOf ((x :: xs).map nd) with
    | some (n :: ns) => some (PyData.int (ns.foldl (fun m x => if x > m then x else m) n))
    | _ => none) = _
  rw [ints_ix, List.map_cons]
  show some (PyData.int _) = _
  rw [fold_max_cast]
  rfl
theorem sum_ixt (xs : List Nat) : b1D .sum (.tuple (xs.map nd)) = some (nd xs.sum) := by
  show (intsOf (xs.map nd)).map _ = _
  rw [ints_ix]
  show some (PyData.int _) = _
  rw [sum_cast]
  rfl
theorem fdv_nd {a b : Nat} (h0 : 0 < b) (hb : b < 2 ^ 600) : binD .fdv (nd a) (nd b) = some (nd (a / b)) := by
  have h : divOk (b : Int) = true := div_ok (k := 600) (by omega) (by rw [Int.natAbs_natCast]; exact hb)
  show (if divOk (b : Int) then some (PyData.int ((a : Int) / (b : Int))) else none) = _
  rw [h]
  unfold nd
  rw [Int.natCast_ediv]
  rfl
section
variable {us : List U} {ts c l gs : List Nat} {u : U} {Φ : Fn} {G : Nat}
theorem mkl_ne (hu : Vu G u) (hl : gs.length = G) : ∃ x xs, mkl u gs = x :: xs := by
  obtain ⟨n, hn, h0⟩ := hu.ex
  obtain ⟨g, hg⟩ := List.mem_iff_getElem?.mp hn
  have lg := (List.getElem?_eq_some_iff.mp hg).1
  rw [hu.len] at lg
  have : gs.getD g 0 / n ∈ mkl u gs := List.mem_map.mpr ⟨(gs.getD g 0, n), List.mem_filter.mpr ⟨List.mem_of_getElem? (List.getElem?_zip_eq_some.mpr ⟨at_lt (by rw [hl]; exact lg) 0, hg⟩), decide_eq_true h0⟩, rfl⟩
  cases e : mkl u gs with
  | nil => rw [e] at this; cases this
  | cons x xs => exact ⟨x, xs, rfl⟩
theorem ev_mkl (hu : Vu G u) (hG : G ≤ 4) (f g : Str) (s2 : Sl) : ev Φ (.lc [(f, 3), (g, 4)] (.tp [3, 4]) .zip (.var 1) (.idx (.var 0) (.cst (.int 2))) (.cmp .gt (.var 4) (.cst (.int 0))) (.bin .fdv (.var 3) (.var 4))) [.sh (ud u), .sh (ixD gs), s2, .un, .un] = some (ixD (mkl u gs), [.sh (ud u), .sh (ixD gs), s2, .un, .un]) := by
  have i2 : idxD (ud u) (.int 2) = some (.tuple (u.ns.map nd)) := ix2 _ _ _ _
  refine (ev_lcP pr2 (fun p => decide (0 < p.2)) (fun p => nd (p.1 / p.2)) (gs.zip u.ns) rfl (by simp [ev, op2, opd, res, i2]) (walk_zip'' gs u.ns) (fun p hp => ?_) (sz (by have := hu.len; rw [List.length_zip]; omega))).trans ?_
  · have k := hu.le _ (List.of_mem_zip hp).2
    refine ⟨[.sh (ud u), .sh (ixD gs), s2, .sh (nd p.1), .sh (nd p.2)], rfl, lcT_bool (by intro i q; cases q) (by intro q; cases q) (by simp [ev, op2, opd, res, gt_nd]), fun h => ?_, rfl⟩
    have q := fdv_nd (a := p.1) (of_decide_eq_true h) (Nat.lt_of_le_of_lt k (by decide))
    simp [ev, op2, opd, res, q]
  · unfold ixD mkl
    rw [List.map_map]
    rfl
theorem whole_ok (hu : Vu G u) (hG : G ≤ 4) (hl : gs.length = G) : Gv 33 [ud u, ixD gs] (nd (mkN u gs)) := by
  obtain ⟨x, xs, e⟩ := mkl_ne hu hl
  have i3 : idxD (ud u) (.int 3) = some (wd u.want) := ix3 _ _ _ _ _
  refine gv (d := k93_d_whole_makes) rfl rfl fun Φ hΦ => ⟨[.sh (ud u), .sh (ixD gs), .sh (nd (minL (mkl u gs))), .un, .un], ?_, by simp⟩
  have e1 := ev_b1 (b := .min) (by intro i q; cases q) (ev_mkl (Φ := Φ) (gs := gs) hu hG "one" "need" .un) (d := nd (minL (mkl u gs))) (by rw [e]; exact min_ix x xs)
  refine exs_nx (e1 := [.sh (ud u), .sh (ixD gs), .sh (nd (minL (mkl u gs))), .un, .un]) (Eq.trans (asg_nm e1 rfl) rfl) (exs_ret ?_)
  cases hw : u.want with
  | none =>
    rw [hw] at i3
    have i3 : idxD (ud u) (.int 3) = some .none := i3
    have n1 : cmpD .is .none .none = some true := rfl
    have em : mkN u gs = minL (mkl u gs) := by unfold mkN; rw [hw]; simp
    rw [em]
    refine ev_itet (by intro i q; cases q) (e1 := [.sh (ud u), .sh (ixD gs), .sh (nd (minL (mkl u gs))), .un, .un]) ?_ rfl
    simp [ev, op2, opd, res, i3, n1]
  | some w =>
    rw [hw] at i3
    have i3 : idxD (ud u) (.int 3) = some (nd w) := i3
    have n1 : cmpD .is (nd w) .none = some false := rfl
    have em : mkN u gs = min (minL (mkl u gs)) w := by
      unfold mkN
      rw [hw, e]
      show (xs ++ [w]).foldl min x = min (xs.foldl min x) w
      rw [List.foldl_append]
      rfl
    rw [em]
    have b := min_nd (minL (mkl u gs)) w
    refine ev_itef (by intro i q; cases q) (e1 := [.sh (ud u), .sh (ixD gs), .sh (nd (minL (mkl u gs))), .un, .un]) ?_ ?_
    · simp [ev, op2, opd, res, i3, n1]
    · simp [ev, op2, opd, res, i3, b]
theorem add_ll (a b : List Nat) (h : a.length + b.length ≤ 100) : binD .add (ixD a) (ixD b) = some (ixD (a ++ b)) := by
  show (if (a.map nd).length + (b.map nd).length ≤ sizeLine then some (PyData.list (a.map nd ++ b.map nd)) else none) = _
  rw [if_pos (by rw [List.length_map, List.length_map]; exact sz h), ← List.map_append]
  rfl
theorem lmakes_ok (hu : Vu G u) (hG : G ≤ 4) (hl : gs.length = G) : Gv 29 [ud u, ixD gs] (nd (mkN u gs)) := by
  obtain ⟨x, xs, e⟩ := mkl_ne hu hl
  have i3 : idxD (ud u) (.int 3) = some (wd u.want) := ix3 _ _ _ _ _
  refine gv (d := k93_d__law_makes) rfl rfl fun Φ hΦ => ⟨[.sh (ud u), .sh (ixD gs), .sh (ixD (mkl u gs)), .un, .un], ?_, by simp⟩
  have e1 := ev_mkl (Φ := Φ) (gs := gs) hu hG "there" "need" .un
  have lm : (mkl u gs).length ≤ 4 := by
    unfold mkl
    rw [List.length_map]
    exact Nat.le_trans (List.length_filter_le _ _) (by have := hu.len; rw [List.length_zip]; omega)
  refine exs_nx (e1 := [.sh (ud u), .sh (ixD gs), .sh (ixD (mkl u gs)), .un, .un]) (Eq.trans (asg_nm e1 rfl) rfl) (exs_ret ?_)
  refine ev_b1 (b := .min) (x := ixD (mkl u gs ++ u.want.toList)) (by intro i q; cases q) ?_ ?_
  · cases hw : u.want with
    | none =>
      rw [hw] at i3
      have i3 : idxD (ud u) (.int 3) = some .none := i3
      have n1 : cmpD .is .none .none = some true := rfl
      rw [show mkl u gs ++ (none : Option Nat).toList = mkl u gs from List.append_nil _]
      refine ev_itet (by intro i q; cases q) (e1 := [.sh (ud u), .sh (ixD gs), .sh (ixD (mkl u gs)), .un, .un]) ?_ rfl
      simp [ev, op2, opd, res, i3, n1]
    | some w =>
      rw [hw] at i3
      have i3 : idxD (ud u) (.int 3) = some (nd w) := i3
      have n1 : cmpD .is (nd w) .none = some false := rfl
      have b : binD .add (ixD (mkl u gs)) (.list [nd w]) = some (ixD (mkl u gs ++ [w])) := add_ll (mkl u gs) [w] (by rw [List.length_singleton]; omega)
      refine ev_itef (by intro i q; cases q) (e1 := [.sh (ud u), .sh (ixD gs), .sh (ixD (mkl u gs)), .un, .un]) ?_ ?_
      · simp [ev, op2, opd, res, i3, n1]
      · simp [ev, op2, opd, res, i3, b, z1]
  · show b1D .min (ixD (mkl u gs ++ u.want.toList)) = some (nd (minL (mkl u gs ++ u.want.toList)))
    rw [e]
    exact min_ix x _
theorem pcs_st (p : Ps us ts) (hs : ts.sum ≤ 4000) : ∃ l', St1 us ts (pcs us ts) l' := by
  obtain ⟨l', s, _, _⟩ := iter_inv p (fun _ _ => True) (fun _ _ _ _ _ _ => trivial) 4000 _ _ St1.start trivial hs
  exact ⟨l', s⟩
theorem pcs_len (p : Ps us ts) (hs : ts.sum ≤ 4000) : (pcs us ts).length = us.length := by
  obtain ⟨_, s⟩ := pcs_st p hs
  exact s.cl
theorem pcs_bd (p : Ps us ts) (hs : ts.sum ≤ 4000) (i : Nat) : (pcs us ts).getD i 0 < 2 ^ 20 := by
  obtain ⟨_, s⟩ := pcs_st p hs
  exact s.bd p i
end
end Iv
end
section
set_option Elab.async false
set_option linter.all false
set_option maxRecDepth 100000
set_option exponentiation.threshold 3000
set_option maxHeartbeats 4000000
namespace Iv
open PySem PySem.Spec L2
theorem z_small {n : Nat} (h : n ≤ 10) : n ≤ sizeLine := Nat.le_trans h (by decide)
section
variable {us : List U} {ts c l gs : List Nat} {u : U} {Φ : Fn} {G : Nat}
def tellN (us : List U) (i : Nat) (ns : List Nat) : U := ⟨(us.getD i U0).w, ns, (us.getD i U0).want⟩
def truN (us : List U) (ts : List Nat) (i : Nat) (ns : List Nat) : Nat := mkN (us.getD i U0) (ns.map fun n => (pcs (us.set i (tellN us i ns)) ts).getD i 0 * n)
theorem told_ps (p : Ps us ts) {i : Nat} {v : U} (hv : Vu ts.length v) : Ps (us.set i v) ts := ⟨by rw [List.length_set]; exact p.l0, by rw [List.length_set]; exact p.l1, fun u hu => by
  rcases List.mem_or_eq_of_mem_set hu with h | h
  · exact p.ok u h
  · rw [h]; exact hv, p.vt⟩
theorem usD_set {i : Nat} (hi : i < us.length) (v : U) : (us.map ud).take i ++ [ud v] ++ (us.map ud).drop (i + 1) = (us.set i v).map ud := by
  rw [List.set_eq_take_append_cons_drop, if_pos hi, List.map_append, List.map_cons, List.map_take, List.map_drop, List.append_assoc]
  rfl
theorem bin_tt (a b : List D) (h : a.length + b.length ≤ 10) : binD .add (.tuple a) (.tuple b) = some (.tuple (a ++ b)) := add_tt a b (z_small h)
/-- the facts of a telling's slices -/
structure TellF (us : List U) (i : Nat) (ns : List Nat) : Prop where
  s1 : slcD none (some (i : Int)) (usD us) = some (.tuple ((us.map ud).take i))
  s2 : slcD (some ((i : Int) + 1)) none (usD us) = some (.tuple ((us.map ud).drop (i + 1)))
  s3 : slcD none (some 2) (ud (us.getD i U0)) = some (.tuple [.str "user", nd (us.getD i U0).w])
  s4 : slcD (some 3) none (ud (us.getD i U0)) = some (.tuple [wd (us.getD i U0).want])
  a1 : binD .add (.tuple ((us.map ud).take i)) (.tuple [ud (tellN us i ns)]) = some (.tuple ((us.map ud).take i ++ [ud (tellN us i ns)]))
  a2 : binD .add (.tuple ((us.map ud).take i ++ [ud (tellN us i ns)])) (.tuple ((us.map ud).drop (i + 1))) = some (usD (us.set i (tellN us i ns)))
  a3 : binD .add (.tuple [.str "user", nd (us.getD i U0).w]) (.tuple [.tuple (ns.map nd)]) = some (.tuple [.str "user", nd (us.getD i U0).w, .tuple (ns.map nd)])
  a4 : binD .add (.tuple [.str "user", nd (us.getD i U0).w, .tuple (ns.map nd)]) (.tuple [wd (us.getD i U0).want]) = some (ud (tellN us i ns))
  a5 : binD .add (.tuple [.str "user", nd (us.getD i U0).w]) (.tuple [.tuple (ns.map nd), wd (us.getD i U0).want]) = some (ud (tellN us i ns))
  i1 : idxD (usD us) (nd i) = some (ud (us.getD i U0))
theorem tell_f (p : Ps us ts) {i : Nat} (hi : i < us.length) (ns : List Nat) : TellF us i ns := by
  have l1 := p.l1
  refine ⟨?_, ?_, rfl, rfl, bin_tt _ _ (by rw [List.length_take, List.length_map, List.length_singleton]; omega), ?_, bin_tt [.str "user", nd (us.getD i U0).w] [.tuple (ns.map nd)] (by simp), bin_tt [.str "user", nd (us.getD i U0).w, .tuple (ns.map nd)] [wd (us.getD i U0).want] (by simp), bin_tt [.str "user", nd (us.getD i U0).w] [.tuple (ns.map nd), wd (us.getD i U0).want] (by simp), idx_t ud (at_lt hi U0)⟩
  · show some (PyData.tuple _) = _
    rw [cut_to]
  · show some (PyData.tuple _) = _
    rw [show ((i : Int) + 1) = ((i + 1 : Nat) : Int) by omega, cut_from]
  · have e : (us.map ud).take i ++ [ud (tellN us i ns)] ++ (us.map ud).drop (i + 1) = (us.set i (tellN us i ns)).map ud := usD_set hi _
    rw [bin_tt _ _ ?_, e]
    · rfl
    · rw [List.length_append, List.length_take, List.length_drop, List.length_map, List.length_singleton]
      omega
theorem tell_eq (us : List U) (i : Nat) (ns : List Nat) (h : (us.getD i U0).ns.length = ns.length) : True := trivial
/-- what is made by so many pieces -/
theorem ev_muls {e : Ev} {k m : Nat} {x : Nat} (f : Str) {ns : List Nat} (a : Ex) (w : D) (ha : ev Φ a e = some (w, e)) (hw : walkD .walk w .none = some (ns.map nd)) (hx : x < e.length) (hm : e[m]? = some (.sh (nd k))) (hmx : m ≠ x) (hk : k < 2 ^ 20) (hn : ∀ n ∈ ns, n ≤ 99) (hl : ns.length ≤ 100) :
    ev Φ (.lc [(f, x)] (.nm x) .walk a .noe .noe (.bin .mul (.var m) (.var x))) e = some (ixD (ns.map fun n => k * n), e) := by
  refine (ev_lcP nd (fun _ => true) (fun n => nd (k * n)) ns ha rfl hw (fun n h => ?_) (sz hl)).trans ?_
  · have lw : (wipeE e ([(f, x)].map (·.2))).length = e.length := wipeE_length _ _
    refine ⟨(wipeE e ([(f, x)].map (·.2))).set x (.sh (nd n)), rfl, rfl, fun _ => ?_, ?_⟩
    · have gx : ((wipeE e ([(f, x)].map (·.2))).set x (.sh (nd n)))[x]? = some (.sh (nd n)) := by
        rw [List.getElem?_set_self (by rw [lw]; exact hx)]
      have gm : ((wipeE e ([(f, x)].map (·.2))).set x (.sh (nd n)))[m]? = some (.sh (nd k)) := by
        rw [List.getElem?_set_ne hmx.symm]
        show (e.set x .un)[m]? = _
        rw [List.getElem?_set_ne hmx.symm, hm]
      have b := mul_ndb k n (up_pow hk (by decide)) (Nat.lt_of_le_of_lt (hn n h) (by decide))
      simp only [ev, op2, opd, res, gx, gm, b, Option.map_some]
    · rw [wipe_set (by simp), wipe_idem]
  · rw [all_true]
    unfold ixD
    rw [List.map_map]
    rfl
theorem true_of_ok (p : Ps us ts) (hs : ts.sum ≤ 4000) {i : Nat} (hi : i < us.length) {ns : List Nat} (hv : Vu ts.length (tellN us i ns)) : Gv 34 [usD us, tsD ts, nd i, .tuple (ns.map nd)] (nd (truN us ts i ns)) := by
  have p' := told_ps (i := i) p hv
  have hu := p.ok _ (getD_mem (d := U0) hi)
  have hl : ns.length = ts.length := hv.len
  let told := us.set i (tellN us i ns)
  let k := (pcs told ts).getD i 0
  have F := tell_f p hi ns
  refine gv (d := k93_d_true_of) rfl rfl fun Φ hΦ => ⟨[.sh (usD us), .sh (tsD ts), .sh (nd i), .sh (.tuple (ns.map nd)), .sh (usD told), .sh (nd k), .un], ?_, by simp⟩
  have c5 := (pieces_of_ok p' hs).on (hΦ 25 (by decide))
  have c7 := (whole_ok (gs := ns.map fun n => k * n) hu p.vt.l1 (by rw [List.length_map, hl])).on (hΦ 33 (by decide))
  have c7 : Φ 33 [.sh (ud (us.getD i U0)), .sh (ixD (ns.map fun n => k * n))] = some (nd (truN us ts i ns), [.sh (ud (us.getD i U0)), .sh (ixD (ns.map fun n => k * n))]) := c7
  simp only [List.map_cons, List.map_nil] at c5
  have st1 : exs Φ (nthS 0 k93_b_true_of) [.sh (usD us), .sh (tsD ts), .sh (nd i), .sh (.tuple (ns.map nd)), .un, .un, .un] = some (.nx [.sh (usD us), .sh (tsD ts), .sh (nd i), .sh (.tuple (ns.map nd)), .sh (usD told), .un, .un]) := by
    have p1 : partOf (.var 2) (nd i) = some (some (i : Int)) := rfl
    have p0 : ∀ d : D, partOf .noe d = some none := fun _ => rfl
    have p2 : partOf (.bin .add (.var 2) (.cst (.int 1))) (.int ((i : Int) + 1)) = some (some ((i : Int) + 1)) := rfl
    have p3 : partOf (.cst (.int 2)) (.int 2) = some (some 2) := rfl
    have p4 : partOf (.cst (.int 3)) (.int 3) = some (some 3) := rfl
    have b1 : binD .add (nd i) (.int 1) = some (.int ((i : Int) + 1)) := rfl
    obtain ⟨s1, s2, s3, s4, a1, a2, a3, a4, a5, i1⟩ := F
    simp [k93_b_true_of, nthS, exs, ev, op2, opd, res, rdv, p0, p1, p2, p3, p4, s1, s2, s3, s4, i1, a1, a2, a3, a4, b1, z1, z2, tgOk, tgIxs, putOk, bindT, told, -List.getD_eq_getElem?_getD]
  have i2 : idxD (ixD (pcs told ts)) (nd i) = some (nd k) := idx_l nd (at_lt (by rw [pcs_len p' hs, List.length_set]; exact hi) 0)
  have st2 : exs Φ (nthS 1 k93_b_true_of) [.sh (usD us), .sh (tsD ts), .sh (nd i), .sh (.tuple (ns.map nd)), .sh (usD told), .un, .un] = some (.nx [.sh (usD us), .sh (tsD ts), .sh (nd i), .sh (.tuple (ns.map nd)), .sh (usD told), .sh (nd k), .un]) := by
    have c5 : Φ 25 [.sh (usD told), .sh (tsD ts)] = some (ixD (pcs told ts), [.sh (usD told), .sh (tsD ts)]) := c5
    simp [k93_b_true_of, nthS, exs, ev, op2, opd, res, rdv, argSl, musOf, nodupB, wbk, c5, i2, tgOk, tgIxs, putOk, bindT, -List.getD_eq_getElem?_getD]
  refine exs_nx st1 (exs_nx st2 (exs_ret ?_))
  have i1 := F.i1
  have e1 : ev Φ (.idx (.var 0) (.var 2)) [.sh (usD us), .sh (tsD ts), .sh (nd i), .sh (.tuple (ns.map nd)), .sh (usD told), .sh (nd k), .un] = some (ud (us.getD i U0), [.sh (usD us), .sh (tsD ts), .sh (nd i), .sh (.tuple (ns.map nd)), .sh (usD told), .sh (nd k), .un]) := ev_idxv rfl rfl i1
  have e2 := ev_muls (Φ := Φ) (k := k) (m := 5) (x := 6) (e := [.sh (usD us), .sh (tsD ts), .sh (nd i), .sh (.tuple (ns.map nd)), .sh (usD told), .sh (nd k), .un]) "need" (.var 3) (.tuple (ns.map nd)) rfl rfl (by simp) rfl (by decide) (pcs_bd p' hs i) hv.le (by have := p.vt.l1; omega)
  exact ev_call (evl_cons e1 (evl_cons e2 evl_nil)) rfl rfl c7 rfl
theorem ltruly_ok (p : Ps us ts) (hs : ts.sum ≤ 4000) {i : Nat} (hi : i < us.length) {ns : List Nat} (hv : Vu ts.length (tellN us i ns)) : Gv 36 [usD us, tsD ts, nd i, .tuple (ns.map nd)] (nd (truN us ts i ns)) := by
  have p' := told_ps (i := i) p hv
  have hu := p.ok _ (getD_mem (d := U0) hi)
  have hl : ns.length = ts.length := hv.len
  let told := us.set i (tellN us i ns)
  let k := (pcs told ts).getD i 0
  have F := tell_f p hi ns
  refine gv (d := k93_d__law_truly) rfl rfl fun Φ hΦ => ⟨[.sh (usD us), .sh (tsD ts), .sh (nd i), .sh (.tuple (ns.map nd)), .sh (usD told), .sh (nd k), .un], ?_, by simp⟩
  have c5 := (law_pieces_ok p').on (hΦ 28 (by decide))
  have c7 := (lmakes_ok (gs := ns.map fun n => k * n) hu p.vt.l1 (by rw [List.length_map, hl])).on (hΦ 29 (by decide))
  have c7 : Φ 29 [.sh (ud (us.getD i U0)), .sh (ixD (ns.map fun n => k * n))] = some (nd (truN us ts i ns), [.sh (ud (us.getD i U0)), .sh (ixD (ns.map fun n => k * n))]) := c7
  simp only [List.map_cons, List.map_nil] at c5
  have st1 : exs Φ (nthS 0 k93_b__law_truly) [.sh (usD us), .sh (tsD ts), .sh (nd i), .sh (.tuple (ns.map nd)), .un, .un, .un] = some (.nx [.sh (usD us), .sh (tsD ts), .sh (nd i), .sh (.tuple (ns.map nd)), .sh (usD told), .un, .un]) := by
    have p1 : partOf (.var 2) (nd i) = some (some (i : Int)) := rfl
    have p0 : ∀ d : D, partOf .noe d = some none := fun _ => rfl
    have p2 : partOf (.bin .add (.var 2) (.cst (.int 1))) (.int ((i : Int) + 1)) = some (some ((i : Int) + 1)) := rfl
    have p3 : partOf (.cst (.int 2)) (.int 2) = some (some 2) := rfl
    have b1 : binD .add (nd i) (.int 1) = some (.int ((i : Int) + 1)) := rfl
    have t1 : b1D .tup (.tuple (ns.map nd)) = some (.tuple (ns.map nd)) := rfl
    have i3 : idxD (ud (us.getD i U0)) (.int 3) = some (wd (us.getD i U0).want) := ix3 _ _ _ _ _
    obtain ⟨s1, s2, s3, s4, a1, a2, a3, a4, a5, i1⟩ := F
    simp [k93_b__law_truly, nthS, exs, ev, op1, op2, opd, res, rdv, p0, p1, p2, p3, s1, s2, s3, i1, i3, t1, a1, a2, a5, b1, z1, z2, tgOk, tgIxs, putOk, bindT, told, -List.getD_eq_getElem?_getD]
  have i2 : idxD (ixD (pcs told ts)) (nd i) = some (nd k) := idx_l nd (at_lt (by rw [pcs_len p' hs, List.length_set]; exact hi) 0)
  have st2 : exs Φ (nthS 1 k93_b__law_truly) [.sh (usD us), .sh (tsD ts), .sh (nd i), .sh (.tuple (ns.map nd)), .sh (usD told), .un, .un] = some (.nx [.sh (usD us), .sh (tsD ts), .sh (nd i), .sh (.tuple (ns.map nd)), .sh (usD told), .sh (nd k), .un]) := by
    have c5 : Φ 28 [.sh (usD told), .sh (tsD ts)] = some (ixD (pcs told ts), [.sh (usD told), .sh (tsD ts)]) := c5
    simp [k93_b__law_truly, nthS, exs, ev, op2, opd, res, rdv, argSl, musOf, nodupB, wbk, c5, i2, tgOk, tgIxs, putOk, bindT, -List.getD_eq_getElem?_getD]
  refine exs_nx st1 (exs_nx st2 (exs_ret ?_))
  have i1 := F.i1
  have e1 : ev Φ (.idx (.var 0) (.var 2)) [.sh (usD us), .sh (tsD ts), .sh (nd i), .sh (.tuple (ns.map nd)), .sh (usD told), .sh (nd k), .un] = some (ud (us.getD i U0), [.sh (usD us), .sh (tsD ts), .sh (nd i), .sh (.tuple (ns.map nd)), .sh (usD told), .sh (nd k), .un]) := ev_idxv rfl rfl i1
  have e2 := ev_muls (Φ := Φ) (k := k) (m := 5) (x := 6) (e := [.sh (usD us), .sh (tsD ts), .sh (nd i), .sh (.tuple (ns.map nd)), .sh (usD told), .sh (nd k), .un]) "need" (.var 3) (.tuple (ns.map nd)) rfl rfl (by simp) rfl (by decide) (pcs_bd p' hs i) hv.le (by have := p.vt.l1; omega)
  exact ev_call (evl_cons e1 (evl_cons e2 evl_nil)) rfl rfl c7 rfl
theorem true_pieces_ok (p : Ps us ts) (h1 : ∀ u ∈ us, u.w = 1) (hs : ts.sum ≤ 4000) {i : Nat} (hi : i < us.length) {ns : List Nat} (hv : Vu ts.length (tellN us i ns)) : Gv 35 [usD us, tsD ts, nd i, .tuple (ns.map nd)] (nd (truN us ts i ns)) := by
  refine gv (d := k93_d_true_pieces) rfl rfl fun Φ hΦ => ⟨[.sh (usD us), .sh (tsD ts), .sh (nd i), .sh (.tuple (ns.map nd))], ?_, by simp⟩
  have c1 := (want_plain_ok p h1).on (hΦ 16 (by decide))
  have c2 := (want_user_ok hi).on (hΦ 31 (by decide))
  have c3 := (want_needs_ok p hv).on (hΦ 32 (by decide))
  have c4 := (true_of_ok p hs hi hv).on (hΦ 34 (by decide))
  simp only [List.map_cons, List.map_nil] at c1 c2 c3 c4
  have c3 : Φ 32 [.sh (usD us), .sh (.tuple (ns.map nd))] = some (.none, [.sh (usD us), .sh (.tuple (ns.map nd))]) := c3
  simp [k93_d_true_pieces, k93_b_true_pieces, exs, ev, rdv, argSl, musOf, nodupB, wbk, c1, c2, c3, c4]
theorem piece_envy_ok (p : Ps us ts) (h1 : ∀ u ∈ us, u.w = 1) (hs : ts.sum ≤ 4000) {a b : Nat} (ha : a < us.length) (hb : b < us.length) : Gv 37 [usD us, tsD ts, nd a, nd b] (nd (envN us (pcs us ts) a b)) := by
  let k := (pcs us ts).getD b 0 - 1
  have hk : k < 2 ^ 20 := Nat.lt_of_le_of_lt (Nat.sub_le _ _) (pcs_bd p hs b)
  have hub := p.ok _ (getD_mem (d := U0) hb)
  have hua := p.ok _ (getD_mem (d := U0) ha)
  refine gv (d := k93_d_piece_envy) rfl rfl fun Φ hΦ => ⟨[.sh (usD us), .sh (tsD ts), .sh (nd a), .sh (nd b), .sh (nd k), .un], ?_, by simp⟩
  have c1 := (want_plain_ok p h1).on (hΦ 16 (by decide))
  have c2 := (want_user_ok ha).on (hΦ 31 (by decide))
  have c3 := (want_user_ok hb).on (hΦ 31 (by decide))
  have c4 := (pieces_of_ok p hs).on (hΦ 25 (by decide))
  have c7 := (whole_ok (gs := (us.getD b U0).ns.map fun n => k * n) hua p.vt.l1 (by rw [List.length_map]; exact hub.len)).on (hΦ 33 (by decide))
  have c7 : Φ 33 [.sh (ud (us.getD a U0)), .sh (ixD ((us.getD b U0).ns.map fun n => k * n))] = some (nd (envN us (pcs us ts) a b), [.sh (ud (us.getD a U0)), .sh (ixD ((us.getD b U0).ns.map fun n => k * n))]) := c7
  simp only [List.map_cons, List.map_nil] at c1 c2 c3 c4
  have i2 : idxD (ixD (pcs us ts)) (nd b) = some (nd ((pcs us ts).getD b 0)) := idx_l nd (at_lt (by rw [pcs_len p hs]; exact hb) 0)
  have mx : ∃ x : Int, binD .sub (nd ((pcs us ts).getD b 0)) (.int 1) = some (.int x) ∧ b2D .max (.int 0) (.int x) = some (nd k) := by
    refine ⟨((pcs us ts).getD b 0 : Int) - 1, rfl, ?_⟩
    show some (PyData.int (if ((pcs us ts).getD b 0 : Int) - 1 > 0 then _ else 0)) = _
    have : (if ((pcs us ts).getD b 0 : Int) - 1 > 0 then ((pcs us ts).getD b 0 : Int) - 1 else 0) = ((k : Nat) : Int) := by
      show _ = (((pcs us ts).getD b 0 - 1 : Nat) : Int)
      split <;> omega
    rw [this]
    rfl
  obtain ⟨x, m1, m2⟩ := mx
  let e0 : Ev := [.sh (usD us), .sh (tsD ts), .sh (nd a), .sh (nd b), .un, .un]
  have st0 : exs Φ (nthS 0 k93_b_piece_envy) e0 = some (.nx e0) := by simp [k93_b_piece_envy, nthS, e0, exs, ev, rdv, argSl, musOf, nodupB, wbk, c1]
  have st1 : exs Φ (nthS 1 k93_b_piece_envy) e0 = some (.nx e0) := by simp [k93_b_piece_envy, nthS, e0, exs, ev, rdv, argSl, musOf, nodupB, wbk, c2]
  have st2 : exs Φ (nthS 2 k93_b_piece_envy) e0 = some (.nx e0) := by simp [k93_b_piece_envy, nthS, e0, exs, ev, rdv, argSl, musOf, nodupB, wbk, c3]
  have st3 : exs Φ (nthS 3 k93_b_piece_envy) e0 = some (.nx [.sh (usD us), .sh (tsD ts), .sh (nd a), .sh (nd b), .sh (nd k), .un]) := by
    simp [k93_b_piece_envy, nthS, e0, exs, ev, op2, opd, res, rdv, argSl, musOf, nodupB, wbk, c4, i2, m1, m2, tgOk, tgIxs, putOk, bindT, -List.getD_eq_getElem?_getD]
  refine exs_nx st0 (exs_nx st1 (exs_nx st2 (exs_nx st3 (exs_ret ?_))))
  have ia : idxD (usD us) (nd a) = some (ud (us.getD a U0)) := idx_t ud (at_lt ha U0)
  have ib : idxD (usD us) (nd b) = some (ud (us.getD b U0)) := idx_t ud (at_lt hb U0)
  have ib2 : idxD (ud (us.getD b U0)) (.int 2) = some (.tuple ((us.getD b U0).ns.map nd)) := ix2 _ _ _ _
  have e1 : ev Φ (.idx (.var 0) (.var 2)) [.sh (usD us), .sh (tsD ts), .sh (nd a), .sh (nd b), .sh (nd k), .un] = some (ud (us.getD a U0), [.sh (usD us), .sh (tsD ts), .sh (nd a), .sh (nd b), .sh (nd k), .un]) := ev_idxv rfl rfl ia
  have e3 : ev Φ (.idx (.idx (.var 0) (.var 3)) (.cst (.int 2))) [.sh (usD us), .sh (tsD ts), .sh (nd a), .sh (nd b), .sh (nd k), .un] = some (.tuple ((us.getD b U0).ns.map nd), [.sh (usD us), .sh (tsD ts), .sh (nd a), .sh (nd b), .sh (nd k), .un]) := by
    simp [ev, op2, opd, res, ib, ib2, -List.getD_eq_getElem?_getD]
  have e2 := ev_muls (Φ := Φ) (k := k) (m := 4) (x := 5) (e := [.sh (usD us), .sh (tsD ts), .sh (nd a), .sh (nd b), .sh (nd k), .un]) "need" _ _ e3 rfl (by simp) rfl (by decide) hk hub.le (by have := hub.len; have := p.vt.l1; omega)
  exact ev_call (evl_cons e1 (evl_cons e2 evl_nil)) rfl rfl c7 rfl
end
end Iv
end
section
set_option Elab.async false
set_option linter.all false
set_option maxRecDepth 100000
set_option exponentiation.threshold 3000
set_option maxHeartbeats 4000000
namespace Iv
open PySem PySem.Spec L2
/-! draws of k93 -/
theorem ints_int : ∀ ns : List Int, intsOf (ns.map PyData.int) = some ns
  | [] => rfl
  | n :: ns => by
    show (intsOf (ns.map PyData.int)).map (n :: ·) = _
    rw [ints_int ns]
    rfl
theorem pot_ok (ns : List Int) (k : Nat) (hk : k ≤ 1) : ∃ P, T 0 [.sh (intsD ns), .sh (nd k)] = some (.list P, [.sh (intsD ns), .sh (nd k)]) ∧ Pot P := by
  have pw : binD .pow (.int 10) (.int 18) = some (.int (10 ^ 18)) := rfl
  have m1 : ∀ x : Int, mulOk (x % 2147483549) 40014 = true := fun x => mul_ok (k := 31) (l := 16) (by have := Int.emod_nonneg x (show (2147483549 : Int) ≠ 0 by decide); have := Int.emod_lt_of_pos x (show (0 : Int) < 2147483549 by decide); omega) (by decide)
  have m2 : binD .mul (.int 6029) (nd k) = some (nd (6029 * k)) := mul_ndb 6029 k (by decide) (Nat.lt_of_le_of_lt hk (by decide))
  have m3 : binD .mul (.int 929) (nd k) = some (nd (929 * k)) := mul_ndb 929 k (by decide) (Nat.lt_of_le_of_lt hk (by decide))
  have fin : ∀ c : Int, Pot [.int (if c - 10 ^ 18 > 0 then c - 10 ^ 18 else 0), .int ((c % 2147483549 * 40014 + ((6029 * k : Nat) : Int) + 337) % 2147483563 + 1)] := fun c => by
    have k1 := Int.emod_nonneg (c % 2147483549 * 40014 + ((6029 * k : Nat) : Int) + 337) (show (2147483563 : Int) ≠ 0 by decide)
    have k2 := Int.emod_lt_of_pos (c % 2147483549 * 40014 + ((6029 * k : Nat) : Int) + 337) (show (0 : Int) < 2147483563 by decide)
    exact ⟨_, _, rfl, by split <;> omega, by omega, by omega⟩
  have l0 : b1D .len (intsD ns) = some (nd ns.length) := by
    show some (PyData.int _) = _
    simp [nd]
  have x0 : ∀ c : Int, b2D .max (.int 0) (.int c) = some (.int (if c > 0 then c else 0)) := fun _ => rfl
  have t0 : ∀ c : Int, b1D .int (.int c) = some (.int c) := fun _ => rfl
  have a4 : ∀ x y : Int, binD .add (.int x) (.int y) = some (.int (x + y)) := fun _ _ => rfl
  have first : ∀ Φ : Fn, ∃ c : Int, exs Φ (nthS 0 k93_b__law_pot) [.sh (intsD ns), .sh (nd k), .un] = some (.nx [.sh (intsD ns), .sh (nd k), .sh (.int c)]) := fun Φ => by
    have te : ev Φ (.cmp .lt (.var 1) (.b1 .len (.var 0))) [.sh (intsD ns), .sh (nd k), .un] = some (.bool (decide (k < ns.length)), [.sh (intsD ns), .sh (nd k), .un]) := by
      have := lt_nd k ns.length
      simp [ev, op1, op2, opd, res, l0, this]
    by_cases h : k < ns.length
    · rw [decide_eq_true h] at te
      have i0 : idxD (intsD ns) (nd k) = some (.int ns[k]) := at_nat (by rw [List.getElem?_map, List.getElem?_eq_getElem h]; rfl)
      have b0 : b1D .abs (.int ns[k]) = some (.int (if ns[k] < 0 then -ns[k] else ns[k])) := rfl
      refine ⟨(if ns[k] < 0 then -ns[k] else ns[k]), Eq.trans (asg_nm (e1 := [.sh (intsD ns), .sh (nd k), .un]) (ev_itet (by intro i q; cases q) te ?_) rfl) rfl⟩
      simp [ev, op1, op2, opd, res, i0, b0]
    · rw [decide_eq_false h] at te
      have s1 : slcD none (some 1) (intsD ns) = some (.list ((ns.take 1).map PyData.int)) := by
        show some (PyData.list _) = _
        rw [show (some (1 : Int)) = some ((1 : Nat) : Int) from rfl, cut_to, List.map_take]
      have s2 : b1D .sum (.list ((ns.take 1).map PyData.int)) = some (.int (ns.take 1).sum) := by
        show (intsOf _).map _ = _
        rw [ints_int]
        rfl
      have b0 : ∀ x : Int, b1D .abs (.int x) = some (.int (if x < 0 then -x else x)) := fun _ => rfl
      have b1 : ∀ x : Int, binD .mod (.int x) (.int 1000003) = some (.int (x % 1000003)) := fun _ => rfl
      have p0 : ∀ d : D, partOf .noe d = some none := fun _ => rfl
      have p3 : partOf (.cst (.int 1)) (.int 1) = some (some 1) := rfl
      have a5 : ∀ x : Int, binD .add (nd (929 * k)) (.int x) = some (.int (((929 * k : Nat) : Int) + x)) := fun _ => rfl
      refine ⟨((929 * k : Nat) : Int) + 337 + (if (ns.take 1).sum < 0 then -(ns.take 1).sum else (ns.take 1).sum) % 1000003, Eq.trans (asg_nm (e1 := [.sh (intsD ns), .sh (nd k), .un]) (ev_itef (by intro i q; cases q) te ?_) rfl) rfl⟩
      simp only [ev, op1, op2, opd, res, rdv, List.getElem?_cons_zero, List.getElem?_cons_succ, p0, p3, s1, s2, b0, b1, m3, a4, a5, Option.map_some]
  obtain ⟨Φ, hΦ, hT⟩ := tab_run (ds := k93_ds) (j := 0) (d := k93_d__law_pot) rfl
  obtain ⟨c, hc⟩ := first Φ
  refine ⟨_, gv3 hT rfl (e := [.sh (intsD ns), .sh (nd k), .sh (.int c)]) ?_ rfl, fin c⟩
  refine exs_nx hc ?_
  have s0 : binD .sub (.int c) (.int (10 ^ 18)) = some (.int (c - 10 ^ 18)) := rfl
  have a1 : binD .mod (.int c) (.int 2147483549) = some (.int (c % 2147483549)) := rfl
  have a2 : binD .mul (.int (c % 2147483549)) (.int 40014) = some (.int (c % 2147483549 * 40014)) := if_pos (m1 c)
  have a3 : ∀ x : Int, binD .add (.int x) (nd (6029 * k)) = some (.int (x + ((6029 * k : Nat) : Int))) := fun _ => rfl
  have a5 : ∀ x : Int, binD .mod (.int x) (.int 2147483563) = some (.int (x % 2147483563)) := fun _ => rfl
  simp only [exs, ev, opd, op1, op2, res, rdv, List.getElem?_cons_zero, List.getElem?_cons_succ, pw, s0, x0, t0, m2, a1, a2, a3, a4, a5, Option.map_some, z2, List.length_cons, List.length_nil, if_true]
  rfl
section
variable {Φ : Fn} {G most : Nat}
def luB : Sm := forS (nthS 1 k93_b__law_users)
theorem lu_needs (hΦ : ∀ i, i < 3 → Φ i = T i) {P : List D} (hP : Pot P) (hG : G ≤ 4) (m1 : 1 ≤ most) (m2 : most ≤ 99) (a1 a4 s5 s6 : Sl) (j6 : junk s6) :
    ∃ (ns : List Nat) (P' : List D), exs Φ (nthS 0 luB) [.own false P, a1, .sh (nd G), .sh (nd most), a4, s5, s6, .un] = some (.nx [.own false P', a1, .sh (nd G), .sh (nd most), a4, s5, .own true (ns.map nd), .un]) ∧ Pot P' ∧ ns.length = G ∧ ∀ n ∈ ns, n ≤ max 3 most := by
  obtain ⟨ys, z', g1, g2, g3, g4⟩ := lc_ex (own := [7]) (g := .nm 7) (c := lcT .noe (ev Φ .noe)) (f := ev Φ (.call 2 (.cons (.mu 0) (.cons (.lst (.cons (.cst (.int 0)) (.cons (.cst (.int 1)) (.cons (.cst (.int 2)) (.cons (.cst (.int 3)) (.cons (.bin .add (.cst (.int 1)) (.call 1 (.cons (.mu 0) (.cons (.var 3) .nil)))) .nil)))))) .nil))))
    nd (fun z : List D × Sl => [.own false z.1, a1, .sh (nd G), .sh (nd most), a4, s5, s6, z.2]) (fun z => Pot z.1) (fun y => ∃ n : Nat, n ≤ max 3 most ∧ y = nd n) (List.range G) (P, .un) [] hP (fun g hg z hz => by
      obtain ⟨d, P1, c1, d1, hP1⟩ := draw_ok hz most (by omega) (by omega)
      obtain ⟨x, P2, c2, hx, hP2⟩ := pick_ok hP1 true [.int 0, .int 1, .int 2, .int 3, .int (1 + (d : Int))] (by simp) (by simp)
      refine ⟨[.own false z.1, a1, .sh (nd G), .sh (nd most), a4, s5, s6, .sh (nd g)], x, (P2, .sh (nd g)), rfl, rfl, ?_, hP2, ?_⟩
      · rw [← hΦ 1 (by decide)] at c1
        rw [← hΦ 2 (by decide)] at c2
        have c1 : Φ 1 [.own false z.1, .sh (nd most)] = some (nd d, [.own false P1, .sh (nd most)]) := c1
        have b1 : binD .add (.int 1) (nd d) = some (.int (1 + (d : Int))) := rfl
        have z6 : (5 : Nat) ≤ sizeLine := by decide
        simp only [seqD, if_true] at c2
        simp [ev, op2, opd, res, rdv, argSl, musOf, nodupB, wbk, c1, c2, b1, z6]
      · simp at hx
        rcases hx with rfl | rfl | rfl | rfl | rfl
        · exact ⟨0, by omega, rfl⟩
        · exact ⟨1, by omega, rfl⟩
        · exact ⟨2, by omega, rfl⟩
        · exact ⟨3, by omega, rfl⟩
        · exact ⟨1 + d, by omega, rfl⟩) (by rw [List.length_range]; exact sz (by simpa using (show G ≤ 100 by omega)))
  obtain ⟨ns, rfl, h2⟩ := map_of nd (fun n => n ≤ max 3 most) ys fun y hy => g4 y hy
  rw [List.length_map, List.length_range] at g3
  refine ⟨ns, z'.1, ?_, g2, g3, h2⟩
  have hw : walkD .rng (nd G) .none = some ((List.range G).map nd) := walk_rng' (by omega)
  have e1 := ev_lc_go (Φ := Φ) (own := [("good", 7)]) (k := .rng) (a := .var 2) (b := .noe) (x := nd G) (y := .none) (e := [.own false P, a1, .sh (nd G), .sh (nd most), a4, s5, s6, .un]) rfl rfl hw g1
  exact Eq.trans (exs_aso e1 (put_junk rfl j6)) rfl
theorem lu_fix (hΦ : ∀ i, i < 3 → Φ i = T i) {P : List D} (hP : Pot P) (g1 : 1 ≤ G) (hG : G ≤ 4) (m1 : 1 ≤ most) (m2 : most ≤ 99) {ns : List Nat} (hl : ns.length = G) (hn : ∀ n ∈ ns, n ≤ max 3 most) (a1 a4 s5 : Sl) :
    ∃ (ns' : List Nat) (P' : List D), exs Φ (nthS 1 luB) [.own false P, a1, .sh (nd G), .sh (nd most), a4, s5, .own true (ns.map nd), .un] = some (.nx [.own false P', a1, .sh (nd G), .sh (nd most), a4, s5, .own true (ns'.map nd), .un]) ∧ Pot P' ∧ ns'.length = G ∧ (∀ n ∈ ns', n ≤ max 3 most) ∧ ∃ n ∈ ns', 0 < n := by
  have hr : repD (.list [nd 0]) (nd G) = some (ixD (List.replicate G 0)) := rep_nd 0 G (by omega)
  have te : ev Φ (.cmp .eq (.var 6) (.rep (.cons (.cst (.int 0)) .nil) (.var 2))) [.own false P, a1, .sh (nd G), .sh (nd most), a4, s5, .own true (ns.map nd), .un] = some (.bool (decide (ns = List.replicate G 0)), [.own false P, a1, .sh (nd G), .sh (nd most), a4, s5, .own true (ns.map nd), .un]) := by
    have he : cmpD .eq (ixD ns) (ixD (List.replicate G 0)) = some (decide (ns = List.replicate G 0)) := eq_ix _ _
    exact ev_cmp' rfl (opd_nv (by intro i q; cases q) (ev_rep (ds := [nd 0]) rfl z1 rfl hr)) rfl rfl he
  by_cases h : ns = List.replicate G 0
  · rw [decide_eq_true h] at te
    obtain ⟨d, P1, c1, d1, hP1⟩ := draw_ok hP most (by omega) (by omega)
    obtain ⟨i, P2, c2, i1, hP2⟩ := draw_ok hP1 G (by omega) (by omega)
    have hi : i < ns.length := by omega
    refine ⟨ns.set i (1 + d), P2, ?_, hP2, by rw [List.length_set, hl], fun n hn' => ?_, ?_⟩
    · rw [← hΦ 1 (by decide)] at c1 c2
      have c1 : Φ 1 [.own false P, .sh (nd most)] = some (nd d, [.own false P1, .sh (nd most)]) := c1
      have c2 : Φ 1 [.own false P1, .sh (nd G)] = some (nd i, [.own false P2, .sh (nd G)]) := c2
      have st : ∀ e : Ev, e[6]? = some (.own true (ns.map nd)) → setAt e 6 (nd i) (nd (1 + d)) = some (e.set 6 (.own true ((ns.map nd).set i (nd (1 + d))))) := fun e he => set_at6 he (by rw [List.length_map]; exact hi)
      refine (exs_ift (by intro i q; cases q) te).trans (exs_nx ?_ rfl)
      have b1 : binD .add (.int 1) (nd d) = some (nd (1 + d)) := add_nd 1 d
      rw [List.map_set]
      simp [exs, ev, op2, opd, res, rdv, argSl, musOf, nodupB, wbk, c1, c2, b1, ownAt]
      rw [st _ rfl]
      rfl
    · rcases List.mem_or_eq_of_mem_set hn' with h1 | h1
      · exact hn n h1
      · omega
    · exact ⟨1 + d, List.mem_of_getElem? (List.getElem?_set_self hi), by omega⟩
  · rw [decide_eq_false h] at te
    exact ⟨ns, P, (exs_iff (by intro i q; cases q) te).trans rfl, hP, hl, hn, not_zero hl h⟩
theorem lu_app (hΦ : ∀ i, i < 3 → Φ i = T i) {P : List D} (hP : Pot P) {ds : List D} (hd : ds.length < sizeLine) (ns : List Nat) (a1 a2 a3 a5 : Sl) :
    ∃ (w : Option Nat) (P' : List D), exs Φ (nthS 2 luB) [.own false P, a1, a2, a3, .own true ds, a5, .own true (ns.map nd), .un] = some (.nx [.own false P', a1, a2, a3, .own true (ds ++ [ud ⟨1, ns, w⟩]), a5, .own true (ns.map nd), .un]) ∧ Pot P' ∧ ∀ v, w = some v → v ≤ 5 := by
  obtain ⟨x, P1, c1, x1, hP1⟩ := draw_ok hP 3 (by omega) (by omega)
  rw [← hΦ 1 (by decide)] at c1
  have t0 : b1D .tup (.list (ns.map nd)) = some (.tuple (ns.map nd)) := rfl
  by_cases h : x = 0
  · subst h
    obtain ⟨y, P2, c2, y1, hP2⟩ := draw_ok hP1 6 (by omega) (by omega)
    rw [← hΦ 1 (by decide)] at c2
    refine ⟨some y, P2, ?_, hP2, fun v hv => by cases hv; omega⟩
    have q0 : cmpD .eq (nd 0) (.int 0) = some true := rfl
    unfold ud wd
    have c2 : Φ 1 [.own false P1, .sh (.int 6)] = some (.int (y : Nat), [.own false P2, .sh (.int 6)]) := c2
    simp [luB, forS, nthS, k93_b__law_users, exs, ev, opT, op1, op2, opd, res, rdv, argSl, musOf, nodupB, wbk, c1, c2, q0, truth, t0, ownAt, hd, z4]
    rfl
  · refine ⟨none, P1, ?_, hP1, fun v hv => by cases hv⟩
    have q0 : cmpD .eq (nd x) (.int 0) = some false := by
      show some (decide ((x : Int) = 0)) = _
      rw [decide_eq_false (by omega)]
    unfold ud wd
    simp [luB, forS, nthS, k93_b__law_users, exs, ev, opT, op1, op2, opd, res, rdv, argSl, musOf, nodupB, wbk, c1, q0, truth, t0, ownAt, hd, z4]
    rfl
/-- a drawn user -/
structure Du (G most : Nat) (u : U) : Prop where
  one : u.w = 1
  len : u.ns.length = G
  le : ∀ n ∈ u.ns, n ≤ max 3 most
  ex : ∃ n ∈ u.ns, 0 < n
  want : ∀ v, u.want = some v → v ≤ 5
theorem lusers_ok {P : List D} (hP : Pot P) {many : Nat} (g1 : 1 ≤ G) (hG : G ≤ 4) (hm : many ≤ 6) (m1 : 1 ≤ most) (m2 : most ≤ 99) :
    ∃ (us : List U) (P' : List D), T 3 [.own false P, .sh (nd many), .sh (nd G), .sh (nd most)] = some (usD us, [.own false P', .sh (nd many), .sh (nd G), .sh (nd most)]) ∧ Pot P' ∧ us.length = many ∧ ∀ u ∈ us, Du G most u := by
  obtain ⟨Φ, hΦ, hT⟩ := tab_run (ds := k93_ds) (j := 3) (d := k93_d__law_users) rfl
  obtain ⟨z, ⟨o1, o2, o3, o4, o5⟩, lp⟩ := for_ex (g := .nm 5) (f := exs Φ luB) nd (fun z : List D × List U × Sl × Sl => [.own false z.1, .sh (nd many), .sh (nd G), .sh (nd most), .own true (z.2.1.map ud), z.2.2.1, z.2.2.2, .un])
    (fun k z => Pot z.1 ∧ z.2.1.length = k ∧ (∀ u ∈ z.2.1, Du G most u) ∧ jk z.2.2.1 ∧ junk z.2.2.2) (List.range many) 0 (P, [], .un, .un) ⟨hP, rfl, fun u h => (by cases h), .inl rfl, .inl rfl⟩ (fun i x z hx ⟨q1, q2, q3, q4, q5⟩ => by
      have hi := (List.getElem?_eq_some_iff.mp hx).1
      rw [List.length_range] at hi
      obtain ⟨ns, P1, e1, hP1, l1, n1⟩ := lu_needs hΦ q1 hG m1 m2 (.sh (nd many)) (.own true (z.2.1.map ud)) (.sh (nd x)) z.2.2.2 q5
      obtain ⟨ns', P2, e2, hP2, l2, n2, x2⟩ := lu_fix hΦ hP1 g1 hG m1 m2 l1 n1 (.sh (nd many)) (.own true (z.2.1.map ud)) (.sh (nd x))
      obtain ⟨w, P3, e3, hP3, w3⟩ := lu_app hΦ hP2 (ds := z.2.1.map ud) (by rw [List.length_map]; exact Nat.lt_of_le_of_lt (show z.2.1.length ≤ 6 by omega) (by decide)) ns' (.sh (nd many)) (.sh (nd G)) (.sh (nd most)) (.sh (nd x))
      refine ⟨?_, [.own false z.1, .sh (nd many), .sh (nd G), .sh (nd most), .own true (z.2.1.map ud), .sh (nd x), z.2.2.2, .un], (P3, z.2.1 ++ [⟨1, ns', w⟩], .sh (nd x), .own true (ns'.map nd)), rfl, ?_, hP3, ?_, fun u hu => ?_, jk.sh _, .inr (.inr ⟨_, rfl⟩)⟩
      · show (putOk _ 5 && true) = true
        rw [q4.put rfl]
        rfl
      · rw [List.map_append]
        exact exs_nx e1 (exs_nx e2 (exs_nx e3 rfl))
      · show (z.2.1 ++ [_]).length = 0 + i + 1
        rw [List.length_append, q2]
        rfl
      · rcases List.mem_append.mp hu with h | h
        · exact q3 u h
        · rw [List.mem_singleton] at h
          rw [h]
          exact ⟨rfl, l2, n2, x2, w3⟩)
  rw [Nat.zero_add, List.length_range] at o2
  refine ⟨z.2.1, z.1, ?_, o1, o2, o3⟩
  refine gv3 hT rfl (e := [.own false z.1, .sh (nd many), .sh (nd G), .sh (nd most), .own true (z.2.1.map ud), z.2.2.1, z.2.2.2, .un]) ?_ rfl
  have e0 : exs Φ (nthS 0 k93_b__law_users) [.own false P, .sh (nd many), .sh (nd G), .sh (nd most), .un, .un, .un, .un] = some (.nx [.own false P, .sh (nd many), .sh (nd G), .sh (nd most), .own true [], .un, .un, .un]) := aso_nil rfl
  have e1 : exs Φ (.for_ (.nm 5) .rng (.var 1) .noe luB) [.own false P, .sh (nd many), .sh (nd G), .sh (nd most), .own true [], .un, .un, .un] = _ := (exs_for rfl rfl (walk_rng' (by omega))).trans lp
  refine exs_nx e0 (exs_nx e1 (exs_ret ?_))
  simp [ev, op1, opd, res, b1D, usD]
end
end Iv
end
section
set_option Elab.async false
set_option linter.all false
set_option maxRecDepth 100000
set_option exponentiation.threshold 3000
set_option maxHeartbeats 4000000
namespace Iv
open PySem PySem.Spec L2
theorem cut_last {α : Type} (xs : List α) (y : α) : cutL (xs ++ [y]) none (some (-1)) = xs := by
  unfold cutL
  have h1 : HT.sIx (xs ++ [y]).length 0 none = 0 := rfl
  have h2 : HT.sIx (xs ++ [y]).length (xs ++ [y]).length (some (-1)) = xs.length := by
    show (if (-1 : Int) < 0 then ((-1 : Int) + ((xs ++ [y]).length : Int)).toNat else min (-1 : Int).toNat (xs ++ [y]).length) = _
    rw [if_pos (by decide), List.length_append, List.length_singleton]
    omega
  rw [h1, h2, List.drop_zero, Nat.sub_zero, List.take_left']
  rfl
theorem max_nd (a b : Nat) : b2D .max (nd a) (nd b) = some (nd (max a b)) := by
  show some (PyData.int (if (b : Int) > (a : Int) then (b : Int) else (a : Int))) = _
  have : (if (b : Int) > (a : Int) then (b : Int) else (a : Int)) = ((max a b : Nat) : Int) := by split <;> omega
  rw [this]
  rfl
theorem foldl_max_le {M : Nat} : ∀ (xs : List Nat) (x : Nat), x ≤ M → (∀ y ∈ xs, y ≤ M) → xs.foldl max x ≤ M
  | [], x, h, _ => h
  | a :: xs, x, h, hs => by
    rw [List.foldl_cons]
    exact foldl_max_le xs (max x a) (by have := hs a List.mem_cons_self; omega) fun y hy => hs y (List.mem_cons_of_mem _ hy)
section
variable {us : List U} {Φ : Fn} {G most : Nat}
def gneeds (us : List U) (g : Nat) : List Nat := (us.filter fun u => decide (0 < u.ns.getD g 0)).map fun u => u.ns.getD g 0
theorem gneeds_le {M : Nat} (ok : ∀ u ∈ us, u.ns.length = G ∧ ∀ n ∈ u.ns, n ≤ M) {g : Nat} (hg : g < G) : ∀ n ∈ gneeds us g, n ≤ M := fun n hn => by
  obtain ⟨u, hu, rfl⟩ := List.mem_map.mp hn
  obtain ⟨h1, h2⟩ := ok u (List.mem_filter.mp hu).1
  exact h2 _ (getD_mem (by rw [h1]; exact hg))
def ltB : Sm := forS (nthS 1 k93_b__law_totals)
theorem lt_turn (hΦ : ∀ i, i < 4 → Φ i = T i) {P : List D} (hP : Pot P) (h6 : us.length ≤ 6) (ok : ∀ u ∈ us, u.ns.length = G ∧ ∀ n ∈ u.ns, n ≤ 99) (m1 : 1 ≤ most) (m2 : most ≤ 10) {g : Nat} (hg : g < G) {ds : List D} (hd : ds.length < sizeLine) (s5 : Sl) (j5 : jk s5) :
    ∃ (t : Nat) (P' : List D), exs Φ ltB [.own false P, .sh (usD us), .sh (nd most), .own true ds, .sh (nd g), s5, .un] = some (.nx [.own false P', .sh (usD us), .sh (nd most), .own true (ds ++ [nd t]), .sh (nd g), .sh (ixD (gneeds us g ++ [99])), .un]) ∧ Pot P' ∧ 1 ≤ t ∧ t ≤ most * 100 := by
  have hM := gneeds_le ok hg
  have lN : (gneeds us g).length ≤ 6 := by
    unfold gneeds
    rw [List.length_map]
    exact Nat.le_trans (List.length_filter_le _ _) h6
  have nx : ∀ u ∈ us, u.ns[g]? = some (u.ns.getD g 0) := fun u hu => at_lt (by rw [(ok u hu).1]; exact hg) 0
  have e1 : ev Φ (.lc [("user", 6)] (.nm 6) .walk (.var 1) .noe (.cmp .gt (.idx (.idx (.var 6) (.cst (.int 2))) (.var 4)) (.cst (.int 0))) (.idx (.idx (.var 6) (.cst (.int 2))) (.var 4))) [.own false P, .sh (usD us), .sh (nd most), .own true ds, .sh (nd g), s5, .un] = some (ixD (gneeds us g), [.own false P, .sh (usD us), .sh (nd most), .own true ds, .sh (nd g), s5, .un]) := by
    refine (ev_lcP ud (fun u => decide (0 < u.ns.getD g 0)) (fun u => nd (u.ns.getD g 0)) us rfl rfl rfl (fun u hu => ?_) (sz (by omega))).trans ?_
    · have i2 : idxD (ud u) (.int 2) = some (.tuple (u.ns.map nd)) := ix2 _ _ _ _
      have i3 : idxD (.tuple (u.ns.map nd)) (nd g) = some (nd (u.ns.getD g 0)) := idx_t nd (nx u hu)
      have ge : ev Φ (.idx (.idx (.var 6) (.cst (.int 2))) (.var 4)) [.own false P, .sh (usD us), .sh (nd most), .own true ds, .sh (nd g), s5, .sh (ud u)] = some (nd (u.ns.getD g 0), [.own false P, .sh (usD us), .sh (nd most), .own true ds, .sh (nd g), s5, .sh (ud u)]) := by
        simp [ev, op2, opd, res, i2, i3, -List.getD_eq_getElem?_getD]
      refine ⟨[.own false P, .sh (usD us), .sh (nd most), .own true ds, .sh (nd g), s5, .sh (ud u)], rfl, lcT_bool (by intro i q; cases q) (by intro q; cases q) ?_, fun _ => ge, rfl⟩
      exact ev_cmp' (opd_nv (by intro i q; cases q) ge) (opd_nv (by intro i q; cases q) rfl) rfl rfl (gt_nd _)
    · unfold ixD gneeds
      rw [List.map_map]
      rfl
  have a1 : binD .add (ixD (gneeds us g)) (.list [nd 99]) = some (ixD (gneeds us g ++ [99])) := add_ll _ [99] (by rw [List.length_singleton]; omega)
  have t0 : exs Φ (nthS 0 ltB) [.own false P, .sh (usD us), .sh (nd most), .own true ds, .sh (nd g), s5, .un] = some (.nx [.own false P, .sh (usD us), .sh (nd most), .own true ds, .sh (nd g), .sh (ixD (gneeds us g ++ [99])), .un]) := by
    refine Eq.trans (asg_nm (e1 := [.own false P, .sh (usD us), .sh (nd most), .own true ds, .sh (nd g), s5, .un]) (d := ixD (gneeds us g ++ [99])) ?_ (j5.put rfl)) rfl
    have a2 : binD .add (ixD (gneeds us g)) (.list [.int 99]) = some (ixD (gneeds us g ++ [99])) := a1
    have e2 : ev Φ (.lst (.cons (.cst (.int 99)) .nil)) [.own false P, .sh (usD us), .sh (nd most), .own true ds, .sh (nd g), s5, .un] = some (.list [.int 99], [.own false P, .sh (usD us), .sh (nd most), .own true ds, .sh (nd g), s5, .un]) := ev_lst (evl_cons rfl evl_nil) z1
    rw [ev]
    simp only [op2, opd, e1, e2, res, a2, Option.map_some]
  obtain ⟨x, xs, ex⟩ : ∃ x xs, gneeds us g ++ [99] = x :: xs := by
    cases gneeds us g with
    | nil => exact ⟨_, _, rfl⟩
    | cons a r => exact ⟨_, _, rfl⟩
  obtain ⟨y, ys, ey⟩ : ∃ y ys, gneeds us g ++ [1] = y :: ys := by
    cases gneeds us g with
    | nil => exact ⟨_, _, rfl⟩
    | cons a r => exact ⟨_, _, rfl⟩
  have mn : b1D .min (ixD (gneeds us g ++ [99])) = some (nd (minL (gneeds us g ++ [99]))) := by rw [ex]; exact min_ix x xs
  have mnle : minL (gneeds us g ++ [99]) ≤ 99 := minL_le (List.mem_append_right _ (by simp))
  have mx : b1D .max (ixD (gneeds us g ++ [1])) = some (nd (ys.foldl max y)) := by rw [ey]; exact max_ix y ys
  have mxle : ys.foldl max y ≤ 99 := by
    have all : ∀ n ∈ gneeds us g ++ [1], n ≤ 99 := fun n hn => by
      rcases List.mem_append.mp hn with h | h
      · exact hM n h
      · rw [List.mem_singleton] at h; omega
    rw [ey] at all
    exact foldl_max_le ys y (all y List.mem_cons_self) fun z hz => all z (List.mem_cons_of_mem _ hz)
  generalize ys.foldl max y = M at mx mxle
  have hmM : most * (1 + M) ≤ most * 100 := Nat.mul_le_mul_left _ (by omega)
  have hm1000 : most * 100 ≤ 10 * 100 := Nat.mul_le_mul_right _ m2
  obtain ⟨d, P', c1, d1, hP'⟩ := draw_ok hP ((1 + most * (1 + M) : Nat) : Int) (by omega) (by omega)
  rw [← hΦ 1 (by decide)] at c1
  have c1 : Φ 1 [.own false P, .sh (nd (1 + most * (1 + M)))] = some (nd d, [.own false P', .sh (nd (1 + most * (1 + M)))]) := c1
  refine ⟨max 1 (min (20 * minL (gneeds us g ++ [99])) d), P', ?_, hP', by omega, by omega⟩
  refine exs_nx t0 ?_
  have s1 : slcD none (some (-1)) (ixD (gneeds us g ++ [99])) = some (ixD (gneeds us g)) := by
    show some (PyData.list _) = _
    rw [List.map_append]
    exact congrArg (fun z => some (PyData.list z)) (cut_last _ _)
  have a3 : binD .add (ixD (gneeds us g)) (.list [.int 1]) = some (ixD (gneeds us g ++ [1])) := add_ll _ [1] (by rw [List.length_singleton]; omega)
  have p0 : ∀ d : D, partOf .noe d = some none := fun _ => rfl
  have p1 : partOf (.neg (.cst (.int 1))) (.int (-1)) = some (some (-1)) := rfl
  have n1 : negD (.int 1) = some (.int (-1)) := rfl
  have b1 : binD .mul (.int 20) (nd (minL (gneeds us g ++ [99]))) = some (nd (20 * minL (gneeds us g ++ [99]))) := mul_ndb 20 _ (by decide) (Nat.lt_of_le_of_lt mnle (by decide))
  have b2 : binD .add (.int 1) (nd M) = some (nd (1 + M)) := add_nd 1 M
  have b3 : binD .mul (nd most) (nd (1 + M)) = some (nd (most * (1 + M))) := mul_ndb most (1 + M) (Nat.lt_of_le_of_lt m2 (by decide)) (Nat.lt_of_le_of_lt (show 1 + M ≤ 100 by omega) (by decide))
  have b4 : binD .add (.int 1) (nd (most * (1 + M))) = some (nd (1 + most * (1 + M))) := add_nd 1 _
  have x1 : b2D .min (nd (20 * minL (gneeds us g ++ [99]))) (nd d) = some (nd (min (20 * minL (gneeds us g ++ [99])) d)) := min_nd _ _
  have x2 : b2D .max (.int 1) (nd (min (20 * minL (gneeds us g ++ [99])) d)) = some (nd (max 1 (min (20 * minL (gneeds us g ++ [99])) d))) := max_nd 1 _
  have eS : ev Φ (.b2 .max (.cst (.int 1)) (.b2 .min (.bin .mul (.cst (.int 20)) (.b1 .min (.var 5))) (.call 1 (.cons (.mu 0) (.cons (.bin .add (.cst (.int 1)) (.bin .mul (.var 2) (.bin .add (.cst (.int 1)) (.b1 .max (.bin .add (.slc (.var 5) .noe (.neg (.cst (.int 1)))) (.lst (.cons (.cst (.int 1)) .nil))))))) .nil))))) [.own false P, .sh (usD us), .sh (nd most), .own true ds, .sh (nd g), .sh (ixD (gneeds us g ++ [99])), .un] = some (nd (max 1 (min (20 * minL (gneeds us g ++ [99])) d)), [.own false P', .sh (usD us), .sh (nd most), .own true ds, .sh (nd g), .sh (ixD (gneeds us g ++ [99])), .un]) := by
    simp only [ev, op1, op2, opd, res, rdv, argSl, musOf, nodupB, wbk, List.getElem?_cons_zero, List.getElem?_cons_succ, p0, p1, n1, s1, a3, b1, b2, b3, b4, mn, mx, c1, x1, x2, z1, Option.map_some, List.length_cons, List.length_nil, if_true, Nat.zero_add, List.contains_nil, Bool.not_false, Bool.and_self, List.set_cons_zero]
  have t1 : exs Φ (nthS 1 ltB) [.own false P, .sh (usD us), .sh (nd most), .own true ds, .sh (nd g), .sh (ixD (gneeds us g ++ [99])), .un] = some (.nx [.own false P', .sh (usD us), .sh (nd most), .own true (ds ++ [nd (max 1 (min (20 * minL (gneeds us g ++ [99])) d))]), .sh (nd g), .sh (ixD (gneeds us g ++ [99])), .un]) := by
    show exs Φ (.app 3 _) _ = _
    rw [exs]
    simp only [ownAt, List.getElem?_cons_zero, List.getElem?_cons_succ, Option.isSome_some, if_true, eS, hd, List.set_cons_zero, List.set_cons_succ]
  exact exs_nx t1 rfl
theorem ltotals_ok {P : List D} (hP : Pot P) (h1 : 1 ≤ us.length) (h6 : us.length ≤ 6) (hG : G ≤ 4) (ok : ∀ u ∈ us, u.ns.length = G ∧ ∀ n ∈ u.ns, n ≤ 99) (m1 : 1 ≤ most) (m2 : most ≤ 10) :
    ∃ (ts : List Nat) (P' : List D), T 4 [.own false P, .sh (usD us), .sh (nd most)] = some (tsD ts, [.own false P', .sh (usD us), .sh (nd most)]) ∧ Pot P' ∧ ts.length = G ∧ ∀ t ∈ ts, 1 ≤ t ∧ t ≤ most * 100 := by
  obtain ⟨Φ, hΦ, hT⟩ := tab_run (ds := k93_ds) (j := 4) (d := k93_d__law_totals) rfl
  obtain ⟨z, ⟨o1, o2, o3, o4, o5⟩, lp⟩ := for_ex (g := .nm 4) (f := exs Φ ltB) nd (fun z : List D × List Nat × Sl × Sl => [.own false z.1, .sh (usD us), .sh (nd most), .own true (z.2.1.map nd), z.2.2.1, z.2.2.2, .un])
    (fun k z => Pot z.1 ∧ z.2.1.length = k ∧ (∀ t ∈ z.2.1, 1 ≤ t ∧ t ≤ most * 100) ∧ jk z.2.2.1 ∧ jk z.2.2.2) (List.range G) 0 (P, [], .un, .un) ⟨hP, rfl, fun u h => (by cases h), .inl rfl, .inl rfl⟩ (fun i x z hx ⟨q1, q2, q3, q4, q5⟩ => by
      have hi := (List.getElem?_eq_some_iff.mp hx).1
      rw [List.length_range] at hi
      have ex : x = i := by
        rw [List.getElem?_range hi] at hx
        cases hx; rfl
      subst ex
      obtain ⟨t, P', e1, hP', t1, t2⟩ := lt_turn hΦ q1 h6 ok m1 m2 hi (ds := z.2.1.map nd) (by rw [List.length_map]; exact Nat.lt_of_le_of_lt (show z.2.1.length ≤ 4 by omega) (by decide)) z.2.2.2 q5
      refine ⟨?_, [.own false z.1, .sh (usD us), .sh (nd most), .own true (z.2.1.map nd), .sh (nd x), z.2.2.2, .un], (P', z.2.1 ++ [t], .sh (nd x), .sh (ixD (gneeds us x ++ [99]))), rfl, ?_, hP', ?_, fun u hu => ?_, jk.sh _, jk.sh _⟩
      · show (putOk _ 4 && true) = true
        rw [q4.put rfl]
        rfl
      · rw [List.map_append]
        exact e1
      · show (z.2.1 ++ [_]).length = 0 + x + 1
        rw [List.length_append, q2]
        rfl
      · rcases List.mem_append.mp hu with h | h
        · exact q3 u h
        · rw [List.mem_singleton] at h
          rw [h]
          exact ⟨t1, t2⟩)
  rw [Nat.zero_add, List.length_range] at o2
  refine ⟨z.2.1, z.1, ?_, o1, o2, o3⟩
  refine gv3 hT rfl (e := [.own false z.1, .sh (usD us), .sh (nd most), .own true (z.2.1.map nd), z.2.2.1, z.2.2.2, .un]) ?_ rfl
  have e0 : exs Φ (nthS 0 k93_b__law_totals) [.own false P, .sh (usD us), .sh (nd most), .un, .un, .un, .un] = some (.nx [.own false P, .sh (usD us), .sh (nd most), .own true [], .un, .un, .un]) := aso_nil rfl
  have hl : ev Φ (.b1 .len (.idx (.idx (.var 1) (.cst (.int 0))) (.cst (.int 2)))) [.own false P, .sh (usD us), .sh (nd most), .own true [], .un, .un, .un] = some (nd G, [.own false P, .sh (usD us), .sh (nd most), .own true [], .un, .un, .un]) := by
    have j1 : idxD (usD us) (.int 0) = some (ud (us.getD 0 U0)) := idx_t ud (i := 0) (at_lt h1 U0)
    have j2 : idxD (ud (us.getD 0 U0)) (.int 2) = some (.tuple ((us.getD 0 U0).ns.map nd)) := ix2 _ _ _ _
    have j3 : b1D .len (.tuple ((us.getD 0 U0).ns.map nd)) = some (nd G) := by
      show some (PyData.int _) = _
      rw [List.length_map, (ok _ (getD_mem h1)).1]
      rfl
    simp [ev, op1, op2, opd, res, j1, j2, j3, -List.getD_eq_getElem?_getD]
  have e1 : exs Φ (.for_ (.nm 4) .rng (.b1 .len (.idx (.idx (.var 1) (.cst (.int 0))) (.cst (.int 2)))) .noe ltB) [.own false P, .sh (usD us), .sh (nd most), .own true [], .un, .un, .un] = _ := (exs_for hl rfl (walk_rng' (by omega))).trans lp
  refine exs_nx e0 (exs_nx e1 (exs_ret ?_))
  simp [ev, op1, opd, res, b1D, tsD]
end
end Iv
end
section
set_option Elab.async false
set_option linter.all false
set_option maxRecDepth 100000
set_option exponentiation.threshold 3000
set_option maxHeartbeats 4000000
namespace Iv
open PySem PySem.Spec L2
theorem ev_b1w {Φ : Fn} {b : B1} {i : Nat} {e : Ev} {fz : Bool} {ds : List D} {d : D} (h : e[i]? = some (.own fz ds)) (h2 : b1D b (.list ds) = some d) : ev Φ (.b1 b (.var i)) e = some (d, e) := by
  simp only [ev, op1, opd, h, res, h2, Option.map_some]
theorem rp_n {n : Nat} (h : n < 2 ^ 40) : RP 0 1921 (nd n) := RP.int (Nat.lt_of_le_of_lt (log_lt (k := 40) (by rw [Int.natAbs_natCast]; exact h)) (by decide))
theorem rep_n {n : Nat} (h : n < 2 ^ 40) : b1D .repr (nd n) = some (.str (nd n).shown) := (rp_n h).repr (by decide) (z_of (by decide))
theorem rp_ix {c : List Nat} (hl : c.length ≤ 6) (h : ∀ n ∈ c, n < 2 ^ 40) : RP 1 11541 (ixD c) := by
  have : RP 1 ((c.map nd).length * (1921 + 2) + 3) (.list (c.map nd)) := RP.list fun d hd => by
    obtain ⟨n, hn, rfl⟩ := List.mem_map.mp hd
    exact rp_n (h n hn)
  refine this.up (Nat.le_refl _) ?_
  rw [List.length_map]
  omega
theorem rep_ix {c : List Nat} (hl : c.length ≤ 6) (h : ∀ n ∈ c, n < 2 ^ 40) : b1D .repr (ixD c) = some (.str (ixD c).shown) := (rp_ix hl h).repr (by decide) (z_of (by decide))
theorem ev_eq_rep {Φ : Fn} {a b : Ex} {e e1 e2 : Ev} {s : Str} (na : ∀ i, a ≠ .var i) (nb : ∀ i, b ≠ .var i) (h1 : ev Φ a e = some (.str s, e1)) (h2 : ev Φ b e1 = some (.str s, e2)) : ev Φ (.cmp .eq a b) e = some (.bool true, e2) := ev_cmp' (opd_nv na h1) (opd_nv nb h2) rfl rfl (eq_str s)
section
variable {us : List U} {ts c l gs : List Nat} {u : U} {Φ : Fn} {G : Nat} {P tl : List D} {S : Str}
theorem mkN_in (hu : Vu G u) (hl : gs.length = G) : ∃ a ∈ gs, mkN u gs ≤ a := by
  obtain ⟨n, hn, h0⟩ := hu.ex
  obtain ⟨g, hg⟩ := List.mem_iff_getElem?.mp hn
  have lg := (List.getElem?_eq_some_iff.mp hg).1
  rw [hu.len] at lg
  have h := mkN_good (u := u) (gs := gs) (at_lt (by rw [hl]; exact lg) 0) hg h0
  refine ⟨gs.getD g 0, getD_mem (by rw [hl]; exact lg), Nat.le_trans (Nat.le_mul_of_pos_right _ h0) h⟩
theorem truN_bd (p : Ps us ts) (hs : ts.sum ≤ 4000) {i : Nat} (hi : i < us.length) {ns : List Nat} (hv : Vu ts.length (tellN us i ns)) : truN us ts i ns < 2 ^ 40 := by
  have hu := p.ok _ (getD_mem (d := U0) hi)
  have hl : ns.length = ts.length := hv.len
  obtain ⟨a, ha, hle⟩ := mkN_in (gs := ns.map fun n => (pcs (us.set i (tellN us i ns)) ts).getD i 0 * n) hu (by rw [List.length_map, hl])
  obtain ⟨n, hn, rfl⟩ := List.mem_map.mp ha
  have k := pcs_bd (told_ps (i := i) p hv) hs i
  have n9 : n ≤ 99 := hv.le n hn
  have := mul_bd (m := 7) k (Nat.lt_of_le_of_lt n9 (by decide))
  exact Nat.lt_of_le_of_lt hle (Nat.lt_trans this (by decide))
theorem env_bd (p : Ps us ts) (hs : ts.sum ≤ 4000) {a b : Nat} (ha : a < us.length) (hb : b < us.length) : envN us (pcs us ts) a b < 2 ^ 40 := by
  have := no_piece_envy p hs ha hb
  have k := pcs_bd p hs a
  exact Nat.lt_of_le_of_lt this (Nat.lt_trans k (by decide))
abbrev F14 (P : List D) (us : List U) (ts : List Nat) (S : Str) (c : List Nat) (tl : List D) (s6 s7 s8 s9 s10 s11 : Sl) : Ev := [.own false P, .sh (usD us), .sh (tsD ts), .sh (.str S), .sh (ixD c), .own true tl, s6, s7, s8, s9, s10, s11, .un, .un]
def prB : Sm := forS (nthS 6 k93_b__law_pieces_right)
theorem pr0 (hΦ : ∀ i, i < 38 → Φ i = T i) (p : Ps us ts) (hP : Pot P) (s6 s7 s8 s9 s10 s11 : Sl) (j7 : jk s7) (j8 : jk s8) :
    ∃ (a b : Nat) (P' : List D), exs Φ (nthS 0 prB) (F14 P us ts S c tl s6 s7 s8 s9 s10 s11) = some (.nx (F14 P' us ts S c tl s6 (.sh (nd a)) (.sh (nd b)) s9 s10 s11)) ∧ Pot P' ∧ a < us.length ∧ b < us.length := by
  have l0 := p.l0
  have l1 := p.l1
  obtain ⟨a, P1, c1, a1, hP1⟩ := draw_ok hP (us.length : Int) (by omega) (by omega)
  obtain ⟨b, P2, c2, b1, hP2⟩ := draw_ok hP1 (us.length : Int) (by omega) (by omega)
  rw [← hΦ 1 (by decide)] at c1 c2
  refine ⟨a, b, P2, ?_, hP2, by omega, by omega⟩
  have x1 : ev Φ (.call 1 (.cons (.mu 0) (.cons (.b1 .len (.var 1)) .nil))) (F14 P us ts S c tl s6 s7 s8 s9 s10 s11) = some (nd a, F14 P1 us ts S c tl s6 s7 s8 s9 s10 s11) := ev_call (evl_cons (d := .none) rfl (evl_cons (ev_b1v rfl (len_us us)) evl_nil)) rfl rfl c1 rfl
  have x2 : ev Φ (.call 1 (.cons (.mu 0) (.cons (.b1 .len (.var 1)) .nil))) (F14 P1 us ts S c tl s6 s7 s8 s9 s10 s11) = some (nd b, F14 P2 us ts S c tl s6 s7 s8 s9 s10 s11) := ev_call (evl_cons (d := .none) rfl (evl_cons (ev_b1v rfl (len_us us)) evl_nil)) rfl rfl c2 rfl
  refine exs_asp (evl_cons x1 (evl_cons x2 evl_nil)) ?_
  rcases j7 with rfl | ⟨_, rfl⟩ <;> rcases j8 with rfl | ⟨_, rfl⟩ <;> rfl
theorem pr1 (hΦ : ∀ i, i < 38 → Φ i = T i) (p : Ps us ts) (hs : ts.sum ≤ 4000) {a b : Nat} (ha : a < us.length) (hb : b < us.length) (s6 s9 s10 s11 : Sl) (j9 : jk s9) :
    exs Φ (nthS 1 prB) (F14 P us ts S (pcs us ts) tl s6 (.sh (nd a)) (.sh (nd b)) s9 s10 s11) = some (.nx (F14 P us ts S (pcs us ts) tl s6 (.sh (nd a)) (.sh (nd b)) (.sh (nd (envN us (pcs us ts) a b))) s10 s11)) := by
  let k := (pcs us ts).getD b 0 - 1
  have hk : k < 2 ^ 20 := Nat.lt_of_le_of_lt (Nat.sub_le _ _) (pcs_bd p hs b)
  have hub := p.ok _ (getD_mem (d := U0) hb)
  have hua := p.ok _ (getD_mem (d := U0) ha)
  have c7 := (lmakes_ok (gs := (us.getD b U0).ns.map fun n => k * n) hua p.vt.l1 (by rw [List.length_map]; exact hub.len)).on (hΦ 29 (by decide))
  have c7 : Φ 29 [.sh (ud (us.getD a U0)), .sh (ixD ((us.getD b U0).ns.map fun n => k * n))] = some (nd (envN us (pcs us ts) a b), [.sh (ud (us.getD a U0)), .sh (ixD ((us.getD b U0).ns.map fun n => k * n))]) := c7
  have i2 : idxD (ixD (pcs us ts)) (nd b) = some (nd ((pcs us ts).getD b 0)) := idx_l nd (at_lt (by rw [pcs_len p hs]; exact hb) 0)
  obtain ⟨x, m1, m2⟩ : ∃ x : Int, binD .sub (nd ((pcs us ts).getD b 0)) (.int 1) = some (.int x) ∧ b2D .max (.int 0) (.int x) = some (nd k) := by
    refine ⟨((pcs us ts).getD b 0 : Int) - 1, rfl, ?_⟩
    show some (PyData.int (if ((pcs us ts).getD b 0 : Int) - 1 > 0 then _ else 0)) = _
    have : (if ((pcs us ts).getD b 0 : Int) - 1 > 0 then ((pcs us ts).getD b 0 : Int) - 1 else 0) = ((k : Nat) : Int) := by
      show _ = (((pcs us ts).getD b 0 - 1 : Nat) : Int)
      split <;> omega
    rw [this]
    rfl
  have ia : idxD (usD us) (nd a) = some (ud (us.getD a U0)) := idx_t ud (at_lt ha U0)
  have ib : idxD (usD us) (nd b) = some (ud (us.getD b U0)) := idx_t ud (at_lt hb U0)
  have ib2 : idxD (ud (us.getD b U0)) (.int 2) = some (.tuple ((us.getD b U0).ns.map nd)) := ix2 _ _ _ _
  let e := F14 P us ts S (pcs us ts) tl s6 (.sh (nd a)) (.sh (nd b)) s9 s10 s11
  have e1 : ev Φ (.idx (.var 1) (.var 7)) e = some (ud (us.getD a U0), e) := ev_idxv rfl rfl ia
  have e3 : ev Φ (.idx (.idx (.var 1) (.var 8)) (.cst (.int 2))) e = some (.tuple ((us.getD b U0).ns.map nd), e) := by
    simp [e, ev, op2, opd, res, ib, ib2, -List.getD_eq_getElem?_getD]
  have e2 : ev Φ (.lc [("need", 12)] (.nm 12) .walk (.idx (.idx (.var 1) (.var 8)) (.cst (.int 2))) .noe .noe (.bin .mul (.b2 .max (.cst (.int 0)) (.bin .sub (.idx (.var 4) (.var 8)) (.cst (.int 1)))) (.var 12))) e = some (ixD ((us.getD b U0).ns.map fun n => k * n), e) := by
    refine (ev_lcP nd (fun _ => true) (fun n => nd (k * n)) (us.getD b U0).ns e3 rfl rfl (fun n h => ?_) (sz (by have := hub.len; have := p.vt.l1; omega))).trans ?_
    · refine ⟨[.own false P, .sh (usD us), .sh (tsD ts), .sh (.str S), .sh (ixD (pcs us ts)), .own true tl, s6, .sh (nd a), .sh (nd b), s9, s10, s11, .sh (nd n), .un], rfl, rfl, fun _ => ?_, rfl⟩
      have b := mul_ndb k n (up_pow hk (by decide)) (Nat.lt_of_le_of_lt (hub.le n h) (by decide))
      simp [ev, op2, opd, res, i2, m1, m2, b, -List.getD_eq_getElem?_getD]
    · rw [all_true]
      unfold ixD
      rw [List.map_map]
      rfl
  exact Eq.trans (asg_nm (ev_call (evl_cons e1 (evl_cons e2 evl_nil)) rfl rfl c7 rfl) (j9.put rfl)) rfl
theorem pr2' (hΦ : ∀ i, i < 38 → Φ i = T i) (p : Ps us ts) (h1 : ∀ u ∈ us, u.w = 1) (hs : ts.sum ≤ 4000) {a b : Nat} (ha : a < us.length) (hb : b < us.length) (s6 s10 s11 : Sl) :
    exs Φ (nthS 2 prB) (F14 P us ts S (pcs us ts) tl s6 (.sh (nd a)) (.sh (nd b)) (.sh (nd (envN us (pcs us ts) a b))) s10 s11) = some (.nx (F14 P us ts S (pcs us ts) tl s6 (.sh (nd a)) (.sh (nd b)) (.sh (nd (envN us (pcs us ts) a b))) s10 s11)) := by
  let e := F14 P us ts S (pcs us ts) tl s6 (.sh (nd a)) (.sh (nd b)) (.sh (nd (envN us (pcs us ts) a b))) s10 s11
  have ne := no_piece_envy p hs ha hb
  have c := (piece_envy_ok p h1 hs ha hb).on (hΦ 37 (by decide))
  have i2 : idxD (ixD (pcs us ts)) (nd a) = some (nd ((pcs us ts).getD a 0)) := idx_l nd (at_lt (by rw [pcs_len p hs]; exact ha) 0)
  have g : cmpD .gt (nd (envN us (pcs us ts) a b)) (nd ((pcs us ts).getD a 0)) = some false := by
    rw [gt_nn, decide_eq_false (by omega)]
  have e1 : ev Φ (.cmp .gt (.var 9) (.idx (.var 4) (.var 7))) e = some (.bool false, e) := ev_cmp' rfl (opd_nv (by intro i q; cases q) (ev_idxv rfl rfl i2)) rfl rfl g
  have r := rep_n (env_bd p hs ha hb)
  have e2 : ev Φ (.call 37 (.cons (.var 1) (.cons (.var 2) (.cons (.var 7) (.cons (.var 8) .nil))))) e = some (nd (envN us (pcs us ts) a b), e) := ev_call (evl_cons (d := usD us) rfl (evl_cons (d := tsD ts) rfl (evl_cons (d := nd a) rfl (evl_cons (d := nd b) rfl evl_nil)))) rfl rfl c rfl
  have e3 := ev_ne_rep (by intro i q; cases q) (by intro i q; cases q) (ev_b1 (b := .repr) (by intro i q; cases q) e2 r) (ev_b1v (Φ := Φ) (b := .repr) (i := 9) (e := e) rfl r)
  exact (exs_iff (by intro i q; cases q) (evl_or e1 e3)).trans rfl
end
end Iv
end
section
set_option Elab.async false
set_option linter.all false
set_option maxRecDepth 100000
set_option maxHeartbeats 4000000
/-! Whole machines: the best owners; nobody envies by a machine. -/
namespace Iv
open PySem PySem.Spec L2
/-- the worths of what a user owns -/
def ownW (row os : List Nat) (u : Nat) : List Nat := ((row.zip os).filter fun p => decide (p.2 = u)).map (·.1)
def hasN (row os : List Nat) (u : Nat) : Nat := (ownW row os u).sum
def haves (ws : List (List Nat)) (os : List Nat) : List Nat := (List.range ws.length).map fun u => hasN (ws.getD u []) os u
def cnt (hs : List Nat) : Nat := (hs.filter fun h => decide (0 < h)).length
def m1 (h : Nat) : Nat := max 1 h
def prd (hs : List Nat) : Nat := hs.foldl (fun p h => p * m1 h) 1
def gd (hs : List Nat) : Nat × Nat := (cnt hs, prd hs)
def gtP (a b : Nat × Nat) : Bool := decide (b.1 < a.1 ∨ (b.1 = a.1 ∧ b.2 < a.2))
def bestG {α : Type} (f : α → Nat × Nat) (b : Option α) (x : α) : Option α := match b with
  | none => some x
  | some y => if gtP (f x) (f y) then some x else some y
def bestF {α : Type} (f : α → Nat × Nat) (xs : List α) : Option α := xs.foldl (bestG f) none
def rowsN (most : Nat) : Nat → List (List Nat)
  | 0 => [[]]
  | n + 1 => (rowsN most n).flatMap fun r => (List.range (most + 1)).map fun x => r ++ [x]
theorem mem_rows {most : Nat} : ∀ {n : Nat} {o : List Nat}, o ∈ rowsN most n ↔ o.length = n ∧ ∀ x ∈ o, x ≤ most
  | 0, o => by
    show o ∈ [[]] ↔ _
    rw [List.mem_singleton]
    constructor
    · rintro rfl
      exact ⟨rfl, fun x h => by cases h⟩
    · rintro ⟨h, _⟩
      exact List.eq_nil_of_length_eq_zero h
  | n + 1, o => by
    show o ∈ (rowsN most n).flatMap _ ↔ _
    rw [List.mem_flatMap]
    constructor
    · rintro ⟨r, h1, h2⟩
      obtain ⟨x, h3, rfl⟩ := List.mem_map.mp h2
      obtain ⟨g1, g2⟩ := mem_rows.mp h1
      refine ⟨by rw [List.length_append, g1]; rfl, fun y hy => ?_⟩
      rcases List.mem_append.mp hy with hy | hy
      · exact g2 y hy
      · have := List.mem_range.mp h3
        rw [List.mem_singleton] at hy
        omega
    · rintro ⟨h1, h2⟩
      have hne : o ≠ [] := by rintro rfl; simp at h1
      have e := List.dropLast_concat_getLast hne
      refine ⟨o.dropLast, mem_rows.mpr ⟨by rw [List.length_dropLast, h1]; rfl, fun x hx => h2 x (List.dropLast_subset o hx)⟩, ?_⟩
      exact List.mem_map.mpr ⟨o.getLast hne, List.mem_range.mpr (by have := h2 _ (List.getLast_mem hne); omega), e⟩
theorem rows_ne (most n : Nat) : ∃ x, x ∈ rowsN most n := ⟨List.replicate n 0, mem_rows.mpr ⟨List.length_replicate, fun x h => by rw [(List.mem_replicate.mp h).2]; exact Nat.zero_le _⟩⟩
theorem gt_trans {a b c : Nat × Nat} (h1 : gtP a b = false) (h2 : gtP b c = false) : gtP a c = false := by
  unfold gtP at *
  simp only [decide_eq_false_iff_not] at *
  omega
theorem gt_asym {a b : Nat × Nat} (h : gtP a b = true) : gtP b a = false := by
  unfold gtP at *
  simp only [decide_eq_false_iff_not, decide_eq_true_eq] at *
  omega
theorem gt_irr (a : Nat × Nat) : gtP a a = false := by
  unfold gtP
  simp only [decide_eq_false_iff_not]
  omega
theorem best_gen {α : Type} (f : α → Nat × Nat) : ∀ (xs : List α) (b : α), ∃ y, xs.foldl (bestG f) (some b) = some y ∧ (y = b ∨ y ∈ xs) ∧ gtP (f b) (f y) = false ∧ ∀ x ∈ xs, gtP (f x) (f y) = false
  | [], b => ⟨b, rfl, .inl rfl, gt_irr _, fun x h => by cases h⟩
  | x :: xs, b => by
    rw [List.foldl_cons]
    show ∃ y, xs.foldl (bestG f) (if gtP (f x) (f b) then some x else some b) = some y ∧ _
    cases h : gtP (f x) (f b) with
    | true =>
      obtain ⟨y, h1, h2, h3, h4⟩ := best_gen f xs x
      refine ⟨y, h1, ?_, gt_trans (gt_asym h) h3, fun z hz => ?_⟩
      · rcases h2 with h2 | h2
        · exact .inr (by rw [h2]; exact List.mem_cons_self)
        · exact .inr (List.mem_cons_of_mem _ h2)
      · rcases List.mem_cons.mp hz with rfl | hz
        · exact h3
        · exact h4 z hz
    | false =>
      obtain ⟨y, h1, h2, h3, h4⟩ := best_gen f xs b
      refine ⟨y, h1, ?_, h3, fun z hz => ?_⟩
      · rcases h2 with h2 | h2
        · exact .inl h2
        · exact .inr (List.mem_cons_of_mem _ h2)
      · rcases List.mem_cons.mp hz with rfl | hz
        · exact gt_trans h h3
        · exact h4 z hz
theorem best_ok {α : Type} (f : α → Nat × Nat) {xs : List α} (h : ∃ x, x ∈ xs) : ∃ y, bestF f xs = some y ∧ y ∈ xs ∧ ∀ x ∈ xs, gtP (f x) (f y) = false := by
  cases xs with
  | nil => obtain ⟨x, h⟩ := h; cases h
  | cons x xs =>
    obtain ⟨y, h1, h2, h3, h4⟩ := best_gen f xs x
    refine ⟨y, h1, ?_, fun z hz => ?_⟩
    · rcases h2 with h2 | h2
      · rw [h2]; exact List.mem_cons_self
      · exact List.mem_cons_of_mem _ h2
    · rcases List.mem_cons.mp hz with rfl | hz
      · exact h3
      · exact h4 z hz
/-! ### more for each is better -/
theorem prd_acc : ∀ (hs : List Nat) (p : Nat), hs.foldl (fun p h => p * m1 h) p = p * prd hs
  | [], p => by simp [prd]
  | h :: hs, p => by
    unfold prd
    rw [List.foldl_cons, List.foldl_cons, prd_acc hs (p * m1 h), prd_acc hs (1 * m1 h), Nat.one_mul, Nat.mul_assoc]
theorem prd_cons (h : Nat) (hs : List Nat) : prd (h :: hs) = m1 h * prd hs := by
  show (hs.foldl _ (1 * m1 h)) = _
  rw [prd_acc, Nat.one_mul]
theorem cnt_cons (h : Nat) (hs : List Nat) : cnt (h :: hs) = (if 0 < h then 1 else 0) + cnt hs := by
  unfold cnt
  rw [List.filter_cons]
  by_cases q : 0 < h
  · simp [q]; omega
  · simp [q]
theorem m1_pos (h : Nat) : 1 ≤ m1 h := Nat.le_max_left _ _
theorem prd_pos : ∀ hs : List Nat, 1 ≤ prd hs
  | [] => Nat.le_refl _
  | h :: hs => by
    rw [prd_cons]
    exact Nat.mul_pos (m1_pos h) (prd_pos hs)
theorem m1_mono {a b : Nat} (h : a ≤ b) : m1 a ≤ m1 b := by unfold m1; omega
theorem more : ∀ (hs hs' : List Nat), hs.length = hs'.length → (∀ p ∈ hs.zip hs', p.1 ≤ p.2) → cnt hs < cnt hs' ∨ (cnt hs = cnt hs' ∧ prd hs < prd hs') ∨ hs = hs'
  | [], [], _, _ => .inr (.inr rfl)
  | [], _ :: _, h, _ => by simp at h
  | _ :: _, [], h, _ => by simp at h
  | h :: hs, h' :: hs', hl, hle => by
    have ih := more hs hs' (by simpa using hl) fun p hp => hle p (List.mem_cons_of_mem _ hp)
    have h0 : h ≤ h' := hle (h, h') List.mem_cons_self
    rw [cnt_cons, cnt_cons, prd_cons, prd_cons]
    have pp := prd_pos hs
    have pp' := prd_pos hs'
    by_cases q : 0 < h
    · rw [if_pos q, if_pos (by omega)]
      have e1 : m1 h = h := by unfold m1; omega
      have e2 : m1 h' = h' := by unfold m1; omega
      rw [e1, e2]
      rcases ih with ih | ⟨i1, i2⟩ | ih
      · exact .inl (by omega)
      · exact .inr (.inl ⟨by omega, Nat.lt_of_lt_of_le ((Nat.mul_lt_mul_left q).mpr i2) (Nat.mul_le_mul_right _ h0)⟩)
      · subst ih
        by_cases e : h = h'
        · subst e; exact .inr (.inr rfl)
        · exact .inr (.inl ⟨rfl, (Nat.mul_lt_mul_right (by omega)).mpr (by omega)⟩)
    · rw [if_neg q]
      by_cases q' : 0 < h'
      · rw [if_pos q']
        rcases ih with ih | ⟨i1, i2⟩ | ih
        · exact .inl (by omega)
        · exact .inl (by omega)
        · subst ih; exact .inl (by omega)
      · rw [if_neg q']
        have e : h = h' := by omega
        subst e
        rcases ih with ih | ⟨i1, i2⟩ | ih
        · exact .inl (by omega)
        · exact .inr (.inl ⟨by omega, (Nat.mul_lt_mul_left (m1_pos h)).mpr i2⟩)
        · subst ih; exact .inr (.inr rfl)
theorem more_gt {hs hs' : List Nat} (hl : hs.length = hs'.length) (h : ∀ p ∈ hs.zip hs', p.1 ≤ p.2) (hne : hs ≠ hs') : gtP (gd hs') (gd hs) = true := by
  unfold gtP gd
  rcases more hs hs' hl h with q | q | q
  · exact decide_eq_true (.inl q)
  · exact decide_eq_true (.inr q)
  · exact absurd q hne
/-! ### a machine given away -/
def pos (h : Nat) : Nat := if 0 < h then 1 else 0
theorem cnt_set : ∀ (hs : List Nat) (i x : Nat), i < hs.length → cnt (hs.set i x) + pos (hs.getD i 0) = cnt hs + pos x
  | h :: hs, 0, x, _ => by
    rw [List.set_cons_zero, cnt_cons, cnt_cons]
    show _ + pos h = _
    unfold pos
    omega
  | h :: hs, i + 1, x, hi => by
    have := cnt_set hs i x (by simpa using hi)
    rw [List.set_cons_succ, cnt_cons, cnt_cons, List.getD_cons_succ]
    omega
theorem prd_set : ∀ (hs : List Nat) (i x : Nat), i < hs.length → prd (hs.set i x) * m1 (hs.getD i 0) = prd hs * m1 x
  | h :: hs, 0, x, _ => by
    rw [List.set_cons_zero, prd_cons, prd_cons]
    show m1 x * prd hs * m1 h = m1 h * prd hs * m1 x
    rw [Nat.mul_right_comm, Nat.mul_comm (m1 x) (m1 h), Nat.mul_right_comm]
  | h :: hs, i + 1, x, hi => by
    have := prd_set hs i x (by simpa using hi)
    rw [List.set_cons_succ, prd_cons, prd_cons, List.getD_cons_succ, Nat.mul_assoc, this, Nat.mul_assoc]
theorem own_cons (v o : Nat) (row os : List Nat) (u : Nat) : ownW (v :: row) (o :: os) u = if o = u then v :: ownW row os u else ownW row os u := by
  unfold ownW
  rw [List.zip_cons_cons, List.filter_cons]
  by_cases h : o = u <;> simp [h]
theorem has_cons (v o : Nat) (row os : List Nat) (u : Nat) : hasN (v :: row) (o :: os) u = (if o = u then v else 0) + hasN row os u := by
  unfold hasN
  rw [own_cons]
  by_cases h : o = u <;> simp [h]
theorem has_nil (os : List Nat) (u : Nat) : hasN [] os u = 0 := rfl
theorem has_set : ∀ (row os : List Nat) (k i j u : Nat), row.length = os.length → k < os.length → os.getD k 0 = j → i ≠ j →
    hasN row (os.set k i) u + (if u = j then row.getD k 0 else 0) = hasN row os u + (if u = i then row.getD k 0 else 0)
  | [], os, k, i, j, u, hl, hk, _, _ => by simp at hl; omega
  | v :: row, [], k, i, j, u, hl, hk, _, _ => by simp at hl
  | v :: row, o :: os, 0, i, j, u, hl, hk, hj, hij => by
    rw [List.set_cons_zero, has_cons, has_cons]
    show (if i = u then v else 0) + hasN row os u + (if u = j then v else 0) = (if o = u then v else 0) + hasN row os u + (if u = i then v else 0)
    have hj : o = j := hj
    subst hj
    by_cases h1 : u = o
    · subst h1
      have a1 : ¬ (i = u) := hij
      have a2 : ¬ (u = i) := fun q => hij q.symm
      simp [a1, a2]; omega
    · have a3 : ¬ (o = u) := fun q => h1 q.symm
      by_cases h2 : i = u
      · subst h2; simp [h1, a3]; omega
      · have a4 : ¬ (u = i) := fun q => h2 q.symm
        simp [h1, h2, a3, a4]
  | v :: row, o :: os, k + 1, i, j, u, hl, hk, hj, hij => by
    have := has_set row os k i j u (by simpa using hl) (by simpa using hk) hj hij
    rw [List.set_cons_succ, has_cons, has_cons, List.getD_cons_succ]
    omega
theorem has_ge : ∀ (row os : List Nat) (k j : Nat), row.length = os.length → k < os.length → os.getD k 0 = j → row.getD k 0 ≤ hasN row os j
  | [], os, k, j, hl, hk, _ => by simp at hl; omega
  | v :: row, [], k, j, hl, hk, _ => by simp at hl
  | v :: row, o :: os, 0, j, hl, hk, hj => by
    rw [has_cons]
    have hj : o = j := hj
    show v ≤ _
    rw [if_pos hj]
    omega
  | v :: row, o :: os, k + 1, j, hl, hk, hj => by
    have := has_ge row os k j (by simpa using hl) (by simpa using hk) hj
    rw [has_cons, List.getD_cons_succ]
    omega
theorem has_mul : ∀ (row zow os : List Nat) (j b C : Nat), row.length = os.length → zow.length = os.length → (∀ k, k < os.length → os.getD k 0 = j → row.getD k 0 * b ≤ C * zow.getD k 0) → hasN row os j * b ≤ C * hasN zow os j
  | [], _, os, j, b, C, hl, hz, h => by
    rw [has_nil]; omega
  | v :: row, z :: zow, o :: os, j, b, C, hl, hz, h => by
    have ih := has_mul row zow os j b C (by simpa using hl) (by simpa using hz) fun k hk hj => h (k + 1) (by simpa using hk) hj
    rw [has_cons, has_cons, Nat.add_mul, Nat.mul_add]
    by_cases q : o = j
    · rw [if_pos q, if_pos q]
      have := h 0 (by simp) q
      have : v * b ≤ C * z := this
      omega
    · rw [if_neg q, if_neg q]
      omega
  | v :: row, z :: zow, [], j, b, C, hl, hz, h => by simp at hl
  | v :: row, [], os, j, b, C, hl, hz, h => by simp at hl hz; omega
/-- the arithmetic of one machine given away -/
theorem give {a b v z M : Nat} (hz : z ≤ b) (hv : v ≤ M) (h1 : pos (a + v) + pos (b - z) ≤ pos a + pos b) (h2 : pos (a + v) + pos (b - z) = pos a + pos b → m1 (a + v) * m1 (b - z) ≤ m1 a * m1 b) : (b = 0 → v = 0) ∧ v * b ≤ (a + M) * z := by
  by_cases v0 : v = 0
  · subst v0
    exact ⟨fun _ => rfl, by omega⟩
  · have p1 : pos (a + v) = 1 := if_pos (by omega)
    rw [p1] at h1 h2
    by_cases b0 : b = 0
    · subst b0
      exfalso
      have z0 : z = 0 := by omega
      subst z0
      have p2 : pos 0 = 0 := rfl
      simp only [Nat.sub_zero] at h1 h2
      rw [p2] at h1 h2
      by_cases a0 : a = 0
      · subst a0
        rw [p2] at h1
        omega
      · have p3 : pos a = 1 := if_pos (by omega)
        have h3 := h2 (by rw [p3])
        have e1 : m1 (a + v) = a + v := by unfold m1; omega
        have e2 : m1 a = a := by unfold m1; omega
        have e3 : m1 0 = 1 := rfl
        rw [e1, e2, e3] at h3
        omega
    · refine ⟨fun q => absurd q b0, ?_⟩
      have p4 : pos b = 1 := if_pos (by omega)
      rw [p4] at h1 h2
      by_cases zb : z = b
      · subst zb
        exact Nat.le_trans (Nat.mul_le_mul_right z hv) (Nat.mul_le_mul_right z (by omega))
      · have p5 : pos (b - z) = 1 := if_pos (by omega)
        rw [p5] at h1 h2
        by_cases a0 : a = 0
        · subst a0
          have : pos 0 = 0 := rfl
          omega
        · have p3 : pos a = 1 := if_pos (by omega)
          have h3 := h2 (by rw [p3])
          have e1 : m1 (a + v) = a + v := by unfold m1; omega
          have e2 : m1 a = a := by unfold m1; omega
          have e3 : m1 b = b := by unfold m1; omega
          have e4 : m1 (b - z) = b - z := by unfold m1; omega
          rw [e1, e2, e3, e4, Nat.mul_sub, Nat.add_mul] at h3
          have h4 : (a + v) * z ≤ (a + M) * z := Nat.mul_le_mul_right z (by omega)
          omega
end Iv
end
section
set_option Elab.async false
set_option linter.all false
set_option maxRecDepth 100000
set_option maxHeartbeats 4000000
/-! The best owners: none is better, nobody envies by a machine. -/
namespace Iv
open PySem PySem.Spec L2
def maxL (xs : List Nat) : Nat := xs.foldl max 0
theorem foldl_max : ∀ (xs : List Nat) (x : Nat), x ≤ xs.foldl max x ∧ ∀ y ∈ xs, y ≤ xs.foldl max x
  | [], x => ⟨Nat.le_refl _, fun y h => by cases h⟩
  | a :: xs, x => by
    obtain ⟨h1, h2⟩ := foldl_max xs (max x a)
    rw [List.foldl_cons]
    refine ⟨by omega, fun y hy => ?_⟩
    rcases List.mem_cons.mp hy with rfl | hy
    · omega
    · exact h2 y hy
theorem le_maxL {xs : List Nat} {y : Nat} (h : y ∈ xs) : y ≤ maxL xs := (foldl_max xs 0).2 y h
def machEnv (ws : List (List Nat)) (os : List Nat) (a b : Nat) : Nat := (ownW (ws.getD a []) os b).sum - maxL (ownW (ws.getD a []) os b)
def bestN (ws : List (List Nat)) (n : Nat) : Option (List Nat) := bestF (fun o => gd (haves ws o)) (rowsN (ws.length - 1) n)
def betN (ws : List (List Nat)) (os o : List Nat) : Bool := decide (haves ws os ≠ haves ws o) && ((haves ws os).zip (haves ws o)).all fun p => decide (p.1 ≤ p.2)
structure Wo (ws : List (List Nat)) (n : Nat) : Prop where
  l0 : 1 ≤ ws.length
  rl : ∀ r ∈ ws, r.length = n
theorem own_mem {row os : List Nat} {k j : Nat} (h1 : k < row.length) (h2 : k < os.length) (h : os.getD k 0 = j) : row.getD k 0 ∈ ownW row os j := by
  unfold ownW
  refine List.mem_map.mpr ⟨(row.getD k 0, os.getD k 0), List.mem_filter.mpr ⟨List.mem_of_getElem? (List.getElem?_zip_eq_some.mpr ⟨at_lt h1 0, at_lt h2 0⟩), decide_eq_true h⟩, rfl⟩
section
variable {ws : List (List Nat)} {n : Nat}
theorem haves_len (os : List Nat) : (haves ws os).length = ws.length := by unfold haves; rw [List.length_map, List.length_range]
theorem haves_at {os : List Nat} {u : Nat} (h : u < ws.length) : (haves ws os).getD u 0 = hasN (ws.getD u []) os u := by
  unfold haves
  rw [List.getD_eq_getElem?_getD, List.getElem?_map, List.getElem?_range h]
  rfl
theorem best_not_gt (w : Wo ws n) : ∃ o, bestN ws n = some o ∧ o ∈ rowsN (ws.length - 1) n ∧ ∀ x ∈ rowsN (ws.length - 1) n, gtP (gd (haves ws x)) (gd (haves ws o)) = false := best_ok _ (rows_ne _ _)
theorem no_better (w : Wo ws n) {o : List Nat} (h : bestN ws n = some o) {x : List Nat} (hx : x ∈ rowsN (ws.length - 1) n) : betN ws o x = false := by
  obtain ⟨o', h1, _, h3⟩ := best_not_gt w
  rw [h] at h1
  cases h1
  cases q : betN ws o x with
  | false => rfl
  | true =>
    unfold betN at q
    rw [Bool.and_eq_true] at q
    have := more_gt (hs := haves ws o) (hs' := haves ws x) (by rw [haves_len, haves_len]) (fun p hp => of_decide_eq_true (List.all_eq_true.mp q.2 p hp)) (of_decide_eq_true q.1)
    rw [h3 x hx] at this
    cases this
theorem haves_set (w : Wo ws n) {os : List Nat} (ho : os.length = n) {k a b : Nat} (hk : k < n) (ha : a < ws.length) (hb : b < ws.length) (hkb : os.getD k 0 = b) (hab : a ≠ b) :
    haves ws (os.set k a) = ((haves ws os).set a (hasN (ws.getD a []) os a + (ws.getD a []).getD k 0)).set b (hasN (ws.getD b []) os b - (ws.getD b []).getD k 0) := by
  have rl : ∀ u, u < ws.length → (ws.getD u []).length = n := fun u hu => w.rl _ (getD_mem hu)
  refine List.ext_getElem? fun u => ?_
  by_cases hu : u < ws.length
  · have e1 : (haves ws (os.set k a))[u]? = some (hasN (ws.getD u []) (os.set k a) u) := by
      unfold haves
      rw [List.getElem?_map, List.getElem?_range hu]
      rfl
    have e2 : (haves ws os)[u]? = some (hasN (ws.getD u []) os u) := by
      unfold haves
      rw [List.getElem?_map, List.getElem?_range hu]
      rfl
    have hs := has_set (ws.getD u []) os k a b u (by rw [rl u hu, ho]) (by rw [ho]; exact hk) hkb hab
    rw [e1, List.getElem?_set, List.length_set, haves_len, List.getElem?_set, haves_len]
    by_cases ub : b = u
    · subst ub
      have : ¬ (b = a) := fun q => hab q.symm
      rw [if_pos rfl, if_neg this] at hs
      simp only [if_true, hb]
      congr 1
      omega
    · rw [if_neg ub]
      rw [if_neg (fun q => ub q.symm)] at hs
      by_cases ua : a = u
      · subst ua
        rw [if_pos rfl] at hs
        simp only [if_true, ha]
        congr 1
      · rw [if_neg ua, e2]
        rw [if_neg (fun q => ua q.symm)] at hs
        congr 1
  · rw [List.getElem?_eq_none (by rw [haves_len]; omega), List.getElem?_eq_none (by rw [List.length_set, List.length_set, haves_len]; omega)]
theorem given (w : Wo ws n) {o : List Nat} (h : bestN ws n = some o) {a b k M : Nat} (ha : a < ws.length) (hb : b < ws.length) (hab : a ≠ b) (hk : k < n) (hkb : o.getD k 0 = b) (hM : (ws.getD a []).getD k 0 ≤ M) :
    (hasN (ws.getD b []) o b = 0 → (ws.getD a []).getD k 0 = 0) ∧ (ws.getD a []).getD k 0 * hasN (ws.getD b []) o b ≤ (hasN (ws.getD a []) o a + M) * (ws.getD b []).getD k 0 := by
  obtain ⟨o', h1, h2, h3⟩ := best_not_gt w
  rw [h] at h1
  cases h1
  obtain ⟨ol, om⟩ := mem_rows.mp h2
  have rl : ∀ u, u < ws.length → (ws.getD u []).length = n := fun u hu => w.rl _ (getD_mem hu)
  have hz := has_ge (ws.getD b []) o k b (by rw [rl b hb, ol]) (by rw [ol]; exact hk) hkb
  have hx : o.set k a ∈ rowsN (ws.length - 1) n := mem_rows.mpr ⟨by rw [List.length_set, ol], fun x hx => by
    rcases List.mem_or_eq_of_mem_set hx with q | q
    · exact om x q
    · omega⟩
  have hg := h3 _ hx
  rw [haves_set w ol hk ha hb hkb hab] at hg
  have ea : (haves ws o).getD a 0 = hasN (ws.getD a []) o a := haves_at ha
  have eb : (haves ws o).getD b 0 = hasN (ws.getD b []) o b := haves_at hb
  generalize hasN (ws.getD a []) o a = x at *
  generalize hasN (ws.getD b []) o b = y at *
  generalize (ws.getD a []).getD k 0 = v at *
  generalize (ws.getD b []).getD k 0 = z at *
  have la : a < (haves ws o).length := by rw [haves_len]; exact ha
  have lb : b < ((haves ws o).set a (x + v)).length := by rw [List.length_set, haves_len]; exact hb
  have c1 := cnt_set (haves ws o) a (x + v) la
  have c2 := cnt_set ((haves ws o).set a (x + v)) b (y - z) lb
  have p1 := prd_set (haves ws o) a (x + v) la
  have p2 := prd_set ((haves ws o).set a (x + v)) b (y - z) lb
  have e3 : ((haves ws o).set a (x + v)).getD b 0 = y := by
    rw [List.getD_eq_getElem?_getD, List.getElem?_set_ne hab, ← List.getD_eq_getElem?_getD, eb]
  rw [ea] at c1 p1
  rw [e3] at c2 p2
  generalize (haves ws o).set a (x + v) = hs1 at *
  have pp := prd_pos (haves ws o)
  generalize haves ws o = hs at *
  generalize hs1.set b (y - z) = hs2 at *
  unfold gtP gd at hg
  simp only [decide_eq_false_iff_not] at hg
  refine give hz hM (by omega) fun heq => ?_
  have le : prd hs2 ≤ prd hs := by omega
  have k1 : prd hs2 * m1 y * m1 x = prd hs * (m1 (x + v) * m1 (y - z)) := by
    rw [p2, Nat.mul_right_comm, p1, Nat.mul_assoc]
  have k2 : prd hs2 * m1 y * m1 x ≤ prd hs * (m1 x * m1 y) := by
    rw [Nat.mul_assoc, Nat.mul_comm (m1 x) (m1 y)]
    exact Nat.mul_le_mul_right _ le
  rw [k1] at k2
  exact Nat.le_of_mul_le_mul_left k2 pp
theorem no_machine_envy (w : Wo ws n) {o : List Nat} (h : bestN ws n = some o) {a b : Nat} (ha : a < ws.length) (hb : b < ws.length) : machEnv ws o a b ≤ hasN (ws.getD a []) o a := by
  by_cases hab : a = b
  · subst hab
    exact Nat.sub_le _ _
  · obtain ⟨o', h1, h2, _⟩ := best_not_gt w
    rw [h] at h1
    cases h1
    obtain ⟨ol, om⟩ := mem_rows.mp h2
    have rl : ∀ u, u < ws.length → (ws.getD u []).length = n := fun u hu => w.rl _ (getD_mem hu)
    have hv : ∀ k, k < o.length → o.getD k 0 = b → (ws.getD a []).getD k 0 ≤ maxL (ownW (ws.getD a []) o b) := fun k hk hkb => le_maxL (own_mem (by rw [rl a ha, ← ol]; exact hk) hk hkb)
    have G := fun k (hk : k < o.length) (hkb : o.getD k 0 = b) => given w h ha hb hab (by rw [← ol]; exact hk) hkb (hv k hk hkb)
    show hasN (ws.getD a []) o b - _ ≤ _
    by_cases y0 : hasN (ws.getD b []) o b = 0
    · have := has_mul (ws.getD a []) (ws.getD a []) o b 1 0 (by rw [rl a ha, ol]) (by rw [rl a ha, ol]) fun k hk hkb => by
        rw [(G k hk hkb).1 y0]; omega
      omega
    · have := has_mul (ws.getD a []) (ws.getD b []) o b _ _ (by rw [rl a ha, ol]) (by rw [rl b hb, ol]) fun k hk hkb => (G k hk hkb).2
      have := Nat.le_of_mul_le_mul_right this (by omega)
      omega
end
end Iv
end
section
set_option Elab.async false
set_option linter.all false
set_option maxRecDepth 100000
set_option exponentiation.threshold 3000
set_option maxHeartbeats 4000000
namespace Iv
open PySem PySem.Spec L2
theorem max0_sub (n d : Nat) : b2D .max (.int 0) (.int ((n : Int) + (d : Int) - 2)) = some (nd (n + d - 2)) := by
  show some (PyData.int (if ((n : Int) + (d : Int) - 2) > 0 then ((n : Int) + (d : Int) - 2) else 0)) = _
  have : (if ((n : Int) + (d : Int) - 2) > 0 then ((n : Int) + (d : Int) - 2) else 0) = ((n + d - 2 : Nat) : Int) := by split <;> omega
  rw [this]
  rfl
theorem foldl_max_ge (xs : List Nat) (x : Nat) : ∀ y ∈ x :: xs, y ≤ xs.foldl max x := fun y hy => by
  obtain ⟨h1, h2⟩ := foldl_max xs x
  rcases List.mem_cons.mp hy with rfl | hy
  · exact h1
  · exact h2 y hy
theorem sum_zero {ns : List Nat} (h : ns.sum ≠ 0) : ∃ n ∈ ns, 0 < n := by
  induction ns with
  | nil => exact absurd rfl h
  | cons a ns ih =>
    by_cases q : 0 < a
    · exact ⟨a, List.mem_cons_self, q⟩
    · rw [List.sum_cons] at h
      obtain ⟨n, h1, h2⟩ := ih (by omega)
      exact ⟨n, List.mem_cons_of_mem _ h1, h2⟩
section
variable {us : List U} {ts c l gs : List Nat} {u : U} {Φ : Fn} {G : Nat} {P tl : List D} {S : Str}
theorem pr3 (hΦ : ∀ i, i < 38 → Φ i = T i) (p : Ps us ts) (hP : Pot P) {a b : Nat} (ha : a < us.length) (s6 s8 s9 s10 s11 : Sl) (j10 : jk s10) :
    ∃ (ns : List Nat) (P' : List D), exs Φ (nthS 3 prB) (F14 P us ts S c tl s6 (.sh (nd a)) s8 s9 s10 s11) = some (.nx (F14 P' us ts S c tl s6 (.sh (nd a)) s8 s9 (.sh (.tuple (ns.map nd))) s11)) ∧ Pot P' ∧ ns.length = ts.length ∧ ∀ n ∈ ns, n ≤ 200 := by
  have hua := p.ok _ (getD_mem (d := U0) ha)
  obtain ⟨ys, z', g1, g2, g3, g4⟩ := lc_ex (own := [12]) (g := .nm 12) (c := lcT .noe (ev Φ .noe)) (f := ev Φ (.b2 .max (.cst (.int 0)) (.bin .sub (.bin .add (.var 12) (.call 1 (.cons (.mu 0) (.cons (.cst (.int 5)) .nil)))) (.cst (.int 2)))))
    nd (fun z : List D × Sl => [.own false z.1, .sh (usD us), .sh (tsD ts), .sh (.str S), .sh (ixD c), .own true tl, s6, .sh (nd a), s8, s9, s10, s11, z.2, .un]) (fun z => Pot z.1) (fun y => ∃ n : Nat, n ≤ 200 ∧ y = nd n) (us.getD a U0).ns (P, .un) [] hP (fun n hn z hz => by
      obtain ⟨d, P1, c1, d1, hP1⟩ := draw_ok hz 5 (by omega) (by omega)
      rw [← hΦ 1 (by decide)] at c1
      have n9 := hua.le n hn
      have b1 := add_nd n d
      have b2 : binD .sub (nd (n + d)) (.int 2) = some (.int ((n : Int) + (d : Int) - 2)) := by
        show some (PyData.int (((n + d : Nat) : Int) - 2)) = _
        rw [Int.natCast_add]
      have b3 := max0_sub n d
      refine ⟨[.own false z.1, .sh (usD us), .sh (tsD ts), .sh (.str S), .sh (ixD c), .own true tl, s6, .sh (nd a), s8, s9, s10, s11, .sh (nd n), .un], nd (n + d - 2), (P1, .sh (nd n)), rfl, rfl, ?_, hP1, n + d - 2, by omega, rfl⟩
      simp [ev, op2, opd, res, rdv, argSl, musOf, nodupB, wbk, c1, b1, b2, b3]) (by have := hua.len; have := p.vt.l1; exact sz (by simpa using (show (us.getD a U0).ns.length ≤ 100 by omega)))
  obtain ⟨ns, rfl, h2⟩ := map_of nd (fun n => n ≤ 200) ys fun y hy => g4 y hy
  rw [List.length_map, hua.len] at g3
  refine ⟨ns, z'.1, ?_, g2, g3, h2⟩
  have i1 : idxD (usD us) (nd a) = some (ud (us.getD a U0)) := idx_t ud (at_lt ha U0)
  have i2 : idxD (ud (us.getD a U0)) (.int 2) = some (.tuple ((us.getD a U0).ns.map nd)) := ix2 _ _ _ _
  have e0 : ev Φ (.idx (.idx (.var 1) (.var 7)) (.cst (.int 2))) (F14 P us ts S c tl s6 (.sh (nd a)) s8 s9 s10 s11) = some (.tuple ((us.getD a U0).ns.map nd), F14 P us ts S c tl s6 (.sh (nd a)) s8 s9 s10 s11) := by
    simp [ev, op2, opd, res, i1, i2, -List.getD_eq_getElem?_getD]
  have e1 := ev_lc_go (Φ := Φ) (own := [("need", 12)]) (k := .walk) (b := .noe) (y := .none) e0 rfl rfl g1
  have e2 := ev_b1 (b := .tup) (by intro i q; cases q) e1 (d := .tuple (ns.map nd)) rfl
  exact Eq.trans (asg_nm e2 (j10.put rfl)) rfl
theorem pr4 (hΦ : ∀ i, i < 38 → Φ i = T i) (p : Ps us ts) (hP : Pot P) {a b : Nat} (hb : b < us.length) {ns : List Nat} (hl : ns.length = ts.length) (hn : ∀ n ∈ ns, n ≤ 200) (s6 s7 s9 s11 : Sl) :
    ∃ (ns' : List Nat) (P' : List D), exs Φ (nthS 4 prB) (F14 P us ts S c tl s6 s7 (.sh (nd b)) s9 (.sh (.tuple (ns.map nd))) s11) = some (.nx (F14 P' us ts S c tl s6 s7 (.sh (nd b)) s9 (.sh (.tuple (ns'.map nd))) s11)) ∧ Pot P' ∧ ns'.length = ts.length ∧ ∀ n ∈ ns', n ≤ 400 := by
  have hub := p.ok _ (getD_mem (d := U0) hb)
  let e := F14 P us ts S c tl s6 s7 (.sh (nd b)) s9 (.sh (.tuple (ns.map nd))) s11
  have l1 := p.vt.l1
  have ib : idxD (usD us) (nd b) = some (ud (us.getD b U0)) := idx_t ud (at_lt hb U0)
  have ib2 : idxD (ud (us.getD b U0)) (.int 2) = some (.tuple ((us.getD b U0).ns.map nd)) := ix2 _ _ _ _
  have e3 : ev Φ (.idx (.idx (.var 1) (.var 8)) (.cst (.int 2))) e = some (.tuple ((us.getD b U0).ns.map nd), e) := by
    simp [e, ev, op2, opd, res, ib, ib2, -List.getD_eq_getElem?_getD]
  have e2 : ev Φ (.lc [("need", 12)] (.nm 12) .walk (.var 10) .noe .noe (.bin .mul (.cst (.int 2)) (.var 12))) e = some (ixD (ns.map fun n => 2 * n), e) := by
    refine (ev_lcP nd (fun _ => true) (fun n => nd (2 * n)) ns rfl rfl rfl (fun n h => ?_) (sz (by omega))).trans ?_
    · refine ⟨[.own false P, .sh (usD us), .sh (tsD ts), .sh (.str S), .sh (ixD c), .own true tl, s6, s7, .sh (nd b), s9, .sh (.tuple (ns.map nd)), s11, .sh (nd n), .un], rfl, rfl, fun _ => ?_, rfl⟩
      have b : binD .mul (.int 2) (nd n) = some (nd (2 * n)) := mul_ndb 2 n (by decide) (Nat.lt_of_le_of_lt (hn n h) (by decide))
      simp [ev, op2, opd, res, b]
    · rw [all_true]
      unfold ixD
      rw [List.map_map]
      rfl
  have e4 := ev_b1 (b := .tup) (by intro i q; cases q) e2 (d := .tuple ((ns.map fun n => 2 * n).map nd)) rfl
  obtain ⟨x, P', c1, hx, hP'⟩ := pick_ok hP true [.tuple (ns.map nd), .tuple ((us.getD b U0).ns.map nd), .tuple ((ns.map fun n => 2 * n).map nd)] (by simp) (by simp)
  rw [← hΦ 2 (by decide)] at c1
  have hx' : ∃ ns' : List Nat, x = .tuple (ns'.map nd) ∧ ns'.length = ts.length ∧ ∀ n ∈ ns', n ≤ 400 := by
    simp only [List.mem_cons, List.not_mem_nil, or_false] at hx
    rcases hx with rfl | rfl | rfl
    · exact ⟨ns, rfl, hl, fun n h => Nat.le_trans (hn n h) (by decide)⟩
    · exact ⟨_, rfl, hub.len, fun n h => Nat.le_trans (hub.le n h) (by decide)⟩
    · refine ⟨_, rfl, by rw [List.length_map, hl], fun n h => ?_⟩
      obtain ⟨m, hm, rfl⟩ := List.mem_map.mp h
      have := hn m hm
      omega
  obtain ⟨ns', rfl, k1, k2⟩ := hx'
  refine ⟨ns', P', ?_, hP', k1, k2⟩
  have e5 : ev Φ (.lst (.cons (.var 10) (.cons (.idx (.idx (.var 1) (.var 8)) (.cst (.int 2))) (.cons (.b1 .tup (.lc [("need", 12)] (.nm 12) .walk (.var 10) .noe .noe (.bin .mul (.cst (.int 2)) (.var 12)))) .nil)))) e = some (.list [.tuple (ns.map nd), .tuple ((us.getD b U0).ns.map nd), .tuple ((ns.map fun n => 2 * n).map nd)], e) := ev_lst (evl_cons (d := .tuple (ns.map nd)) rfl (evl_cons e3 (evl_cons e4 evl_nil))) z3
  have e6 := ev_call (Φ := Φ) (j := 2) (as := .cons (.mu 0) (.cons (.lst (.cons (.var 10) (.cons (.idx (.idx (.var 1) (.var 8)) (.cst (.int 2))) (.cons (.b1 .tup (.lc [("need", 12)] (.nm 12) .walk (.var 10) .noe .noe (.bin .mul (.cst (.int 2)) (.var 12)))) .nil)))) .nil)) (evl_cons (d := .none) (e := e) (e1 := e) rfl (evl_cons e5 evl_nil)) rfl rfl c1 rfl
  exact Eq.trans (asg_nm e6 rfl) rfl
theorem pr5 (p : Ps us ts) {a : Nat} (ha : a < us.length) {ns : List Nat} (hl : ns.length = ts.length) (hn : ∀ n ∈ ns, n ≤ 400) (s6 s8 s9 s11 : Sl) :
    ∃ (ns' : List Nat), exs Φ (nthS 5 prB) (F14 P us ts S c tl s6 (.sh (nd a)) s8 s9 (.sh (.tuple (ns.map nd))) s11) = some (.nx (F14 P us ts S c tl s6 (.sh (nd a)) s8 s9 (.sh (.tuple (ns'.map nd))) s11)) ∧ Vu ts.length (tellN us a ns') := by
  have hua := p.ok _ (getD_mem (d := U0) ha)
  have l0 := p.vt.l0
  let e := F14 P us ts S c tl s6 (.sh (nd a)) s8 s9 (.sh (.tuple (ns.map nd))) s11
  obtain ⟨x, xs, ex⟩ : ∃ x xs, ns = x :: xs := by
    cases ns with
    | nil => simp at hl; omega
    | cons x xs => exact ⟨x, xs, rfl⟩
  have sm : b1D .sum (.tuple (ns.map nd)) = some (nd ns.sum) := sum_ixt ns
  have mx : b1D .max (.tuple (ns.map nd)) = some (nd (xs.foldl max x)) := by rw [ex]; exact max_ixt x xs
  have e1 : ev Φ (.cmp .eq (.b1 .sum (.var 10)) (.cst (.int 0))) e = some (.bool (decide (ns.sum = 0)), e) := ev_cmp' (opd_nv (by intro i q; cases q) (ev_b1v rfl sm)) (opd_nv (by intro i q; cases q) rfl) rfl rfl (cmp_nd ns.sum 0)
  have e2 : ev Φ (.cmp .gt (.b1 .max (.var 10)) (.cst (.int 99))) e = some (.bool (decide (99 < xs.foldl max x)), e) := ev_cmp' (opd_nv (by intro i q; cases q) (ev_b1v rfl mx)) (opd_nv (by intro i q; cases q) rfl) rfl rfl (gt_nn _ 99)
  have e3 := evl_or2 e1 e2 rfl
  have ia : idxD (usD us) (nd a) = some (ud (us.getD a U0)) := idx_t ud (at_lt ha U0)
  have ia2 : idxD (ud (us.getD a U0)) (.int 2) = some (.tuple ((us.getD a U0).ns.map nd)) := ix2 _ _ _ _
  have e4 : ev Φ (.idx (.idx (.var 1) (.var 7)) (.cst (.int 2))) e = some (.tuple ((us.getD a U0).ns.map nd), e) := by
    simp [e, ev, op2, opd, res, ia, ia2, -List.getD_eq_getElem?_getD]
  cases q : (decide (ns.sum = 0) || decide (99 < xs.foldl max x)) with
  | true =>
    rw [q] at e3
    refine ⟨(us.getD a U0).ns, Eq.trans (asg_nm (ev_itet (by intro i q; cases q) e3 e4) rfl) rfl, ?_⟩
    exact ⟨hua.w0, hua.w1, hua.len, hua.le, hua.ex, hua.want⟩
  | false =>
    rw [q] at e3
    rw [Bool.or_eq_false_iff] at q
    have q1 := of_decide_eq_false q.1
    have q2 := of_decide_eq_false q.2
    refine ⟨ns, Eq.trans (asg_nm (ev_itef (by intro i q; cases q) e3 rfl) rfl) rfl, ?_⟩
    refine ⟨hua.w0, hua.w1, hl, fun n hn => ?_, sum_zero q1, hua.want⟩
    have hn : n ∈ ns := hn
    rw [ex] at hn
    have := foldl_max_ge xs x n hn
    omega
theorem pr67 (p : Ps us ts) {a : Nat} (ha : a < us.length) {ns : List Nat} (hv : Vu ts.length (tellN us a ns)) (s6 s8 s9 s11 : Sl) (j11 : jk s11) :
    ∃ (ns' : List Nat) (s11' : Sl), jk s11' ∧ exs Φ (.consB (nthS 6 prB) (.consB (nthS 7 prB) .nilB)) (F14 P us ts S c tl s6 (.sh (nd a)) s8 s9 (.sh (.tuple (ns.map nd))) s11) = some (.nx (F14 P us ts S c tl s6 (.sh (nd a)) s8 s9 (.sh (.tuple (ns'.map nd))) s11')) ∧ Vu ts.length (tellN us a ns') := by
  have hua := p.ok _ (getD_mem (d := U0) ha)
  have hl : ns.length = ts.length := hv.len
  let e := F14 P us ts S c tl s6 (.sh (nd a)) s8 s9 (.sh (.tuple (ns.map nd))) s11
  let L := ((ns.zip ts).filter fun p => decide (0 < p.1)).map fun p => p.2 / p.1
  have e1 : ev Φ (.lc [("need", 12), ("there", 13)] (.tp [12, 13]) .zip (.var 10) (.var 2) (.cmp .gt (.var 12) (.cst (.int 0))) (.bin .fdv (.var 13) (.var 12))) e = some (ixD L, e) := by
    refine (ev_lcP pr2 (fun p => decide (0 < p.1)) (fun p => nd (p.2 / p.1)) (ns.zip ts) rfl rfl (walk_zip ns ts) (fun p' hp => ?_) (sz (by have := p.vt.l1; rw [List.length_zip]; omega))).trans ?_
    · have k := hv.le _ (List.of_mem_zip hp).1
      refine ⟨[.own false P, .sh (usD us), .sh (tsD ts), .sh (.str S), .sh (ixD c), .own true tl, s6, .sh (nd a), s8, s9, .sh (.tuple (ns.map nd)), s11, .sh (nd p'.1), .sh (nd p'.2)], rfl, lcT_bool (by intro i q; cases q) (by intro q; cases q) (by simp [ev, op2, opd, res, gt_nd]), fun h => ?_, rfl⟩
      have q := fdv_nd (a := p'.2) (of_decide_eq_true h) (Nat.lt_of_le_of_lt k (by decide))
      simp [ev, op2, opd, res, q]
    · unfold ixD
      rw [List.map_map]
      rfl
  obtain ⟨x, xs, ex⟩ : ∃ x xs, L = x :: xs := by
    obtain ⟨n, hn, h0⟩ := hv.ex
    obtain ⟨g, hg⟩ := List.mem_iff_getElem?.mp hn
    have hg : ns[g]? = some n := hg
    have lg := (List.getElem?_eq_some_iff.mp hg).1
    have : ts.getD g 0 / n ∈ L := List.mem_map.mpr ⟨(n, ts.getD g 0), List.mem_filter.mpr ⟨List.mem_of_getElem? (List.getElem?_zip_eq_some.mpr ⟨hg, at_lt (by rw [← hl]; exact lg) 0⟩), decide_eq_true h0⟩, rfl⟩
    cases e : L with
    | nil => rw [e] at this; cases this
    | cons x xs => exact ⟨x, xs, rfl⟩
  have e2 := ev_b1 (b := .min) (by intro i q; cases q) e1 (d := nd (minL L)) (by rw [ex]; exact min_ix x xs)
  have t1 : exs Φ (nthS 6 prB) e = some (.nx (F14 P us ts S c tl s6 (.sh (nd a)) s8 s9 (.sh (.tuple (ns.map nd))) (.sh (nd (minL L))))) := Eq.trans (asg_nm e2 (j11.put rfl)) rfl
  let e' := F14 P us ts S c tl s6 (.sh (nd a)) s8 s9 (.sh (.tuple (ns.map nd))) (.sh (nd (minL L)))
  have e3 : ev Φ (.cmp .gt (.var 11) (.cst (.int 40))) e' = some (.bool (decide (40 < minL L)), e') := ev_cmp' rfl (opd_nv (by intro i q; cases q) rfl) rfl rfl (gt_nn _ 40)
  have ia : idxD (usD us) (nd a) = some (ud (us.getD a U0)) := idx_t ud (at_lt ha U0)
  have ia2 : idxD (ud (us.getD a U0)) (.int 2) = some (.tuple ((us.getD a U0).ns.map nd)) := ix2 _ _ _ _
  have e4 : ev Φ (.idx (.idx (.var 1) (.var 7)) (.cst (.int 2))) e' = some (.tuple ((us.getD a U0).ns.map nd), e') := by
    simp [e', ev, op2, opd, res, ia, ia2, -List.getD_eq_getElem?_getD]
  by_cases q : 40 < minL L
  · rw [decide_eq_true q] at e3
    refine ⟨(us.getD a U0).ns, .sh (nd (minL L)), jk.sh _, exs_nx t1 (exs_nx (Eq.trans (asg_nm (ev_itet (by intro i q; cases q) e3 e4) rfl) rfl) rfl), hua.w0, hua.w1, hua.len, hua.le, hua.ex, hua.want⟩
  · rw [decide_eq_false q] at e3
    exact ⟨ns, .sh (nd (minL L)), jk.sh _, exs_nx t1 (exs_nx (Eq.trans (asg_nm (ev_itef (by intro i q; cases q) e3 rfl) rfl) rfl) rfl), hv⟩
theorem pr8 (hΦ : ∀ i, i < 38 → Φ i = T i) (p : Ps us ts) (h1 : ∀ u ∈ us, u.w = 1) (hs : ts.sum ≤ 4000) {a : Nat} (ha : a < us.length) {ns : List Nat} (hv : Vu ts.length (tellN us a ns)) (s6 s8 s9 s11 : Sl) :
    exs Φ (nthS 8 prB) (F14 P us ts S c tl s6 (.sh (nd a)) s8 s9 (.sh (.tuple (ns.map nd))) s11) = some (.nx (F14 P us ts S c tl s6 (.sh (nd a)) s8 s9 (.sh (.tuple (ns.map nd))) s11)) := by
  let e := F14 P us ts S c tl s6 (.sh (nd a)) s8 s9 (.sh (.tuple (ns.map nd))) s11
  have c1 := (true_pieces_ok p h1 hs ha hv).on (hΦ 35 (by decide))
  have c2 := (ltruly_ok p hs ha hv).on (hΦ 36 (by decide))
  have r := rep_n (truN_bd p hs ha hv)
  have e1 : ev Φ (.calk 35 .nil (.cons (.var 10) (.cons (.var 7) (.cons (.var 2) (.cons (.var 1) .nil)))) [3, 2, 1, 0]) e = some (nd (truN us ts a ns), e) := ev_calk (ds := []) (es := [.tuple (ns.map nd), nd a, tsD ts, usD us]) rfl (evl_cons rfl (evl_cons rfl (evl_cons rfl (evl_cons rfl evl_nil)))) rfl c1
  have e2 : ev Φ (.call 36 (.cons (.var 1) (.cons (.var 2) (.cons (.var 7) (.cons (.var 10) .nil))))) e = some (nd (truN us ts a ns), e) := ev_call (evl_cons (d := usD us) rfl (evl_cons (d := tsD ts) rfl (evl_cons (d := nd a) rfl (evl_cons (d := .tuple (ns.map nd)) rfl evl_nil)))) rfl rfl c2 rfl
  have e3 := ev_ne_rep (by intro i q; cases q) (by intro i q; cases q) (ev_b1 (b := .repr) (by intro i q; cases q) e1 r) (ev_b1 (b := .repr) (by intro i q; cases q) e2 r)
  exact (exs_iff (by intro i q; cases q) e3).trans rfl
theorem pr_turn (hΦ : ∀ i, i < 38 → Φ i = T i) (p : Ps us ts) (h1 : ∀ u ∈ us, u.w = 1) (hs : ts.sum ≤ 4000) (hP : Pot P) (s6 s7 s8 s9 s10 s11 : Sl) (j7 : jk s7) (j8 : jk s8) (j9 : jk s9) (j10 : jk s10) (j11 : jk s11) :
    ∃ (P' : List D) (s7' s8' s9' s10' s11' : Sl), Pot P' ∧ jk s7' ∧ jk s8' ∧ jk s9' ∧ jk s10' ∧ jk s11' ∧ exs Φ prB (F14 P us ts S (pcs us ts) tl s6 s7 s8 s9 s10 s11) = some (.nx (F14 P' us ts S (pcs us ts) tl s6 s7' s8' s9' s10' s11')) := by
  obtain ⟨a, b, P1, t0, hP1, ha, hb⟩ := pr0 (S := S) (c := pcs us ts) (tl := tl) hΦ p hP s6 s7 s8 s9 s10 s11 j7 j8
  have t1 := pr1 (S := S) (P := P1) (tl := tl) hΦ p hs ha hb s6 s9 s10 s11 j9
  have t2 := pr2' (S := S) (P := P1) (tl := tl) hΦ p h1 hs ha hb s6 s10 s11
  obtain ⟨ns1, P2, t3, hP2, l1, n1⟩ := pr3 (S := S) (c := pcs us ts) (tl := tl) (b := b) hΦ p hP1 ha s6 (.sh (nd b)) (.sh (nd (envN us (pcs us ts) a b))) s10 s11 j10
  obtain ⟨ns2, P3, t4, hP3, l2, n2⟩ := pr4 (S := S) (c := pcs us ts) (tl := tl) (a := a) hΦ p hP2 hb l1 n1 s6 (.sh (nd a)) (.sh (nd (envN us (pcs us ts) a b))) s11
  obtain ⟨ns3, t5, v3⟩ := pr5 (Φ := Φ) (S := S) (c := pcs us ts) (tl := tl) (P := P3) p ha l2 n2 s6 (.sh (nd b)) (.sh (nd (envN us (pcs us ts) a b))) s11
  obtain ⟨ns4, s11', j11', t6, v4⟩ := pr67 (Φ := Φ) (S := S) (c := pcs us ts) (tl := tl) (P := P3) p ha v3 s6 (.sh (nd b)) (.sh (nd (envN us (pcs us ts) a b))) s11 j11
  have t8 := pr8 (S := S) (c := pcs us ts) (tl := tl) (P := P3) hΦ p h1 hs ha v4 s6 (.sh (nd b)) (.sh (nd (envN us (pcs us ts) a b))) s11'
  refine ⟨P3, .sh (nd a), .sh (nd b), .sh (nd (envN us (pcs us ts) a b)), .sh (.tuple (ns4.map nd)), s11', hP3, jk.sh _, jk.sh _, jk.sh _, jk.sh _, j11', ?_⟩
  refine exs_nx t0 (exs_nx t1 (exs_nx t2 (exs_nx t3 (exs_nx t4 (exs_nx t5 ?_)))))
  have split : ∀ (A B C : Sm) (e e1 : Ev), exs Φ (.consB A (.consB B .nilB)) e = some (.nx e1) → exs Φ (.consB A (.consB B C)) e = exs Φ C e1 := fun A B C e e1 h => by
    simp only [exs] at h ⊢
    cases hA : exs Φ A e with
    | none => rw [hA] at h; cases h
    | some o =>
      rw [hA] at h
      cases o with
      | nx e2 =>
        simp only at h ⊢
        cases hB : exs Φ B e2 with
        | none => rw [hB] at h; cases h
        | some o2 =>
          rw [hB] at h
          cases o2 with
          | nx e3 =>
            simp only at h ⊢
            cases h
            rfl
          | _ => cases h
      | _ => cases h
  exact (split _ _ (.consB (nthS 8 prB) .nilB) _ _ t6).trans (exs_nx t8 rfl)
end
end Iv
end
section
set_option Elab.async false
set_option linter.all false
set_option maxRecDepth 100000
set_option exponentiation.threshold 3000
set_option maxHeartbeats 4000000
namespace Iv
open PySem PySem.Spec L2
section
variable {us : List U} {ts c l gs : List Nat} {u : U} {Φ : Fn} {G most : Nat} {P tl : List D} {S : Str}
theorem ps_of (h1 : 1 ≤ us.length) (h6 : us.length ≤ 6) (g1 : 1 ≤ G) (g4 : G ≤ 4) (hm : most ≤ 99) (hu : ∀ u ∈ us, Du G most u) (hl : ts.length = G) {m : Nat} (m10 : m ≤ 10) (ht : ∀ t ∈ ts, 1 ≤ t ∧ t ≤ m * 100) : Ps us ts ∧ (∀ u ∈ us, u.w = 1) ∧ ts.sum ≤ 4000 := by
  have k : m * 100 ≤ 10 * 100 := Nat.mul_le_mul_right _ m10
  refine ⟨⟨h1, h6, fun u hu' => ?_, by omega, by omega, fun t h => ?_⟩, fun u hu' => (hu u hu').one, ?_⟩
  · have d := hu u hu'
    refine ⟨by rw [d.one]; omega, by rw [d.one]; omega, by rw [d.len, hl], fun n hn => ?_, d.ex, fun v hv => ?_⟩
    · have := d.le n hn
      omega
    · have := d.want v hv
      omega
  · have := ht t h
    omega
  · have := sum_bd (M := 1000) fun x hx => Nat.le_trans (ht x hx).2 k
    have : ts.length * 1000 ≤ 4 * 1000 := Nat.mul_le_mul_right _ (by omega)
    omega
/-- 1 + draw(pot, m) -/
theorem ev_plus_draw {e e1 : Ev} {a m d : Nat} {P1 : List D} (h0 : e[0]? = some (.own false P)) (c : Φ 1 [.own false P, .sh (nd m)] = some (nd d, [.own false P1, .sh (nd m)])) (x : Ex) (hx : ev Φ x e = some (nd m, e)) :
    ev Φ (.bin .add (.cst (nd a)) (.call 1 (.cons (.mu 0) (.cons x .nil)))) e = some (nd (a + d), e.set 0 (.own false P1)) := by
  have h1 : ev Φ (.mu 0) e = some (.none, e) := by simp only [ev, h0]
  have ha : argSl (.cons (.mu 0) (.cons x .nil)) [.none, nd m] e = some [.own false P, .sh (nd m)] := by
    cases x <;> first | (simp only [argSl, h0]; done) | (simp only [ev] at hx; split at hx <;> cases hx)
  have hw : wbk (.cons (.mu 0) (.cons x .nil)) [.own false P1, .sh (nd m)] e = some (e.set 0 (.own false P1)) := by
    cases x <;> first | (simp only [wbk, h0]; done) | (simp only [ev] at hx; split at hx <;> cases hx)
  have hn : nodupB (musOf (.cons (.mu 0) (.cons x .nil))) = true := by
    cases x <;> first | rfl | (simp only [ev] at hx; split at hx <;> cases hx)
  have e2 := ev_call (evl_cons h1 (evl_cons hx evl_nil)) ha hn c hw
  have b := add_nd a d
  simp only [ev] at e2
  simp only [ev, op2, opd, e2, res, b, Option.map_some]
theorem ev_draw {e : Ev} {m d : Nat} {P1 : List D} (h0 : e[0]? = some (.own false P)) (c : Φ 1 [.own false P, .sh (nd m)] = some (nd d, [.own false P1, .sh (nd m)])) (x : Ex) (hx : ev Φ x e = some (nd m, e)) (nm : ∀ i, x ≠ .mu i) :
    ev Φ (.call 1 (.cons (.mu 0) (.cons x .nil))) e = some (nd d, e.set 0 (.own false P1)) := by
  have h1 : ev Φ (.mu 0) e = some (.none, e) := by simp only [ev, h0]
  have ha : argSl (.cons (.mu 0) (.cons x .nil)) [.none, nd m] e = some [.own false P, .sh (nd m)] := by
    cases x <;> first | (simp only [argSl, h0]; done) | exact absurd rfl (nm _)
  have hw : wbk (.cons (.mu 0) (.cons x .nil)) [.own false P1, .sh (nd m)] e = some (e.set 0 (.own false P1)) := by
    cases x <;> first | (simp only [wbk, h0]; done) | exact absurd rfl (nm _)
  have hn : nodupB (musOf (.cons (.mu 0) (.cons x .nil))) = true := by
    cases x <;> first | rfl | exact absurd rfl (nm _)
  exact ev_call (evl_cons h1 (evl_cons hx evl_nil)) ha hn c hw
end
end Iv
end
section
set_option Elab.async false
set_option linter.all false
set_option maxRecDepth 100000
set_option exponentiation.threshold 3000
set_option maxHeartbeats 4000000
namespace Iv
open PySem PySem.Spec L2
theorem ev_fr {Φ : Fn} {a b : Ex} {e e1 : Ev} {ds : List D} (h : ev Φ a e = some (.list ds, e1)) : ev Φ (.m1 .fr a b) e = some (.list ds, e1) := by
  rw [ev]
  simp only [h]
section
variable {us : List U} {ts c l gs : List Nat} {u : U} {Φ : Fn} {G most : Nat} {P tl : List D} {S : Str}
theorem pr_us (hΦ : ∀ i, i < 38 → Φ i = T i) (hP : Pot P) : ∃ (us : List U) (G most : Nat) (P' : List D), Pot P' ∧ 1 ≤ us.length ∧ us.length ≤ 6 ∧ 1 ≤ G ∧ G ≤ 4 ∧ most ≤ 99 ∧ (∀ u ∈ us, Du G most u) ∧
    exs Φ (nthS 0 k93_b__law_pieces_right) [.own false P, .un, .un, .un, .un, .un, .un, .un, .un, .un, .un, .un, .un, .un] = some (.nx [.own false P', .sh (usD us), .un, .un, .un, .un, .un, .un, .un, .un, .un, .un, .un, .un]) := by
  obtain ⟨d1, P1, c1, a1, hP1⟩ := draw_ok hP 6 (by omega) (by omega)
  obtain ⟨d2, P2, c2, a2, hP2⟩ := draw_ok hP1 4 (by omega) (by omega)
  obtain ⟨x, P3, c3, hx, hP3⟩ := pick_ok hP2 true [.int 4, .int 99] (by simp) (by simp)
  have hx' : ∃ most : Nat, x = nd most ∧ 1 ≤ most ∧ most ≤ 99 := by
    simp only [List.mem_cons, List.not_mem_nil, or_false] at hx
    rcases hx with rfl | rfl
    · exact ⟨4, rfl, by decide, by decide⟩
    · exact ⟨99, rfl, by decide, by decide⟩
  obtain ⟨most, rfl, m1, m2⟩ := hx'
  obtain ⟨us, P4, c4, hP4, l4, u4⟩ := lusers_ok (G := 1 + d2) (most := most) hP3 (many := 1 + d1) (by omega) (by omega) (by omega) m1 m2
  refine ⟨us, 1 + d2, most, P4, hP4, by omega, by omega, by omega, by omega, m2, u4, ?_⟩
  rw [← hΦ 1 (by decide)] at c1 c2
  rw [← hΦ 2 (by decide)] at c3
  rw [← hΦ 3 (by decide)] at c4
  let R : List Sl := [.un, .un, .un, .un, .un, .un, .un, .un, .un, .un, .un, .un, .un]
  have e1 : ev Φ (.bin .add (.cst (.int 1)) (.call 1 (.cons (.mu 0) (.cons (.cst (.int 6)) .nil)))) (.own false P :: R) = some (nd (1 + d1), .own false P1 :: R) := ev_plus_draw (a := 1) (m := 6) (e1 := []) rfl c1 (.cst (.int 6)) rfl
  have e2 : ev Φ (.bin .add (.cst (.int 1)) (.call 1 (.cons (.mu 0) (.cons (.cst (.int 4)) .nil)))) (.own false P1 :: R) = some (nd (1 + d2), .own false P2 :: R) := ev_plus_draw (a := 1) (m := 4) (e1 := []) rfl c2 (.cst (.int 4)) rfl
  have e3 : ev Φ (.call 2 (.cons (.mu 0) (.cons (.lst (.cons (.cst (.int 4)) (.cons (.cst (.int 99)) .nil))) .nil))) (.own false P2 :: R) = some (nd most, .own false P3 :: R) := ev_call (evl_cons (d := .none) rfl (evl_cons (ev_lst (evl_cons rfl (evl_cons rfl evl_nil)) z2) evl_nil)) rfl rfl c3 rfl
  have e4 := ev_call (Φ := Φ) (j := 3) (e := .own false P :: R) (evl_cons (d := .none) (a := .mu 0) (e1 := .own false P :: R) rfl (evl_cons e1 (evl_cons e2 (evl_cons e3 evl_nil)))) rfl rfl c4 rfl
  exact Eq.trans (asg_nm e4 rfl) rfl
theorem pr_loop (hΦ : ∀ i, i < 38 → Φ i = T i) (p : Ps us ts) (h1 : ∀ u ∈ us, u.w = 1) (hs : ts.sum ≤ 4000) (hP : Pot P) :
    ∃ (P' : List D) (s6 s7 s8 s9 s10 s11 : Sl), Pot P' ∧ exs Φ (nthS 6 k93_b__law_pieces_right) (F14 P us ts S (pcs us ts) tl .un .un .un .un .un .un) = some (.nx (F14 P' us ts S (pcs us ts) tl s6 s7 s8 s9 s10 s11)) := by
  obtain ⟨z, ⟨o1, _⟩, lp⟩ := for_ex (g := .nm 6) (f := exs Φ prB) nd (fun z : List D × Sl × Sl × Sl × Sl × Sl × Sl => F14 z.1 us ts S (pcs us ts) tl z.2.1 z.2.2.1 z.2.2.2.1 z.2.2.2.2.1 z.2.2.2.2.2.1 z.2.2.2.2.2.2)
    (fun k z => Pot z.1 ∧ jk z.2.1 ∧ jk z.2.2.1 ∧ jk z.2.2.2.1 ∧ jk z.2.2.2.2.1 ∧ jk z.2.2.2.2.2.1 ∧ jk z.2.2.2.2.2.2) (List.range 2) 0 (P, .un, .un, .un, .un, .un, .un) ⟨hP, .inl rfl, .inl rfl, .inl rfl, .inl rfl, .inl rfl, .inl rfl⟩ (fun i x z hx ⟨q1, q2, q3, q4, q5, q6, q7⟩ => by
      obtain ⟨P', s7', s8', s9', s10', s11', hP', j7, j8, j9, j10, j11, tr⟩ := pr_turn (S := S) (tl := tl) hΦ p h1 hs q1 (.sh (nd x)) z.2.2.1 z.2.2.2.1 z.2.2.2.2.1 z.2.2.2.2.2.1 z.2.2.2.2.2.2 q3 q4 q5 q6 q7
      refine ⟨?_, F14 z.1 us ts S (pcs us ts) tl (.sh (nd x)) z.2.2.1 z.2.2.2.1 z.2.2.2.2.1 z.2.2.2.2.2.1 z.2.2.2.2.2.2, (P', .sh (nd x), s7', s8', s9', s10', s11'), rfl, tr, hP', jk.sh _, j7, j8, j9, j10, j11⟩
      show (putOk _ 6 && true) = true
      rw [q2.put rfl]
      rfl)
  exact ⟨z.1, z.2.1, z.2.2.1, z.2.2.2.1, z.2.2.2.2.1, z.2.2.2.2.2.1, z.2.2.2.2.2.2, o1, (exs_for rfl rfl (walk_rng' (n := 2) (by decide))).trans lp⟩
theorem pieces_right_ok (hP : Pot P) : ∃ P', T 38 [.own false P] = some (.bool true, [.own false P']) ∧ Pot P' := by
  obtain ⟨Φ, hΦ, hT⟩ := tab_run (ds := k93_ds) (j := 38) (d := k93_d__law_pieces_right) rfl
  have hΦ : ∀ i, i < 38 → Φ i = T i := hΦ
  obtain ⟨us, G, most, P1, hP1, l1, l6, g1, g4, m9, hu, t0⟩ := pr_us hΦ hP
  obtain ⟨ts, P2, c2, hP2, hl, ht⟩ := ltotals_ok (G := G) (most := 10) hP1 l1 l6 g4 (fun u h => ⟨(hu u h).len, fun n hn => by have := (hu u h).le n hn; omega⟩) (by decide) (by decide)
  obtain ⟨p, one, hs⟩ := ps_of l1 l6 g1 g4 m9 hu hl (m := 10) (by decide) ht
  let S := (PyData.list [usD us, tsD ts]).shown
  obtain ⟨P3, s6, s7, s8, s9, s10, s11, hP3, t6⟩ := pr_loop (P := P2) (S := S) (tl := (pcs us ts).map nd ++ [.none]) hΦ p one hs hP2
  refine ⟨P3, ?_, hP3⟩
  refine gv3 hT rfl (e := F14 P3 us ts S (pcs us ts) ((pcs us ts).map nd ++ [.none]) s6 s7 s8 s9 s10 s11) ?_ rfl
  rw [← hΦ 4 (by decide)] at c2
  have c3 := (law_pieces_ok p).on (hΦ 28 (by decide))
  have c4 := (pieces_ok p one hs).on (hΦ 26 (by decide))
  have R1 := rep_both p
  have R2 := rep_ix (c := pcs us ts) (by rw [pcs_len p hs]; exact p.l1) (fun n hn => by
    obtain ⟨i, hi⟩ := List.mem_iff_getElem?.mp hn
    have := pcs_bd p hs i
    rw [getD_of hi] at this
    exact Nat.lt_trans this (by decide))
  have t1 : exs Φ (nthS 1 k93_b__law_pieces_right) [.own false P1, .sh (usD us), .un, .un, .un, .un, .un, .un, .un, .un, .un, .un, .un, .un] = some (.nx [.own false P2, .sh (usD us), .sh (tsD ts), .un, .un, .un, .un, .un, .un, .un, .un, .un, .un, .un]) := Eq.trans (asg_nm (ev_call (evl_cons (d := .none) rfl (evl_cons (d := usD us) rfl (evl_cons (d := .int 10) rfl evl_nil))) rfl rfl c2 rfl) rfl) rfl
  have t2 : exs Φ (nthS 2 k93_b__law_pieces_right) [.own false P2, .sh (usD us), .sh (tsD ts), .un, .un, .un, .un, .un, .un, .un, .un, .un, .un, .un] = some (.nx [.own false P2, .sh (usD us), .sh (tsD ts), .sh (.str S), .sh (ixD (pcs us ts)), .un, .un, .un, .un, .un, .un, .un, .un, .un]) := by
    refine exs_asp (evl_cons (ev_b1 (by intro i q; cases q) (ev_lst (evl_cons rfl (evl_cons rfl evl_nil)) z2) R1) (evl_cons (ev_call (evl_cons (d := usD us) rfl (evl_cons (d := tsD ts) rfl evl_nil)) rfl rfl c3 rfl) evl_nil)) rfl
  have t3 : exs Φ (nthS 3 k93_b__law_pieces_right) [.own false P2, .sh (usD us), .sh (tsD ts), .sh (.str S), .sh (ixD (pcs us ts)), .un, .un, .un, .un, .un, .un, .un, .un, .un] = some (.nx (F14 P2 us ts S (pcs us ts) ((pcs us ts).map nd) .un .un .un .un .un .un)) := by
    have q : ev Φ (.call 26 (.cons (.var 1) (.cons (.var 2) .nil))) [.own false P2, .sh (usD us), .sh (tsD ts), .sh (.str S), .sh (ixD (pcs us ts)), .un, .un, .un, .un, .un, .un, .un, .un, .un] = some (.list ((pcs us ts).map nd), [.own false P2, .sh (usD us), .sh (tsD ts), .sh (.str S), .sh (ixD (pcs us ts)), .un, .un, .un, .un, .un, .un, .un, .un, .un]) := ev_call (evl_cons (d := usD us) rfl (evl_cons (d := tsD ts) rfl evl_nil)) rfl rfl c4 rfl
    refine Eq.trans (exs_aso (ds := (pcs us ts).map nd) (ev_fr q) rfl) rfl
  have t4 : exs Φ (nthS 4 k93_b__law_pieces_right) (F14 P2 us ts S (pcs us ts) ((pcs us ts).map nd) .un .un .un .un .un .un) = some (.nx (F14 P2 us ts S (pcs us ts) ((pcs us ts).map nd) .un .un .un .un .un .un)) :=
    (exs_iff (by intro i q; cases q) (ev_ne_rep (by intro i q; cases q) (by intro i q; cases q) (ev_b1w (i := 5) rfl R2) (ev_b1v (i := 4) rfl R2))).trans rfl
  have t5 : exs Φ (nthS 5 k93_b__law_pieces_right) (F14 P2 us ts S (pcs us ts) ((pcs us ts).map nd) .un .un .un .un .un .un) = some (.nx (F14 P2 us ts S (pcs us ts) ((pcs us ts).map nd ++ [.none]) .un .un .un .un .un .un)) := by
    have hl : ((pcs us ts).map nd).length < sizeLine := by
      rw [List.length_map, pcs_len p hs]
      exact Nat.lt_of_le_of_lt p.l1 (by decide)
    show exs Φ (.app 5 (.cst .none)) _ = _
    rw [exs]
    simp only [ownAt, List.getElem?_cons_zero, List.getElem?_cons_succ, Option.isSome_some, if_true, ev, hl, List.set_cons_zero, List.set_cons_succ]
  refine exs_nx t0 (exs_nx t1 (exs_nx t2 (exs_nx t3 (exs_nx t4 (exs_nx t5 (exs_nx t6 (exs_ret ?_)))))))
  let e := F14 P3 us ts S (pcs us ts) ((pcs us ts).map nd ++ [.none]) s6 s7 s8 s9 s10 s11
  have f1 : ev Φ (.calk 26 .nil (.cons (.var 2) (.cons (.var 1) .nil)) [1, 0]) e = some (ixD (pcs us ts), e) := ev_calk (ds := []) (es := [tsD ts, usD us]) rfl (evl_cons rfl (evl_cons rfl evl_nil)) rfl c4
  have f2 := ev_eq_rep (by intro i q; cases q) (by intro i q; cases q) (ev_b1 (b := .repr) (by intro i q; cases q) f1 R2) (ev_b1v (b := .repr) (i := 4) (e := e) rfl R2)
  have f3 : ev Φ (.cmp .eq (.b1 .repr (.lst (.cons (.var 1) (.cons (.var 2) .nil)))) (.var 3)) e = some (.bool true, e) := ev_cmp' (opd_nv (by intro i q; cases q) (ev_b1 (by intro i q; cases q) (ev_lst (evl_cons rfl (evl_cons rfl evl_nil)) z2) R1)) rfl rfl rfl (eq_str S)
  exact ev_andt f2 f3
end
end Iv
end
section
set_option Elab.async false
set_option linter.all false
set_option maxRecDepth 100000
set_option exponentiation.threshold 3000
set_option maxHeartbeats 4000000
namespace Iv
open PySem PySem.Spec L2
def tpD (r : List Nat) : D := .tuple (r.map nd)
def rsD (rs : List (List Nat)) : D := .list (rs.map tpD)
/-- the body of both makers of rows: s, m the places of the size and of the most -/
def rwU (m : Nat) : Sm := .consB (.ext 4 (.lc [("number", 6)] (.nm 6) .rng (.bin .add (.var m) (.cst (.int 1))) .noe .noe (.bin .add (.var 5) (.tup (.cons (.var 6) .nil))))) .nilB
def rwT (m : Nat) : Sm := .consB (.aso 4 (.lst .nil)) (.consB (.for_ (.nm 5) .walk (.var 2) .noe (rwU m)) (.consB (.asg (.nm 2) (.var 4)) .nilB))
def rwB (s m : Nat) : Sm := .consB (.asg (.nm 2) (.lst (.cons (.tup .nil) .nil))) (.consB (.for_ (.nm 3) .rng (.var s) .noe (rwT m)) (.consB (.ret (.var 2)) .nilB))
theorem rows_len (most : Nat) : ∀ n, (rowsN most n).length = (most + 1) ^ n
  | 0 => rfl
  | n + 1 => by
    show ((rowsN most n).flatMap _).length = _
    rw [List.length_flatMap]
    have : ((rowsN most n).map fun r => ((List.range (most + 1)).map fun x => r ++ [x]).length) = (rowsN most n).map fun _ => most + 1 := by
      refine List.map_congr_left fun r _ => ?_
      rw [List.length_map, List.length_range]
    rw [this, List.map_const', List.sum_replicate_nat, rows_len most n, Nat.pow_succ]
theorem exs_ext {Φ : Fn} {x : Ex} {e : Ev} {i : Nat} {ds xs : List D} (h0 : e[i]? = some (.own true ds)) (hx : ev Φ x e = some (.list xs, e)) (hl : ds.length + xs.length ≤ sizeLine) : exs Φ (.ext i x) e = some (.nx (e.set i (.own true (ds ++ xs)))) := by
  have ho : ownAt e i = some (true, ds) := by unfold ownAt; rw [h0]
  simp only [exs, ho, Option.isSome_some, if_true, hx, hl]
section
variable {Φ : Fn} {x0 x1 : D} {s m size most : Nat}
theorem rw_turn (hm : ∀ r : List Sl, (Sl.sh x0 :: .sh x1 :: r)[m]? = some (.sh (nd most))) (h20 : most ≤ 20) {r : List Nat} (hr : r.length ≤ 20) {ds : List D} (hd : ds.length ≤ 2000) (s2 s3 : Sl) :
    exs Φ (rwU m) [.sh x0, .sh x1, s2, s3, .own true ds, .sh (tpD r), .un] = some (.nx [.sh x0, .sh x1, s2, s3, .own true (ds ++ ((List.range (most + 1)).map fun x => r ++ [x]).map tpD), .sh (tpD r), .un]) := by
  let e : Ev := [.sh x0, .sh x1, s2, s3, .own true ds, .sh (tpD r), .un]
  have b1 : binD .add (nd most) (.int 1) = some (nd (most + 1)) := add_nd most 1
  have e0 : ev Φ (.bin .add (.var m) (.cst (.int 1))) e = some (nd (most + 1), e) := by
    have h := hm [s2, s3, .own true ds, .sh (tpD r), .un]
    have h : e[m]? = some (.sh (nd most)) := h
    simp only [ev, op2, opd, h, res, b1, Option.map_some]
  have e1 : ev Φ (.lc [("number", 6)] (.nm 6) .rng (.bin .add (.var m) (.cst (.int 1))) .noe .noe (.bin .add (.var 5) (.tup (.cons (.var 6) .nil)))) e = some (.list ((List.range (most + 1)).map fun x => tpD (r ++ [x])), e) := by
    refine (ev_lcP nd (fun _ => true) (fun x => tpD (r ++ [x])) (List.range (most + 1)) e0 rfl (walk_rng' (by omega)) (fun x hx => ?_) (sz (by rw [List.length_range]; omega))).trans (by rw [all_true])
    refine ⟨[.sh x0, .sh x1, s2, s3, .own true ds, .sh (tpD r), .sh (nd x)], rfl, rfl, fun _ => ?_, rfl⟩
    have b2 : binD .add (tpD r) (.tuple [nd x]) = some (tpD (r ++ [x])) := by
      have := add_tt (r.map nd) [nd x] (by rw [List.length_map, List.length_singleton]; exact sz (by omega))
      have k : (r.map nd) ++ [nd x] = (r ++ [x]).map nd := by rw [List.map_append]; rfl
      rw [k] at this
      exact this
    simp [ev, op2, opd, res, rdv, z1, b2]
  refine exs_nx (exs_ext (e := e) rfl e1 ?_) ?_
  · rw [List.length_map, List.length_range]
    exact Nat.le_trans (show ds.length + (most + 1) ≤ 2021 by omega) (by decide)
  · rw [List.map_map]
    rfl
theorem rw_outer (hm : ∀ r : List Sl, (Sl.sh x0 :: .sh x1 :: r)[m]? = some (.sh (nd most))) (h20 : most ≤ 20) {rs : List (List Nat)} (hrs : ∀ r ∈ rs, r.length ≤ 20) (hl : rs.length * (most + 1) ≤ 2000) (s3 s4 s5 : Sl) (j4 : jk s4) (j5 : jk s5) :
    ∃ s5', jk s5' ∧ exs Φ (rwT m) [.sh x0, .sh x1, .sh (rsD rs), s3, s4, s5, .un] = some (.nx [.sh x0, .sh x1, .sh (rsD (rs.flatMap fun r => (List.range (most + 1)).map fun x => r ++ [x])), s3, .sh (rsD (rs.flatMap fun r => (List.range (most + 1)).map fun x => r ++ [x])), s5', .un]) := by
  have hlen : ∀ k, ((rs.take k).flatMap fun r => (List.range (most + 1)).map fun x => r ++ [x]).length ≤ 2000 := fun k => by
    rw [List.length_flatMap]
    have : ((rs.take k).map fun r => ((List.range (most + 1)).map fun x => r ++ [x]).length) = (rs.take k).map fun _ => most + 1 := by
      refine List.map_congr_left fun r _ => ?_
      rw [List.length_map, List.length_range]
    rw [this, List.map_const', List.sum_replicate_nat]
    exact Nat.le_trans (Nat.mul_le_mul_right _ (by rw [List.length_take]; omega)) hl
  obtain ⟨z, ⟨o1, o2⟩, lp⟩ := for_ex (g := .nm 5) (f := exs Φ (rwU m)) tpD (fun z : List (List Nat) × Sl => [.sh x0, .sh x1, .sh (rsD rs), s3, .own true (z.1.map tpD), z.2, .un])
    (fun k z => z.1 = ((rs.take k).flatMap fun r => (List.range (most + 1)).map fun x => r ++ [x]) ∧ jk z.2) rs 0 ([], s5) ⟨rfl, j5⟩ (fun i x z hx ⟨q1, q2⟩ => by
      have hm' := List.mem_of_getElem? hx
      rw [Nat.zero_add] at *
      have t := rw_turn (Φ := Φ) hm h20 (hrs x hm') (ds := z.1.map tpD) (by rw [List.length_map, q1]; exact hlen i) (.sh (rsD rs)) s3
      refine ⟨?_, [.sh x0, .sh x1, .sh (rsD rs), s3, .own true (z.1.map tpD), .sh (tpD x), .un], (z.1 ++ (List.range (most + 1)).map fun y => x ++ [y], .sh (tpD x)), rfl, ?_, ?_, jk.sh _⟩
      · show (putOk _ 5 && true) = true
        rw [q2.put rfl]
        rfl
      · rw [t, List.map_append]
      · show z.1 ++ _ = _
        rw [List.take_add_one, hx, List.flatMap_append, ← q1]
        simp)
  rw [Nat.zero_add, List.take_length] at o1
  refine ⟨z.2, o2, ?_⟩
  refine exs_nx (e1 := [.sh x0, .sh x1, .sh (rsD rs), s3, .own true [], s5, .un]) (Eq.trans (aso_nil (j4.put rfl)) rfl) ?_
  refine exs_nx ((exs_for (x := rsD rs) rfl rfl rfl).trans lp) ?_
  refine exs_nx (e1 := [.sh x0, .sh x1, .sh (rsD z.1), s3, .sh (rsD z.1), z.2, .un]) ?_ (by rw [o1]; rfl)
  exact Eq.trans (asg_nm (e1 := [.sh x0, .sh x1, .sh (rsD rs), s3, .sh (rsD z.1), z.2, .un]) (d := rsD z.1) rfl rfl) rfl
theorem rw_all (hs : ∀ r : List Sl, (Sl.sh x0 :: .sh x1 :: r)[s]? = some (.sh (nd size))) (hm : ∀ r : List Sl, (Sl.sh x0 :: .sh x1 :: r)[m]? = some (.sh (nd most))) (h20 : most ≤ 20) (hz : size ≤ 20) (hN : (most + 1) ^ size ≤ 2000) :
    ∃ e, exs Φ (rwB s m) [.sh x0, .sh x1, .un, .un, .un, .un, .un] = some (.rt (rsD (rowsN most size)) e) ∧ 2 ≤ e.length := by
  obtain ⟨z, ⟨o1, o2, o3, o4⟩, lp⟩ := for_ex (g := .nm 3) (f := exs Φ (rwT m)) nd (fun z : List (List Nat) × Sl × Sl × Sl => [.sh x0, .sh x1, .sh (rsD z.1), z.2.1, z.2.2.1, z.2.2.2, .un])
    (fun k z => z.1 = rowsN most k ∧ jk z.2.1 ∧ jk z.2.2.1 ∧ jk z.2.2.2) (List.range size) 0 ([[]], .un, .un, .un) ⟨rfl, .inl rfl, .inl rfl, .inl rfl⟩ (fun i x z hx ⟨q1, q2, q3, q4⟩ => by
      have hi := (List.getElem?_eq_some_iff.mp hx).1
      rw [List.length_range] at hi
      rw [Nat.zero_add] at *
      obtain ⟨s5', j5, t⟩ := rw_outer (Φ := Φ) hm h20 (rs := z.1) (fun r hr => by
        rw [q1] at hr
        have := (mem_rows.mp hr).1
        omega) (by
        rw [q1, rows_len, ← Nat.pow_succ]
        exact Nat.le_trans (Nat.pow_le_pow_right (by omega) hi) hN) (.sh (nd x)) z.2.2.1 z.2.2.2 q3 q4
      refine ⟨?_, [.sh x0, .sh x1, .sh (rsD z.1), .sh (nd x), z.2.2.1, z.2.2.2, .un], (z.1.flatMap fun r => (List.range (most + 1)).map fun x => r ++ [x], .sh (nd x), .sh (rsD (z.1.flatMap fun r => (List.range (most + 1)).map fun x => r ++ [x])), s5'), rfl, t, ?_, jk.sh _, jk.sh _, j5⟩
      · show (putOk _ 3 && true) = true
        rw [q2.put rfl]
        rfl
      · show _ = (rowsN most i).flatMap _
        rw [q1])
  rw [Nat.zero_add, List.length_range] at o1
  refine ⟨[.sh x0, .sh x1, .sh (rsD z.1), z.2.1, z.2.2.1, z.2.2.2, .un], ?_, by simp⟩
  have t0 : exs Φ (.asg (.nm 2) (.lst (.cons (.tup .nil) .nil))) [.sh x0, .sh x1, .un, .un, .un, .un, .un] = some (.nx [.sh x0, .sh x1, .sh (rsD [[]]), .un, .un, .un, .un]) := Eq.trans (asg_nm (ev_lst (evl_cons (ev_tup (ds := []) rfl (by decide)) evl_nil) z1) rfl) rfl
  have hv : ev Φ (.var s) [.sh x0, .sh x1, .sh (rsD [[]]), .un, .un, .un, .un] = some (nd size, [.sh x0, .sh x1, .sh (rsD [[]]), .un, .un, .un, .un]) := by
    have h := hs [.sh (rsD [[]]), .un, .un, .un, .un]
    simp only [ev, rdv, h]
  refine exs_nx t0 (exs_nx ((exs_for hv rfl (walk_rng' (by omega))).trans lp) ?_)
  rw [← o1]
  exact exs_ret rfl
end
theorem law_rows_ok {size most : Nat} (h20 : most ≤ 20) (hz : size ≤ 20) (hN : (most + 1) ^ size ≤ 2000) : Gv 39 [nd size, nd most] (rsD (rowsN most size)) :=
  gv (d := k93_d__law_rows) rfl rfl fun Φ hΦ => rw_all (s := 0) (m := 1) (fun _ => rfl) (fun _ => rfl) h20 hz hN
theorem tuples_ok {size most : Nat} (h20 : most ≤ 20) (hz : size ≤ 20) (hN : (most + 1) ^ size ≤ 2000) : Gv 42 [nd most, nd size] (rsD (rowsN most size)) :=
  gv (d := k93_d_tuples_to) rfl rfl fun Φ hΦ => rw_all (s := 1) (m := 0) (fun _ => rfl) (fun _ => rfl) h20 hz hN
theorem want_most_ok {v m : Nat} (h1 : 1 ≤ v) (h2 : v ≤ m) : Gv 40 [nd v, nd m] .none := by
  refine gvn (d := k93_d_want_most) rfl rfl fun Φ hΦ => ⟨[.sh (nd v), .sh (nd m)], ?_, by simp⟩
  have c := (is_within_ok (nd v) 1 (m : Int)).on (hΦ 8 (by decide))
  rw [isW_nd (a := 1) (b := (m : Int)) (by omega) (by omega)] at c
  simp only [List.map_cons, List.map_nil] at c
  have c : Φ 8 [.sh (nd v), .sh (.int 1), .sh (nd m)] = some (.bool true, [.sh (nd v), .sh (.int 1), .sh (nd m)]) := c
  simp [k93_d_want_most, k93_b_want_most, exs, ev, op1, opT, opd, res, rdv, truth, tst, argSl, musOf, nodupB, wbk, c]
theorem want_few_ok {most size limit : Nat} (h20 : most ≤ 20) (hz : size ≤ 20) (hN : (most + 1) ^ size ≤ limit) (hl : limit ≤ 2000) : Gv 41 [nd most, nd size, nd limit] .none := by
  refine gvn (d := k93_d_want_few) rfl rfl fun Φ hΦ => ?_
  obtain ⟨z, ⟨o1, o2⟩, lp⟩ := for_ex (g := .nm 4) (f := exs Φ (forS (nthS 1 k93_b_want_few))) nd (fun z : Nat × Sl => [.sh (nd most), .sh (nd size), .sh (nd limit), .sh (nd z.1), z.2])
    (fun k z => z.1 = (most + 1) ^ k ∧ jk z.2) (List.range size) 0 (1, .un) ⟨rfl, .inl rfl⟩ (fun i x z hx ⟨q1, q2⟩ => by
      have hi := (List.getElem?_eq_some_iff.mp hx).1
      rw [List.length_range] at hi
      rw [Nat.zero_add] at *
      have lz : z.1 ≤ 2000 := by
        rw [q1]
        exact Nat.le_trans (Nat.pow_le_pow_right (by omega) (by omega)) (Nat.le_trans hN hl)
      have b1 : binD .add (nd most) (.int 1) = some (nd (most + 1)) := add_nd most 1
      have b2 := mul_ndb z.1 (most + 1) (Nat.lt_of_le_of_lt lz (by decide)) (Nat.lt_of_le_of_lt (show most + 1 ≤ 21 by omega) (by decide))
      refine ⟨?_, [.sh (nd most), .sh (nd size), .sh (nd limit), .sh (nd z.1), .sh (nd x)], (z.1 * (most + 1), .sh (nd x)), rfl, ?_, ?_, jk.sh _⟩
      · show (putOk _ 4 && true) = true
        rw [q2.put rfl]
        rfl
      · refine exs_nx (Eq.trans (asg_nm (d := nd (z.1 * (most + 1))) (e1 := [.sh (nd most), .sh (nd size), .sh (nd limit), .sh (nd z.1), .sh (nd x)]) ?_ rfl) rfl) rfl
        simp [ev, op2, opd, res, b1, b2]
      · show z.1 * (most + 1) = _
        rw [q1, Nat.pow_succ])
  rw [Nat.zero_add, List.length_range] at o1
  refine ⟨[.sh (nd most), .sh (nd size), .sh (nd limit), .sh (nd z.1), z.2], ?_, by simp⟩
  have t0 : exs Φ (nthS 0 k93_b_want_few) [.sh (nd most), .sh (nd size), .sh (nd limit), .un, .un] = some (.nx [.sh (nd most), .sh (nd size), .sh (nd limit), .sh (nd 1), .un]) := Eq.trans (asg_nm (d := nd 1) rfl rfl) rfl
  have te : ev Φ (.cmp .gt (.var 3) (.var 2)) [.sh (nd most), .sh (nd size), .sh (nd limit), .sh (nd z.1), z.2] = some (.bool (decide (limit < z.1)), [.sh (nd most), .sh (nd size), .sh (nd limit), .sh (nd z.1), z.2]) := ev_cmp' rfl rfl rfl rfl (gt_nn z.1 limit)
  rw [decide_eq_false (by rw [o1]; omega)] at te
  refine exs_nx t0 (exs_nx ((exs_for (x := nd size) rfl rfl (walk_rng' (by omega))).trans lp) (exs_nx ((exs_iff (by intro i q; cases q) te).trans rfl) rfl))
end Iv
end
section
set_option Elab.async false
set_option linter.all false
set_option maxRecDepth 100000
set_option exponentiation.threshold 3000
set_option maxHeartbeats 4000000
namespace Iv
open PySem PySem.Spec L2
/-- a loop that looks for the first -/
theorem for_find {α : Type} {i : Nat} {f : Ev → Option Out} (φ : α → D) (env : Sl → Ev) (pr : α → Bool) (henv : ∀ s, (env s)[i]? = some s) : ∀ (xs : List α) (s : Sl), jk s →
    (∀ x ∈ xs, ∀ s, jk s → bindT (.nm i) (φ x) (env s) = some (env (.sh (φ x))) ∧ f (env (.sh (φ x))) = if pr x then some (.rt (φ x) (env (.sh (φ x)))) else some (.nx (env (.sh (φ x))))) →
    (match xs.find? pr with
      | none => ∃ s', jk s' ∧ forGo (.nm i) f (xs.map φ) (env s) = some (.nx (env s'))
      | some x => forGo (.nm i) f (xs.map φ) (env s) = some (.rt (φ x) (env (.sh (φ x)))))
  | [], s, j, _ => ⟨s, j, rfl⟩
  | x :: xs, s, j, h => by
    obtain ⟨h1, h2⟩ := h x List.mem_cons_self s j
    have ok : tgOk (env s) (.nm i) = true := by
      show (putOk _ i && true) = true
      rw [j.put (henv s)]
      rfl
    rw [List.find?_cons]
    cases hp : pr x with
    | true =>
      rw [hp] at h2
      show forGo _ _ (φ x :: xs.map φ) _ = _
      rw [forGo, if_pos ok]
      simp only [h1, h2, if_true]
    | false =>
      rw [hp] at h2
      have ih := for_find φ env pr henv xs (.sh (φ x)) (jk.sh _) fun y hy => h y (List.mem_cons_of_mem _ hy)
      have step : forGo (.nm i) f (φ x :: xs.map φ) (env s) = forGo (.nm i) f (xs.map φ) (env (.sh (φ x))) := by
        rw [forGo, if_pos ok]
        simp only [h1, h2, Bool.false_eq_true, if_false]
      cases hf : xs.find? pr with
      | none =>
        rw [hf] at ih
        obtain ⟨s', j', e⟩ := ih
        exact ⟨s', j', step.trans e⟩
      | some y =>
        rw [hf] at ih
        exact step.trans ih
theorem rows_cons (most : Nat) : ∀ n, ∃ rest, rowsN most n = List.replicate n 0 :: rest ∧ ∀ r ∈ rest, 0 < r.sum
  | 0 => ⟨[], rfl, fun r h => by cases h⟩
  | n + 1 => by
    obtain ⟨rest, e, h⟩ := rows_cons most n
    have hr : List.range (most + 1) = 0 :: (List.range most).map Nat.succ := List.range_succ_eq_map
    refine ⟨((List.range most).map Nat.succ).map (fun x => List.replicate n 0 ++ [x]) ++ rest.flatMap fun r => (List.range (most + 1)).map fun x => r ++ [x], ?_, fun r hr' => ?_⟩
    · show (rowsN most n).flatMap _ = _
      rw [e, List.flatMap_cons, hr, List.map_cons, List.cons_append, ← List.replicate_succ']
    · rcases List.mem_append.mp hr' with q | q
      · obtain ⟨x, hx, rfl⟩ := List.mem_map.mp q
        obtain ⟨y, _, rfl⟩ := List.mem_map.mp hx
        rw [List.sum_append]
        show 0 < _ + (y.succ + 0)
        omega
      · obtain ⟨r0, h0, h1⟩ := List.mem_flatMap.mp q
        obtain ⟨x, _, rfl⟩ := List.mem_map.mp h1
        have := h r0 h0
        rw [List.sum_append]
        omega
section
variable {us : List U} {ts : List Nat} {Φ : Fn} {P : List D}
theorem row_vu (p : Ps us ts) {i : Nat} (hi : i < us.length) {most : Nat} (hm : most ≤ 99) {r : List Nat} (hr : r ∈ rowsN most ts.length) (h0 : 0 < r.sum) : Vu ts.length (tellN us i r) := by
  have hu := p.ok _ (getD_mem (d := U0) hi)
  obtain ⟨h1, h2⟩ := mem_rows.mp hr
  exact ⟨hu.w0, hu.w1, h1, fun n hn => Nat.le_trans (h2 n hn) hm, sum_zero (by show r.sum ≠ 0; omega), hu.want⟩
def gainN (us : List U) (ts : List Nat) (i most : Nat) : Option (List Nat) := (rowsN most ts.length).find? fun r => decide (0 < r.sum) && decide ((pcs us ts).getD i 0 < truN us ts i r)
def otD : Option (List Nat) → D
  | none => .none
  | some r => tpD r
theorem gain_drop (us : List U) (ts : List Nat) (i most : Nat) : ((rowsN most ts.length).drop 1).find? (fun r => decide ((pcs us ts).getD i 0 < truN us ts i r)) = gainN us ts i most := by
  obtain ⟨rest, e, h⟩ := rows_cons most ts.length
  unfold gainN
  rw [e, List.drop_one, List.tail_cons, List.find?_cons]
  have z : decide (0 < (List.replicate ts.length 0).sum) = false := by rw [List.sum_replicate_nat]; simp
  rw [z, Bool.false_and]
  clear e z
  induction rest with
  | nil => rfl
  | cons r rest ih =>
    rw [List.find?_cons, List.find?_cons, decide_eq_true (h r List.mem_cons_self), Bool.true_and]
    split
    · rfl
    · exact ih fun x hx => h x (List.mem_cons_of_mem _ hx)
theorem gaining_ok (p : Ps us ts) (h1 : ∀ u ∈ us, u.w = 1) (hs : ts.sum ≤ 4000) {i : Nat} (hi : i < us.length) {most : Nat} (m1 : 1 ≤ most) (m20 : most ≤ 20) (hN : (most + 1) ^ ts.length ≤ 400) : Gv 43 [usD us, tsD ts, nd i, nd most] (otD (gainN us ts i most)) := by
  refine gv (d := k93_d_gaining_needs) rfl rfl fun Φ hΦ => ?_
  have c1 := (want_plain_ok p h1).on (hΦ 16 (by decide))
  have c2 := (want_user_ok hi).on (hΦ 31 (by decide))
  have c3 := (want_most_ok (m := 99) m1 (by omega)).on (hΦ 40 (by decide))
  have g4 := p.vt.l1
  have c4 := (want_few_ok (limit := 400) m20 (show ts.length ≤ 20 by omega) hN (by decide)).on (hΦ 41 (by decide))
  have c5 := (pieces_of_ok p hs).on (hΦ 25 (by decide))
  have c6 := (tuples_ok (size := ts.length) m20 (by omega) (Nat.le_trans hN (by decide))).on (hΦ 42 (by decide))
  simp only [List.map_cons, List.map_nil] at c1 c2 c3 c4 c5 c6
  have c3 : Φ 40 [.sh (nd most), .sh (.int 99)] = some (.none, [.sh (nd most), .sh (.int 99)]) := c3
  have c4 : Φ 41 [.sh (nd most), .sh (nd ts.length), .sh (.int 400)] = some (.none, [.sh (nd most), .sh (nd ts.length), .sh (.int 400)]) := c4
  have lt : b1D .len (tsD ts) = some (nd ts.length) := by
    show some (PyData.int _) = _
    rw [List.length_map]
    rfl
  have i2 : idxD (ixD (pcs us ts)) (nd i) = some (nd ((pcs us ts).getD i 0)) := idx_l nd (at_lt (by rw [pcs_len p hs]; exact hi) 0)
  let A : List Sl := [.sh (usD us), .sh (tsD ts), .sh (nd i), .sh (nd most)]
  have t0 : exs Φ (nthS 0 k93_b_gaining_needs) (A ++ [.un, .un, .un]) = some (.nx (A ++ [.un, .un, .un])) := by simp [A, k93_b_gaining_needs, nthS, exs, ev, rdv, argSl, musOf, nodupB, wbk, c1]
  have t1 : exs Φ (nthS 1 k93_b_gaining_needs) (A ++ [.un, .un, .un]) = some (.nx (A ++ [.un, .un, .un])) := by simp [A, k93_b_gaining_needs, nthS, exs, ev, rdv, argSl, musOf, nodupB, wbk, c2]
  have t2 : exs Φ (nthS 2 k93_b_gaining_needs) (A ++ [.un, .un, .un]) = some (.nx (A ++ [.un, .un, .un])) := by simp [A, k93_b_gaining_needs, nthS, exs, ev, rdv, argSl, musOf, nodupB, wbk, c3]
  have t3 : exs Φ (nthS 3 k93_b_gaining_needs) (A ++ [.un, .un, .un]) = some (.nx (A ++ [.sh (nd ts.length), .un, .un])) := Eq.trans (asg_nm (ev_b1v (Φ := Φ) (e := A ++ [.un, .un, .un]) (i := 1) rfl lt) rfl) rfl
  have t4 : exs Φ (nthS 4 k93_b_gaining_needs) (A ++ [.sh (nd ts.length), .un, .un]) = some (.nx (A ++ [.sh (nd ts.length), .un, .un])) := by simp [A, k93_b_gaining_needs, nthS, exs, ev, rdv, argSl, musOf, nodupB, wbk, c4]
  have t5 : exs Φ (nthS 5 k93_b_gaining_needs) (A ++ [.sh (nd ts.length), .un, .un]) = some (.nx (A ++ [.sh (nd ts.length), .sh (nd ((pcs us ts).getD i 0)), .un])) := by
    simp [A, k93_b_gaining_needs, nthS, exs, ev, op2, opd, res, rdv, argSl, musOf, nodupB, wbk, c5, i2, tgOk, tgIxs, putOk, bindT, -List.getD_eq_getElem?_getD]
  have fnd := for_find (i := 6) (f := exs Φ (forS (nthS 6 k93_b_gaining_needs))) tpD (fun s => A ++ [.sh (nd ts.length), .sh (nd ((pcs us ts).getD i 0)), s]) (fun r => decide ((pcs us ts).getD i 0 < truN us ts i r)) (fun s => rfl) ((rowsN most ts.length).drop 1) .un (.inl rfl) (fun r hr s js => by
    refine ⟨rfl, ?_⟩
    have hr0 : r ∈ rowsN most ts.length := List.mem_of_mem_drop hr
    have hp : 0 < r.sum := by
      obtain ⟨rest, e, h⟩ := rows_cons most ts.length
      rw [e, List.drop_one, List.tail_cons] at hr
      exact h r hr
    have v := row_vu p hi (show most ≤ 99 by omega) hr0 hp
    have c := (true_of_ok p hs hi v).on (hΦ 34 (by decide))
    let e := A ++ [.sh (nd ts.length), .sh (nd ((pcs us ts).getD i 0)), .sh (tpD r)]
    have te : ev Φ (.cmp .gt (.call 34 (.cons (.var 0) (.cons (.var 1) (.cons (.var 2) (.cons (.var 6) .nil))))) (.var 5)) e = some (.bool (decide ((pcs us ts).getD i 0 < truN us ts i r)), e) := ev_cmp' (opd_nv (by intro i q; cases q) (ev_call (evl_cons (d := usD us) rfl (evl_cons (d := tsD ts) rfl (evl_cons (d := nd i) rfl (evl_cons (d := tpD r) rfl evl_nil)))) rfl rfl c rfl)) rfl rfl rfl (gt_nn _ _)
    by_cases q : (pcs us ts).getD i 0 < truN us ts i r
    · rw [decide_eq_true q] at te ⊢
      exact exs_rt ((exs_ift (by intro i q; cases q) te).trans rfl)
    · rw [decide_eq_false q] at te ⊢
      exact exs_nx ((exs_iff (by intro i q; cases q) te).trans rfl) rfl)
  rw [gain_drop] at fnd
  have sl : ev Φ (.slc (.call 42 (.cons (.var 3) (.cons (.var 4) .nil))) (.cst (.int 1)) .noe) (A ++ [.sh (nd ts.length), .sh (nd ((pcs us ts).getD i 0)), .un]) = some (.list (((rowsN most ts.length).drop 1).map tpD), A ++ [.sh (nd ts.length), .sh (nd ((pcs us ts).getD i 0)), .un]) := by
    have s1 : slcD (some 1) none (rsD (rowsN most ts.length)) = some (.list (((rowsN most ts.length).drop 1).map tpD)) := by
      show some (PyData.list _) = _
      rw [show (some (1 : Int)) = some ((1 : Nat) : Int) from rfl, cut_from, List.map_drop]
    have p0 : ∀ d : D, partOf .noe d = some none := fun _ => rfl
    have p3 : partOf (.cst (.int 1)) (.int 1) = some (some 1) := rfl
    simp [A, ev, opd, res, rdv, argSl, musOf, nodupB, wbk, c6, s1, p0, p3, -List.drop_one]
  have pre : ∀ o, exs Φ (nthS 6 k93_b_gaining_needs) (A ++ [.sh (nd ts.length), .sh (nd ((pcs us ts).getD i 0)), .un]) = some o → ∀ o', exs Φ (.consB (nthS 6 k93_b_gaining_needs) (.consB (.ret (.cst .none)) .nilB)) (A ++ [.sh (nd ts.length), .sh (nd ((pcs us ts).getD i 0)), .un]) = o' → exs Φ k93_b_gaining_needs (A ++ [.un, .un, .un]) = o' := fun o _ o' h => exs_nx t0 (exs_nx t1 (exs_nx t2 (exs_nx t3 (exs_nx t4 (exs_nx t5 h)))))
  cases hg : gainN us ts i most with
  | none =>
    rw [hg] at fnd
    obtain ⟨s', j', lp⟩ := fnd
    have t6 := (exs_for (k := .walk) (b := .noe) sl rfl rfl).trans lp
    exact ⟨_, pre _ t6 _ (exs_nx t6 (exs_ret rfl)), by simp [A]⟩
  | some r =>
    rw [hg] at fnd
    have t6 := (exs_for (k := .walk) (b := .noe) sl rfl rfl).trans fnd
    exact ⟨_, pre _ t6 _ (exs_rt t6), by simp [A]⟩
end
end Iv
end
section
set_option Elab.async false
set_option linter.all false
set_option maxRecDepth 100000
set_option exponentiation.threshold 3000
set_option maxHeartbeats 4000000
namespace Iv
open PySem PySem.Spec L2
theorem evl_andf {Φ : Fn} {a b : Ex} {e e1 : Ev} (h : ev Φ a e = some (.bool false, e1)) : ev Φ (.and a b) e = some (.bool false, e1) := by
  simp only [ev, h]
theorem rp_ot {g : Option (List Nat)} (h : ∀ r, g = some r → r.length ≤ 4 ∧ ∀ n ∈ r, n ≤ 9999) : RP 1 7695 (otD g) := by
  cases g with
  | none => exact RP.none.up (by decide) (by decide)
  | some r => exact rp_tup (h r rfl).1 (h r rfl).2
theorem rep_ots {g : Option (List Nat)} (h : ∀ r, g = some r → r.length ≤ 4 ∧ ∀ n ∈ r, n ≤ 9999) : b1D .repr (.list [otD g, otD g]) = some (.str (PyData.list [otD g, otD g]).shown) := by
  have : RP 2 (2 * (7695 + 2) + 3) (.list [otD g, otD g]) := RP.list (ds := [otD g, otD g]) fun d hd => by
    simp only [List.mem_cons, List.not_mem_nil, or_false] at hd
    rcases hd with rfl | rfl <;> exact rp_ot h
  exact this.repr (by decide) (z_of (by decide))
theorem is_otD (g : Option (List Nat)) : cmpD .is (otD g) .none = some g.isNone := by cases g <;> rfl
/-- the look for the first, as a loop that keeps it -/
def keep1 {α : Type} (pr : α → Bool) (o : Option α) (x : α) : Option α := match o with
  | some y => some y
  | none => if pr x then some x else none
theorem find_take {α : Type} (pr : α → Bool) {xs : List α} {k : Nat} {x : α} (hx : xs[k]? = some x) : (xs.take (k + 1)).find? pr = keep1 pr ((xs.take k).find? pr) x := by
  rw [List.take_add_one, hx, List.find?_append]
  cases (xs.take k).find? pr with
  | some y => rfl
  | none =>
    show ([x].find? pr) = _
    rw [List.find?_cons]
    unfold keep1
    cases pr x <;> rfl
section
variable {us : List U} {ts : List Nat} {Φ : Fn} {P : List D}
theorem gr_us (hΦ : ∀ i, i < 44 → Φ i = T i) (hP : Pot P) : ∃ (us : List U) (G : Nat) (P' : List D), Pot P' ∧ 1 ≤ us.length ∧ us.length ≤ 6 ∧ 1 ≤ G ∧ G ≤ 2 ∧ (∀ u ∈ us, Du G 4 u) ∧
    exs Φ (nthS 0 k93_b__law_gains_right) [.own false P, .un, .un, .un, .un, .un, .un, .un, .un] = some (.nx [.own false P', .sh (usD us), .un, .un, .un, .un, .un, .un, .un]) := by
  obtain ⟨d1, P1, c1, a1, hP1⟩ := draw_ok hP 2 (by omega) (by omega)
  obtain ⟨d2, P2, c2, a2, hP2⟩ := draw_ok hP1 2 (by omega) (by omega)
  obtain ⟨us, P4, c4, hP4, l4, u4⟩ := lusers_ok (G := 1 + d2) (most := 4) hP2 (many := 2 + d1) (by omega) (by omega) (by omega) (by decide) (by decide)
  refine ⟨us, 1 + d2, P4, hP4, by omega, by omega, by omega, by omega, u4, ?_⟩
  rw [← hΦ 1 (by decide)] at c1 c2
  rw [← hΦ 3 (by decide)] at c4
  let R : List Sl := [.un, .un, .un, .un, .un, .un, .un, .un]
  have e1 : ev Φ (.bin .add (.cst (.int 2)) (.call 1 (.cons (.mu 0) (.cons (.cst (.int 2)) .nil)))) (.own false P :: R) = some (nd (2 + d1), .own false P1 :: R) := ev_plus_draw (a := 2) (m := 2) (e1 := []) rfl c1 (.cst (.int 2)) rfl
  have e2 : ev Φ (.bin .add (.cst (.int 1)) (.call 1 (.cons (.mu 0) (.cons (.cst (.int 2)) .nil)))) (.own false P1 :: R) = some (nd (1 + d2), .own false P2 :: R) := ev_plus_draw (a := 1) (m := 2) (e1 := []) rfl c2 (.cst (.int 2)) rfl
  have e4 := ev_call (Φ := Φ) (j := 3) (e := .own false P :: R) (evl_cons (d := .none) (a := .mu 0) (e1 := .own false P :: R) rfl (evl_cons e1 (evl_cons e2 (evl_cons (a := .cst (.int 4)) (d := .int 4) (e1 := .own false P2 :: R) rfl evl_nil)))) rfl rfl c4 rfl
  exact Eq.trans (asg_nm e4 rfl) rfl
theorem gains_right_ok (hP : Pot P) : ∃ P', T 44 [.own false P] = some (.bool true, [.own false P']) ∧ Pot P' := by
  obtain ⟨Φ, hΦ, hT⟩ := tab_run (ds := k93_ds) (j := 44) (d := k93_d__law_gains_right) rfl
  have hΦ : ∀ i, i < 44 → Φ i = T i := hΦ
  obtain ⟨us, G, P1, hP1, l1, l6, g1, g2, hu, t0⟩ := gr_us hΦ hP
  obtain ⟨ts, P2, c2, hP2, hl, ht⟩ := ltotals_ok (G := G) (most := 4) hP1 l1 l6 (by omega) (fun u h => ⟨(hu u h).len, fun n hn => by have := (hu u h).le n hn; omega⟩) (by decide) (by decide)
  obtain ⟨p, one, hs⟩ := ps_of l1 l6 g1 (by omega) (show 4 ≤ 99 by decide) hu hl (m := 4) (by decide) ht
  obtain ⟨i, P3, c3, i3, hP3⟩ := draw_ok hP2 (us.length : Int) (by omega) (by omega)
  have hi : i < us.length := by omega
  let m := if G = 1 then 8 else 4
  obtain ⟨d, P4, c4, d4, hP4⟩ := draw_ok hP3 ((m : Nat) : Int) (by show (1 : Int) ≤ ((if G = 1 then 8 else 4 : Nat) : Int); split <;> decide) (by show ((if G = 1 then 8 else 4 : Nat) : Int) ≤ 10000; split <;> decide)
  have hd : d < m := by omega
  have m8 : m ≤ 8 := by show (if G = 1 then 8 else 4) ≤ 8; split <;> decide
  have hN : (1 + d + 1) ^ ts.length ≤ 400 := by
    rw [hl]
    by_cases q : G = 1
    · subst q
      rw [Nat.pow_one]; omega
    · have e2 : G = 2 := by omega
      have e3 : m = 4 := if_neg q
      subst e2
      have : 1 + d + 1 ≤ 5 := by omega
      exact Nat.le_trans (Nat.pow_le_pow_left this 2) (by decide)
  refine ⟨P4, ?_, hP4⟩
  rw [← hΦ 1 (by decide)] at c3 c4
  rw [← hΦ 4 (by decide)] at c2
  have c5 := (law_pieces_ok p).on (hΦ 28 (by decide))
  have c6 := (law_rows_ok (size := ts.length) (most := 1 + d) (by omega) (by omega) (Nat.le_trans hN (by decide))).on (hΦ 39 (by decide))
  have c7 := (gaining_ok p one hs hi (most := 1 + d) (by omega) (by omega) hN).on (hΦ 43 (by decide))
  have ltl : b1D .len (tsD ts) = some (nd G) := by
    show some (PyData.int _) = _
    rw [List.length_map, hl]
    rfl
  have i2 : idxD (ixD (pcs us ts)) (nd i) = some (nd ((pcs us ts).getD i 0)) := idx_l nd (at_lt (by rw [pcs_len p hs]; exact hi) 0)
  have t1 : exs Φ (nthS 1 k93_b__law_gains_right) [.own false P1, .sh (usD us), .un, .un, .un, .un, .un, .un, .un] = some (.nx [.own false P3, .sh (usD us), .sh (tsD ts), .sh (nd i), .un, .un, .un, .un, .un]) :=
    exs_asp (evl_cons (ev_call (evl_cons (d := .none) rfl (evl_cons (d := usD us) rfl (evl_cons (d := .int 4) rfl evl_nil))) rfl rfl c2 rfl) (evl_cons (ev_call (evl_cons (d := .none) rfl (evl_cons (ev_b1v rfl (len_us us)) evl_nil)) rfl rfl c3 rfl) evl_nil)) rfl
  let e2 : Ev := [.own false P3, .sh (usD us), .sh (tsD ts), .sh (nd i), .un, .un, .un, .un, .un]
  have t2 : exs Φ (nthS 2 k93_b__law_gains_right) e2 = some (.nx [.own false P4, .sh (usD us), .sh (tsD ts), .sh (nd i), .sh (nd (1 + d)), .un, .un, .un, .un]) := by
    have te : ev Φ (.cmp .eq (.b1 .len (.var 2)) (.cst (.int 1))) e2 = some (.bool (decide (G = 1)), e2) := ev_cmp' (opd_nv (by intro i q; cases q) (ev_b1v rfl ltl)) (opd_nv (by intro i q; cases q) rfl) rfl rfl (cmp_nd G 1)
    have ex : ev Φ (.ite (.cmp .eq (.b1 .len (.var 2)) (.cst (.int 1))) (.cst (.int 8)) (.cst (.int 4))) e2 = some (nd m, e2) := by
      by_cases q : G = 1
      · rw [decide_eq_true q] at te
        have e3 : m = 8 := if_pos q
        rw [e3]
        exact ev_itet (by intro i q; cases q) te rfl
      · rw [decide_eq_false q] at te
        have e3 : m = 4 := if_neg q
        rw [e3]
        exact ev_itef (by intro i q; cases q) te rfl
    exact Eq.trans (asg_nm (ev_plus_draw (a := 1) (m := m) (e1 := []) rfl c4 _ ex) rfl) rfl
  have t3 : exs Φ (nthS 3 k93_b__law_gains_right) [.own false P4, .sh (usD us), .sh (tsD ts), .sh (nd i), .sh (nd (1 + d)), .un, .un, .un, .un] = some (.nx [.own false P4, .sh (usD us), .sh (tsD ts), .sh (nd i), .sh (nd (1 + d)), .sh (nd ((pcs us ts).getD i 0)), .sh .none, .un, .un]) := by
    have q : ev Φ (.idx (.call 28 (.cons (.var 1) (.cons (.var 2) .nil))) (.var 3)) [.own false P4, .sh (usD us), .sh (tsD ts), .sh (nd i), .sh (nd (1 + d)), .un, .un, .un, .un] = some (nd ((pcs us ts).getD i 0), [.own false P4, .sh (usD us), .sh (tsD ts), .sh (nd i), .sh (nd (1 + d)), .un, .un, .un, .un]) := by
      simp only [List.map_cons, List.map_nil] at c5
      simp [ev, op2, opd, res, rdv, argSl, musOf, nodupB, wbk, c5, i2, -List.getD_eq_getElem?_getD]
    exact exs_asp (evl_cons q (evl_cons (d := .none) rfl evl_nil)) rfl
  let pr : List Nat → Bool := fun r => decide (0 < r.sum) && decide ((pcs us ts).getD i 0 < truN us ts i r)
  let env : Option (List Nat) → Sl → Ev := fun g s => [.own false P4, .sh (usD us), .sh (tsD ts), .sh (nd i), .sh (nd (1 + d)), .sh (nd ((pcs us ts).getD i 0)), .sh (otD g), s, .un]
  obtain ⟨z, ⟨o1, o2⟩, lp⟩ := for_ex (g := .nm 7) (f := exs Φ (forS (nthS 4 k93_b__law_gains_right))) tpD (fun z : Option (List Nat) × Sl => env z.1 z.2)
    (fun k z => z.1 = ((rowsN (1 + d) ts.length).take k).find? pr ∧ jk z.2) (rowsN (1 + d) ts.length) 0 (none, .un) ⟨rfl, .inl rfl⟩ (fun k r z hx ⟨q1, q2⟩ => by
      have hr := List.mem_of_getElem? hx
      rw [Nat.zero_add] at *
      refine ⟨?_, env z.1 (.sh (tpD r)), (keep1 pr z.1 r, .sh (tpD r)), rfl, ?_, ?_, jk.sh _⟩
      · show (putOk _ 7 && true) = true
        rw [q2.put rfl]
        rfl
      · have n0 : ev Φ (.cmp .is (.var 6) (.cst .none)) (env z.1 (.sh (tpD r))) = some (.bool z.1.isNone, env z.1 (.sh (tpD r))) := ev_cmp' rfl (opd_nv (by intro i q; cases q) rfl) rfl rfl (is_otD z.1)
        cases hz : z.1 with
        | some y =>
          rw [hz] at n0
          exact exs_nx ((exs_iff (by intro i q; cases q) (evl_andf n0)).trans rfl) rfl
        | none =>
          rw [hz] at n0
          have n1 : ev Φ (.cmp .gt (.b1 .sum (.var 7)) (.cst (.int 0))) (env none (.sh (tpD r))) = some (.bool (decide (0 < r.sum)), env none (.sh (tpD r))) := ev_cmp' (opd_nv (by intro i q; cases q) (ev_b1v rfl (sum_ixt r))) (opd_nv (by intro i q; cases q) rfl) rfl rfl (gt_nd _)
          have take : exs Φ (.consB (.asg (.nm 6) (.var 7)) .nilB) (env none (.sh (tpD r))) = some (.nx (env (some r) (.sh (tpD r)))) := exs_nx (Eq.trans (asg_nm (d := tpD r) rfl rfl) rfl) rfl
          by_cases h0 : 0 < r.sum
          · rw [decide_eq_true h0] at n1
            have v := row_vu p hi (show 1 + d ≤ 99 by omega) hr h0
            have c := (ltruly_ok p hs hi v).on (hΦ 36 (by decide))
            have n2 : ev Φ (.cmp .gt (.call 36 (.cons (.var 1) (.cons (.var 2) (.cons (.var 3) (.cons (.var 7) .nil))))) (.var 5)) (env none (.sh (tpD r))) = some (.bool (decide ((pcs us ts).getD i 0 < truN us ts i r)), env none (.sh (tpD r))) := ev_cmp' (opd_nv (by intro i q; cases q) (ev_call (evl_cons (d := usD us) rfl (evl_cons (d := tsD ts) rfl (evl_cons (d := nd i) rfl (evl_cons (d := tpD r) rfl evl_nil)))) rfl rfl c rfl)) rfl rfl rfl (gt_nn _ _)
            have hpr : pr r = decide ((pcs us ts).getD i 0 < truN us ts i r) := by
              show (decide (0 < r.sum) && _) = _
              rw [decide_eq_true h0, Bool.true_and]
            have n3 := ev_andt n0 (ev_andt n1 n2)
            unfold keep1
            rw [← hpr] at n3
            cases hq : pr r with
            | true =>
              rw [hq] at n3
              exact exs_nx ((exs_ift (by intro i q; cases q) n3).trans take) rfl
            | false =>
              rw [hq] at n3
              exact exs_nx ((exs_iff (by intro i q; cases q) n3).trans rfl) rfl
          · rw [decide_eq_false h0] at n1
            have hpr : pr r = false := by
              show (decide (0 < r.sum) && _) = _
              rw [decide_eq_false h0, Bool.false_and]
            unfold keep1
            rw [hpr]
            exact exs_nx ((exs_iff (by intro i q; cases q) (ev_andt n0 (evl_andf n1))).trans rfl) rfl
      · have ft := find_take pr hx
        rw [← q1] at ft
        exact ft.symm)
  rw [Nat.zero_add, List.take_length] at o1
  have eg : z.1 = gainN us ts i (1 + d) := o1
  have t4 : exs Φ (nthS 4 k93_b__law_gains_right) (env none .un) = some (.nx (env z.1 z.2)) := by
    have w : ev Φ (.call 39 (.cons (.b1 .len (.var 2)) (.cons (.var 4) .nil))) (env none .un) = some (rsD (rowsN (1 + d) ts.length), env none .un) := by
      rw [hl] at c6
      rw [hl]
      exact ev_call (evl_cons (ev_b1v rfl ltl) (evl_cons (d := nd (1 + d)) rfl evl_nil)) rfl rfl c6 rfl
    exact (exs_for (k := .walk) (b := .noe) w rfl rfl).trans lp
  have t5 : exs Φ (nthS 5 k93_b__law_gains_right) (env z.1 z.2) = some (.nx ((env z.1 z.2).set 8 (.sh (.list [otD z.1, otD z.1])))) := by
    rw [← eg] at c7
    exact Eq.trans (asg_nm (ev_lst (evl_cons (ev_call (evl_cons (d := usD us) rfl (evl_cons (d := tsD ts) rfl (evl_cons (d := nd i) rfl (evl_cons (d := nd (1 + d)) rfl evl_nil)))) rfl rfl c7 rfl) (evl_cons (ev_calk (ds := []) (es := [nd (1 + d), nd i, tsD ts, usD us]) rfl (evl_cons rfl (evl_cons rfl (evl_cons rfl (evl_cons rfl evl_nil)))) rfl c7) evl_nil)) z2) rfl) rfl
  have R : b1D .repr (.list [otD z.1, otD z.1]) = some (.str (PyData.list [otD z.1, otD z.1]).shown) := rep_ots fun r hr => by
    rw [eg] at hr
    have hm := List.mem_of_find?_eq_some hr
    obtain ⟨h1, h2⟩ := mem_rows.mp hm
    exact ⟨by omega, fun n hn => by have := h2 n hn; omega⟩
  refine gv3 hT rfl (e := (env z.1 z.2).set 8 (.sh (.list [otD z.1, otD z.1]))) ?_ rfl
  refine exs_nx t0 (exs_nx t1 (exs_nx t2 (exs_nx t3 (exs_nx t4 (exs_nx t5 (exs_ret ?_))))))
  exact ev_eq_rep (by intro i q; cases q) (by intro i q; cases q) (ev_b1v (i := 8) rfl R) (ev_b1 (by intro i q; cases q) (ev_lst (evl_cons (d := otD z.1) rfl (evl_cons (d := otD z.1) rfl evl_nil)) z2) R)
end
end Iv
end
section
set_option Elab.async false
set_option linter.all false
set_option maxRecDepth 100000
set_option exponentiation.threshold 3000
set_option maxHeartbeats 4000000
namespace Iv
open PySem PySem.Spec L2
theorem gt_pr2 (a b : Nat × Nat) : cmpD .gt (pr2 a) (pr2 b) = some (gtP a b) := by
  show (if PySem.W.alike (pr2 a) (pr2 b) && decide ((pr2 a).depth ≤ 60) then some (PySem.W.dataLt (pr2 b) (pr2 a)) else none) = _
  have h1 : PySem.W.alike (pr2 a) (pr2 b) = true := by simp [pr2, nd, PySem.W.alike, PySem.W.alikeAll]
  have h2 : (pr2 a).depth ≤ 60 := by simp [pr2, nd, PyData.depth, PyData.depthAll]
  rw [h1, decide_eq_true h2]
  show some (PySem.W.dataLt (.tuple [.int b.1, .int b.2]) (.tuple [.int a.1, .int a.2])) = _
  rw [PySem.W.dataLt_ii]
  unfold gtP
  congr 1
  exact decide_eq_decide.mpr (by omega)
def wD (ws : List (List Nat)) : D := .tuple (ws.map tpD)
structure Wk (ws : List (List Nat)) (n : Nat) : Prop where
  l0 : 1 ≤ ws.length
  l3 : ws.length ≤ 3
  n1 : 1 ≤ n
  n4 : n ≤ 4
  rl : ∀ r ∈ ws, r.length = n
  le : ∀ r ∈ ws, ∀ x ∈ r, x ≤ 9
theorem Wk.wo {ws : List (List Nat)} {n : Nat} (w : Wk ws n) : Wo ws n := ⟨w.l0, w.rl⟩
theorem len_wD (ws : List (List Nat)) : b1D .len (wD ws) = some (nd ws.length) := by
  show some (PyData.int _) = _
  rw [List.length_map]
  rfl
theorem len_tpD (r : List Nat) : b1D .len (tpD r) = some (nd r.length) := by
  show some (PyData.int _) = _
  rw [List.length_map]
  rfl
theorem eq_nd (a b : Nat) : cmpD .eq (nd a) (nd b) = some (decide (a = b)) := cmp_nd a b
section
variable {ws : List (List Nat)} {n : Nat} {os : List Nat} {Φ : Fn}
theorem Wk.at (w : Wk ws n) {u : Nat} (hu : u < ws.length) : (ws.getD u []).length = n ∧ ∀ x ∈ ws.getD u [], x ≤ 9 := ⟨w.rl _ (getD_mem hu), w.le _ (getD_mem hu)⟩
theorem row_at {u : Nat} (hu : u < ws.length) : idxD (wD ws) (nd u) = some (tpD (ws.getD u [])) := idx_t tpD (at_lt hu [])
theorem worth_of_ok {row : List Nat} (hl : row.length ≤ 20) (u : Nat) : Gv 52 [tpD row, tpD os, nd u] (nd (hasN row os u)) := by
  refine gv (d := k93_d_worth_of) rfl rfl fun Φ hΦ => ⟨[.sh (tpD row), .sh (tpD os), .sh (nd u), .un, .un], ?_, by simp⟩
  have e1 : ev Φ (.lc [("worth", 3), ("owner", 4)] (.tp [3, 4]) .zip (.var 0) (.var 1) (.cmp .eq (.var 4) (.var 2)) (.var 3)) [.sh (tpD row), .sh (tpD os), .sh (nd u), .un, .un] = some (ixD (ownW row os u), [.sh (tpD row), .sh (tpD os), .sh (nd u), .un, .un]) := by
    refine (ev_lcP pr2 (fun p => decide (p.2 = u)) (fun p => nd p.1) (row.zip os) rfl rfl (walk_zip row os) (fun p hp => ?_) (sz (by rw [List.length_zip]; omega))).trans ?_
    · exact ⟨[.sh (tpD row), .sh (tpD os), .sh (nd u), .sh (nd p.1), .sh (nd p.2)], rfl, lcT_bool (by intro i q; cases q) (by intro q; cases q) (ev_cmp' rfl rfl rfl rfl (eq_nd _ _)), fun _ => rfl, rfl⟩
    · unfold ixD ownW
      rw [List.map_map]
      rfl
  exact exs_ret (ev_b1 (b := .sum) (by intro i q; cases q) e1 (sum_ix _))
theorem law_has_ok (w : Wk ws n) {u : Nat} (hu : u < ws.length) : Gv 45 [wD ws, tpD os, nd u] (nd (hasN (ws.getD u []) os u)) := by
  refine gv (d := k93_d__law_has) rfl rfl fun Φ hΦ => ⟨[.sh (wD ws), .sh (tpD os), .sh (nd u), .un, .un], ?_, by simp⟩
  have i0 : ev Φ (.idx (.var 0) (.var 2)) [.sh (wD ws), .sh (tpD os), .sh (nd u), .un, .un] = some (tpD (ws.getD u []), [.sh (wD ws), .sh (tpD os), .sh (nd u), .un, .un]) := ev_idxv rfl rfl (row_at hu)
  have e1 : ev Φ (.lc [("worth", 3), ("owner", 4)] (.tp [3, 4]) .zip (.idx (.var 0) (.var 2)) (.var 1) (.cmp .eq (.var 4) (.var 2)) (.var 3)) [.sh (wD ws), .sh (tpD os), .sh (nd u), .un, .un] = some (ixD (ownW (ws.getD u []) os u), [.sh (wD ws), .sh (tpD os), .sh (nd u), .un, .un]) := by
    refine (ev_lcP pr2 (fun p => decide (p.2 = u)) (fun p => nd p.1) ((ws.getD u []).zip os) i0 rfl (walk_zip _ os) (fun p hp => ?_) (sz (by have := (w.at hu).1; have := w.n4; rw [List.length_zip]; omega))).trans ?_
    · exact ⟨[.sh (wD ws), .sh (tpD os), .sh (nd u), .sh (nd p.1), .sh (nd p.2)], rfl, lcT_bool (by intro i q; cases q) (by intro q; cases q) (ev_cmp' rfl rfl rfl rfl (eq_nd _ _)), fun _ => rfl, rfl⟩
    · unfold ixD ownW
      rw [List.map_map]
      rfl
  exact exs_ret (ev_b1 (b := .sum) (by intro i q; cases q) e1 (sum_ix _))
/-- what each has, as a list made by the law -/
theorem ev_haves {j : Nat} {e : Ev} {x y o : Nat} (f : Str) (w : Wk ws n) (hj : Φ j = T 45 ) (hcall : ∀ u, u < ws.length → Φ j [.sh (wD ws), .sh (tpD os), .sh (nd u)] = some (nd (hasN (ws.getD u []) os u), [.sh (wD ws), .sh (tpD os), .sh (nd u)])) (h0 : e[0]? = some (.sh (wD ws))) (h1 : e[o]? = some (.sh (tpD os))) (ho : o ≠ x) (hx : x < e.length) (hx0 : x ≠ 0) :
    ev Φ (.lc [(f, x)] (.nm x) .rng (.b1 .len (.var 0)) .noe .noe (.call j (.cons (.var 0) (.cons (.var o) (.cons (.var x) .nil))))) e = some (ixD (haves ws os), e) := by
  refine (ev_lcP nd (fun _ => true) (fun u => nd (hasN (ws.getD u []) os u)) (List.range ws.length) (ev_b1v h0 (len_wD ws)) rfl (walk_rng' (by have := w.l3; omega)) (fun u hu => ?_) (sz (by have := w.l3; rw [List.length_range]; omega))).trans ?_
  · have lu := List.mem_range.mp hu
    have lw : (wipeE e ([(f, x)].map (·.2))).length = e.length := wipeE_length _ _
    refine ⟨(wipeE e ([(f, x)].map (·.2))).set x (.sh (nd u)), rfl, rfl, fun _ => ?_, ?_⟩
    · have g0 : ((wipeE e ([(f, x)].map (·.2))).set x (.sh (nd u)))[0]? = some (.sh (wD ws)) := by
        rw [List.getElem?_set_ne hx0]
        show (e.set x .un)[0]? = _
        rw [List.getElem?_set_ne hx0, h0]
      have g1 : ((wipeE e ([(f, x)].map (·.2))).set x (.sh (nd u)))[o]? = some (.sh (tpD os)) := by
        rw [List.getElem?_set_ne ho.symm]
        show (e.set x .un)[o]? = _
        rw [List.getElem?_set_ne ho.symm, h1]
      have g2 : ((wipeE e ([(f, x)].map (·.2))).set x (.sh (nd u)))[x]? = some (.sh (nd u)) := by
        rw [List.getElem?_set_self (by rw [lw]; exact hx)]
      have v0 : ∀ {E : Ev} {k : Nat} {d : D}, E[k]? = some (.sh d) → ev Φ (.var k) E = some (d, E) := fun {E k d} h => by
        simp only [ev, rdv, h]
      exact ev_call (evl_cons (v0 g0) (evl_cons (v0 g1) (evl_cons (v0 g2) evl_nil))) rfl rfl (hcall u lu) rfl
    · rw [wipe_set (by simp), wipe_idem]
  · rw [all_true]
    unfold ixD haves
    rw [List.map_map]
    rfl
theorem zipIdx_haves : ws.zipIdx.map (fun p => hasN p.1 os p.2) = haves ws os := by
  refine List.ext_getElem? fun u => ?_
  unfold haves
  rw [List.getElem?_map, List.getElem?_map, List.getElem?_zipIdx]
  by_cases h : u < ws.length
  · rw [List.getElem?_range h, at_lt h []]
    simp
  · rw [List.getElem?_eq_none (by omega), List.getElem?_eq_none (by rw [List.length_range]; omega)]
    rfl
theorem all_have_ok (w : Wk ws n) : Gv 54 [wD ws, tpD os] (ixD (haves ws os)) := by
  refine gv (d := k93_d_all_have) rfl rfl fun Φ hΦ => ⟨[.sh (wD ws), .sh (tpD os), .un, .un], ?_, by simp⟩
  have e1 : ev Φ (.lc [("user", 2), ("row", 3)] (.tp [2, 3]) .enm (.var 0) .noe .noe (.call 52 (.cons (.var 3) (.cons (.var 1) (.cons (.var 2) .nil))))) [.sh (wD ws), .sh (tpD os), .un, .un] = some (ixD (haves ws os), [.sh (wD ws), .sh (tpD os), .un, .un]) := by
    refine (ev_lcP (at2 tpD) (fun _ => true) (fun p => nd (hasN p.1 os p.2)) ws.zipIdx rfl rfl (walk_enm_t tpD ws) (fun p hp => ?_) (sz (by have := w.l3; rw [List.length_zipIdx]; omega))).trans ?_
    · obtain ⟨i, hi⟩ := List.mem_iff_getElem?.mp hp
      rw [List.getElem?_zipIdx] at hi
      obtain ⟨r, hr, e⟩ := Option.map_eq_some_iff.mp hi
      have hm := List.mem_of_getElem? hr
      have er : p.1 = r := by rw [← e]
      have c := (worth_of_ok (os := os) (row := p.1) (by rw [er, w.rl r hm]; have := w.n4; omega) p.2).on (hΦ 52 (by decide))
      exact ⟨[.sh (wD ws), .sh (tpD os), .sh (nd p.2), .sh (tpD p.1)], rfl, rfl, fun _ => ev_call (evl_cons (d := tpD p.1) rfl (evl_cons (d := tpD os) rfl (evl_cons (d := nd p.2) rfl evl_nil))) rfl rfl c rfl, rfl⟩
    · rw [all_true, ← zipIdx_haves]
      unfold ixD
      rw [List.map_map]
      rfl
  exact exs_ret e1
theorem hasN_le {row : List Nat} {M u : Nat} (h : ∀ x ∈ row, x ≤ M) : hasN row os u ≤ row.length * M := by
  unfold hasN
  refine Nat.le_trans (sum_bd (M := M) fun x hx => ?_) (Nat.mul_le_mul_right _ ?_)
  · unfold ownW at hx
    obtain ⟨p, hp, rfl⟩ := List.mem_map.mp hx
    exact h _ (List.of_mem_zip (List.mem_filter.mp hp).1).1
  · unfold ownW
    rw [List.length_map]
    exact Nat.le_trans (List.length_filter_le _ _) (by rw [List.length_zip]; omega)
theorem haves_le (w : Wk ws n) : ∀ h ∈ haves ws os, h ≤ 36 := fun h hh => by
  unfold haves at hh
  obtain ⟨u, hu, rfl⟩ := List.mem_map.mp hh
  have lu := List.mem_range.mp hu
  have hb := hasN_le (os := os) (u := u) (w.at lu).2
  have k := (w.at lu).1
  have h4 := w.n4
  rw [k] at hb
  omega
theorem prd_take {hs : List Nat} {k h : Nat} (hx : hs[k]? = some h) : prd (hs.take (k + 1)) = prd (hs.take k) * m1 h := by
  unfold prd
  rw [List.take_add_one, hx, List.foldl_append]
  rfl
theorem cnt_take {hs : List Nat} {k h : Nat} (hx : hs[k]? = some h) : cnt (hs.take (k + 1)) = cnt (hs.take k) + (if 0 < h then 1 else 0) := by
  unfold cnt
  rw [List.take_add_one, hx, List.filter_append, List.length_append]
  by_cases q : 0 < h <;> simp [q]
theorem prd_bd {hs : List Nat} (h : ∀ x ∈ hs, x ≤ 36) : prd hs ≤ 36 ^ hs.length := by
  induction hs with
  | nil => exact Nat.le_refl _
  | cons a hs ih =>
    rw [prd_cons, List.length_cons, Nat.pow_succ, Nat.mul_comm]
    have := h a List.mem_cons_self
    exact Nat.mul_le_mul (ih fun x hx => h x (List.mem_cons_of_mem _ hx)) (by unfold m1; omega)
theorem prd_small (w : Wk ws n) (k : Nat) : prd ((haves ws os).take k) < 2 ^ 20 := by
  have h1 := prd_bd (hs := (haves ws os).take k) fun x hx => haves_le w x (List.mem_of_mem_take hx)
  have h2 : ((haves ws os).take k).length ≤ 3 := by
    rw [List.length_take, haves_len]
    have := w.l3
    omega
  exact Nat.lt_of_le_of_lt (Nat.le_trans h1 (Nat.pow_le_pow_right (by decide) h2)) (by decide)
theorem goodness_ok (w : Wk ws n) : Gv 55 [wD ws, tpD os] (pr2 (gd (haves ws os))) := by
  refine gv (d := k93_d_goodness) rfl rfl fun Φ hΦ => ?_
  obtain ⟨z, ⟨o1, o2, o3⟩, lp⟩ := for_ex (g := .nm 4) (f := exs Φ (forS (nthS 1 k93_b_goodness))) nd (fun z : Nat × Nat × Sl => [.sh (wD ws), .sh (tpD os), .sh (nd z.1), .sh (nd z.2.1), z.2.2])
    (fun k z => z.1 = cnt ((haves ws os).take k) ∧ z.2.1 = prd ((haves ws os).take k) ∧ jk z.2.2) (haves ws os) 0 (0, 1, .un) ⟨rfl, rfl, .inl rfl⟩ (fun i h z hx ⟨q1, q2, q3⟩ => by
      rw [Nat.zero_add] at *
      have l36 := haves_le (os := os) w h (List.mem_of_getElem? hx)
      have lz : z.2.1 < 2 ^ 20 := by rw [q2]; exact prd_small w i
      let e : Ev := [.sh (wD ws), .sh (tpD os), .sh (nd z.1), .sh (nd z.2.1), .sh (nd h)]
      have te : ev Φ (.cmp .gt (.var 4) (.cst (.int 0))) e = some (.bool (decide (0 < h)), e) := ev_cmp' rfl (opd_nv (by intro i q; cases q) rfl) rfl rfl (gt_nd h)
      refine ⟨?_, e, (cnt ((haves ws os).take (i + 1)), prd ((haves ws os).take (i + 1)), .sh (nd h)), rfl, ?_, rfl, rfl, jk.sh _⟩
      · show (putOk _ 4 && true) = true
        rw [q3.put rfl]
        rfl
      · rw [cnt_take hx, prd_take hx, ← q1, ← q2]
        by_cases q : 0 < h
        · rw [decide_eq_true q] at te
          rw [if_pos q]
          have e1 : m1 h = h := by unfold m1; omega
          rw [e1]
          have b1 : binD .add (nd z.1) (.int 1) = some (nd (z.1 + 1)) := add_nd _ 1
          have b2 := mul_ndb z.2.1 h (up_pow lz (by decide)) (Nat.lt_of_le_of_lt l36 (by decide))
          have f1 : ev Φ (.bin .add (.var 2) (.cst (.int 1))) e = some (nd (z.1 + 1), e) := by simp [e, ev, op2, opd, res, b1]
          have f2 : ev Φ (.bin .mul (.var 3) (.var 4)) e = some (nd (z.2.1 * h), e) := by simp [e, ev, op2, opd, res, b2]
          exact exs_nx ((exs_ift (by intro i q; cases q) te).trans (exs_nx (exs_asp (evl_cons f1 (evl_cons f2 evl_nil)) rfl) rfl)) rfl
        · rw [decide_eq_false q] at te
          rw [if_neg q]
          have e1 : m1 h = 1 := by unfold m1; omega
          rw [e1, Nat.mul_one, Nat.add_zero]
          exact exs_nx ((exs_iff (by intro i q; cases q) te).trans rfl) rfl)
  rw [Nat.zero_add, List.take_length] at o1 o2
  have c := (all_have_ok (os := os) w).on (hΦ 54 (by decide))
  have t0 : exs Φ (nthS 0 k93_b_goodness) [.sh (wD ws), .sh (tpD os), .un, .un, .un] = some (.nx [.sh (wD ws), .sh (tpD os), .sh (nd 0), .sh (nd 1), .un]) := exs_asp (evl_cons (d := nd 0) rfl (evl_cons (d := nd 1) rfl evl_nil)) rfl
  have f : ev Φ (.call 54 (.cons (.var 0) (.cons (.var 1) .nil))) [.sh (wD ws), .sh (tpD os), .sh (nd 0), .sh (nd 1), .un] = some (ixD (haves ws os), [.sh (wD ws), .sh (tpD os), .sh (nd 0), .sh (nd 1), .un]) := ev_call (evl_cons (d := wD ws) rfl (evl_cons (d := tpD os) rfl evl_nil)) rfl rfl c rfl
  refine ⟨[.sh (wD ws), .sh (tpD os), .sh (nd z.1), .sh (nd z.2.1), z.2.2], exs_nx t0 (exs_nx ((exs_for (k := .walk) (b := .noe) f rfl rfl).trans lp) (exs_ret ?_)), by simp⟩
  have : pr2 (gd (haves ws os)) = .tuple [nd z.1, nd z.2.1] := by rw [o1, o2]; rfl
  rw [this]
  exact ev_tup (evl_cons (d := nd z.1) rfl (evl_cons (d := nd z.2.1) rfl evl_nil)) z2
theorem law_worth_ok (w : Wk ws n) : Gv 46 [wD ws, tpD os] (pr2 (gd (haves ws os))) := by
  refine gv (d := k93_d__law_worth) rfl rfl fun Φ hΦ => ?_
  have f := ev_haves (Φ := Φ) (j := 45) (os := os) (e := [.sh (wD ws), .sh (tpD os), .un, .un, .un, .un]) (x := 5) (y := 0) (o := 1) "user" w (hΦ 45 (by decide)) (fun u hu => (law_has_ok w hu).on (hΦ 45 (by decide))) rfl rfl (by decide) (by simp) (by decide)
  obtain ⟨z, ⟨o2, o3⟩, lp⟩ := for_ex (g := .nm 4) (f := exs Φ (forS (nthS 1 k93_b__law_worth))) nd (fun z : Nat × Sl => [.sh (wD ws), .sh (tpD os), .sh (ixD (haves ws os)), .sh (nd z.1), z.2, .un])
    (fun k z => z.1 = prd ((haves ws os).take k) ∧ jk z.2) (haves ws os) 0 (1, .un) ⟨rfl, .inl rfl⟩ (fun i h z hx ⟨q2, q3⟩ => by
      rw [Nat.zero_add] at *
      have l36 := haves_le (os := os) w h (List.mem_of_getElem? hx)
      have lz : z.1 < 2 ^ 20 := by rw [q2]; exact prd_small w i
      refine ⟨?_, [.sh (wD ws), .sh (tpD os), .sh (ixD (haves ws os)), .sh (nd z.1), .sh (nd h), .un], (z.1 * m1 h, .sh (nd h)), rfl, ?_, ?_, jk.sh _⟩
      · show (putOk _ 4 && true) = true
        rw [q3.put rfl]
        rfl
      · have b1 : b2D .max (.int 1) (nd h) = some (nd (m1 h)) := max_nd 1 h
        have b2 := mul_ndb z.1 (m1 h) (up_pow lz (by decide)) (Nat.lt_of_le_of_lt (show m1 h ≤ 36 by unfold m1; omega) (by decide))
        refine exs_nx (Eq.trans (asg_nm (d := nd (z.1 * m1 h)) (e1 := [.sh (wD ws), .sh (tpD os), .sh (ixD (haves ws os)), .sh (nd z.1), .sh (nd h), .un]) ?_ rfl) rfl) rfl
        simp [ev, op2, opd, res, b1, b2]
      · show z.1 * m1 h = _
        rw [prd_take hx, q2])
  rw [Nat.zero_add, List.take_length] at o2
  have t0 : exs Φ (nthS 0 k93_b__law_worth) [.sh (wD ws), .sh (tpD os), .un, .un, .un, .un] = some (.nx [.sh (wD ws), .sh (tpD os), .sh (ixD (haves ws os)), .sh (nd 1), .un, .un]) := exs_asp (evl_cons f (evl_cons (d := nd 1) rfl evl_nil)) rfl
  let e : Ev := [.sh (wD ws), .sh (tpD os), .sh (ixD (haves ws os)), .sh (nd z.1), z.2, .un]
  have jz := o3
  refine ⟨e, exs_nx t0 (exs_nx ((exs_for (x := ixD (haves ws os)) (k := .walk) (b := .noe) rfl rfl rfl).trans lp) (exs_ret ?_)), by simp [e]⟩
  have g : ev Φ (.lc [("much", 4)] (.nm 4) .walk (.var 2) .noe (.cmp .gt (.var 4) (.cst (.int 0))) (.var 4)) e = some (.list (((haves ws os).filter fun h => decide (0 < h)).map nd), e) := by
    refine ev_lcP nd (fun h => decide (0 < h)) nd (haves ws os) rfl rfl rfl (fun h hh => ?_) (sz (by have := w.l3; rw [haves_len]; omega))
    exact ⟨[.sh (wD ws), .sh (tpD os), .sh (ixD (haves ws os)), .sh (nd z.1), .sh (nd h), .un], rfl, lcT_bool (by intro i q; cases q) (by intro q; cases q) (ev_cmp' rfl (opd_nv (by intro i q; cases q) rfl) rfl rfl (gt_nd h)), fun _ => rfl, rfl⟩
  have l : b1D .len (.list (((haves ws os).filter fun h => decide (0 < h)).map nd)) = some (nd (cnt (haves ws os))) := by
    show some (PyData.int _) = _
    rw [List.length_map]
    rfl
  have : pr2 (gd (haves ws os)) = .tuple [nd (cnt (haves ws os)), nd z.1] := by rw [o2]; rfl
  rw [this]
  exact ev_tup (evl_cons (ev_b1 (by intro i q; cases q) g l) (evl_cons (d := nd z.1) rfl evl_nil)) z2
end
end Iv
end
section
set_option Elab.async false
set_option linter.all false
set_option maxRecDepth 100000
set_option exponentiation.threshold 3000
set_option maxHeartbeats 4000000
namespace Iv
open PySem PySem.Spec L2
def gdH (ws : List (List Nat)) (o : List Nat) : Nat × Nat := gd (haves ws o)
def bD (ws : List (List Nat)) : Option (List Nat) → D
  | none => .none
  | some y => pr2 (gdH ws y)
def bB (J : Nat) : Sm := .consB (.asg (.nm 4) (.call J (.cons (.var 0) (.cons (.var 3) .nil)))) (.consB (.ifs (.or (.cmp .is (.var 1) (.cst .none)) (.cmp .gt (.var 4) (.var 1))) (.consB (.asp [1, 2] [false, false] (.cons (.var 4) (.cons (.var 3) .nil))) .nilB) .nilB) .nilB)
section
variable {ws : List (List Nat)} {n : Nat} {os : List Nat} {Φ : Fn}
theorem row0 (w : Wk ws n) : idxD (wD ws) (.int 0) = some (tpD (ws.getD 0 [])) ∧ (ws.getD 0 []).length = n := ⟨row_at (u := 0) w.l0, (w.at w.l0).1⟩
theorem rows_bd (w : Wk ws n) : (ws.length - 1 + 1) ^ n ≤ 100 := by
  have h1 : (ws.length - 1 + 1) ^ n ≤ 3 ^ n := Nat.pow_le_pow_left (by have := w.l3; have := w.l0; omega) n
  have h2 : 3 ^ n ≤ 3 ^ 4 := Nat.pow_le_pow_right (by decide) w.n4
  have : (3 : Nat) ^ 4 = 81 := by decide
  omega
theorem bB_turn {J : Nat} (hJ : ∀ o, Φ J [.sh (wD ws), .sh (tpD o)] = some (pr2 (gdH ws o), [.sh (wD ws), .sh (tpD o)])) (b : Option (List Nat)) (x : List Nat) (s4 : Sl) (j4 : jk s4) :
    exs Φ (bB J) [.sh (wD ws), .sh (bD ws b), .sh (otD b), .sh (tpD x), s4] = some (.nx [.sh (wD ws), .sh (bD ws (bestG (gdH ws) b x)), .sh (otD (bestG (gdH ws) b x)), .sh (tpD x), .sh (pr2 (gdH ws x))]) := by
  have t1 : ∀ b, exs Φ (.asg (.nm 4) (.call J (.cons (.var 0) (.cons (.var 3) .nil)))) [.sh (wD ws), .sh (bD ws b), .sh (otD b), .sh (tpD x), s4] = some (.nx [.sh (wD ws), .sh (bD ws b), .sh (otD b), .sh (tpD x), .sh (pr2 (gdH ws x))]) := fun b => Eq.trans (asg_nm (ev_call (evl_cons (d := wD ws) rfl (evl_cons (d := tpD x) rfl evl_nil)) rfl rfl (hJ x) rfl) (j4.put rfl)) rfl
  have take : ∀ b, exs Φ (.consB (.asp [1, 2] [false, false] (.cons (.var 4) (.cons (.var 3) .nil))) .nilB) [.sh (wD ws), .sh (bD ws b), .sh (otD b), .sh (tpD x), .sh (pr2 (gdH ws x))] = some (.nx [.sh (wD ws), .sh (bD ws (some x)), .sh (otD (some x)), .sh (tpD x), .sh (pr2 (gdH ws x))]) := fun b => exs_nx (exs_asp (evl_cons (d := pr2 (gdH ws x)) rfl (evl_cons (d := tpD x) rfl evl_nil)) rfl) rfl
  refine exs_nx (t1 b) ?_
  cases b with
  | none =>
    have ti : ev Φ (.or (.cmp .is (.var 1) (.cst .none)) (.cmp .gt (.var 4) (.var 1))) [.sh (wD ws), .sh (bD ws none), .sh (otD none), .sh (tpD x), .sh (pr2 (gdH ws x))] = some (.bool true, [.sh (wD ws), .sh (bD ws none), .sh (otD none), .sh (tpD x), .sh (pr2 (gdH ws x))]) := evl_ort (ev_cmp' rfl (opd_nv (by intro i q; cases q) rfl) rfl rfl rfl)
    exact exs_nx ((exs_ift (by intro i q; cases q) ti).trans (take none)) rfl
  | some y =>
    have ti : ev Φ (.or (.cmp .is (.var 1) (.cst .none)) (.cmp .gt (.var 4) (.var 1))) [.sh (wD ws), .sh (bD ws (some y)), .sh (otD (some y)), .sh (tpD x), .sh (pr2 (gdH ws x))] = some (.bool (gtP (gdH ws x) (gdH ws y)), [.sh (wD ws), .sh (bD ws (some y)), .sh (otD (some y)), .sh (tpD x), .sh (pr2 (gdH ws x))]) := evl_or (ev_cmp' rfl (opd_nv (by intro i q; cases q) rfl) rfl rfl rfl) (ev_cmp' rfl rfl rfl rfl (gt_pr2 _ _))
    show _ = some (Out.nx [.sh (wD ws), .sh (bD ws (if gtP (gdH ws x) (gdH ws y) then some x else some y)), .sh (otD (if gtP (gdH ws x) (gdH ws y) then some x else some y)), .sh (tpD x), .sh (pr2 (gdH ws x))])
    cases q : gtP (gdH ws x) (gdH ws y) with
    | true =>
      rw [q] at ti
      exact exs_nx ((exs_ift (by intro i q; cases q) ti).trans (take (some y))) rfl
    | false =>
      rw [q] at ti
      exact exs_nx ((exs_iff (by intro i q; cases q) ti).trans rfl) rfl
theorem bB_loop {J : Nat} (hJ : ∀ o, Φ J [.sh (wD ws), .sh (tpD o)] = some (pr2 (gdH ws o), [.sh (wD ws), .sh (tpD o)])) (rows : List (List Nat)) :
    ∃ s3 s4, forGo (.nm 3) (exs Φ (bB J)) (rows.map tpD) [.sh (wD ws), .sh .none, .sh .none, .un, .un] = some (.nx [.sh (wD ws), .sh (bD ws (bestF (gdH ws) rows)), .sh (otD (bestF (gdH ws) rows)), s3, s4]) := by
  obtain ⟨z, ⟨o1, o2, o3⟩, lp⟩ := for_ex (g := .nm 3) (f := exs Φ (bB J)) tpD (fun z : Option (List Nat) × Sl × Sl => [.sh (wD ws), .sh (bD ws z.1), .sh (otD z.1), z.2.1, z.2.2])
    (fun k z => z.1 = (rows.take k).foldl (bestG (gdH ws)) none ∧ jk z.2.1 ∧ jk z.2.2) rows 0 (none, .un, .un) ⟨rfl, .inl rfl, .inl rfl⟩ (fun i x z hx ⟨q1, q2, q3⟩ => by
      rw [Nat.zero_add] at *
      have t2 := bB_turn (Φ := Φ) hJ z.1 x z.2.2 q3
      refine ⟨?_, [.sh (wD ws), .sh (bD ws z.1), .sh (otD z.1), .sh (tpD x), z.2.2], (bestG (gdH ws) z.1 x, .sh (tpD x), .sh (pr2 (gdH ws x))), rfl, t2, ?_, jk.sh _, jk.sh _⟩
      · show (putOk _ 3 && true) = true
        rw [q2.put rfl]
        rfl
      · show bestG _ _ _ = _
        rw [List.take_add_one, hx, List.foldl_append, ← q1]
        rfl)
  rw [Nat.zero_add, List.take_length] at o1
  refine ⟨z.2.1, z.2.2, ?_⟩
  have : bestF (gdH ws) rows = z.1 := o1.symm
  rw [this]
  exact lp
theorem all_owners_ok (w : Wk ws n) : Gv 53 [wD ws] (rsD (rowsN (ws.length - 1) n)) := by
  refine gv (d := k93_d_all_owners) rfl rfl fun Φ hΦ => ⟨[.sh (wD ws)], ?_, by simp⟩
  obtain ⟨r1, r2⟩ := row0 w
  have l0 := w.l0
  have l3 := w.l3
  have c := (tuples_ok (size := n) (most := ws.length - 1) (by omega) (by have := w.n4; omega) (Nat.le_trans (rows_bd w) (by decide))).on (hΦ 42 (by decide))
  have b1 : binD .sub (nd ws.length) (.int 1) = some (nd (ws.length - 1)) := sub_nd (b := 1) l0
  have e1 : ev Φ (.bin .sub (.b1 .len (.var 0)) (.cst (.int 1))) [.sh (wD ws)] = some (nd (ws.length - 1), [.sh (wD ws)]) := by
    have := len_wD ws
    simp [ev, op1, op2, opd, res, this, b1]
  have e2 : ev Φ (.b1 .len (.idx (.var 0) (.cst (.int 0)))) [.sh (wD ws)] = some (nd n, [.sh (wD ws)]) := by
    have := len_tpD (ws.getD 0 [])
    rw [r2] at this
    refine ev_b1 (by intro i q; cases q) (x := tpD (ws.getD 0 [])) ?_ this
    simp [ev, op2, opd, res, r1, -List.getD_eq_getElem?_getD]
  exact exs_ret (ev_call (evl_cons e1 (evl_cons e2 evl_nil)) rfl rfl c rfl)
theorem best_of_ok (w : Wk ws n) : Gv 56 [wD ws] (otD (bestN ws n)) := by
  refine gv (d := k93_d_best_of) rfl rfl fun Φ hΦ => ?_
  obtain ⟨s3, s4, lp⟩ := bB_loop (Φ := Φ) (ws := ws) (J := 55) (fun o => (goodness_ok (os := o) w).on (hΦ 55 (by decide))) (rowsN (ws.length - 1) n)
  have c := (all_owners_ok w).on (hΦ 53 (by decide))
  have f : ev Φ (.call 53 (.cons (.var 0) .nil)) [.sh (wD ws), .sh .none, .sh .none, .un, .un] = some (rsD (rowsN (ws.length - 1) n), [.sh (wD ws), .sh .none, .sh .none, .un, .un]) := ev_call (evl_cons (d := wD ws) rfl evl_nil) rfl rfl c rfl
  refine ⟨[.sh (wD ws), .sh (bD ws (bestN ws n)), .sh (otD (bestN ws n)), s3, s4], exs_nx (e1 := [.sh (wD ws), .sh .none, .sh .none, .un, .un]) (exs_asp (evl_cons (d := .none) rfl (evl_cons (d := .none) rfl evl_nil)) rfl) (exs_nx ((exs_for (k := .walk) (b := .noe) f rfl rfl).trans lp) (exs_ret rfl)), by simp⟩
theorem law_best_ok (w : Wk ws n) : Gv 47 [wD ws] (otD (bestN ws n)) := by
  refine gv (d := k93_d__law_best) rfl rfl fun Φ hΦ => ?_
  obtain ⟨s3, s4, lp⟩ := bB_loop (Φ := Φ) (ws := ws) (J := 46) (fun o => (law_worth_ok (os := o) w).on (hΦ 46 (by decide))) (rowsN (ws.length - 1) n)
  obtain ⟨r1, r2⟩ := row0 w
  have l0 := w.l0
  have l3 := w.l3
  have c := (law_rows_ok (size := n) (most := ws.length - 1) (by omega) (by have := w.n4; omega) (Nat.le_trans (rows_bd w) (by decide))).on (hΦ 39 (by decide))
  let e : Ev := [.sh (wD ws), .sh .none, .sh .none, .un, .un]
  have b1 : binD .sub (nd ws.length) (.int 1) = some (nd (ws.length - 1)) := sub_nd (b := 1) l0
  have e1 : ev Φ (.bin .sub (.b1 .len (.var 0)) (.cst (.int 1))) e = some (nd (ws.length - 1), e) := by
    have := len_wD ws
    simp [e, ev, op1, op2, opd, res, this, b1]
  have e2 : ev Φ (.b1 .len (.idx (.var 0) (.cst (.int 0)))) e = some (nd n, e) := by
    have := len_tpD (ws.getD 0 [])
    rw [r2] at this
    refine ev_b1 (by intro i q; cases q) (x := tpD (ws.getD 0 [])) ?_ this
    simp [e, ev, op2, opd, res, r1, -List.getD_eq_getElem?_getD]
  have f := ev_call (evl_cons e2 (evl_cons e1 evl_nil)) rfl rfl c rfl
  refine ⟨[.sh (wD ws), .sh (bD ws (bestN ws n)), .sh (otD (bestN ws n)), s3, s4], exs_nx (e1 := e) (exs_asp (evl_cons (d := .none) rfl (evl_cons (d := .none) rfl evl_nil)) rfl) (exs_nx ((exs_for (k := .walk) (b := .noe) f rfl rfl).trans lp) (exs_ret rfl)), by simp⟩
/-! checks -/
theorem is_row_ok (w : Wk ws n) {r : List Nat} (hr : r ∈ ws) : Gv 48 [tpD r, nd n] (.bool true) := by
  refine gv (d := k93_d_is_row) rfl rfl fun Φ hΦ => ⟨[.sh (tpD r), .sh (nd n), .un], ?_, by simp⟩
  have hl := w.rl r hr
  let e : Ev := [.sh (tpD r), .sh (nd n), .un]
  have e1 : ev Φ (.isi (.var 0) ["tuple"]) e = some (.bool true, e) := rfl
  have e2 : ev Φ (.cmp .eq (.b1 .len (.var 0)) (.var 1)) e = some (.bool true, e) := ev_cmp' (opd_nv (by intro i q; cases q) (ev_b1v rfl (len_tpD r))) rfl rfl rfl (by rw [eq_nd, hl]; simp)
  have e3 : ev Φ (.lc [("one", 2)] (.nm 2) .walk (.var 0) .noe .noe (.call 8 (.cons (.var 2) (.cons (.cst (.int 0)) (.cons (.glo "MOST_WORTH" (.int 9)) .nil))))) e = some (.list (r.map fun _ => PyData.bool true), e) := by
    refine (ev_lcP nd (fun _ => true) (fun _ => PyData.bool true) r rfl rfl rfl (fun x hx => ?_) (sz (by have := w.n4; omega))).trans (by rw [all_true])
    have c := (is_within_ok (nd x) 0 9).on (hΦ 8 (by decide))
    rw [isW_nd (a := 0) (b := 9) (by omega) (by have := w.le r hr x hx; omega)] at c
    exact ⟨[.sh (tpD r), .sh (nd n), .sh (nd x)], rfl, rfl, fun _ => ev_call (evl_cons (d := nd x) rfl (evl_cons (d := .int 0) rfl (evl_cons (d := .int 9) rfl evl_nil))) rfl rfl c rfl, rfl⟩
  have e4 := ev_b1 (b := .all) (by intro i q; cases q) e3 (all_bools _ _)
  have k : (r.all fun _ => true) = true := by simp
  rw [k] at e4
  exact exs_ret (ev_andt e1 (ev_andt e2 e4))
theorem are_worths_ok (w : Wk ws n) : Gv 49 [wD ws] (.bool true) := by
  refine gv (d := k93_d_are_worths) rfl rfl fun Φ hΦ => ⟨[.sh (wD ws), .sh (nd n), .un], ?_, by simp⟩
  obtain ⟨r1, r2⟩ := row0 w
  let e : Ev := [.sh (wD ws), .un, .un]
  have lw := len_wD ws
  have l0 : cmpD .le (.int 1) (nd ws.length) = some true := by
    have := le_nd 1 ws.length
    rw [decide_eq_true w.l0] at this
    exact this
  have l3 : cmpD .le (nd ws.length) (.int 3) = some true := by
    have := le_nd ws.length 3
    rw [decide_eq_true w.l3] at this
    exact this
  have n1 : cmpD .le (.int 1) (nd n) = some true := by
    have := le_nd 1 n
    rw [decide_eq_true w.n1] at this
    exact this
  have n4 : cmpD .le (nd n) (.int 4) = some true := by
    have := le_nd n 4
    rw [decide_eq_true w.n4] at this
    exact this
  have i1 : isaAny (wD ws) ["tuple"] = some true := rfl
  have i2 : isaAny (tpD (ws.getD 0 [])) ["tuple"] = some true := rfl
  have lt := len_tpD (ws.getD 0 [])
  rw [r2] at lt
  have g1 : ev Φ (.nt (.isi (.var 0) ["tuple"])) e = some (.bool false, e) := rfl
  have g2 : ev Φ (.nt (.chn .le .le (.cst (.int 1)) (.b1 .len (.var 0)) (.glo "MOST_ROWS" (.int 3)))) e = some (.bool false, e) := by
    simp [e, ev, op1, op2, opd, res, lw, l0, l3, truth]
  have g3 : ev Φ (.nt (.isi (.idx (.var 0) (.cst (.int 0))) ["tuple"])) e = some (.bool false, e) := by
    simp [e, ev, op1, op2, opd, res, r1, i2, truth, -List.getD_eq_getElem?_getD]
  have t0 : exs Φ (nthS 0 k93_b_are_worths) e = some (.nx e) := (exs_iff (by intro i q; cases q) (evl_or g1 (evl_or g2 g3))).trans rfl
  have t1 : exs Φ (nthS 1 k93_b_are_worths) e = some (.nx [.sh (wD ws), .sh (nd n), .un]) := by
    refine Eq.trans (asg_nm (e1 := e) (d := nd n) (ev_b1 (x := tpD (ws.getD 0 [])) (by intro i q; cases q) ?_ lt) rfl) rfl
    simp [e, ev, op2, opd, res, r1, -List.getD_eq_getElem?_getD]
  refine exs_nx t0 (exs_nx t1 (exs_ret ?_))
  let e' : Ev := [.sh (wD ws), .sh (nd n), .un]
  have g4 : ev Φ (.chn .le .le (.cst (.int 1)) (.var 1) (.glo "MOST_MACHINES" (.int 4))) e' = some (.bool true, e') := by
    simp [e', ev, rdv, op1, op2, opd, res, n1, n4]
  have e3 : ev Φ (.lc [("one", 2)] (.nm 2) .walk (.var 0) .noe .noe (.call 48 (.cons (.var 2) (.cons (.var 1) .nil)))) e' = some (.list (ws.map fun _ => PyData.bool true), e') := by
    refine (ev_lcP tpD (fun _ => true) (fun _ => PyData.bool true) ws rfl rfl rfl (fun x hx => ?_) (sz (by have := w.l3; omega))).trans (by rw [all_true])
    have c := (is_row_ok w hx).on (hΦ 48 (by decide))
    exact ⟨[.sh (wD ws), .sh (nd n), .sh (tpD x)], rfl, rfl, fun _ => ev_call (evl_cons (d := tpD x) rfl (evl_cons (d := nd n) rfl evl_nil)) rfl rfl c rfl, rfl⟩
  have e4 := ev_b1 (b := .all) (by intro i q; cases q) e3 (all_bools _ _)
  have k : (ws.all fun _ => true) = true := by simp
  rw [k] at e4
  exact ev_andt g4 e4
theorem want_worths_ok (w : Wk ws n) : Gv 50 [wD ws] .none := by
  refine gvn (d := k93_d_want_worths) rfl rfl fun Φ hΦ => ⟨[.sh (wD ws)], ?_, by simp⟩
  have c := (are_worths_ok w).on (hΦ 49 (by decide))
  simp only [List.map_cons, List.map_nil] at c
  simp [k93_d_want_worths, k93_b_want_worths, exs, ev, op1, opT, opd, res, rdv, truth, tst, argSl, musOf, nodupB, wbk, c]
theorem want_user_w_ok {u : Nat} (hu : u < ws.length) : Gv 51 [wD ws, nd u] .none := by
  refine gvn (d := k93_d_want_user_wholes) rfl rfl fun Φ hΦ => ⟨[.sh (wD ws), .sh (nd u)], ?_, by simp⟩
  have c1 := (is_count_ok (nd u)).on (hΦ 30 (by decide))
  have e3 := len_wD ws
  have e4 := ge_nd u ws.length
  rw [decide_eq_false (by omega)] at e4
  have ic : isC (nd u) = true := by simp [isC, nd]
  rw [ic] at c1
  simp only [List.map_cons, List.map_nil] at c1
  simp [k93_d_want_user_wholes, k93_b_want_user_wholes, exs, ev, op1, op2, opT, opd, res, rdv, truth, tst, argSl, musOf, nodupB, wbk, c1, e3, e4]
/-- right owners -/
structure Ow (ws : List (List Nat)) (n : Nat) (os : List Nat) : Prop where
  len : os.length = n
  le : ∀ x ∈ os, x ≤ ws.length - 1
theorem owners_right_ok (w : Wk ws n) (o : Ow ws n os) : Gv 59 [wD ws, tpD os] (.bool true) := by
  refine gv (d := k93_d_owners_are_right) rfl rfl fun Φ hΦ => ⟨[.sh (wD ws), .sh (tpD os), .un], ?_, by simp⟩
  obtain ⟨r1, r2⟩ := row0 w
  let e : Ev := [.sh (wD ws), .sh (tpD os), .un]
  have lt := len_tpD (ws.getD 0 [])
  rw [r2] at lt
  have lo := len_tpD os
  rw [o.len] at lo
  have l0 := w.l0
  have g1 : ev Φ (.nt (.isi (.var 1) ["tuple"])) e = some (.bool false, e) := rfl
  have g2 : ev Φ (.cmp .ne (.b1 .len (.var 1)) (.b1 .len (.idx (.var 0) (.cst (.int 0))))) e = some (.bool false, e) := by
    refine ev_cmp' (opd_nv (by intro i q; cases q) (ev_b1v rfl lo)) (opd_nv (by intro i q; cases q) (e1 := e) (ev_b1 (x := tpD (ws.getD 0 [])) (by intro i q; cases q) ?_ lt)) rfl rfl ?_
    · simp [e, ev, op2, opd, res, r1, -List.getD_eq_getElem?_getD]
    · show (eqD (nd n) (nd n)).map (!·) = _
      have : eqD (nd n) (nd n) = some (decide ((n : Int) = (n : Int))) := rfl
      rw [this]
      simp
  have t0 : exs Φ (nthS 0 k93_b_owners_are_right) e = some (.nx e) := (exs_iff (by intro i q; cases q) (evl_or g1 g2)).trans rfl
  have b1 : binD .sub (nd ws.length) (.int 1) = some (nd (ws.length - 1)) := sub_nd (b := 1) l0
  have e3 : ev Φ (.lc [("one", 2)] (.nm 2) .walk (.var 1) .noe .noe (.call 8 (.cons (.var 2) (.cons (.cst (.int 0)) (.cons (.bin .sub (.b1 .len (.var 0)) (.cst (.int 1))) .nil))))) e = some (.list (os.map fun _ => PyData.bool true), e) := by
    refine (ev_lcP nd (fun _ => true) (fun _ => PyData.bool true) os rfl rfl rfl (fun x hx => ?_) (sz (by have := w.n4; have := o.len; omega))).trans (by rw [all_true])
    have c := (is_within_ok (nd x) 0 ((ws.length - 1 : Nat) : Int)).on (hΦ 8 (by decide))
    rw [isW_nd (a := 0) (b := ((ws.length - 1 : Nat) : Int)) (by omega) (by have := o.le x hx; omega)] at c
    let e' : Ev := [.sh (wD ws), .sh (tpD os), .sh (nd x)]
    have e1 : ev Φ (.bin .sub (.b1 .len (.var 0)) (.cst (.int 1))) e' = some (nd (ws.length - 1), e') := by
      have := len_wD ws
      simp [e', ev, op1, op2, opd, res, this, b1]
    exact ⟨e', rfl, rfl, fun _ => ev_call (evl_cons (d := nd x) rfl (evl_cons (d := .int 0) rfl (evl_cons e1 evl_nil))) rfl rfl c rfl, rfl⟩
  have e4 := ev_b1 (b := .all) (by intro i q; cases q) e3 (all_bools _ _)
  have k : (os.all fun _ => true) = true := by simp
  rw [k] at e4
  exact exs_nx t0 (exs_ret e4)
theorem want_owners_ok (w : Wk ws n) (o : Ow ws n os) : Gv 60 [wD ws, tpD os] .none := by
  refine gvn (d := k93_d_want_owners) rfl rfl fun Φ hΦ => ⟨[.sh (wD ws), .sh (tpD os)], ?_, by simp⟩
  have c1 := (want_worths_ok w).on (hΦ 50 (by decide))
  have c2 := (owners_right_ok w o).on (hΦ 59 (by decide))
  simp only [List.map_cons, List.map_nil] at c1 c2
  simp [k93_d_want_owners, k93_b_want_owners, exs, ev, op1, opT, opd, res, rdv, truth, tst, argSl, musOf, nodupB, wbk, c1, c2]
theorem are_owners_ok (w : Wk ws n) (o : Ow ws n os) : Gv 66 [wD ws, tpD os] (.bool true) := by
  refine gv (d := k93_d_are_owners) rfl rfl fun Φ hΦ => ⟨[.sh (wD ws), .sh (tpD os)], ?_, by simp⟩
  have c1 := (want_worths_ok w).on (hΦ 50 (by decide))
  have c2 := (owners_right_ok w o).on (hΦ 59 (by decide))
  simp only [List.map_cons, List.map_nil] at c1 c2
  simp [k93_d_are_owners, k93_b_are_owners, exs, ev, rdv, argSl, musOf, nodupB, wbk, c1, c2]
theorem best_owners_ok (w : Wk ws n) : Gv 65 [wD ws] (otD (bestN ws n)) := by
  refine gv (d := k93_d_best_owners) rfl rfl fun Φ hΦ => ⟨[.sh (wD ws)], ?_, by simp⟩
  have c1 := (want_worths_ok w).on (hΦ 50 (by decide))
  have c2 := (best_of_ok w).on (hΦ 56 (by decide))
  simp only [List.map_cons, List.map_nil] at c1 c2
  simp [k93_d_best_owners, k93_b_best_owners, exs, ev, rdv, argSl, musOf, nodupB, wbk, c1, c2]
theorem has_ok (w : Wk ws n) (o : Ow ws n os) {u : Nat} (hu : u < ws.length) : Gv 64 [wD ws, tpD os, nd u] (nd (hasN (ws.getD u []) os u)) := by
  refine gv (d := k93_d_has) rfl rfl fun Φ hΦ => ⟨[.sh (wD ws), .sh (tpD os), .sh (nd u)], ?_, by simp⟩
  have c1 := (want_owners_ok w o).on (hΦ 60 (by decide))
  have c2 := (want_user_w_ok (ws := ws) hu).on (hΦ 51 (by decide))
  have c3 := (worth_of_ok (os := os) (row := ws.getD u []) (by rw [(w.at hu).1]; have := w.n4; omega) u).on (hΦ 52 (by decide))
  have r1 := row_at hu
  simp only [List.map_cons, List.map_nil] at c1 c2 c3
  simp [k93_d_has, k93_b_has, exs, ev, op2, opd, res, rdv, argSl, musOf, nodupB, wbk, c1, c2, c3, r1, -List.getD_eq_getElem?_getD]
end
end Iv
end
section
set_option Elab.async false
set_option linter.all false
set_option maxRecDepth 100000
set_option exponentiation.threshold 3000
set_option maxHeartbeats 4000000
namespace Iv
open PySem PySem.Spec L2
/-- a loop that looks for the first, with a name of its own beside -/
theorem for_find2 {α : Type} {i : Nat} {f : Ev → Option Out} (φ : α → D) (env : Sl → Sl → Ev) (pr : α → Bool) (henv : ∀ s t, (env s t)[i]? = some s) : ∀ (xs : List α) (s t : Sl), jk s → jk t →
    (∀ x ∈ xs, ∀ s t, jk s → jk t → bindT (.nm i) (φ x) (env s t) = some (env (.sh (φ x)) t) ∧ ∃ t', jk t' ∧ f (env (.sh (φ x)) t) = if pr x then some (.rt (φ x) (env (.sh (φ x)) t')) else some (.nx (env (.sh (φ x)) t'))) →
    (match xs.find? pr with
      | none => ∃ s' t', jk s' ∧ jk t' ∧ forGo (.nm i) f (xs.map φ) (env s t) = some (.nx (env s' t'))
      | some x => ∃ t', forGo (.nm i) f (xs.map φ) (env s t) = some (.rt (φ x) (env (.sh (φ x)) t')))
  | [], s, t, j, jt, _ => ⟨s, t, j, jt, rfl⟩
  | x :: xs, s, t, j, jt, h => by
    obtain ⟨h1, t', jt', h2⟩ := h x List.mem_cons_self s t j jt
    have ok : tgOk (env s t) (.nm i) = true := by
      show (putOk _ i && true) = true
      rw [j.put (henv s t)]
      rfl
    rw [List.find?_cons]
    cases hp : pr x with
    | true =>
      rw [hp] at h2
      refine ⟨t', ?_⟩
      show forGo _ _ (φ x :: xs.map φ) _ = _
      rw [forGo, if_pos ok]
      simp only [h1, h2, if_true]
    | false =>
      rw [hp] at h2
      have ih := for_find2 φ env pr henv xs (.sh (φ x)) t' (jk.sh _) jt' fun y hy => h y (List.mem_cons_of_mem _ hy)
      have step : forGo (.nm i) f (φ x :: xs.map φ) (env s t) = forGo (.nm i) f (xs.map φ) (env (.sh (φ x)) t') := by
        rw [forGo, if_pos ok]
        simp only [h1, h2, Bool.false_eq_true, if_false]
      cases hf : xs.find? pr with
      | none =>
        rw [hf] at ih
        obtain ⟨s', t2, j', jt2, e⟩ := ih
        exact ⟨s', t2, j', jt2, step.trans e⟩
      | some y =>
        rw [hf] at ih
        obtain ⟨t2, e⟩ := ih
        exact ⟨t2, step.trans e⟩
section
variable {ws : List (List Nat)} {n : Nat} {os : List Nat} {Φ : Fn}
theorem max_cons (x : Nat) (xs : List Nat) : maxL (x :: xs) = xs.foldl max x := by
  show xs.foldl max (max 0 x) = _
  rw [Nat.zero_max]
theorem max_le_sum (x : Nat) (xs : List Nat) : xs.foldl max x ≤ (x :: xs).sum := by
  refine foldl_max_le xs x (le_sum List.mem_cons_self) fun y hy => le_sum (List.mem_cons_of_mem _ hy)
/-- the sum without the greatest -/
theorem ev_envy {e : Ev} {i : Nat} (L : List Nat) (h : e[i]? = some (.sh (ixD L))) : ev Φ (.ite (.cmp .ne (.var i) (.lst .nil)) (.bin .sub (.b1 .sum (.var i)) (.b1 .max (.var i))) (.cst (.int 0))) e = some (nd (L.sum - maxL L), e) := by
  have hv : opd (.var i) (ev Φ (.var i) e) e = some (.s i, e) := by
    simp only [opd, h]
  have hr : res e (.s i) = some (ixD L) := by
    simp only [res, h]
  have te : ev Φ (.cmp .ne (.var i) (.lst .nil)) e = some (.bool (!L.isEmpty), e) := ev_cmp' hv (opd_nv (by intro i q; cases q) ev_lst0) hr rfl (ne_ix L)
  cases L with
  | nil => exact ev_itef (by intro i q; cases q) te rfl
  | cons x xs =>
    refine ev_itet (by intro i q; cases q) te ?_
    have s1 := ev_b1v (Φ := Φ) (b := .sum) h (sum_ix (x :: xs))
    have s2 := ev_b1v (Φ := Φ) (b := .max) h (max_ix x xs)
    have b := sub_nd (max_le_sum x xs)
    rw [max_cons]
    simp only [ev, op2, opd]
    simp only [ev] at s1 s2
    simp only [s1, s2, res, b, Option.map_some]
theorem machine_envy_ok (w : Wk ws n) (o : Ow ws n os) {a b : Nat} (ha : a < ws.length) (hb : b < ws.length) : Gv 63 [wD ws, tpD os, nd a, nd b] (nd (machEnv ws os a b)) := by
  refine gv (d := k93_d_machine_envy) rfl rfl fun Φ hΦ => ⟨[.sh (wD ws), .sh (tpD os), .sh (nd a), .sh (nd b), .sh (ixD (ownW (ws.getD a []) os b)), .un, .un], ?_, by simp⟩
  have c1 := (want_owners_ok w o).on (hΦ 60 (by decide))
  have c2 := (want_user_w_ok (ws := ws) ha).on (hΦ 51 (by decide))
  have c3 := (want_user_w_ok (ws := ws) hb).on (hΦ 51 (by decide))
  simp only [List.map_cons, List.map_nil] at c1 c2 c3
  let e : Ev := [.sh (wD ws), .sh (tpD os), .sh (nd a), .sh (nd b), .un, .un, .un]
  have t0 : exs Φ (nthS 0 k93_b_machine_envy) e = some (.nx e) := by simp [e, k93_b_machine_envy, nthS, exs, ev, rdv, argSl, musOf, nodupB, wbk, c1]
  have t1 : exs Φ (nthS 1 k93_b_machine_envy) e = some (.nx e) := by simp [e, k93_b_machine_envy, nthS, exs, ev, rdv, argSl, musOf, nodupB, wbk, c2]
  have t2 : exs Φ (nthS 2 k93_b_machine_envy) e = some (.nx e) := by simp [e, k93_b_machine_envy, nthS, exs, ev, rdv, argSl, musOf, nodupB, wbk, c3]
  have i0 : ev Φ (.idx (.var 0) (.var 2)) e = some (tpD (ws.getD a []), e) := ev_idxv rfl rfl (row_at ha)
  have e1 : ev Φ (.lc [("worth", 5), ("owner", 6)] (.tp [5, 6]) .zip (.idx (.var 0) (.var 2)) (.var 1) (.cmp .eq (.var 6) (.var 3)) (.var 5)) e = some (ixD (ownW (ws.getD a []) os b), e) := by
    refine (ev_lcP pr2 (fun p => decide (p.2 = b)) (fun p => nd p.1) ((ws.getD a []).zip os) i0 rfl (walk_zip _ os) (fun p hp => ?_) (sz (by have := (w.at ha).1; have := w.n4; rw [List.length_zip]; omega))).trans ?_
    · exact ⟨[.sh (wD ws), .sh (tpD os), .sh (nd a), .sh (nd b), .un, .sh (nd p.1), .sh (nd p.2)], rfl, lcT_bool (by intro i q; cases q) (by intro q; cases q) (ev_cmp' rfl rfl rfl rfl (eq_nd _ _)), fun _ => rfl, rfl⟩
    · unfold ixD ownW
      rw [List.map_map]
      rfl
  have t3 : exs Φ (nthS 3 k93_b_machine_envy) e = some (.nx [.sh (wD ws), .sh (tpD os), .sh (nd a), .sh (nd b), .sh (ixD (ownW (ws.getD a []) os b)), .un, .un]) := Eq.trans (asg_nm e1 rfl) rfl
  exact exs_nx t0 (exs_nx t1 (exs_nx t2 (exs_nx t3 (exs_ret (ev_envy (ownW (ws.getD a []) os b) rfl)))))
def betF (ws : List (List Nat)) (n : Nat) (os : List Nat) : Option (List Nat) := (rowsN (ws.length - 1) n).find? (betN ws os)
theorem better_ok (w : Wk ws n) (o : Ow ws n os) : Gv 61 [wD ws, tpD os] (otD (betF ws n os)) := by
  refine gv (d := k93_d_better_owners) rfl rfl fun Φ hΦ => ?_
  have c1 := (want_owners_ok w o).on (hΦ 60 (by decide))
  have c2 := (all_owners_ok w).on (hΦ 53 (by decide))
  simp only [List.map_cons, List.map_nil] at c1
  have cH : ∀ x, Φ 54 [.sh (wD ws), .sh (tpD x)] = some (ixD (haves ws x), [.sh (wD ws), .sh (tpD x)]) := fun x => (all_have_ok (os := x) w).on (hΦ 54 (by decide))
  have fnd := for_find2 (i := 3) (f := exs Φ (forS (nthS 2 k93_b_better_owners))) tpD (fun s t => [.sh (wD ws), .sh (tpD os), .sh (ixD (haves ws os)), s, t, .un, .un]) (betN ws os) (fun s t => rfl) (rowsN (ws.length - 1) n) .un .un (.inl rfl) (.inl rfl) (fun x hx s t js jt => by
    refine ⟨rfl, .sh (ixD (haves ws x)), jk.sh _, ?_⟩
    let e : Ev := [.sh (wD ws), .sh (tpD os), .sh (ixD (haves ws os)), .sh (tpD x), .sh (ixD (haves ws x)), .un, .un]
    have t1 : exs Φ (.asg (.nm 4) (.call 54 (.cons (.var 0) (.cons (.var 3) .nil)))) [.sh (wD ws), .sh (tpD os), .sh (ixD (haves ws os)), .sh (tpD x), t, .un, .un] = some (.nx e) := Eq.trans (asg_nm (ev_call (evl_cons (d := wD ws) rfl (evl_cons (d := tpD x) rfl evl_nil)) rfl rfl (cH x) rfl) (jt.put rfl)) rfl
    have g1 : ev Φ (.cmp .ne (.var 4) (.var 2)) e = some (.bool (!decide (haves ws x = haves ws os)), e) := ev_cmp' rfl rfl rfl rfl (cmp_ne_ix _ _)
    have e1 : ev Φ (.lc [("one", 5), ("late", 6)] (.tp [5, 6]) .zip (.var 2) (.var 4) .noe (.cmp .ge (.var 6) (.var 5))) e = some (.list (((haves ws os).zip (haves ws x)).map fun p => PyData.bool (decide (p.1 ≤ p.2))), e) := by
      refine (ev_lcP pr2 (fun _ => true) (fun p => PyData.bool (decide (p.1 ≤ p.2))) ((haves ws os).zip (haves ws x)) rfl rfl (walk_zipl _ _) (fun p hp => ?_) (sz (by have := w.l3; rw [List.length_zip, haves_len, haves_len]; omega))).trans (by rw [all_true])
      exact ⟨[.sh (wD ws), .sh (tpD os), .sh (ixD (haves ws os)), .sh (tpD x), .sh (ixD (haves ws x)), .sh (nd p.1), .sh (nd p.2)], rfl, rfl, fun _ => ev_cmp' rfl rfl rfl rfl (ge_nd _ _), rfl⟩
    have g2 := evl_and g1 (ev_b1 (b := .all) (by intro i q; cases q) e1 (all_bools _ _)) rfl
    have eb : (!decide (haves ws x = haves ws os) && ((haves ws os).zip (haves ws x)).all fun p => decide (p.1 ≤ p.2)) = betN ws os x := by
      unfold betN
      congr 1
      have : (haves ws x = haves ws os) ↔ (haves ws os = haves ws x) := ⟨Eq.symm, Eq.symm⟩
      simp [this]
    rw [eb] at g2
    cases q : betN ws os x with
    | true =>
      rw [q] at g2
      exact exs_nx t1 (exs_rt ((exs_ift (by intro i q; cases q) g2).trans rfl))
    | false =>
      rw [q] at g2
      exact exs_nx t1 (exs_nx ((exs_iff (by intro i q; cases q) g2).trans rfl) rfl))
  let e0 : Ev := [.sh (wD ws), .sh (tpD os), .un, .un, .un, .un, .un]
  let e1 : Ev := [.sh (wD ws), .sh (tpD os), .sh (ixD (haves ws os)), .un, .un, .un, .un]
  have t0 : exs Φ (nthS 0 k93_b_better_owners) e0 = some (.nx e0) := by simp [e0, k93_b_better_owners, nthS, exs, ev, rdv, argSl, musOf, nodupB, wbk, c1]
  have t1 : exs Φ (nthS 1 k93_b_better_owners) e0 = some (.nx e1) := Eq.trans (asg_nm (ev_call (evl_cons (d := wD ws) rfl (evl_cons (d := tpD os) rfl evl_nil)) rfl rfl (cH os) rfl) rfl) rfl
  have f : ev Φ (.call 53 (.cons (.var 0) .nil)) e1 = some (rsD (rowsN (ws.length - 1) n), e1) := ev_call (evl_cons (d := wD ws) rfl evl_nil) rfl rfl c2 rfl
  unfold betF
  cases hf : (rowsN (ws.length - 1) n).find? (betN ws os) with
  | none =>
    rw [hf] at fnd
    obtain ⟨s', t', _, _, lp⟩ := fnd
    exact ⟨_, exs_nx t0 (exs_nx t1 (exs_nx ((exs_for (k := .walk) (b := .noe) f rfl rfl).trans lp) (exs_ret rfl))), by simp⟩
  | some r =>
    rw [hf] at fnd
    obtain ⟨t', lp⟩ := fnd
    exact ⟨_, exs_nx t0 (exs_nx t1 (exs_rt ((exs_for (k := .walk) (b := .noe) f rfl rfl).trans lp))), by simp⟩
theorem law_better_ok (w : Wk ws n) (o : Ow ws n os) : Gv 62 [wD ws, tpD os] (otD (betF ws n os)) := by
  refine gv (d := k93_d__law_better) rfl rfl fun Φ hΦ => ?_
  have l0 := w.l0
  have l3 := w.l3
  have c2 := (law_rows_ok (size := n) (most := ws.length - 1) (by omega) (by have := w.n4; omega) (Nat.le_trans (rows_bd w) (by decide))).on (hΦ 39 (by decide))
  have hc : ∀ x u, u < ws.length → Φ 45 [.sh (wD ws), .sh (tpD x), .sh (nd u)] = some (nd (hasN (ws.getD u []) x u), [.sh (wD ws), .sh (tpD x), .sh (nd u)]) := fun x u hu => (law_has_ok (os := x) w hu).on (hΦ 45 (by decide))
  have fnd := for_find2 (i := 3) (f := exs Φ (forS (nthS 1 k93_b__law_better))) tpD (fun s t => [.sh (wD ws), .sh (tpD os), .sh (ixD (haves ws os)), s, t, .un, .un, .un]) (betN ws os) (fun s t => rfl) (rowsN (ws.length - 1) n) .un .un (.inl rfl) (.inl rfl) (fun x hx s t js jt => by
    refine ⟨rfl, .sh (ixD (haves ws x)), jk.sh _, ?_⟩
    let e : Ev := [.sh (wD ws), .sh (tpD os), .sh (ixD (haves ws os)), .sh (tpD x), .sh (ixD (haves ws x)), .un, .un, .un]
    have fh := ev_haves (Φ := Φ) (j := 45) (os := x) (e := [.sh (wD ws), .sh (tpD os), .sh (ixD (haves ws os)), .sh (tpD x), t, .un, .un, .un]) (x := 5) (y := 0) (o := 3) "user" w (hΦ 45 (by decide)) (hc x) rfl rfl (by decide) (by simp) (by decide)
    have t1 : exs Φ (nthS 0 (forS (nthS 1 k93_b__law_better))) [.sh (wD ws), .sh (tpD os), .sh (ixD (haves ws os)), .sh (tpD x), t, .un, .un, .un] = some (.nx e) := Eq.trans (asg_nm fh (jt.put rfl)) rfl
    have g1 : ev Φ (.cmp .ne (.var 2) (.var 4)) e = some (.bool (!decide (haves ws os = haves ws x)), e) := ev_cmp' rfl rfl rfl rfl (cmp_ne_ix _ _)
    have e1 : ev Φ (.lc [("much", 6), ("more", 7)] (.tp [6, 7]) .zip (.var 2) (.var 4) .noe (.cmp .le (.var 6) (.var 7))) e = some (.list (((haves ws os).zip (haves ws x)).map fun p => PyData.bool (decide (p.1 ≤ p.2))), e) := by
      refine (ev_lcP pr2 (fun _ => true) (fun p => PyData.bool (decide (p.1 ≤ p.2))) ((haves ws os).zip (haves ws x)) rfl rfl (walk_zipl _ _) (fun p hp => ?_) (sz (by have := w.l3; rw [List.length_zip, haves_len, haves_len]; omega))).trans (by rw [all_true])
      exact ⟨[.sh (wD ws), .sh (tpD os), .sh (ixD (haves ws os)), .sh (tpD x), .sh (ixD (haves ws x)), .un, .sh (nd p.1), .sh (nd p.2)], rfl, rfl, fun _ => ev_cmp' rfl rfl rfl rfl (le_nd _ _), rfl⟩
    have g2 := evl_and g1 (ev_b1 (b := .all) (by intro i q; cases q) e1 (all_bools _ _)) rfl
    have eb : (!decide (haves ws os = haves ws x) && ((haves ws os).zip (haves ws x)).all fun p => decide (p.1 ≤ p.2)) = betN ws os x := by
      have h : (!decide (haves ws os = haves ws x)) = decide (haves ws os ≠ haves ws x) := by simp
      rw [h]
      rfl
    rw [eb] at g2
    cases q : betN ws os x with
    | true =>
      rw [q] at g2
      exact exs_nx t1 (exs_rt ((exs_ift (by intro i q; cases q) g2).trans rfl))
    | false =>
      rw [q] at g2
      exact exs_nx t1 (exs_nx ((exs_iff (by intro i q; cases q) g2).trans rfl) rfl))
  let e0 : Ev := [.sh (wD ws), .sh (tpD os), .un, .un, .un, .un, .un, .un]
  let e1 : Ev := [.sh (wD ws), .sh (tpD os), .sh (ixD (haves ws os)), .un, .un, .un, .un, .un]
  have fh := ev_haves (Φ := Φ) (j := 45) (os := os) (e := e0) (x := 5) (y := 0) (o := 1) "user" w (hΦ 45 (by decide)) (hc os) rfl rfl (by decide) (by simp [e0]) (by decide)
  have t0 : exs Φ (nthS 0 k93_b__law_better) e0 = some (.nx e1) := Eq.trans (asg_nm fh rfl) rfl
  have b1 : binD .sub (nd ws.length) (.int 1) = some (nd (ws.length - 1)) := sub_nd (b := 1) l0
  have f : ev Φ (.call 39 (.cons (.b1 .len (.var 1)) (.cons (.bin .sub (.b1 .len (.var 0)) (.cst (.int 1))) .nil))) e1 = some (rsD (rowsN (ws.length - 1) n), e1) := by
    have h1 : ev Φ (.b1 .len (.var 1)) e1 = some (nd n, e1) := ev_b1v rfl (by rw [len_tpD, o.len])
    have h2 : ev Φ (.bin .sub (.b1 .len (.var 0)) (.cst (.int 1))) e1 = some (nd (ws.length - 1), e1) := by
      have := len_wD ws
      simp [e1, ev, op1, op2, opd, res, this, b1]
    exact ev_call (evl_cons h1 (evl_cons h2 evl_nil)) rfl rfl c2 rfl
  unfold betF
  cases hf : (rowsN (ws.length - 1) n).find? (betN ws os) with
  | none =>
    rw [hf] at fnd
    obtain ⟨s', t', _, _, lp⟩ := fnd
    exact ⟨_, exs_nx t0 (exs_nx ((exs_for (k := .walk) (b := .noe) f rfl rfl).trans lp) (exs_ret rfl)), by simp⟩
  | some r =>
    rw [hf] at fnd
    obtain ⟨t', lp⟩ := fnd
    exact ⟨_, exs_nx t0 (exs_rt ((exs_for (k := .walk) (b := .noe) f rfl rfl).trans lp)), by simp⟩
end
end Iv
end
section
set_option Elab.async false
set_option linter.all false
set_option maxRecDepth 100000
set_option exponentiation.threshold 3000
set_option maxHeartbeats 4000000
namespace Iv
open PySem PySem.Spec L2
def bstN (ws : List (List Nat)) (n : Nat) : List Nat := (bestN ws n).getD []
section
variable {ws : List (List Nat)} {n : Nat} {os : List Nat} {Φ : Fn} {P : List D}
theorem bst_eq (w : Wk ws n) : bestN ws n = some (bstN ws n) := by
  obtain ⟨o, h, _⟩ := best_not_gt w.wo
  unfold bstN
  rw [h]
  rfl
theorem bst_ow (w : Wk ws n) : Ow ws n (bstN ws n) := by
  obtain ⟨o, h, h2, _⟩ := best_not_gt w.wo
  unfold bstN
  rw [h]
  obtain ⟨a, b⟩ := mem_rows.mp h2
  exact ⟨a, b⟩
theorem best_of_ok' (w : Wk ws n) : Gv 56 [wD ws] (tpD (bstN ws n)) := by
  have := best_of_ok w
  rw [bst_eq w] at this
  exact this
theorem law_best_ok' (w : Wk ws n) : Gv 47 [wD ws] (tpD (bstN ws n)) := by
  have := law_best_ok w
  rw [bst_eq w] at this
  exact this
theorem told_wk (w : Wk ws n) {u : Nat} {r : List Nat} (hr : r.length = n) (h9 : ∀ x ∈ r, x ≤ 9) : Wk (ws.set u r) n := ⟨by rw [List.length_set]; exact w.l0, by rw [List.length_set]; exact w.l3, w.n1, w.n4, fun x hx => by
  rcases List.mem_or_eq_of_mem_set hx with h | h
  · exact w.rl x h
  · rw [h]; exact hr, fun x hx => by
  rcases List.mem_or_eq_of_mem_set hx with h | h
  · exact w.le x h
  · rw [h]; exact h9⟩
theorem wD_set {u : Nat} (hu : u < ws.length) (r : List Nat) : (ws.map tpD).take u ++ [tpD r] ++ (ws.map tpD).drop (u + 1) = (ws.set u r).map tpD := by
  rw [List.set_eq_take_append_cons_drop, if_pos hu, List.map_append, List.map_cons, List.map_take, List.map_drop, List.append_assoc]
  rfl
/-- the worths as told -/
theorem ev_told {e : Ev} {a b c : Nat} {u : Nat} {r : List Nat} (w : Wk ws n) (hu : u < ws.length) (ha : e[a]? = some (.sh (wD ws))) (hb : e[b]? = some (.sh (nd u))) (hc : e[c]? = some (.sh (tpD r))) :
    ev Φ (.bin .add (.bin .add (.slc (.var a) .noe (.var b)) (.tup (.cons (.var c) .nil))) (.slc (.var a) (.bin .add (.var b) (.cst (.int 1))) .noe)) e = some (wD (ws.set u r), e) := by
  have l3 := w.l3
  have s1 : slcD none (some (u : Int)) (wD ws) = some (.tuple ((ws.map tpD).take u)) := by
    show some (PyData.tuple _) = _
    rw [cut_to]
  have s2 : slcD (some ((u : Int) + 1)) none (wD ws) = some (.tuple ((ws.map tpD).drop (u + 1))) := by
    show some (PyData.tuple _) = _
    rw [show ((u : Int) + 1) = ((u + 1 : Nat) : Int) by omega, cut_from]
  have a1 : binD .add (.tuple ((ws.map tpD).take u)) (.tuple [tpD r]) = some (.tuple ((ws.map tpD).take u ++ [tpD r])) := bin_tt _ _ (by rw [List.length_take, List.length_map, List.length_singleton]; omega)
  have a2 : binD .add (.tuple ((ws.map tpD).take u ++ [tpD r])) (.tuple ((ws.map tpD).drop (u + 1))) = some (wD (ws.set u r)) := by
    rw [bin_tt _ _ ?_, wD_set hu]
    · rfl
    · rw [List.length_append, List.length_take, List.length_drop, List.length_map, List.length_singleton]
      omega
  have p1 : partOf (.var b) (nd u) = some (some (u : Int)) := rfl
  have p0 : ∀ d : D, partOf .noe d = some none := fun _ => rfl
  have p2 : partOf (.bin .add (.var b) (.cst (.int 1))) (.int ((u : Int) + 1)) = some (some ((u : Int) + 1)) := rfl
  have b1 : binD .add (nd u) (.int 1) = some (.int ((u : Int) + 1)) := rfl
  simp only [ev, op2, opd, res, rdv, ha, hb, hc, p0, p1, p2, s1, s2, a1, a2, b1, z1, Option.map_some, List.length_cons, List.length_nil, if_true, Nat.zero_add]
def gainW (ws : List (List Nat)) (n u most : Nat) : Option (List Nat) := (rowsN most n).find? fun r => decide (hasN (ws.getD u []) (bstN ws n) u < hasN (ws.getD u []) (bstN (ws.set u r) n) u)
theorem gaining_w_ok (w : Wk ws n) {u : Nat} (hu : u < ws.length) {most : Nat} (m1 : 1 ≤ most) (m9 : most ≤ 9) (hN : (most + 1) ^ n ≤ 256) : Gv 57 [wD ws, nd u, nd most] (otD (gainW ws n u most)) := by
  refine gv (d := k93_d_gaining_worths) rfl rfl fun Φ hΦ => ?_
  have c0 := (want_worths_ok w).on (hΦ 50 (by decide))
  have c1 := (want_user_w_ok (ws := ws) hu).on (hΦ 51 (by decide))
  have c2 := (want_most_ok (m := 9) m1 m9).on (hΦ 40 (by decide))
  have n4 := w.n4
  have c3 := (want_few_ok (limit := 256) (show most ≤ 20 by omega) (show n ≤ 20 by omega) hN (by decide)).on (hΦ 41 (by decide))
  have c4 := (best_of_ok' w).on (hΦ 56 (by decide))
  have c5 := (tuples_ok (size := n) (most := most) (by omega) (by omega) (Nat.le_trans hN (by decide))).on (hΦ 42 (by decide))
  have hW : ∀ o, Φ 52 [.sh (tpD (ws.getD u [])), .sh (tpD o), .sh (nd u)] = some (nd (hasN (ws.getD u []) o u), [.sh (tpD (ws.getD u [])), .sh (tpD o), .sh (nd u)]) := fun o => (worth_of_ok (os := o) (row := ws.getD u []) (by rw [(w.at hu).1]; omega) u).on (hΦ 52 (by decide))
  simp only [List.map_cons, List.map_nil] at c0 c1 c2 c3
  have c2 : Φ 40 [.sh (nd most), .sh (.int 9)] = some (.none, [.sh (nd most), .sh (.int 9)]) := c2
  have c3 : Φ 41 [.sh (nd most), .sh (nd n), .sh (.int 256)] = some (.none, [.sh (nd most), .sh (nd n), .sh (.int 256)]) := c3
  obtain ⟨r1, r2⟩ := row0 w
  have lt := len_tpD (ws.getD 0 [])
  rw [r2] at lt
  let h := hasN (ws.getD u []) (bstN ws n) u
  let A : List Sl := [.sh (wD ws), .sh (nd u), .sh (nd most)]
  let e0 : Ev := A ++ [.un, .un, .un, .un]
  let e1 : Ev := A ++ [.sh (nd n), .un, .un, .un]
  let e2 : Ev := A ++ [.sh (nd n), .sh (nd h), .un, .un]
  have t0 : exs Φ (nthS 0 k93_b_gaining_worths) e0 = some (.nx e0) := by simp [e0, A, k93_b_gaining_worths, nthS, exs, ev, rdv, argSl, musOf, nodupB, wbk, c0]
  have t1 : exs Φ (nthS 1 k93_b_gaining_worths) e0 = some (.nx e0) := by simp [e0, A, k93_b_gaining_worths, nthS, exs, ev, rdv, argSl, musOf, nodupB, wbk, c1]
  have t2 : exs Φ (nthS 2 k93_b_gaining_worths) e0 = some (.nx e0) := by simp [e0, A, k93_b_gaining_worths, nthS, exs, ev, rdv, argSl, musOf, nodupB, wbk, c2]
  have t3 : exs Φ (nthS 3 k93_b_gaining_worths) e0 = some (.nx e1) := by
    refine Eq.trans (asg_nm (e1 := e0) (d := nd n) (ev_b1 (x := tpD (ws.getD 0 [])) (by intro i q; cases q) ?_ lt) rfl) rfl
    simp [e0, A, ev, op2, opd, res, r1, -List.getD_eq_getElem?_getD]
  have t4 : exs Φ (nthS 4 k93_b_gaining_worths) e1 = some (.nx e1) := by simp [e1, A, k93_b_gaining_worths, nthS, exs, ev, rdv, argSl, musOf, nodupB, wbk, c3]
  have ix : ∀ {e : Ev}, e[0]? = some (.sh (wD ws)) → e[1]? = some (.sh (nd u)) → ev Φ (.idx (.var 0) (.var 1)) e = some (tpD (ws.getD u []), e) := fun {e} h0 h1 => ev_idxv h0 h1 (row_at hu)
  have t5 : exs Φ (nthS 5 k93_b_gaining_worths) e1 = some (.nx e2) := by
    have b : ev Φ (.call 56 (.cons (.var 0) .nil)) e1 = some (tpD (bstN ws n), e1) := ev_call (evl_cons (d := wD ws) rfl evl_nil) rfl rfl c4 rfl
    exact Eq.trans (asg_nm (ev_call (evl_cons (ix rfl rfl) (evl_cons b (evl_cons (d := nd u) rfl evl_nil))) rfl rfl (hW _) rfl) rfl) rfl
  have fnd := for_find2 (i := 5) (f := exs Φ (forS (nthS 6 k93_b_gaining_worths))) tpD (fun s t => A ++ [.sh (nd n), .sh (nd h), s, t]) (fun r => decide (h < hasN (ws.getD u []) (bstN (ws.set u r) n) u)) (fun s t => rfl) (rowsN most n) .un .un (.inl rfl) (.inl rfl) (fun r hr s t js jt => by
    obtain ⟨k1, k2⟩ := mem_rows.mp hr
    have w' := told_wk (u := u) w k1 (fun x hx => by have := k2 x hx; omega)
    have cb := (best_of_ok' w').on (hΦ 56 (by decide))
    refine ⟨rfl, .sh (tpD (bstN (ws.set u r) n)), jk.sh _, ?_⟩
    let e : Ev := A ++ [.sh (nd n), .sh (nd h), .sh (tpD r), .sh (tpD (bstN (ws.set u r) n))]
    have t1 : exs Φ (nthS 0 (forS (nthS 6 k93_b_gaining_worths))) (A ++ [.sh (nd n), .sh (nd h), .sh (tpD r), t]) = some (.nx e) := Eq.trans (asg_nm (ev_call (evl_cons (ev_told (Φ := Φ) (e := A ++ [.sh (nd n), .sh (nd h), .sh (tpD r), t]) (a := 0) (b := 1) (c := 5) (r := r) w hu rfl rfl rfl) evl_nil) rfl rfl cb rfl) (jt.put rfl)) rfl
    have te : ev Φ (.cmp .gt (.call 52 (.cons (.idx (.var 0) (.var 1)) (.cons (.var 6) (.cons (.var 1) .nil)))) (.var 4)) e = some (.bool (decide (h < hasN (ws.getD u []) (bstN (ws.set u r) n) u)), e) := ev_cmp' (opd_nv (by intro i q; cases q) (ev_call (evl_cons (ix rfl rfl) (evl_cons (d := tpD (bstN (ws.set u r) n)) rfl (evl_cons (d := nd u) rfl evl_nil))) rfl rfl (hW _) rfl)) rfl rfl rfl (gt_nn _ _)
    by_cases q : h < hasN (ws.getD u []) (bstN (ws.set u r) n) u
    · rw [decide_eq_true q] at te ⊢
      exact exs_nx t1 (exs_rt ((exs_ift (by intro i q; cases q) te).trans rfl))
    · rw [decide_eq_false q] at te ⊢
      exact exs_nx t1 (exs_nx ((exs_iff (by intro i q; cases q) te).trans rfl) rfl))
  have f : ev Φ (.call 42 (.cons (.var 2) (.cons (.var 3) .nil))) e2 = some (rsD (rowsN most n), e2) := ev_call (evl_cons (d := nd most) rfl (evl_cons (d := nd n) rfl evl_nil)) rfl rfl c5 rfl
  unfold gainW
  cases hf : (rowsN most n).find? fun r => decide (h < hasN (ws.getD u []) (bstN (ws.set u r) n) u) with
  | none =>
    rw [hf] at fnd
    obtain ⟨s', t', _, _, lp⟩ := fnd
    exact ⟨_, exs_nx t0 (exs_nx t1 (exs_nx t2 (exs_nx t3 (exs_nx t4 (exs_nx t5 (exs_nx ((exs_for (k := .walk) (b := .noe) f rfl rfl).trans lp) (exs_ret rfl))))))), by simp [A]⟩
  | some r =>
    rw [hf] at fnd
    obtain ⟨t', lp⟩ := fnd
    exact ⟨_, exs_nx t0 (exs_nx t1 (exs_nx t2 (exs_nx t3 (exs_nx t4 (exs_nx t5 (exs_rt ((exs_for (k := .walk) (b := .noe) f rfl rfl).trans lp))))))), by simp [A]⟩
end
end Iv
end
section
set_option Elab.async false
set_option linter.all false
set_option maxRecDepth 100000
set_option exponentiation.threshold 3000
set_option maxHeartbeats 4000000
namespace Iv
open PySem PySem.Spec L2
section
variable {ws : List (List Nat)} {n : Nat} {os : List Nat} {Φ : Fn} {P : List D}
/-- rows of drawn rows -/
theorem map_rows {M n : Nat} (ys : List D) (h : ∀ y ∈ ys, ∃ r : List Nat, (r.length = n ∧ ∀ x ∈ r, x ≤ M) ∧ y = tpD r) : ∃ rs : List (List Nat), ys = rs.map tpD ∧ ∀ r ∈ rs, r.length = n ∧ ∀ x ∈ r, x ≤ M := map_of tpD (fun r => r.length = n ∧ ∀ x ∈ r, x ≤ M) ys h
theorem tel_row (h1 : Φ 1 = T 1) (hP : Pot P) {size : Nat} (hz : size ≤ 20) (a1 a3 a4 a5 a6 a7 a8 a9 : Sl) :
    ∃ (r : List Nat) (P' : List D), ev Φ (.b1 .tup (.lc [("machine", 10)] (.nm 10) .rng (.var 2) .noe .noe (.call 1 (.cons (.mu 0) (.cons (.cst (.int 4)) .nil))))) [.own false P, a1, .sh (nd size), a3, a4, a5, a6, a7, a8, a9, .un] = some (tpD r, [.own false P', a1, .sh (nd size), a3, a4, a5, a6, a7, a8, a9, .un]) ∧ Pot P' ∧ r.length = size ∧ ∀ x ∈ r, x ≤ 3 := by
  obtain ⟨ys, z', g1, g2, g3, g4⟩ := lc_ex (own := [10]) (g := .nm 10) (c := lcT .noe (ev Φ .noe)) (f := ev Φ (.call 1 (.cons (.mu 0) (.cons (.cst (.int 4)) .nil))))
    nd (fun z : List D × Sl => [.own false z.1, a1, .sh (nd size), a3, a4, a5, a6, a7, a8, a9, z.2]) (fun z => Pot z.1) (fun y => ∃ x : Nat, x ≤ 3 ∧ y = nd x) (List.range size) (P, .un) [] hP (fun g hg z hz => by
      obtain ⟨d, P1, c1, d1, hP1⟩ := draw_ok hz 4 (by omega) (by omega)
      rw [← h1] at c1
      exact ⟨[.own false z.1, a1, .sh (nd size), a3, a4, a5, a6, a7, a8, a9, .sh (nd g)], nd d, (P1, .sh (nd g)), rfl, rfl, ev_draw (m := 4) rfl c1 (.cst (.int 4)) rfl (by intro i q; cases q), hP1, d, by omega, rfl⟩) (by rw [List.length_range]; exact sz (by simpa using (show size ≤ 100 by omega)))
  obtain ⟨r, rfl, h2⟩ := map_of nd (fun x => x ≤ 3) ys fun y hy => g4 y hy
  rw [List.length_map, List.length_range] at g3
  refine ⟨r, z'.1, ?_, g2, g3, h2⟩
  have e1 := ev_lc_go (Φ := Φ) (own := [("machine", 10)]) (k := .rng) (a := .var 2) (b := .noe) (x := nd size) (y := .none) (e := [.own false P, a1, .sh (nd size), a3, a4, a5, a6, a7, a8, a9, .un]) rfl rfl (walk_rng' (by omega)) g1
  exact ev_b1 (b := .tup) (by intro i q; cases q) e1 rfl
theorem tel_worths (h1 : Φ 1 = T 1) (hP : Pot P) {many size : Nat} (hm : many ≤ 20) (hz : size ≤ 20) (a3 : Sl) :
    ∃ (ws : List (List Nat)) (P' : List D), exs Φ (nthS 1 k93_b__law_telling_right) [.own false P, .sh (nd many), .sh (nd size), a3, .un, .un, .un, .un, .un, .un, .un] = some (.nx [.own false P', .sh (nd many), .sh (nd size), a3, .sh (wD ws), .un, .un, .un, .un, .un, .un]) ∧ Pot P' ∧ ws.length = many ∧ ∀ r ∈ ws, r.length = size ∧ ∀ x ∈ r, x ≤ 3 := by
  obtain ⟨ys, z', g1, g2, g3, g4⟩ := lc_ex (own := [5]) (g := .nm 5) (c := lcT .noe (ev Φ .noe)) (f := ev Φ (.b1 .tup (.lc [("machine", 10)] (.nm 10) .rng (.var 2) .noe .noe (.call 1 (.cons (.mu 0) (.cons (.cst (.int 4)) .nil))))))
    nd (fun z : List D × Sl => [.own false z.1, .sh (nd many), .sh (nd size), a3, .un, z.2, .un, .un, .un, .un, .un]) (fun z => Pot z.1) (fun y => ∃ r : List Nat, (r.length = size ∧ ∀ x ∈ r, x ≤ 3) ∧ y = tpD r) (List.range many) (P, .un) [] hP (fun g hg z hz' => by
      obtain ⟨r, P1, c1, hP1, l1, k1⟩ := tel_row h1 hz' hz (.sh (nd many)) a3 .un (.sh (nd g)) .un .un .un .un
      exact ⟨[.own false z.1, .sh (nd many), .sh (nd size), a3, .un, .sh (nd g), .un, .un, .un, .un, .un], tpD r, (P1, .sh (nd g)), rfl, rfl, c1, hP1, r, ⟨l1, k1⟩, rfl⟩) (by rw [List.length_range]; exact sz (by simpa using (show many ≤ 100 by omega)))
  obtain ⟨rs, rfl, h2⟩ := map_rows ys g4
  rw [List.length_map, List.length_range] at g3
  refine ⟨rs, z'.1, ?_, g2, g3, h2⟩
  have e1 := ev_lc_go (Φ := Φ) (own := [("user", 5)]) (k := .rng) (a := .var 1) (b := .noe) (x := nd many) (y := .none) (e := [.own false P, .sh (nd many), .sh (nd size), a3, .un, .un, .un, .un, .un, .un, .un]) rfl rfl (walk_rng' (by omega)) g1
  exact Eq.trans (asg_nm (ev_b1 (b := .tup) (by intro i q; cases q) e1 rfl) rfl) rfl
theorem telling_ok (hP : Pot P) {many : Nat} (hm1 : 1 ≤ many) (hm3 : many ≤ 3) : ∃ P', T 58 [.own false P, .sh (nd many)] = some (.bool true, [.own false P', .sh (nd many)]) ∧ Pot P' := by
  obtain ⟨Φ, hΦ, hT⟩ := tab_run (ds := k93_ds) (j := 58) (d := k93_d__law_telling_right) rfl
  have hΦ : ∀ i, i < 58 → Φ i = T i := hΦ
  obtain ⟨d1, P1, c1, a1, hP1⟩ := draw_ok hP 3 (by omega) (by omega)
  obtain ⟨d2, P2, c2, a2, hP2⟩ := draw_ok hP1 2 (by omega) (by omega)
  rw [← hΦ 1 (by decide)] at c1 c2
  obtain ⟨ws, P3, t1, hP3, lw, rw'⟩ := tel_worths (hΦ 1 (by decide)) hP2 (many := many) (size := 1 + d1) (by omega) (by omega) (.sh (nd (1 + d2)))
  have w : Wk ws (1 + d1) := ⟨by omega, by omega, by omega, by omega, fun r hr => (rw' r hr).1, fun r hr x hx => by have := (rw' r hr).2 x hx; omega⟩
  obtain ⟨u, P4, c3, a3, hP4⟩ := draw_ok hP3 (many : Int) (by omega) (by omega)
  rw [← hΦ 1 (by decide)] at c3
  have hu : u < ws.length := by omega
  let n := 1 + d1
  let most := 1 + d2
  have hN : (most + 1) ^ n ≤ 256 := by
    have h1 : (most + 1) ^ n ≤ 3 ^ n := Nat.pow_le_pow_left (by show 1 + d2 + 1 ≤ 3; omega) n
    have h2 : 3 ^ n ≤ 3 ^ 3 := Nat.pow_le_pow_right (by decide) (by show 1 + d1 ≤ 3; omega)
    have : (3 : Nat) ^ 3 = 27 := by decide
    omega
  refine ⟨P4, ?_, hP4⟩
  let R : List Sl := [.sh (nd many), .un, .un, .un, .un, .un, .un, .un, .un, .un]
  have e1 : ev Φ (.bin .add (.cst (.int 1)) (.call 1 (.cons (.mu 0) (.cons (.cst (.int 3)) .nil)))) (.own false P :: R) = some (nd (1 + d1), .own false P1 :: R) := ev_plus_draw (a := 1) (m := 3) (e1 := []) rfl c1 (.cst (.int 3)) rfl
  have e2 : ev Φ (.bin .add (.cst (.int 1)) (.call 1 (.cons (.mu 0) (.cons (.cst (.int 2)) .nil)))) (.own false P1 :: R) = some (nd (1 + d2), .own false P2 :: R) := ev_plus_draw (a := 1) (m := 2) (e1 := []) rfl c2 (.cst (.int 2)) rfl
  have t0 : exs Φ (nthS 0 k93_b__law_telling_right) (.own false P :: R) = some (.nx [.own false P2, .sh (nd many), .sh (nd n), .sh (nd most), .un, .un, .un, .un, .un, .un, .un]) := exs_asp (evl_cons e1 (evl_cons e2 evl_nil)) rfl
  have t2 : exs Φ (nthS 2 k93_b__law_telling_right) [.own false P3, .sh (nd many), .sh (nd n), .sh (nd most), .sh (wD ws), .un, .un, .un, .un, .un, .un] = some (.nx [.own false P4, .sh (nd many), .sh (nd n), .sh (nd most), .sh (wD ws), .sh (nd u), .sh .none, .un, .un, .un, .un]) := exs_asp (evl_cons (ev_draw (m := many) rfl c3 (.var 1) rfl (by intro i q; cases q)) (evl_cons (d := .none) rfl evl_nil)) rfl
  have cH : ∀ o, Φ 45 [.sh (wD ws), .sh (tpD o), .sh (nd u)] = some (nd (hasN (ws.getD u []) o u), [.sh (wD ws), .sh (tpD o), .sh (nd u)]) := fun o => (law_has_ok (os := o) w hu).on (hΦ 45 (by decide))
  have cB := (law_best_ok' w).on (hΦ 47 (by decide))
  let h := hasN (ws.getD u []) (bstN ws n) u
  have t3 : exs Φ (nthS 3 k93_b__law_telling_right) [.own false P4, .sh (nd many), .sh (nd n), .sh (nd most), .sh (wD ws), .sh (nd u), .sh .none, .un, .un, .un, .un] = some (.nx [.own false P4, .sh (nd many), .sh (nd n), .sh (nd most), .sh (wD ws), .sh (nd u), .sh .none, .sh (nd h), .un, .un, .un]) := by
    let e : Ev := [.own false P4, .sh (nd many), .sh (nd n), .sh (nd most), .sh (wD ws), .sh (nd u), .sh .none, .un, .un, .un, .un]
    have b : ev Φ (.call 47 (.cons (.var 4) .nil)) e = some (tpD (bstN ws n), e) := ev_call (evl_cons (d := wD ws) rfl evl_nil) rfl rfl cB rfl
    exact Eq.trans (asg_nm (ev_call (evl_cons (d := wD ws) rfl (evl_cons b (evl_cons (d := nd u) rfl evl_nil))) rfl rfl (cH _) rfl) rfl) rfl
  let pr : List Nat → Bool := fun r => decide (h < hasN (ws.getD u []) (bstN (ws.set u r) n) u)
  let env : Option (List Nat) → Sl → Sl → Ev := fun g s t => [.own false P4, .sh (nd many), .sh (nd n), .sh (nd most), .sh (wD ws), .sh (nd u), .sh (otD g), .sh (nd h), s, t, .un]
  obtain ⟨z, ⟨o1, o2, o3⟩, lp⟩ := for_ex (g := .nm 8) (f := exs Φ (forS (nthS 4 k93_b__law_telling_right))) tpD (fun z : Option (List Nat) × Sl × Sl => env z.1 z.2.1 z.2.2)
    (fun k z => z.1 = ((rowsN most n).take k).find? pr ∧ jk z.2.1 ∧ jk z.2.2) (rowsN most n) 0 (none, .un, .un) ⟨rfl, .inl rfl, .inl rfl⟩ (fun k r z hx ⟨q1, q2, q3⟩ => by
      have hr := List.mem_of_getElem? hx
      rw [Nat.zero_add] at *
      obtain ⟨k1, k2⟩ := mem_rows.mp hr
      have w' := told_wk (u := u) w k1 (fun x hx => by have : x ≤ 1 + d2 := k2 x hx; omega)
      have cb := (law_best_ok' w').on (hΦ 47 (by decide))
      have t1 : ∀ g, exs Φ (nthS 0 (forS (nthS 4 k93_b__law_telling_right))) (env g (.sh (tpD r)) z.2.2) = some (.nx (env g (.sh (tpD r)) (.sh (wD (ws.set u r))))) := fun g => Eq.trans (asg_nm (ev_told (Φ := Φ) (e := env g (.sh (tpD r)) z.2.2) (a := 4) (b := 5) (c := 8) (r := r) w hu rfl rfl rfl) (q3.put rfl)) rfl
      refine ⟨?_, env z.1 (.sh (tpD r)) z.2.2, (keep1 pr z.1 r, .sh (tpD r), .sh (wD (ws.set u r))), rfl, ?_, ?_, jk.sh _, jk.sh _⟩
      · show (putOk _ 8 && true) = true
        rw [q2.put rfl]
        rfl
      · have n0 : ∀ g, ev Φ (.cmp .is (.var 6) (.cst .none)) (env g (.sh (tpD r)) (.sh (wD (ws.set u r)))) = some (.bool g.isNone, env g (.sh (tpD r)) (.sh (wD (ws.set u r)))) := fun g => ev_cmp' rfl (opd_nv (by intro i q; cases q) rfl) rfl rfl (is_otD g)
        generalize z.1 = g
        refine exs_nx (t1 g) ?_
        cases g with
        | some y => exact exs_nx ((exs_iff (by intro i q; cases q) (evl_andf (n0 (some y)))).trans rfl) rfl
        | none =>
          let e : Ev := env none (.sh (tpD r)) (.sh (wD (ws.set u r)))
          have b : ev Φ (.call 47 (.cons (.var 9) .nil)) e = some (tpD (bstN (ws.set u r) n), e) := ev_call (evl_cons (d := wD (ws.set u r)) rfl evl_nil) rfl rfl cb rfl
          have n2 : ev Φ (.cmp .gt (.call 45 (.cons (.var 4) (.cons (.call 47 (.cons (.var 9) .nil)) (.cons (.var 5) .nil)))) (.var 7)) e = some (.bool (pr r), e) := ev_cmp' (opd_nv (by intro i q; cases q) (ev_call (evl_cons (d := wD ws) rfl (evl_cons b (evl_cons (d := nd u) rfl evl_nil))) rfl rfl (cH _) rfl)) rfl rfl rfl (gt_nn _ _)
          have take : exs Φ (.consB (.asg (.nm 6) (.var 8)) .nilB) e = some (.nx (env (some r) (.sh (tpD r)) (.sh (wD (ws.set u r))))) := exs_nx (Eq.trans (asg_nm (d := tpD r) rfl rfl) rfl) rfl
          have n3 := ev_andt (n0 none) n2
          unfold keep1
          cases hq : pr r with
          | true =>
            rw [hq] at n3
            exact exs_nx ((exs_ift (by intro i q; cases q) n3).trans take) rfl
          | false =>
            rw [hq] at n3
            exact exs_nx ((exs_iff (by intro i q; cases q) n3).trans rfl) rfl
      · have ft := find_take pr hx
        rw [← q1] at ft
        exact ft.symm)
  rw [Nat.zero_add, List.take_length] at o1
  have eg : z.1 = gainW ws n u most := o1
  have cR := (law_rows_ok (size := n) (most := most) (by show 1 + d2 ≤ 20; omega) (by show 1 + d1 ≤ 20; omega) (Nat.le_trans hN (by decide))).on (hΦ 39 (by decide))
  have cG := (gaining_w_ok w hu (most := most) (by show 1 ≤ 1 + d2; omega) (by show 1 + d2 ≤ 9; omega) hN).on (hΦ 57 (by decide))
  rw [← eg] at cG
  have t4 : exs Φ (nthS 4 k93_b__law_telling_right) (env none .un .un) = some (.nx (env z.1 z.2.1 z.2.2)) := by
    have f : ev Φ (.call 39 (.cons (.var 2) (.cons (.var 3) .nil))) (env none .un .un) = some (rsD (rowsN most n), env none .un .un) := ev_call (evl_cons (d := nd n) rfl (evl_cons (d := nd most) rfl evl_nil)) rfl rfl cR rfl
    exact (exs_for (k := .walk) (b := .noe) f rfl rfl).trans lp
  have R' : b1D .repr (.list [otD z.1, otD z.1]) = some (.str (PyData.list [otD z.1, otD z.1]).shown) := rep_ots fun r hr => by
    rw [eg] at hr
    have hm := List.mem_of_find?_eq_some hr
    obtain ⟨h1, h2⟩ := mem_rows.mp hm
    have h1 : r.length = 1 + d1 := h1
    exact ⟨by omega, fun x hx => by have : x ≤ 1 + d2 := h2 x hx; omega⟩
  refine gv3 hT rfl (e := env z.1 z.2.1 z.2.2) ?_ rfl
  refine exs_nx t0 (exs_nx t1 (exs_nx t2 (exs_nx t3 (exs_nx t4 (exs_ret ?_)))))
  have f1 : ev Φ (.call 57 (.cons (.var 4) (.cons (.var 5) (.cons (.var 3) .nil)))) (env z.1 z.2.1 z.2.2) = some (otD z.1, env z.1 z.2.1 z.2.2) := ev_call (evl_cons (d := wD ws) rfl (evl_cons (d := nd u) rfl (evl_cons (d := nd most) rfl evl_nil))) rfl rfl cG rfl
  have f2 : ev Φ (.calk 57 .nil (.cons (.var 3) (.cons (.var 5) (.cons (.var 4) .nil))) [2, 1, 0]) (env z.1 z.2.1 z.2.2) = some (otD z.1, env z.1 z.2.1 z.2.2) := ev_calk (ds := []) (es := [nd most, nd u, wD ws]) rfl (evl_cons rfl (evl_cons rfl (evl_cons rfl evl_nil))) rfl cG
  exact ev_eq_rep (by intro i q; cases q) (by intro i q; cases q) (ev_b1 (by intro i q; cases q) (ev_lst (evl_cons f1 (evl_cons f2 evl_nil)) z2) R') (ev_b1 (by intro i q; cases q) (ev_lst (evl_cons (d := otD z.1) rfl (evl_cons (d := otD z.1) rfl evl_nil)) z2) R')
end
end Iv
end
section
set_option Elab.async false
set_option linter.all false
set_option maxRecDepth 100000
set_option exponentiation.threshold 3000
set_option maxHeartbeats 4000000
namespace Iv
open PySem PySem.Spec L2
theorem shaped_tp (r : List Nat) : SeqAt.shaped (tpD r) = SeqAt.shaped (tpD r) := rfl
section
variable {ws : List (List Nat)} {n : Nat} {os : List Nat} {Φ : Fn} {P : List D}
theorem eq_tp (a b : List Nat) : eqD (tpD a) (tpD b) = some (decide (a = b)) := by
  have h : eqD (tpD a) (tpD b) = (if SeqAt.shaped (tpD a) && SeqAt.shaped (tpD b) then some (PyData.eqv (tpD a) (tpD b)) else none) := rfl
  have s : ∀ r : List Nat, SeqAt.shaped (tpD r) = true := fun r => by
    simp [tpD, SeqAt.shaped, PyData.canLay0, can_ix, PyData.depth, dep_ix]
  have h2 : PyData.eqv (tpD a) (tpD b) = PyData.eqvAll (a.map nd) (b.map nd) := by simp [tpD, PyData.eqv]
  rw [h, s, s, h2, eqv_ix]
  rfl
theorem mr_row (h1 : Φ 1 = T 1) (h2 : Φ 2 = T 2) (hP : Pot P) {size : Nat} (hz : size ≤ 20) (a1 a12 : Sl) :
    ∃ (r : List Nat) (P' : List D), ev Φ (.b1 .tup (.lc [("machine", 13)] (.nm 13) .rng (.var 2) .noe .noe (.call 1 (.cons (.mu 0) (.cons (.call 2 (.cons (.mu 0) (.cons (.lst (.cons (.cst (.int 2)) (.cons (.cst (.int 4)) (.cons (.cst (.int 10)) .nil)))) .nil))) .nil))))) [.own false P, a1, .sh (nd size), .un, .un, .un, .un, .un, .un, .un, .un, .un, a12, .un, .un, .un] = some (tpD r, [.own false P', a1, .sh (nd size), .un, .un, .un, .un, .un, .un, .un, .un, .un, a12, .un, .un, .un]) ∧ Pot P' ∧ r.length = size ∧ ∀ x ∈ r, x ≤ 9 := by
  obtain ⟨ys, z', g1, g2, g3, g4⟩ := lc_ex (own := [13]) (g := .nm 13) (c := lcT .noe (ev Φ .noe)) (f := ev Φ (.call 1 (.cons (.mu 0) (.cons (.call 2 (.cons (.mu 0) (.cons (.lst (.cons (.cst (.int 2)) (.cons (.cst (.int 4)) (.cons (.cst (.int 10)) .nil)))) .nil))) .nil))))
    nd (fun z : List D × Sl => [.own false z.1, a1, .sh (nd size), .un, .un, .un, .un, .un, .un, .un, .un, .un, a12, z.2, .un, .un]) (fun z => Pot z.1) (fun y => ∃ x : Nat, x ≤ 9 ∧ y = nd x) (List.range size) (P, .un) [] hP (fun g hg z hz' => by
      obtain ⟨x, P1, c1, hx, hP1⟩ := pick_ok hz' true [.int 2, .int 4, .int 10] (by simp) (by simp)
      have hx' : ∃ m : Nat, x = nd m ∧ 1 ≤ m ∧ m ≤ 10 := by
        simp only [List.mem_cons, List.not_mem_nil, or_false] at hx
        rcases hx with rfl | rfl | rfl
        · exact ⟨2, rfl, by decide, by decide⟩
        · exact ⟨4, rfl, by decide, by decide⟩
        · exact ⟨10, rfl, by decide, by decide⟩
      obtain ⟨m, rfl, m1, m10⟩ := hx'
      obtain ⟨d, P2, c2, d2, hP2⟩ := draw_ok hP1 (m : Int) (by omega) (by omega)
      rw [← h1] at c2
      rw [← h2] at c1
      let e : Ev := [.own false z.1, a1, .sh (nd size), .un, .un, .un, .un, .un, .un, .un, .un, .un, a12, .sh (nd g), .un, .un]
      let e1 : Ev := [.own false P1, a1, .sh (nd size), .un, .un, .un, .un, .un, .un, .un, .un, .un, a12, .sh (nd g), .un, .un]
      have f1 : ev Φ (.call 2 (.cons (.mu 0) (.cons (.lst (.cons (.cst (.int 2)) (.cons (.cst (.int 4)) (.cons (.cst (.int 10)) .nil)))) .nil))) e = some (nd m, e1) := ev_call (evl_cons (d := .none) rfl (evl_cons (ev_lst (evl_cons rfl (evl_cons rfl (evl_cons rfl evl_nil))) z3) evl_nil)) rfl rfl c1 rfl
      have f2 := ev_call (Φ := Φ) (j := 1) (e := e) (evl_cons (d := .none) (a := .mu 0) (e1 := e) rfl (evl_cons f1 evl_nil)) rfl rfl c2 rfl
      exact ⟨e, nd d, (P2, .sh (nd g)), rfl, rfl, f2, hP2, d, by omega, rfl⟩) (by rw [List.length_range]; exact sz (by simpa using (show size ≤ 100 by omega)))
  obtain ⟨r, rfl, h2⟩ := map_of nd (fun x => x ≤ 9) ys fun y hy => g4 y hy
  rw [List.length_map, List.length_range] at g3
  refine ⟨r, z'.1, ?_, g2, g3, h2⟩
  have e1 := ev_lc_go (Φ := Φ) (own := [("machine", 13)]) (k := .rng) (a := .var 2) (b := .noe) (x := nd size) (y := .none) (e := [.own false P, a1, .sh (nd size), .un, .un, .un, .un, .un, .un, .un, .un, .un, a12, .un, .un, .un]) rfl rfl (walk_rng' (by omega)) g1
  exact ev_b1 (b := .tup) (by intro i q; cases q) e1 rfl
theorem mr_worths (h1 : Φ 1 = T 1) (h2 : Φ 2 = T 2) (hP : Pot P) {many size : Nat} (hm : many ≤ 20) (hz : size ≤ 20) :
    ∃ (ws : List (List Nat)) (P' : List D), exs Φ (nthS 1 k93_b__law_machines_right) [.own false P, .sh (nd many), .sh (nd size), .un, .un, .un, .un, .un, .un, .un, .un, .un, .un, .un, .un, .un] = some (.nx [.own false P', .sh (nd many), .sh (nd size), .sh (wD ws), .un, .un, .un, .un, .un, .un, .un, .un, .un, .un, .un, .un]) ∧ Pot P' ∧ ws.length = many ∧ ∀ r ∈ ws, r.length = size ∧ ∀ x ∈ r, x ≤ 9 := by
  obtain ⟨ys, z', g1, g2, g3, g4⟩ := lc_ex (own := [12]) (g := .nm 12) (c := lcT .noe (ev Φ .noe)) (f := ev Φ (.b1 .tup (.lc [("machine", 13)] (.nm 13) .rng (.var 2) .noe .noe (.call 1 (.cons (.mu 0) (.cons (.call 2 (.cons (.mu 0) (.cons (.lst (.cons (.cst (.int 2)) (.cons (.cst (.int 4)) (.cons (.cst (.int 10)) .nil)))) .nil))) .nil))))))
    nd (fun z : List D × Sl => [.own false z.1, .sh (nd many), .sh (nd size), .un, .un, .un, .un, .un, .un, .un, .un, .un, z.2, .un, .un, .un]) (fun z => Pot z.1) (fun y => ∃ r : List Nat, (r.length = size ∧ ∀ x ∈ r, x ≤ 9) ∧ y = tpD r) (List.range many) (P, .un) [] hP (fun g hg z hz' => by
      obtain ⟨r, P1, c1, hP1, l1, k1⟩ := mr_row h1 h2 hz' hz (.sh (nd many)) (.sh (nd g))
      exact ⟨[.own false z.1, .sh (nd many), .sh (nd size), .un, .un, .un, .un, .un, .un, .un, .un, .un, .sh (nd g), .un, .un, .un], tpD r, (P1, .sh (nd g)), rfl, rfl, c1, hP1, r, ⟨l1, k1⟩, rfl⟩) (by rw [List.length_range]; exact sz (by simpa using (show many ≤ 100 by omega)))
  obtain ⟨rs, rfl, h2⟩ := map_rows ys g4
  rw [List.length_map, List.length_range] at g3
  refine ⟨rs, z'.1, ?_, g2, g3, h2⟩
  have e1 := ev_lc_go (Φ := Φ) (own := [("user", 12)]) (k := .rng) (a := .var 1) (b := .noe) (x := nd many) (y := .none) (e := [.own false P, .sh (nd many), .sh (nd size), .un, .un, .un, .un, .un, .un, .un, .un, .un, .un, .un, .un, .un]) rfl rfl (walk_rng' (by omega)) g1
  exact Eq.trans (asg_nm (ev_b1 (b := .tup) (by intro i q; cases q) e1 rfl) rfl) rfl
theorem mr_owners (h1 : Φ 1 = T 1) (hP : Pot P) {many size : Nat} (hm0 : 1 ≤ many) (hm : many ≤ 20) (hz : size ≤ 20) (a3 : Sl) :
    ∃ (os : List Nat) (P' : List D), exs Φ (nthS 2 k93_b__law_machines_right) [.own false P, .sh (nd many), .sh (nd size), a3, .un, .un, .un, .un, .un, .un, .un, .un, .un, .un, .un, .un] = some (.nx [.own false P', .sh (nd many), .sh (nd size), a3, .sh (tpD os), .un, .un, .un, .un, .un, .un, .un, .un, .un, .un, .un]) ∧ Pot P' ∧ os.length = size ∧ ∀ x ∈ os, x ≤ many - 1 := by
  obtain ⟨ys, z', g1, g2, g3, g4⟩ := lc_ex (own := [13]) (g := .nm 13) (c := lcT .noe (ev Φ .noe)) (f := ev Φ (.call 1 (.cons (.mu 0) (.cons (.var 1) .nil))))
    nd (fun z : List D × Sl => [.own false z.1, .sh (nd many), .sh (nd size), a3, .un, .un, .un, .un, .un, .un, .un, .un, .un, z.2, .un, .un]) (fun z => Pot z.1) (fun y => ∃ x : Nat, x ≤ many - 1 ∧ y = nd x) (List.range size) (P, .un) [] hP (fun g hg z hz => by
      obtain ⟨d, P1, c1, d1, hP1⟩ := draw_ok hz (many : Int) (by omega) (by omega)
      rw [← h1] at c1
      exact ⟨[.own false z.1, .sh (nd many), .sh (nd size), a3, .un, .un, .un, .un, .un, .un, .un, .un, .un, .sh (nd g), .un, .un], nd d, (P1, .sh (nd g)), rfl, rfl, ev_draw (m := many) rfl c1 (.var 1) rfl (by intro i q; cases q), hP1, d, by omega, rfl⟩) (by rw [List.length_range]; exact sz (by simpa using (show size ≤ 100 by omega)))
  obtain ⟨r, rfl, h2⟩ := map_of nd (fun x => x ≤ many - 1) ys fun y hy => g4 y hy
  rw [List.length_map, List.length_range] at g3
  refine ⟨r, z'.1, ?_, g2, g3, h2⟩
  have e1 := ev_lc_go (Φ := Φ) (own := [("machine", 13)]) (k := .rng) (a := .var 2) (b := .noe) (x := nd size) (y := .none) (e := [.own false P, .sh (nd many), .sh (nd size), a3, .un, .un, .un, .un, .un, .un, .un, .un, .un, .un, .un, .un]) rfl rfl (walk_rng' (by omega)) g1
  exact Eq.trans (asg_nm (ev_b1 (b := .tup) (by intro i q; cases q) e1 rfl) rfl) rfl
abbrev M16 (P : List D) (many n : Nat) (ws : List (List Nat)) (os bs : List Nat) (a b : Nat) (s8 s9 s10 s11 : Sl) : Ev := [.own false P, .sh (nd many), .sh (nd n), .sh (wD ws), .sh (tpD os), .sh (tpD bs), .sh (nd a), .sh (nd b), s8, s9, s10, s11, .un, .un, .un, .un]
def mrB : Sm := forS (nthS 6 k93_b__law_machines_right)
theorem rep_n3 {x y z : Nat} (hx : x < 2 ^ 40) (hy : y < 2 ^ 40) (hz : z < 2 ^ 40) : b1D .repr (ixD [x, y, z]) = some (.str (ixD [x, y, z]).shown) := rep_ix (by simp) (fun n hn => by
  simp only [List.mem_cons, List.not_mem_nil, or_false] at hn
  rcases hn with rfl | rfl | rfl <;> assumption)
theorem env_small (w : Wk ws n) {a b : Nat} (ha : a < ws.length) : machEnv ws os a b < 2 ^ 40 := by
  have h1 : machEnv ws os a b ≤ hasN (ws.getD a []) os b := Nat.sub_le _ _
  have h2 := hasN_le (os := os) (u := b) (w.at ha).2
  have h3 := (w.at ha).1
  have h4 := w.n4
  rw [h3] at h2
  omega
theorem has_small (w : Wk ws n) {a b : Nat} (ha : a < ws.length) : hasN (ws.getD a []) os b < 2 ^ 40 := by
  have h2 := hasN_le (os := os) (u := b) (w.at ha).2
  have h3 := (w.at ha).1
  have h4 := w.n4
  rw [h3] at h2
  omega
theorem mr_turn (hΦ : ∀ i, i < 67 → Φ i = T i) (w : Wk ws n) {o : List Nat} (ho : Ow ws n o) {many a b : Nat} (ha : a < ws.length) (hb : b < ws.length) (s9 s10 s11 : Sl) (j9 : jk s9) (j10 : jk s10) (j11 : jk s11) :
    ∃ s9' s10' s11', jk s9' ∧ jk s10' ∧ jk s11' ∧ exs Φ mrB (M16 P many n ws os (bstN ws n) a b (.sh (tpD o)) s9 s10 s11) = some (.nx (M16 P many n ws os (bstN ws n) a b (.sh (tpD o)) s9' s10' s11')) := by
  let L := ownW (ws.getD a []) o b
  let e0 := M16 P many n ws os (bstN ws n) a b (.sh (tpD o)) s9 s10 s11
  let e1 := M16 P many n ws os (bstN ws n) a b (.sh (tpD o)) (.sh (ixD L)) s10 s11
  let e2 := M16 P many n ws os (bstN ws n) a b (.sh (tpD o)) (.sh (ixD L)) (.sh (nd (machEnv ws o a b))) s11
  let V := [machEnv ws o a b, hasN (ws.getD a []) o a, hasN (ws.getD b []) o b]
  let e3 := M16 P many n ws os (bstN ws n) a b (.sh (tpD o)) (.sh (ixD L)) (.sh (nd (machEnv ws o a b))) (.sh (ixD V))
  have i0 : ev Φ (.idx (.var 3) (.var 6)) e0 = some (tpD (ws.getD a []), e0) := ev_idxv rfl rfl (row_at ha)
  have f1 : ev Φ (.lc [("worth", 14), ("owner", 15)] (.tp [14, 15]) .zip (.idx (.var 3) (.var 6)) (.var 8) (.cmp .eq (.var 15) (.var 7)) (.var 14)) e0 = some (ixD L, e0) := by
    refine (ev_lcP pr2 (fun p => decide (p.2 = b)) (fun p => nd p.1) ((ws.getD a []).zip o) i0 rfl (walk_zip _ o) (fun p hp => ?_) (sz (by have := (w.at ha).1; have := w.n4; rw [List.length_zip]; omega))).trans ?_
    · exact ⟨[.own false P, .sh (nd many), .sh (nd n), .sh (wD ws), .sh (tpD os), .sh (tpD (bstN ws n)), .sh (nd a), .sh (nd b), .sh (tpD o), s9, s10, s11, .un, .un, .sh (nd p.1), .sh (nd p.2)], rfl, lcT_bool (by intro i q; cases q) (by intro q; cases q) (ev_cmp' rfl rfl rfl rfl (eq_nd _ _)), fun _ => rfl, rfl⟩
    · show _ = some (PyData.list ((((((ws.getD a []).zip o).filter fun p => decide (p.2 = b)).map (·.1))).map nd), e0)
      rw [List.map_map]
      rfl
  have t0 : exs Φ (nthS 0 mrB) e0 = some (.nx e1) := Eq.trans (asg_nm f1 (j9.put rfl)) rfl
  have f2 := ev_envy (Φ := Φ) (e := e1) (i := 9) L rfl
  have t1 : exs Φ (nthS 1 mrB) e1 = some (.nx e2) := Eq.trans (asg_nm f2 (j10.put rfl)) rfl
  have cH : ∀ o' u, u < ws.length → Φ 45 [.sh (wD ws), .sh (tpD o'), .sh (nd u)] = some (nd (hasN (ws.getD u []) o' u), [.sh (wD ws), .sh (tpD o'), .sh (nd u)]) := fun o' u hu => (law_has_ok (os := o') w hu).on (hΦ 45 (by decide))
  have g1 : ev Φ (.cmp .eq (.var 8) (.var 5)) e2 = some (.bool (decide (o = bstN ws n)), e2) := ev_cmp' rfl rfl rfl rfl (eq_tp _ _)
  have g2 : ev Φ (.cmp .gt (.var 10) (.call 45 (.cons (.var 3) (.cons (.var 5) (.cons (.var 6) .nil))))) e2 = some (.bool (decide (hasN (ws.getD a []) (bstN ws n) a < machEnv ws o a b)), e2) := ev_cmp' rfl (opd_nv (by intro i q; cases q) (ev_call (evl_cons (d := wD ws) rfl (evl_cons (d := tpD (bstN ws n)) rfl (evl_cons (d := nd a) rfl evl_nil))) rfl rfl (cH _ a ha) rfl)) rfl rfl (gt_nn _ _)
  have g3 := evl_and g1 g2 rfl
  have eb : (decide (o = bstN ws n) && decide (hasN (ws.getD a []) (bstN ws n) a < machEnv ws o a b)) = false := by
    by_cases q : o = bstN ws n
    · have := no_machine_envy w.wo (bst_eq w) ha hb
      rw [q, decide_eq_false (show ¬ (hasN (ws.getD a []) (bstN ws n) a < machEnv ws (bstN ws n) a b) by omega), Bool.and_false]
    · rw [decide_eq_false q, Bool.false_and]
  rw [eb] at g3
  have t2 : exs Φ (nthS 2 mrB) e2 = some (.nx e2) := (exs_iff (by intro i q; cases q) g3).trans rfl
  have c63 := (machine_envy_ok w ho ha hb).on (hΦ 63 (by decide))
  have c64 := (has_ok w ho ha).on (hΦ 64 (by decide))
  have c64' := (has_ok w ho hb).on (hΦ 64 (by decide))
  have h1 : ev Φ (.call 63 (.cons (.var 3) (.cons (.var 8) (.cons (.var 6) (.cons (.var 7) .nil))))) e2 = some (nd (machEnv ws o a b), e2) := ev_call (evl_cons (d := wD ws) rfl (evl_cons (d := tpD o) rfl (evl_cons (d := nd a) rfl (evl_cons (d := nd b) rfl evl_nil)))) rfl rfl c63 rfl
  have h2 : ev Φ (.call 64 (.cons (.var 3) (.cons (.var 8) (.cons (.var 6) .nil)))) e2 = some (nd (hasN (ws.getD a []) o a), e2) := ev_call (evl_cons (d := wD ws) rfl (evl_cons (d := tpD o) rfl (evl_cons (d := nd a) rfl evl_nil))) rfl rfl c64 rfl
  have h3 : ev Φ (.calk 64 .nil (.cons (.var 7) (.cons (.var 8) (.cons (.var 3) .nil))) [2, 1, 0]) e2 = some (nd (hasN (ws.getD b []) o b), e2) := ev_calk (ds := []) (es := [nd b, tpD o, wD ws]) rfl (evl_cons rfl (evl_cons rfl (evl_cons rfl evl_nil))) rfl c64'
  have t3 : exs Φ (nthS 3 mrB) e2 = some (.nx e3) := Eq.trans (asg_nm (ev_lst (evl_cons h1 (evl_cons h2 (evl_cons h3 evl_nil))) z3) (j11.put rfl)) rfl
  have k1 : ev Φ (.call 45 (.cons (.var 3) (.cons (.var 8) (.cons (.var 6) .nil)))) e3 = some (nd (hasN (ws.getD a []) o a), e3) := ev_call (evl_cons (d := wD ws) rfl (evl_cons (d := tpD o) rfl (evl_cons (d := nd a) rfl evl_nil))) rfl rfl (cH o a ha) rfl
  have k2 : ev Φ (.call 45 (.cons (.var 3) (.cons (.var 8) (.cons (.var 7) .nil)))) e3 = some (nd (hasN (ws.getD b []) o b), e3) := ev_call (evl_cons (d := wD ws) rfl (evl_cons (d := tpD o) rfl (evl_cons (d := nd b) rfl evl_nil))) rfl rfl (cH o b hb) rfl
  have R := rep_n3 (env_small (os := o) (b := b) w ha) (has_small (os := o) (b := a) w ha) (has_small (os := o) (b := b) w hb)
  have m1 := ev_ne_rep (Φ := Φ) (a := .b1 .repr (.var 11)) (by intro i q; cases q) (by intro i q; cases q) (ev_b1v (i := 11) (e := e3) rfl R) (ev_b1 (by intro i q; cases q) (ev_lst (evl_cons (d := nd (machEnv ws o a b)) (a := .var 10) rfl (evl_cons k1 (evl_cons k2 evl_nil))) z3) R)
  have t4 : exs Φ (nthS 4 mrB) e3 = some (.nx e3) := (exs_iff (by intro i q; cases q) m1).trans rfl
  exact ⟨.sh (ixD L), .sh (nd (machEnv ws o a b)), .sh (ixD V), jk.sh _, jk.sh _, jk.sh _, exs_nx t0 (exs_nx t1 (exs_nx t2 (exs_nx t3 (exs_nx t4 rfl))))⟩
end
end Iv
end
section
set_option Elab.async false
set_option linter.all false
set_option maxRecDepth 100000
set_option exponentiation.threshold 3000
set_option maxHeartbeats 4000000
namespace Iv
open PySem PySem.Spec L2
section
variable {ws : List (List Nat)} {n : Nat} {os : List Nat} {Φ : Fn} {P : List D}
theorem rep_ot {g : Option (List Nat)} (h : ∀ r, g = some r → r.length ≤ 4 ∧ ∀ n ∈ r, n ≤ 9999) : b1D .repr (otD g) = some (.str (otD g).shown) := (rp_ot h).repr (by decide) (z_of (by decide))
theorem bet_none (w : Wk ws n) : betF ws n (bstN ws n) = none := by
  unfold betF
  refine List.find?_eq_none.mpr fun x hx => ?_
  rw [no_better w.wo (bst_eq w) hx]
  decide
theorem bet_small (w : Wk ws n) : ∀ r, betF ws n os = some r → r.length ≤ 4 ∧ ∀ x ∈ r, x ≤ 9999 := fun r hr => by
  have hm := List.mem_of_find?_eq_some hr
  obtain ⟨h1, h2⟩ := mem_rows.mp hm
  have := w.n4
  have := w.l3
  exact ⟨by omega, fun x hx => by have := h2 x hx; omega⟩
theorem mr_loop (hΦ : ∀ i, i < 67 → Φ i = T i) (w : Wk ws n) (ho : Ow ws n os) {many a b : Nat} (ha : a < ws.length) (hb : b < ws.length) :
    ∃ s8 s9 s10 s11, exs Φ (nthS 6 k93_b__law_machines_right) (M16 P many n ws os (bstN ws n) a b .un .un .un .un) = some (.nx (M16 P many n ws os (bstN ws n) a b s8 s9 s10 s11)) := by
  obtain ⟨z, ⟨o1, o2, o3, o4⟩, lp⟩ := for_ex (g := .nm 8) (f := exs Φ mrB) tpD (fun z : Sl × Sl × Sl × Sl => M16 P many n ws os (bstN ws n) a b z.1 z.2.1 z.2.2.1 z.2.2.2)
    (fun k z => jk z.1 ∧ jk z.2.1 ∧ jk z.2.2.1 ∧ jk z.2.2.2) [bstN ws n, os] 0 (.un, .un, .un, .un) ⟨.inl rfl, .inl rfl, .inl rfl, .inl rfl⟩ (fun i x z hx ⟨q1, q2, q3, q4⟩ => by
      have hm := List.mem_of_getElem? hx
      have hx' : Ow ws n x := by
        simp only [List.mem_cons, List.not_mem_nil, or_false] at hm
        rcases hm with rfl | rfl
        · exact bst_ow w
        · exact ho
      obtain ⟨s9', s10', s11', j9, j10, j11, t⟩ := mr_turn (P := P) (many := many) (os := os) hΦ w hx' ha hb z.2.1 z.2.2.1 z.2.2.2 q2 q3 q4
      refine ⟨?_, M16 P many n ws os (bstN ws n) a b (.sh (tpD x)) z.2.1 z.2.2.1 z.2.2.2, (.sh (tpD x), s9', s10', s11'), rfl, t, jk.sh _, j9, j10, j11⟩
      show (putOk _ 8 && true) = true
      rw [q1.put rfl]
      rfl)
  have f : ev Φ (.lst (.cons (.var 5) (.cons (.var 4) .nil))) (M16 P many n ws os (bstN ws n) a b .un .un .un .un) = some (.list ([bstN ws n, os].map tpD), M16 P many n ws os (bstN ws n) a b .un .un .un .un) := ev_lst (evl_cons (d := tpD (bstN ws n)) rfl (evl_cons (d := tpD os) rfl evl_nil)) z2
  exact ⟨z.1, z.2.1, z.2.2.1, z.2.2.2, (exs_for (k := .walk) (b := .noe) f rfl rfl).trans lp⟩
theorem machines_ok (hP : Pot P) : ∃ P', T 67 [.own false P] = some (.bool true, [.own false P']) ∧ Pot P' := by
  obtain ⟨Φ, hΦ, hT⟩ := tab_run (ds := k93_ds) (j := 67) (d := k93_d__law_machines_right) rfl
  have hΦ : ∀ i, i < 67 → Φ i = T i := hΦ
  have H1 := hΦ 1 (by decide)
  have H2 := hΦ 2 (by decide)
  obtain ⟨d1, P1, c1, a1, hP1⟩ := draw_ok hP 3 (by omega) (by omega)
  obtain ⟨d2, P2, c2, a2, hP2⟩ := draw_ok hP1 4 (by omega) (by omega)
  rw [← H1] at c1 c2
  let many := 1 + d1
  let n := 1 + d2
  obtain ⟨ws, P3, t1, hP3, lw, kw⟩ := mr_worths H1 H2 hP2 (many := many) (size := n) (by show 1 + d1 ≤ 20; omega) (by show 1 + d2 ≤ 20; omega)
  have lw' : ws.length = 1 + d1 := lw
  have w : Wk ws n := ⟨by omega, by omega, by show 1 ≤ 1 + d2; omega, by show 1 + d2 ≤ 4; omega, fun r hr => (kw r hr).1, fun r hr => (kw r hr).2⟩
  obtain ⟨os, P4, t2, hP4, lo, ko⟩ := mr_owners H1 hP3 (many := many) (size := n) (by show 1 ≤ 1 + d1; omega) (by show 1 + d1 ≤ 20; omega) (by show 1 + d2 ≤ 20; omega) (.sh (wD ws))
  have o : Ow ws n os := ⟨lo, fun x hx => by rw [lw]; exact ko x hx⟩
  obtain ⟨a, P5, c5, a5, hP5⟩ := draw_ok hP4 (many : Int) (by omega) (by omega)
  obtain ⟨b, P6, c6, a6, hP6⟩ := draw_ok hP5 (many : Int) (by omega) (by omega)
  rw [← H1] at c5 c6
  have ha : a < ws.length := by omega
  have hb : b < ws.length := by omega
  obtain ⟨P7, c7, hP7⟩ := telling_ok hP6 (many := many) (by show 1 ≤ 1 + d1; omega) (by show 1 + d1 ≤ 3; omega)
  rw [← hΦ 58 (by decide)] at c7
  refine ⟨P7, ?_, hP7⟩
  let R : List Sl := [.un, .un, .un, .un, .un, .un, .un, .un, .un, .un, .un, .un, .un, .un, .un]
  have e1 : ev Φ (.bin .add (.cst (.int 1)) (.call 1 (.cons (.mu 0) (.cons (.cst (.int 3)) .nil)))) (.own false P :: R) = some (nd (1 + d1), .own false P1 :: R) := ev_plus_draw (a := 1) (m := 3) (e1 := []) rfl c1 (.cst (.int 3)) rfl
  have e2 : ev Φ (.bin .add (.cst (.int 1)) (.call 1 (.cons (.mu 0) (.cons (.cst (.int 4)) .nil)))) (.own false P1 :: R) = some (nd (1 + d2), .own false P2 :: R) := ev_plus_draw (a := 1) (m := 4) (e1 := []) rfl c2 (.cst (.int 4)) rfl
  have t0 : exs Φ (nthS 0 k93_b__law_machines_right) (.own false P :: R) = some (.nx [.own false P2, .sh (nd many), .sh (nd n), .un, .un, .un, .un, .un, .un, .un, .un, .un, .un, .un, .un, .un]) := exs_asp (evl_cons e1 (evl_cons e2 evl_nil)) rfl
  have cB := (law_best_ok' w).on (hΦ 47 (by decide))
  let bs := bstN ws n
  have t3 : exs Φ (nthS 3 k93_b__law_machines_right) [.own false P4, .sh (nd many), .sh (nd n), .sh (wD ws), .sh (tpD os), .un, .un, .un, .un, .un, .un, .un, .un, .un, .un, .un] = some (.nx (M16 P6 many n ws os bs a b .un .un .un .un)) := by
    have f1 : ev Φ (.call 47 (.cons (.var 3) .nil)) [.own false P4, .sh (nd many), .sh (nd n), .sh (wD ws), .sh (tpD os), .un, .un, .un, .un, .un, .un, .un, .un, .un, .un, .un] = some (tpD bs, [.own false P4, .sh (nd many), .sh (nd n), .sh (wD ws), .sh (tpD os), .un, .un, .un, .un, .un, .un, .un, .un, .un, .un, .un]) := ev_call (evl_cons (d := wD ws) rfl evl_nil) rfl rfl cB rfl
    exact exs_asp (evl_cons f1 (evl_cons (ev_draw (m := many) rfl c5 (.var 1) rfl (by intro i q; cases q)) (evl_cons (ev_draw (m := many) rfl c6 (.var 1) rfl (by intro i q; cases q)) evl_nil))) rfl
  let e := M16 P6 many n ws os bs a b .un .un .un .un
  have c65 := (best_owners_ok w).on (hΦ 65 (by decide))
  rw [bst_eq w] at c65
  have c61 := (better_ok w (bst_ow w)).on (hΦ 61 (by decide))
  rw [bet_none w] at c61
  have c61' := (better_ok w o).on (hΦ 61 (by decide))
  have c62 := (law_better_ok w o).on (hΦ 62 (by decide))
  have hbs := bst_ow w
  have Rb : b1D .repr (tpD bs) = some (.str (tpD bs).shown) := rep_ot (g := some bs) fun r hr => by
    cases hr
    have h1 : bs.length = n := hbs.len
    have := w.n4
    have := w.l3
    exact ⟨by omega, fun x hx => by have := hbs.le x hx; omega⟩
  have Rt := rep_ot (bet_small (os := os) w)
  have t4 : exs Φ (nthS 4 k93_b__law_machines_right) e = some (.nx e) := by
    have g1 : ev Φ (.call 65 (.cons (.var 3) .nil)) e = some (tpD bs, e) := ev_call (evl_cons (d := wD ws) rfl evl_nil) rfl rfl c65 rfl
    have g2 := ev_ne_rep (by intro i q; cases q) (by intro i q; cases q) (ev_b1 (b := .repr) (by intro i q; cases q) g1 Rb) (ev_b1v (Φ := Φ) (b := .repr) (i := 5) (e := e) rfl Rb)
    have g3 : ev Φ (.call 61 (.cons (.var 3) (.cons (.var 5) .nil))) e = some (.none, e) := ev_call (evl_cons (d := wD ws) rfl (evl_cons (d := tpD bs) rfl evl_nil)) rfl rfl c61 rfl
    have g4 : ev Φ (.cmp .isn (.call 61 (.cons (.var 3) (.cons (.var 5) .nil))) (.cst .none)) e = some (.bool false, e) := ev_cmp' (opd_nv (by intro i q; cases q) g3) (opd_nv (by intro i q; cases q) rfl) rfl rfl rfl
    exact (exs_iff (by intro i q; cases q) (evl_or g2 g4)).trans rfl
  have t5 : exs Φ (nthS 5 k93_b__law_machines_right) e = some (.nx e) := by
    have g1 : ev Φ (.calk 61 .nil (.cons (.var 4) (.cons (.var 3) .nil)) [1, 0]) e = some (otD (betF ws n os), e) := ev_calk (ds := []) (es := [tpD os, wD ws]) rfl (evl_cons rfl (evl_cons rfl evl_nil)) rfl c61'
    have g2 : ev Φ (.call 62 (.cons (.var 3) (.cons (.var 4) .nil))) e = some (otD (betF ws n os), e) := ev_call (evl_cons (d := wD ws) rfl (evl_cons (d := tpD os) rfl evl_nil)) rfl rfl c62 rfl
    exact (exs_iff (by intro i q; cases q) (ev_ne_rep (by intro i q; cases q) (by intro i q; cases q) (ev_b1 (b := .repr) (by intro i q; cases q) g1 Rt) (ev_b1 (b := .repr) (by intro i q; cases q) g2 Rt))).trans rfl
  obtain ⟨s8, s9, s10, s11, t6⟩ := mr_loop (P := P6) (many := many) hΦ w o ha hb
  refine gv3 hT rfl (e := M16 P7 many n ws os bs a b s8 s9 s10 s11) ?_ rfl
  refine exs_nx t0 (exs_nx t1 (exs_nx t2 (exs_nx t3 (exs_nx t4 (exs_nx t5 (exs_nx t6 (exs_ret ?_)))))))
  let e' := M16 P6 many n ws os bs a b s8 s9 s10 s11
  have c49 := (are_worths_ok w).on (hΦ 49 (by decide))
  have c66 := (are_owners_ok w o).on (hΦ 66 (by decide))
  have k1 : ev Φ (.call 49 (.cons (.var 3) .nil)) e' = some (.bool true, e') := ev_call (evl_cons (d := wD ws) rfl evl_nil) rfl rfl c49 rfl
  have k2 : ev Φ (.call 66 (.cons (.var 3) (.cons (.var 4) .nil))) e' = some (.bool true, e') := ev_call (evl_cons (d := wD ws) rfl (evl_cons (d := tpD os) rfl evl_nil)) rfl rfl c66 rfl
  have k3 : ev Φ (.lst (.cons (.call 49 (.cons (.var 3) .nil)) (.cons (.call 66 (.cons (.var 3) (.cons (.var 4) .nil))) .nil))) e' = some (.list [.bool true, .bool true], e') := ev_lst (evl_cons k1 (evl_cons k2 evl_nil)) z2
  have k4 : ev Φ (.lst (.cons (.cst (.bool true)) (.cons (.cst (.bool true)) .nil))) e' = some (.list [.bool true, .bool true], e') := ev_lst (evl_cons rfl (evl_cons rfl evl_nil)) z2
  have k5 : cmpD .eq (.list [.bool true, .bool true]) (.list [.bool true, .bool true]) = some true := by
    show (if SeqAt.shaped (.list [.bool true, .bool true]) && SeqAt.shaped (.list [.bool true, .bool true]) then some (PyData.eqv (.list [.bool true, .bool true]) (.list [.bool true, .bool true])) else none) = _
    have s : SeqAt.shaped (.list [.bool true, .bool true]) = true := by simp [SeqAt.shaped, PyData.canLay0, PyData.canLayAll0, PyData.depth, PyData.depthAll]
    have q : PyData.eqv (.list [.bool true, .bool true]) (.list [.bool true, .bool true]) = true := by simp [PyData.eqv, PyData.eqvAll]
    rw [s, q]
    rfl
  have k6 := ev_cmp' (Φ := Φ) (o := .eq) (opd_nv (by intro i q; cases q) k3) (opd_nv (by intro i q; cases q) k4) rfl rfl k5
  have k7 : ev Φ (.call 58 (.cons (.mu 0) (.cons (.var 1) .nil))) e' = some (.bool true, M16 P7 many n ws os bs a b s8 s9 s10 s11) := ev_call (evl_cons (d := .none) rfl (evl_cons (d := nd many) rfl evl_nil)) rfl rfl c7 rfl
  exact ev_andt k6 k7
theorem ev_cf {j : Nat} {a : Ex} {e e1 : Ev} {ds : List D} {d : D} {os : List Sl} (h : ev Φ a e = some (.list ds, e1)) (h2 : Φ j [.own false ds] = some (d, os)) : ev Φ (.cf j a) e = some (d, e1) := by
  rw [ev]
  simp only [h, h2, Option.map_some]
theorem k93_good (ns : List Int) : ∃ os, tab (dfs k93_ds) 68 [.sh (intsD ns)] = some (.bool true, os) := by
  obtain ⟨Φ, hΦ, hT⟩ := tab_run (ds := k93_ds) (j := 68) (d := k93_d_law) rfl
  have hΦ : ∀ i, i < 68 → Φ i = T i := hΦ
  obtain ⟨P, c0, hP⟩ := pot_ok ns 0 (by decide)
  obtain ⟨Q, c0', hQ⟩ := pot_ok ns 1 (by decide)
  obtain ⟨P1, c1, hP1⟩ := pieces_right_ok hP
  obtain ⟨P2, c2, hP2⟩ := gains_right_ok hP1
  obtain ⟨Q1, c3, hQ1⟩ := machines_ok hQ
  rw [← hΦ 0 (by decide)] at c0 c0'
  rw [← hΦ 38 (by decide)] at c1
  rw [← hΦ 44 (by decide)] at c2
  rw [← hΦ 67 (by decide)] at c3
  refine ⟨_, gv3 hT rfl (e := [.sh (intsD ns), .own true P2]) ?_ rfl⟩
  have f0 : ev Φ (.call 0 (.cons (.var 0) (.cons (.cst (.int 0)) .nil))) [.sh (intsD ns), .un] = some (.list P, [.sh (intsD ns), .un]) := ev_call (evl_cons (d := intsD ns) rfl (evl_cons (d := .int 0) rfl evl_nil)) rfl rfl c0 rfl
  have t0 : exs Φ (nthS 0 k93_b_law) [.sh (intsD ns), .un] = some (.nx [.sh (intsD ns), .own true P]) := Eq.trans (exs_aso (ev_fr f0) rfl) rfl
  have f1 : ev Φ (.call 38 (.cons (.mu 1) .nil)) [.sh (intsD ns), .own true P] = some (.bool true, [.sh (intsD ns), .own true P1]) := ev_call (evl_cons (d := .none) rfl evl_nil) rfl rfl c1 rfl
  have f2 : ev Φ (.call 44 (.cons (.mu 1) .nil)) [.sh (intsD ns), .own true P1] = some (.bool true, [.sh (intsD ns), .own true P2]) := ev_call (evl_cons (d := .none) rfl evl_nil) rfl rfl c2 rfl
  have f3 : ev Φ (.call 0 (.cons (.var 0) (.cons (.cst (.int 1)) .nil))) [.sh (intsD ns), .own true P2] = some (.list Q, [.sh (intsD ns), .own true P2]) := ev_call (evl_cons (d := intsD ns) rfl (evl_cons (d := .int 1) rfl evl_nil)) rfl rfl c0' rfl
  exact exs_nx t0 (exs_ret (ev_andt f1 (ev_andt f2 (ev_cf f3 c3))))
end
end Iv
end
section
set_option Elab.async false
set_option linter.all false
set_option maxRecDepth 100000
set_option maxHeartbeats 2000000
/-! The head: what the top leaves, read by a Hook; the end of a row. -/
namespace Iv
open PySem PySem.Spec PyProof.Rows L2
/-! ### a global that is data -/
mutual
def rdB (K : PySem.W.Frag) : D → Value → Bool
  | .none, .none => true
  | .bool a, .bool b => a == b
  | .int i, .int j _ => decide (j = i)
  | .str x, .str y _ => decide (y = x)
  | .tuple ds, .ref a => (match K.lookup a with
    | some ⟨.type c, _, .seq its _, _⟩ => decide (c = "tuple") && (decide (its.size ≤ sizeLine) && rdsB K ds its.toList)
    | _ => false)
  | _, _ => false
def rdsB (K : PySem.W.Frag) : List D → List Value → Bool
  | [], [] => true
  | d :: ds, u :: us => rdB K d u && rdsB K ds us
  | _, _ => false
end
mutual
theorem rdB_ok {K : PySem.W.Frag} : ∀ {d : D} {u : Value}, rdB K d u = true → ∃ v, RelV v u ∧ Dp K (fun _ => none) v d
  | .none, u, h => by
    cases u <;> first | exact ⟨.non, rfl, .non⟩ | (simp [rdB] at h)
  | .bool a, u, h => by
    cases u with
    | bool b =>
      rw [rdB] at h
      have e : a = b := by simpa using h
      subst e
      exact ⟨.bl a, rfl, .bl _⟩
    | _ => simp [rdB] at h
  | .int i, u, h => by
    cases u with
    | int j t =>
      rw [rdB] at h
      have e := of_decide_eq_true h
      subst e
      exact ⟨.int j, ⟨t, rfl⟩, .int _⟩
    | _ => simp [rdB] at h
  | .str x, u, h => by
    cases u with
    | str y t =>
      rw [rdB] at h
      have e := of_decide_eq_true h
      subst e
      exact ⟨.str y, ⟨t, rfl⟩, .str _⟩
    | _ => simp [rdB] at h
  | .tuple ds, u, h => by
    cases u with
    | ref a =>
      rw [rdB] at h
      cases q : K.lookup a with
      | none => rw [q] at h; cases h
      | some o =>
        obtain ⟨oc, od, dt, osl⟩ := o
        rw [q] at h
        cases oc with
        | type c =>
          cases dt with
          | seq its n =>
            simp only [Bool.and_eq_true] at h
            obtain ⟨h1, h2, h3⟩ := h
            obtain ⟨vs, g1, g2⟩ := rdsB_ok h3
            exact ⟨.ref a, rfl, .tup (.inr ⟨_, its, n, q, congrArg Value.type (of_decide_eq_true h1), rfl, of_decide_eq_true h2, g1⟩) g2⟩
          | _ => cases h
        | _ => cases dt <;> cases h
    | _ => simp [rdB] at h
  | .list ds, u, h => by cases u <;> simp [rdB] at h
  | .dict ds, u, h => by cases u <;> simp [rdB] at h
theorem rdsB_ok {K : PySem.W.Frag} : ∀ {ds : List D} {us : List Value}, rdsB K ds us = true → ∃ vs, Vals vs us ∧ DpAll K (fun _ => none) vs ds
  | [], [], _ => ⟨[], .nil, .nil⟩
  | [], _ :: _, h => by simp [rdsB] at h
  | _ :: _, [], h => by simp [rdsB] at h
  | d :: ds, u :: us, h => by
    rw [rdsB, Bool.and_eq_true] at h
    obtain ⟨v, h1, h2⟩ := rdB_ok h.1
    obtain ⟨vs, h3, h4⟩ := rdsB_ok h.2
    exact ⟨v :: vs, .cons h1 h3, .cons h2 h4⟩
end
def gloB' (K : PySem.W.Frag) (p : Str × D) : Bool := match PySem.W.nsIn K mainGlobals p.1 with
  | some (some u) => rdB K p.2 u
  | _ => false
theorem gloB'_ok {K : PySem.W.Frag} {h : Heap} {mg : Str → Option Value} (X : K.In h) (G : h.Ns mainGlobals mg) {x : Str} {d : D} (c : gloB' K (x, d) = true) : ∃ v u, mg x = some u ∧ RelV v u ∧ Dp K (fun _ => none) v d := by
  unfold gloB' at c
  cases e : PySem.W.nsIn K mainGlobals (x, d).1 with
  | none => rw [e] at c; cases c
  | some o =>
    rw [e] at c
    cases o with
    | none => cases c
    | some u =>
      obtain ⟨v, h1, h2⟩ := rdB_ok c
      exact ⟨v, u, PySem.W.mg_of X G e, h1, h2⟩
/-! ### the Hook -/
def obsI (fa : List He.Fa) (fn : List He.DefD) (glo : List (Str × D)) (K : PySem.W.Frag) : He.AlD := (((fa.all fun f => f.ok K) && fn.all fun d => d.ok K) && glo.all (gloB' K), fn.map fun d => He.fnW K d.at_)
def SaysI (fa : List He.Fa) (fn : List He.DefD) (glo : List (Str × D)) (K : PySem.W.Frag) : Prop := obsI fa fn glo K = He.valD fn
def obsIG (n : Nat) (fa : List He.Fa) (fn : List He.DefD) (glo : List (Str × D)) (g : Addr → Option Obj) : He.AlD := obsI fa fn glo (He.frG g (He.asD g n))
def hookI (n : Nat) (fa : List He.Fa) (fn : List He.DefD) (glo : List (Str × D)) : PySem.W.Hook where
  α := He.AlD
  obs := fun s => obsIG n fa fn glo s.heap.get?
  val := fun _ => He.valD fn
  says := fun _ h => ∃ K : PySem.W.Frag, K.In h ∧ SaysI fa fn glo K
  of := fun _ _ e => ⟨_, He.frG_in, e⟩
  keeps := fun _ _ _ ⟨K, hK, c⟩ k => ⟨K, PySem.W.Frag.In.keeps hK k, c⟩
theorem obsIG_eq {n : Nat} {fa : List He.Fa} {fn : List He.DefD} {glo : List (Str × D)} {g : Addr → Option Obj} {s : Shared} (h : ∀ a, g a = s.heap.get? a) : obsIG n fa fn glo g = (hookI n fa fn glo).obs s := by
  have e : g = s.heap.get? := funext h
  rw [e] <;> rfl
section
variable {fa : List He.Fa} {fn : List He.DefD} {glo : List (Str × D)} {K : PySem.W.Frag}
theorem SaysI.toD (c : SaysI fa fn glo K) : He.SaysD fa fn K := by
  have c1 := (He.ba (show (((fa.all fun f => f.ok K) && fn.all fun d => d.ok K) && glo.all (gloB' K)) = true from congrArg (fun z : He.AlD => z.1) c)).1
  have c2 : fn.map (fun d => He.fnW K d.at_) = fn.map He.DefD.val := congrArg (fun z : He.AlD => z.2) c
  show (((fa.all fun f => f.ok K) && fn.all fun d => d.ok K), fn.map fun d => He.fnW K d.at_) = (true, fn.map He.DefD.val)
  rw [c1, c2]
theorem SaysI.gl (c : SaysI fa fn glo K) : ∀ p ∈ glo, gloB' K p = true := List.all_eq_true.mp (He.ba (show (((fa.all fun f => f.ok K) && fn.all fun d => d.ok K) && glo.all (gloB' K)) = true from congrArg (fun z : He.AlD => z.1) c)).2
end
/-- the facts that a table asks for -/
def deD (d : De) : He.DefD := ⟨(d.x, none), d.nm, d.nm, defArgs d.st, defBody d.st, defScope d.st, [], []⟩
def fnOfDs (ds : List De) : List He.DefD := ds.map deD
def faOf (ds : List De) (bis : List Str) : List He.Fa := (ds.map fun d => .glo d.x) ++ bis.map .free
theorem fun_of {K : PySem.W.Frag} {d : De} (h : ∃ fd, FunD K (deD d).name (deD d).qual (deD d).params (deD d).body (deD d).scope ((deD d).dvs K) ((deD d).kws K) (He.fAd K (deD d).at_) fd) : ∃ fd, Fun K d.nm d.nm d.st (He.ga K d.x) fd := by
  obtain ⟨fd, F⟩ := h
  obtain ⟨oc, od, dV, kV, doc, pm, an, cdv, ct, osl, rfl, lk, hcd, hD, hK⟩ := F.ex
  rcases hD with ⟨_, rfl⟩ | ⟨e, _⟩
  · exact ⟨_, ⟨⟨oc, od, kV, doc, pm, an, cdv, ct, osl, rfl, lk, hcd⟩, F.kp⟩⟩
  · exact absurd rfl e
section
variable {K : PySem.W.Frag} {h : Heap} {mg : Str → Option Value} {ds : List De} {bis : List Str} {glo : List (Str × D)}
theorem fun_at (X : K.In h) (G : h.Ns mainGlobals mg) (c : SaysI (faOf ds bis) (fnOfDs ds) glo K) {d : De} (hd : d ∈ ds) : ∃ fd, mg d.x = some (.ref (He.ga K d.x)) ∧ Fun K d.nm d.nm d.st (He.ga K d.x) fd := by
  obtain ⟨i, hi⟩ := List.mem_iff_getElem?.mp hd
  have li := (List.getElem?_eq_some_iff.mp hi).1
  have h1 : (fnOfDs ds)[i]? = some (deD d) := by
    show (ds.map deD)[i]? = _
    rw [List.getElem?_map, hi]
    rfl
  have h2 : (faOf ds bis)[i]? = some (.glo d.x) := by
    unfold faOf
    rw [List.getElem?_append_left (by rw [List.length_map]; exact li), List.getElem?_map, hi]
    rfl
  obtain ⟨fd, F⟩ := fun_of (c.toD.def_ i h1)
  exact ⟨fd, He.glo_ok X G (c.toD.fact i h2), F⟩
theorem bis_at (X : K.In h) (G : h.Ns mainGlobals mg) (c : SaysI (faOf ds bis) (fnOfDs ds) glo K) : ∀ x, bis.contains x = true → mg x = none := fun x hx => by
  have hx : x ∈ bis := by simpa using hx
  obtain ⟨i, hi⟩ := List.mem_iff_getElem?.mp hx
  have h2 : (faOf ds bis)[ds.length + i]? = some (.free x) := by
    unfold faOf
    rw [List.getElem?_append_right (by rw [List.length_map]; omega), List.length_map, Nat.add_sub_cancel_left, List.getElem?_map, hi]
    rfl
  exact He.free_ok X G (c.toD.fact _ h2)
theorem world_at (X : K.In h) (G : h.Ns mainGlobals mg) (c : SaysI (faOf ds bis) (fnOfDs ds) glo K) : World1 K mg glo bis := ⟨fun x d hd => gloB'_ok X G (c.gl _ hd), bis_at X G c⟩
end
/-- how each def binds: its values, its keywords -/
def BindOk (d : De) : Prop := ∀ (K : PySem.W.Frag) (f : Addr) (fd : FuncData), Fun K d.nm d.nm d.st f fd → Binds K fd d.ps [] ∧ ∀ n ks perm, (n, ks, perm) ∈ d.kw → KwOk K fd d.ps n ks perm
theorem defs_at {K : PySem.W.Frag} {h : Heap} {mg : Str → Option Value} {ds : List De} {bis : List Str} {glo : List (Str × D)} (X : K.In h) (G : h.Ns mainGlobals mg) (c : SaysI (faOf ds bis) (fnOfDs ds) glo K) (hb : ∀ d ∈ ds, BindOk d) : ∀ d ∈ ds, DefAt K mg d := fun d hd => by
  obtain ⟨fd, h1, F⟩ := fun_at X G c hd
  obtain ⟨h2, h3⟩ := hb d hd K _ fd F
  exact ⟨_, fd, h1, F, h2, h3⟩
theorem walkGE {l : PySem.W.OpenLaw} {m k : Nat} {q : Program} {loose : List Str} {XP : (Str → Option Value) → Heap → Prop} {YP : World → Heap → Prop} {d : DefRec}
    (hn : l.most = some m) (hm : m ≤ sizeLine) (hdf : d.params.defaults = []) (room : Room k callerA)
    (F : ∀ (w : World) (mg : Str → Option Value) (fa : Addr) (h : Heap), YP w h → h.Ns mainGlobals mg → mg d.name = some (.ref fa) →
      ∃ K : PySem.W.Frag, K.In h ∧ ∀ base : Heap, K.In base → base.Ns mainGlobals mg → ∃ fd : FuncData, Binds K fd ["script"] [] ∧ FnG l.prog w K mg base k fa fd ["script"] (spLaw K m)) :
    PySem.W.WalkO q loose XP YP l.row.toRowW d [] (fun f vs => PySem.call f vs) := by
  refine Att.attach_call hn hdf fun w s0 t0 mg mb fa o pm cd doc a us ns G Y ho hd hcd hmg hobj hints hlen hg => ?_
  obtain ⟨K, kin, hF⟩ := F w mg fa _ Y G.T.g hmg
  exact law_run kin G.T.g G.T.b G.T.builtins G.T.nolimit hg hobj hints hlen hm room hF
/-- all of a row, from the table -/
theorem row_ok {l : PySem.W.OpenLaw} {m : Nat} {q : Program} {loose : List Str} {XP : (Str → Option Value) → Heap → Prop} {d : DefRec} {ds : List De} {law : De} {bis : List Str} {glo : List (Str × D)} {n jl : Nat}
    (hn : l.most = some m) (hm : m ≤ sizeLine) (hdf : d.params.defaults = []) (room : Room (jl + 1) callerA) (hname : d.name = law.x)
    (hb : ∀ d ∈ ds, BindOk d) (hl : ds.reverse[jl]? = some law) (hps : law.ps = (["script"] : List Str)) (chk : chkDs glo bis ds = true)
    (good : ∀ ns : List Int, ns.length ≤ m → ∃ os, tab (dfs ds) jl [.sh (intsD ns)] = some (.bool true, os)) :
    PySem.W.WalkO q loose XP (hookI n (faOf ds bis) (fnOfDs ds) glo).says l.row.toRowW d [] (fun f vs => PySem.call f vs) := by
  refine walkGE hn hm hdf room fun w mg fa h Y G hmg => ?_
  obtain ⟨K, KX, c⟩ := Y
  refine ⟨K, KX, fun base _ _ => ?_⟩
  have D := defs_at KX G c hb
  have T : TabOk l.prog w K mg base ds := tab_ok (world_at KX G c) D chk
  obtain ⟨f, fd, h1, h2, h3⟩ := law_ok2 T hl hps good
  rw [hname] at hmg
  have e := hmg.symm.trans h1
  cases e
  exact ⟨fd, h2, h3⟩
end Iv
end
set_option Elab.async false
set_option linter.all false
set_option maxRecDepth 100000
set_option maxHeartbeats 4000000
namespace Iv
open PySem PySem.Spec PyProof.Rows L2
/-! the end of the row (printed by genend.py) -/
theorem k93_bo_law : BindOk k93_d_law := by
  intro K f fd F
  refine ⟨F.binds fun _ _ _ _ _ _ us hl => match us, hl with | [_], _ => rfl, fun n ks perm h => ?_⟩
  cases h
theorem k93_bo__law_machines_right : BindOk k93_d__law_machines_right := by
  intro K f fd F
  refine ⟨F.binds fun _ _ _ _ _ _ us hl => match us, hl with | [_], _ => rfl, fun n ks perm h => ?_⟩
  cases h
theorem k93_bo_are_owners : BindOk k93_d_are_owners := by
  intro K f fd F
  refine ⟨F.binds fun _ _ _ _ _ _ us hl => match us, hl with | [_, _], _ => rfl, fun n ks perm h => ?_⟩
  cases h
theorem k93_bo_best_owners : BindOk k93_d_best_owners := by
  intro K f fd F
  refine ⟨F.binds fun _ _ _ _ _ _ us hl => match us, hl with | [_], _ => rfl, fun n ks perm h => ?_⟩
  cases h
theorem k93_bo_has : BindOk k93_d_has := by
  intro K f fd F
  refine ⟨F.binds fun _ _ _ _ _ _ us hl => match us, hl with | [_, _, _], _ => rfl, fun n ks perm h => ?_⟩
  simp only [k93_d_has, List.mem_singleton, Prod.mk.injEq] at h
  obtain ⟨rfl, rfl, rfl⟩ := h
  obtain ⟨oc, od, kV, doc, pm, an, cdv, ct, osl, rfl, lk, hcd⟩ := F.ex
  intro s us ws _ hu hw
  match us, ws, hu, hw with
  | [], [b0, b1, b2], _, _ => exact ⟨_, rfl, .of_eq rfl⟩
theorem k93_bo_machine_envy : BindOk k93_d_machine_envy := by
  intro K f fd F
  refine ⟨F.binds fun _ _ _ _ _ _ us hl => match us, hl with | [_, _, _, _], _ => rfl, fun n ks perm h => ?_⟩
  cases h
theorem k93_bo__law_better : BindOk k93_d__law_better := by
  intro K f fd F
  refine ⟨F.binds fun _ _ _ _ _ _ us hl => match us, hl with | [_, _], _ => rfl, fun n ks perm h => ?_⟩
  cases h
theorem k93_bo_better_owners : BindOk k93_d_better_owners := by
  intro K f fd F
  refine ⟨F.binds fun _ _ _ _ _ _ us hl => match us, hl with | [_, _], _ => rfl, fun n ks perm h => ?_⟩
  simp only [k93_d_better_owners, List.mem_singleton, Prod.mk.injEq] at h
  obtain ⟨rfl, rfl, rfl⟩ := h
  obtain ⟨oc, od, kV, doc, pm, an, cdv, ct, osl, rfl, lk, hcd⟩ := F.ex
  intro s us ws _ hu hw
  match us, ws, hu, hw with
  | [], [b0, b1], _, _ => exact ⟨_, rfl, .of_eq rfl⟩
theorem k93_bo_want_owners : BindOk k93_d_want_owners := by
  intro K f fd F
  refine ⟨F.binds fun _ _ _ _ _ _ us hl => match us, hl with | [_, _], _ => rfl, fun n ks perm h => ?_⟩
  cases h
theorem k93_bo_owners_are_right : BindOk k93_d_owners_are_right := by
  intro K f fd F
  refine ⟨F.binds fun _ _ _ _ _ _ us hl => match us, hl with | [_, _], _ => rfl, fun n ks perm h => ?_⟩
  cases h
theorem k93_bo__law_telling_right : BindOk k93_d__law_telling_right := by
  intro K f fd F
  refine ⟨F.binds fun _ _ _ _ _ _ us hl => match us, hl with | [_, _], _ => rfl, fun n ks perm h => ?_⟩
  cases h
theorem k93_bo_gaining_worths : BindOk k93_d_gaining_worths := by
  intro K f fd F
  refine ⟨F.binds fun _ _ _ _ _ _ us hl => match us, hl with | [_, _, _], _ => rfl, fun n ks perm h => ?_⟩
  simp only [k93_d_gaining_worths, List.mem_singleton, Prod.mk.injEq] at h
  obtain ⟨rfl, rfl, rfl⟩ := h
  obtain ⟨oc, od, kV, doc, pm, an, cdv, ct, osl, rfl, lk, hcd⟩ := F.ex
  intro s us ws _ hu hw
  match us, ws, hu, hw with
  | [], [b0, b1, b2], _, _ => exact ⟨_, rfl, .of_eq rfl⟩
theorem k93_bo_best_of : BindOk k93_d_best_of := by
  intro K f fd F
  refine ⟨F.binds fun _ _ _ _ _ _ us hl => match us, hl with | [_], _ => rfl, fun n ks perm h => ?_⟩
  cases h
theorem k93_bo_goodness : BindOk k93_d_goodness := by
  intro K f fd F
  refine ⟨F.binds fun _ _ _ _ _ _ us hl => match us, hl with | [_, _], _ => rfl, fun n ks perm h => ?_⟩
  cases h
theorem k93_bo_all_have : BindOk k93_d_all_have := by
  intro K f fd F
  refine ⟨F.binds fun _ _ _ _ _ _ us hl => match us, hl with | [_, _], _ => rfl, fun n ks perm h => ?_⟩
  cases h
theorem k93_bo_all_owners : BindOk k93_d_all_owners := by
  intro K f fd F
  refine ⟨F.binds fun _ _ _ _ _ _ us hl => match us, hl with | [_], _ => rfl, fun n ks perm h => ?_⟩
  cases h
theorem k93_bo_worth_of : BindOk k93_d_worth_of := by
  intro K f fd F
  refine ⟨F.binds fun _ _ _ _ _ _ us hl => match us, hl with | [_, _, _], _ => rfl, fun n ks perm h => ?_⟩
  cases h
theorem k93_bo_want_user_wholes : BindOk k93_d_want_user_wholes := by
  intro K f fd F
  refine ⟨F.binds fun _ _ _ _ _ _ us hl => match us, hl with | [_, _], _ => rfl, fun n ks perm h => ?_⟩
  cases h
theorem k93_bo_want_worths : BindOk k93_d_want_worths := by
  intro K f fd F
  refine ⟨F.binds fun _ _ _ _ _ _ us hl => match us, hl with | [_], _ => rfl, fun n ks perm h => ?_⟩
  cases h
theorem k93_bo_are_worths : BindOk k93_d_are_worths := by
  intro K f fd F
  refine ⟨F.binds fun _ _ _ _ _ _ us hl => match us, hl with | [_], _ => rfl, fun n ks perm h => ?_⟩
  cases h
theorem k93_bo_is_row : BindOk k93_d_is_row := by
  intro K f fd F
  refine ⟨F.binds fun _ _ _ _ _ _ us hl => match us, hl with | [_, _], _ => rfl, fun n ks perm h => ?_⟩
  cases h
theorem k93_bo__law_best : BindOk k93_d__law_best := by
  intro K f fd F
  refine ⟨F.binds fun _ _ _ _ _ _ us hl => match us, hl with | [_], _ => rfl, fun n ks perm h => ?_⟩
  cases h
theorem k93_bo__law_worth : BindOk k93_d__law_worth := by
  intro K f fd F
  refine ⟨F.binds fun _ _ _ _ _ _ us hl => match us, hl with | [_, _], _ => rfl, fun n ks perm h => ?_⟩
  cases h
theorem k93_bo__law_has : BindOk k93_d__law_has := by
  intro K f fd F
  refine ⟨F.binds fun _ _ _ _ _ _ us hl => match us, hl with | [_, _, _], _ => rfl, fun n ks perm h => ?_⟩
  cases h
theorem k93_bo__law_gains_right : BindOk k93_d__law_gains_right := by
  intro K f fd F
  refine ⟨F.binds fun _ _ _ _ _ _ us hl => match us, hl with | [_], _ => rfl, fun n ks perm h => ?_⟩
  cases h
theorem k93_bo_gaining_needs : BindOk k93_d_gaining_needs := by
  intro K f fd F
  refine ⟨F.binds fun _ _ _ _ _ _ us hl => match us, hl with | [_, _, _, _], _ => rfl, fun n ks perm h => ?_⟩
  simp only [k93_d_gaining_needs, List.mem_singleton, Prod.mk.injEq] at h
  obtain ⟨rfl, rfl, rfl⟩ := h
  obtain ⟨oc, od, kV, doc, pm, an, cdv, ct, osl, rfl, lk, hcd⟩ := F.ex
  intro s us ws _ hu hw
  match us, ws, hu, hw with
  | [], [b0, b1, b2, b3], _, _ => exact ⟨_, rfl, .of_eq rfl⟩
theorem k93_bo_tuples_to : BindOk k93_d_tuples_to := by
  intro K f fd F
  refine ⟨F.binds fun _ _ _ _ _ _ us hl => match us, hl with | [_, _], _ => rfl, fun n ks perm h => ?_⟩
  cases h
theorem k93_bo_want_few : BindOk k93_d_want_few := by
  intro K f fd F
  refine ⟨F.binds fun _ _ _ _ _ _ us hl => match us, hl with | [_, _, _], _ => rfl, fun n ks perm h => ?_⟩
  cases h
theorem k93_bo_want_most : BindOk k93_d_want_most := by
  intro K f fd F
  refine ⟨F.binds fun _ _ _ _ _ _ us hl => match us, hl with | [_, _], _ => rfl, fun n ks perm h => ?_⟩
  cases h
theorem k93_bo__law_rows : BindOk k93_d__law_rows := by
  intro K f fd F
  refine ⟨F.binds fun _ _ _ _ _ _ us hl => match us, hl with | [_, _], _ => rfl, fun n ks perm h => ?_⟩
  cases h
theorem k93_bo__law_pieces_right : BindOk k93_d__law_pieces_right := by
  intro K f fd F
  refine ⟨F.binds fun _ _ _ _ _ _ us hl => match us, hl with | [_], _ => rfl, fun n ks perm h => ?_⟩
  cases h
theorem k93_bo_piece_envy : BindOk k93_d_piece_envy := by
  intro K f fd F
  refine ⟨F.binds fun _ _ _ _ _ _ us hl => match us, hl with | [_, _, _, _], _ => rfl, fun n ks perm h => ?_⟩
  cases h
theorem k93_bo__law_truly : BindOk k93_d__law_truly := by
  intro K f fd F
  refine ⟨F.binds fun _ _ _ _ _ _ us hl => match us, hl with | [_, _, _, _], _ => rfl, fun n ks perm h => ?_⟩
  cases h
theorem k93_bo_true_pieces : BindOk k93_d_true_pieces := by
  intro K f fd F
  refine ⟨F.binds fun _ _ _ _ _ _ us hl => match us, hl with | [_, _, _, _], _ => rfl, fun n ks perm h => ?_⟩
  simp only [k93_d_true_pieces, List.mem_singleton, Prod.mk.injEq] at h
  obtain ⟨rfl, rfl, rfl⟩ := h
  obtain ⟨oc, od, kV, doc, pm, an, cdv, ct, osl, rfl, lk, hcd⟩ := F.ex
  intro s us ws _ hu hw
  match us, ws, hu, hw with
  | [], [b0, b1, b2, b3], _, _ => exact ⟨_, rfl, .of_eq rfl⟩
theorem k93_bo_true_of : BindOk k93_d_true_of := by
  intro K f fd F
  refine ⟨F.binds fun _ _ _ _ _ _ us hl => match us, hl with | [_, _, _, _], _ => rfl, fun n ks perm h => ?_⟩
  cases h
theorem k93_bo_whole_makes : BindOk k93_d_whole_makes := by
  intro K f fd F
  refine ⟨F.binds fun _ _ _ _ _ _ us hl => match us, hl with | [_, _], _ => rfl, fun n ks perm h => ?_⟩
  cases h
theorem k93_bo_want_needs : BindOk k93_d_want_needs := by
  intro K f fd F
  refine ⟨F.binds fun _ _ _ _ _ _ us hl => match us, hl with | [_, _], _ => rfl, fun n ks perm h => ?_⟩
  cases h
theorem k93_bo_want_user_shares : BindOk k93_d_want_user_shares := by
  intro K f fd F
  refine ⟨F.binds fun _ _ _ _ _ _ us hl => match us, hl with | [_, _], _ => rfl, fun n ks perm h => ?_⟩
  cases h
theorem k93_bo_is_count : BindOk k93_d_is_count := by
  intro K f fd F
  refine ⟨F.binds fun _ _ _ _ _ _ us hl => match us, hl with | [_], _ => rfl, fun n ks perm h => ?_⟩
  cases h
theorem k93_bo__law_makes : BindOk k93_d__law_makes := by
  intro K f fd F
  refine ⟨F.binds fun _ _ _ _ _ _ us hl => match us, hl with | [_, _], _ => rfl, fun n ks perm h => ?_⟩
  cases h
theorem k93_bo__law_pieces : BindOk k93_d__law_pieces := by
  intro K f fd F
  refine ⟨F.binds fun _ _ _ _ _ _ us hl => match us, hl with | [_, _], _ => rfl, fun n ks perm h => ?_⟩
  cases h
theorem k93_bo__law_height : BindOk k93_d__law_height := by
  intro K f fd F
  refine ⟨F.binds fun _ _ _ _ _ _ us hl => match us, hl with | [_, _], _ => rfl, fun n ks perm h => ?_⟩
  cases h
theorem k93_bo_pieces : BindOk k93_d_pieces := by
  intro K f fd F
  refine ⟨F.binds fun _ _ _ _ _ _ us hl => match us, hl with | [_, _], _ => rfl, fun n ks perm h => ?_⟩
  simp only [k93_d_pieces, List.mem_singleton, Prod.mk.injEq] at h
  obtain ⟨rfl, rfl, rfl⟩ := h
  obtain ⟨oc, od, kV, doc, pm, an, cdv, ct, osl, rfl, lk, hcd⟩ := F.ex
  intro s us ws _ hu hw
  match us, ws, hu, hw with
  | [], [b0, b1], _, _ => exact ⟨_, rfl, .of_eq rfl⟩
theorem k93_bo_pieces_of : BindOk k93_d_pieces_of := by
  intro K f fd F
  refine ⟨F.binds fun _ _ _ _ _ _ us hl => match us, hl with | [_, _], _ => rfl, fun n ks perm h => ?_⟩
  cases h
theorem k93_bo_height : BindOk k93_d_height := by
  intro K f fd F
  refine ⟨F.binds fun _ _ _ _ _ _ us hl => match us, hl with | [_, _], _ => rfl, fun n ks perm h => ?_⟩
  cases h
theorem k93_bo_over : BindOk k93_d_over := by
  intro K f fd F
  refine ⟨F.binds fun _ _ _ _ _ _ us hl => match us, hl with | [_, _], _ => rfl, fun n ks perm h => ?_⟩
  cases h
theorem k93_bo_lowest : BindOk k93_d_lowest := by
  intro K f fd F
  refine ⟨F.binds fun _ _ _ _ _ _ us hl => match us, hl with | [_, _], _ => rfl, fun n ks perm h => ?_⟩
  cases h
theorem k93_bo_common_part : BindOk k93_d_common_part := by
  intro K f fd F
  refine ⟨F.binds fun _ _ _ _ _ _ us hl => match us, hl with | [_, _], _ => rfl, fun n ks perm h => ?_⟩
  cases h
theorem k93_bo_greatest_of : BindOk k93_d_greatest_of := by
  intro K f fd F
  refine ⟨F.binds fun _ _ _ _ _ _ us hl => match us, hl with | [_], _ => rfl, fun n ks perm h => ?_⟩
  cases h
theorem k93_bo_next_one : BindOk k93_d_next_one := by
  intro K f fd F
  refine ⟨F.binds fun _ _ _ _ _ _ us hl => match us, hl with | [_, _, _, _], _ => rfl, fun n ks perm h => ?_⟩
  cases h
theorem k93_bo_is_below : BindOk k93_d_is_below := by
  intro K f fd F
  refine ⟨F.binds fun _ _ _ _ _ _ us hl => match us, hl with | [_, _], _ => rfl, fun n ks perm h => ?_⟩
  cases h
theorem k93_bo_can_go_on : BindOk k93_d_can_go_on := by
  intro K f fd F
  refine ⟨F.binds fun _ _ _ _ _ _ us hl => match us, hl with | [_, _, _], _ => rfl, fun n ks perm h => ?_⟩
  cases h
theorem k93_bo_want_plain : BindOk k93_d_want_plain := by
  intro K f fd F
  refine ⟨F.binds fun _ _ _ _ _ _ us hl => match us, hl with | [_, _], _ => rfl, fun n ks perm h => ?_⟩
  cases h
theorem k93_bo_want_both : BindOk k93_d_want_both := by
  intro K f fd F
  refine ⟨F.binds fun _ _ _ _ _ _ us hl => match us, hl with | [_, _], _ => rfl, fun n ks perm h => ?_⟩
  cases h
theorem k93_bo_totals_are_right : BindOk k93_d_totals_are_right := by
  intro K f fd F
  refine ⟨F.binds fun _ _ _ _ _ _ us hl => match us, hl with | [_, _], _ => rfl, fun n ks perm h => ?_⟩
  cases h
theorem k93_bo_want_users : BindOk k93_d_want_users := by
  intro K f fd F
  refine ⟨F.binds fun _ _ _ _ _ _ us hl => match us, hl with | [_], _ => rfl, fun n ks perm h => ?_⟩
  cases h
theorem k93_bo_are_users : BindOk k93_d_are_users := by
  intro K f fd F
  refine ⟨F.binds fun _ _ _ _ _ _ us hl => match us, hl with | [_], _ => rfl, fun n ks perm h => ?_⟩
  cases h
theorem k93_bo_is_user : BindOk k93_d_is_user := by
  intro K f fd F
  refine ⟨F.binds fun _ _ _ _ _ _ us hl => match us, hl with | [_, _], _ => rfl, fun n ks perm h => ?_⟩
  cases h
theorem k93_bo_is_want : BindOk k93_d_is_want := by
  intro K f fd F
  refine ⟨F.binds fun _ _ _ _ _ _ us hl => match us, hl with | [_], _ => rfl, fun n ks perm h => ?_⟩
  cases h
theorem k93_bo_are_needs : BindOk k93_d_are_needs := by
  intro K f fd F
  refine ⟨F.binds fun _ _ _ _ _ _ us hl => match us, hl with | [_, _], _ => rfl, fun n ks perm h => ?_⟩
  cases h
theorem k93_bo_is_within : BindOk k93_d_is_within := by
  intro K f fd F
  refine ⟨F.binds fun _ _ _ _ _ _ us hl => match us, hl with | [_, _, _], _ => rfl, fun n ks perm h => ?_⟩
  cases h
theorem k93_bo_is_integer : BindOk k93_d_is_integer := by
  intro K f fd F
  refine ⟨F.binds fun _ _ _ _ _ _ us hl => match us, hl with | [_], _ => rfl, fun n ks perm h => ?_⟩
  cases h
theorem k93_bo_goods_of : BindOk k93_d_goods_of := by
  intro K f fd F
  refine ⟨F.binds fun _ _ _ _ _ _ us hl => match us, hl with | [_], _ => rfl, fun n ks perm h => ?_⟩
  cases h
theorem k93_bo_is_tuple_of : BindOk k93_d_is_tuple_of := by
  intro K f fd F
  refine ⟨F.binds fun _ _ _ _ _ _ us hl => match us, hl with | [_, _, _], _ => rfl, fun n ks perm h => ?_⟩
  cases h
theorem k93_bo__law_totals : BindOk k93_d__law_totals := by
  intro K f fd F
  refine ⟨F.binds fun _ _ _ _ _ _ us hl => match us, hl with | [_, _, _], _ => rfl, fun n ks perm h => ?_⟩
  cases h
theorem k93_bo__law_users : BindOk k93_d__law_users := by
  intro K f fd F
  refine ⟨F.binds fun _ _ _ _ _ _ us hl => match us, hl with | [_, _, _, _], _ => rfl, fun n ks perm h => ?_⟩
  cases h
theorem k93_bo__law_pick : BindOk k93_d__law_pick := by
  intro K f fd F
  refine ⟨F.binds fun _ _ _ _ _ _ us hl => match us, hl with | [_, _], _ => rfl, fun n ks perm h => ?_⟩
  cases h
theorem k93_bo__law_draw : BindOk k93_d__law_draw := by
  intro K f fd F
  refine ⟨F.binds fun _ _ _ _ _ _ us hl => match us, hl with | [_, _], _ => rfl, fun n ks perm h => ?_⟩
  cases h
theorem k93_bo__law_pot : BindOk k93_d__law_pot := by
  intro K f fd F
  refine ⟨F.binds fun _ _ _ _ _ _ us hl => match us, hl with | [_, _], _ => rfl, fun n ks perm h => ?_⟩
  cases h
theorem k93_bo : ∀ d ∈ k93_ds, BindOk d := by
  unfold k93_ds
  exact List.forall_mem_cons.mpr ⟨k93_bo_law, List.forall_mem_cons.mpr ⟨k93_bo__law_machines_right, List.forall_mem_cons.mpr ⟨k93_bo_are_owners, List.forall_mem_cons.mpr ⟨k93_bo_best_owners, List.forall_mem_cons.mpr ⟨k93_bo_has, List.forall_mem_cons.mpr ⟨k93_bo_machine_envy, List.forall_mem_cons.mpr ⟨k93_bo__law_better, List.forall_mem_cons.mpr ⟨k93_bo_better_owners, List.forall_mem_cons.mpr ⟨k93_bo_want_owners, List.forall_mem_cons.mpr ⟨k93_bo_owners_are_right, List.forall_mem_cons.mpr ⟨k93_bo__law_telling_right, List.forall_mem_cons.mpr ⟨k93_bo_gaining_worths, List.forall_mem_cons.mpr ⟨k93_bo_best_of, List.forall_mem_cons.mpr ⟨k93_bo_goodness, List.forall_mem_cons.mpr ⟨k93_bo_all_have, List.forall_mem_cons.mpr ⟨k93_bo_all_owners, List.forall_mem_cons.mpr ⟨k93_bo_worth_of, List.forall_mem_cons.mpr ⟨k93_bo_want_user_wholes, List.forall_mem_cons.mpr ⟨k93_bo_want_worths, List.forall_mem_cons.mpr ⟨k93_bo_are_worths, List.forall_mem_cons.mpr ⟨k93_bo_is_row, List.forall_mem_cons.mpr ⟨k93_bo__law_best, List.forall_mem_cons.mpr ⟨k93_bo__law_worth, List.forall_mem_cons.mpr ⟨k93_bo__law_has, List.forall_mem_cons.mpr ⟨k93_bo__law_gains_right, List.forall_mem_cons.mpr ⟨k93_bo_gaining_needs, List.forall_mem_cons.mpr ⟨k93_bo_tuples_to, List.forall_mem_cons.mpr ⟨k93_bo_want_few, List.forall_mem_cons.mpr ⟨k93_bo_want_most, List.forall_mem_cons.mpr ⟨k93_bo__law_rows, List.forall_mem_cons.mpr ⟨k93_bo__law_pieces_right, List.forall_mem_cons.mpr ⟨k93_bo_piece_envy, List.forall_mem_cons.mpr ⟨k93_bo__law_truly, List.forall_mem_cons.mpr ⟨k93_bo_true_pieces, List.forall_mem_cons.mpr ⟨k93_bo_true_of, List.forall_mem_cons.mpr ⟨k93_bo_whole_makes, List.forall_mem_cons.mpr ⟨k93_bo_want_needs, List.forall_mem_cons.mpr ⟨k93_bo_want_user_shares, List.forall_mem_cons.mpr ⟨k93_bo_is_count, List.forall_mem_cons.mpr ⟨k93_bo__law_makes, List.forall_mem_cons.mpr ⟨k93_bo__law_pieces, List.forall_mem_cons.mpr ⟨k93_bo__law_height, List.forall_mem_cons.mpr ⟨k93_bo_pieces, List.forall_mem_cons.mpr ⟨k93_bo_pieces_of, List.forall_mem_cons.mpr ⟨k93_bo_height, List.forall_mem_cons.mpr ⟨k93_bo_over, List.forall_mem_cons.mpr ⟨k93_bo_lowest, List.forall_mem_cons.mpr ⟨k93_bo_common_part, List.forall_mem_cons.mpr ⟨k93_bo_greatest_of, List.forall_mem_cons.mpr ⟨k93_bo_next_one, List.forall_mem_cons.mpr ⟨k93_bo_is_below, List.forall_mem_cons.mpr ⟨k93_bo_can_go_on, List.forall_mem_cons.mpr ⟨k93_bo_want_plain, List.forall_mem_cons.mpr ⟨k93_bo_want_both, List.forall_mem_cons.mpr ⟨k93_bo_totals_are_right, List.forall_mem_cons.mpr ⟨k93_bo_want_users, List.forall_mem_cons.mpr ⟨k93_bo_are_users, List.forall_mem_cons.mpr ⟨k93_bo_is_user, List.forall_mem_cons.mpr ⟨k93_bo_is_want, List.forall_mem_cons.mpr ⟨k93_bo_are_needs, List.forall_mem_cons.mpr ⟨k93_bo_is_within, List.forall_mem_cons.mpr ⟨k93_bo_is_integer, List.forall_mem_cons.mpr ⟨k93_bo_goods_of, List.forall_mem_cons.mpr ⟨k93_bo_is_tuple_of, List.forall_mem_cons.mpr ⟨k93_bo__law_totals, List.forall_mem_cons.mpr ⟨k93_bo__law_users, List.forall_mem_cons.mpr ⟨k93_bo__law_pick, List.forall_mem_cons.mpr ⟨k93_bo__law_draw, List.forall_mem_cons.mpr ⟨k93_bo__law_pot, fun _ h => (by cases h)⟩⟩⟩⟩⟩⟩⟩⟩⟩⟩⟩⟩⟩⟩⟩⟩⟩⟩⟩⟩⟩⟩⟩⟩⟩⟩⟩⟩⟩⟩⟩⟩⟩⟩⟩⟩⟩⟩⟩⟩⟩⟩⟩⟩⟩⟩⟩⟩⟩⟩⟩⟩⟩⟩⟩⟩⟩⟩⟩⟩⟩⟩⟩⟩⟩⟩⟩⟩⟩
set_option maxRecDepth 1000000 in
theorem k93_chk : chkDs k93_glo k93_bis k93_ds = true := by decide +kernel
def k93_names0 : List PySem.Str := ["is_integer", "is_count", "is_within", "is_tuple_of", "HallError", "LimitError", "InvalidMost", "InvalidNeeds", "InvalidOwners", "InvalidTotals", "InvalidUser", "InvalidUsers", "InvalidWorths", "TooMany", "common_part", "lowest", "over", "is_below", "greatest_of", "MOST_USERS", "MOST_GOODS", "MOST_WEIGHT", "MOST_NEED", "MOST_WANT", "MOST_TOTAL", "are_needs", "is_want", "is_user", "goods_of", "are_users"]
def k93_names1 : List PySem.Str := ["totals_are_right", "want_users", "want_both", "want_user", "want_user_shares", "want_needs", "height", "MOST_TELLINGS", "want_plain", "can_go_on", "next_one", "pieces_of", "whole_makes", "true_of", "tuples_to", "want_most", "want_few", "pieces", "piece_envy", "true_pieces", "gaining_needs", "MOST_ROWS", "MOST_MACHINES", "MOST_WORTH", "MOST_TOLD", "is_row", "are_worths", "owners_are_right", "want_worths", "want_owners"]
def k93_names2 : List PySem.Str := ["want_user_wholes", "worth_of", "all_have", "all_owners", "goodness", "best_of", "are_owners", "has", "best_owners", "better_owners", "machine_envy", "gaining_worths", "_law_pot", "_law_draw", "_law_pick", "_law_height", "_law_pieces", "_law_makes", "_law_truly", "_law_rows", "_law_users", "_law_totals", "_law_pieces_right", "_law_gains_right", "_law_has", "_law_worth", "_law_best", "_law_better", "_law_machines_right", "_law_telling_right"]
def k93_names : List PySem.Str := k93_names0 ++ k93_names1 ++ k93_names2
abbrev k93_R : PySem.W.OpenRow := PySem.W.OpenLaw.row PySem.Challenge.rw_promisedhall_k93_whole_pieces_and_machin
abbrev k93_hk : PySem.W.Hook := hookI 2 (faOf k93_ds k93_bis) (fnOfDs k93_ds) k93_glo
def k93_ob (s : PySem.W.SharedT) : He.AlD := obsIG 2 (faOf k93_ds k93_bis) (fnOfDs k93_ds) k93_glo (HandSHeadRun.getT s)
theorem k93_ob_eq (s : PySem.W.SharedT) : k93_ob s = k93_hk.obs s.abs := obsIG_eq (HandSHeadRun.getT_eq s)
set_option maxHeartbeats 0 in
theorem k93_run (w : PySem.World) : HandSHeadRun.RunEq k93_R (PySem.W.view k93_R.prog [98]) k93_hk k93_ob 6000 k93_names w := by
  intro os
  kernel_rfl
end Iv
open PySem PySem.W PySem.Calls PyProof.Rows
set_option maxRecDepth 100000 in
set_option maxHeartbeats 0 in
theorem PySem.Challenge.cw_promisedhall_k93_whole_pieces_and_machin_holds : PySem.Challenge.rw_promisedhall_k93_whole_pieces_and_machin.Holds := by
  w_on; o_law
  refine HandSHeadRun.head_any (r := OpenLaw.row PySem.Challenge.rw_promisedhall_k93_whole_pieces_and_machin) (q := view (OpenLaw.row PySem.Challenge.rw_promisedhall_k93_whole_pieces_and_machin).prog [98]) (H := Iv.k93_hk) (ob := Iv.k93_ob) (M := 6000) (loose := Iv.k93_names) (d := HandSHeadRun.topDef (OpenLaw.row PySem.Challenge.rw_promisedhall_k93_whole_pieces_and_machin).prog 98) (kwd := []) Iv.k93_ob_eq
    (by kernel_rfl) (fun s => by kernel_rfl) Iv.k93_run (by kernel_rfl) (by kernel_rfl) (by kernel_rfl) (by rfl) (by first | assumption | decide +kernel) (by decide +kernel) ⟨rfl, rfl, rfl, rfl, rfl, by decide +kernel⟩ ?hw ?hc
  case hw => w_witness2
  case hc =>
    exact Iv.row_ok (l := PySem.Challenge.rw_promisedhall_k93_whole_pieces_and_machin) (m := 63) (jl := 68) (law := Iv.k93_d_law) rfl (by decide) (by kernel_rfl) ⟨rfl, by decide, by decide⟩ (by kernel_rfl) Iv.k93_bo rfl rfl Iv.k93_chk (fun ns _ => Iv.k93_good ns)
