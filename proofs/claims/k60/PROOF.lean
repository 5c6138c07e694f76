import PyProof.Rows.All
import Wide.All
import OpenK.AllK
import Wide.FinOn
import HandS.ForMost
import HandS.Exc
import HandS.TryOnly
import HandS.CallSlots
import HandS.ExcSuper
import HandS.Deep
import HandS.Walk
import HandS.Wide
import HandS.TupAny
import HandS.IsInst
import HandS.TupLe
import HandS.Text
import HandS.Strs
import HandS.Replace
import HandS.Zip
import HandS.TupMul
import HandS.Style
import HandS.SortInts
import HandS.RaiseMore
import HandS.More
import HandS.ExcOwn
import HandS.WordsExc
import HandS.SetFor
import HandS.Conv
import KE.GoesEnum
import KE.GoesMore
import HandS.Small
import HandS.ExcInit
import KE.KExcSuper
import KE.KExcMake
import KE.KSuper
import PySem.Challenge.RW_drawnturns_k60_whole_main_just_one_has_a
import PyProof.ReprBulk
set_option Elab.async false
set_option linter.all false
set_option maxRecDepth 100000
/-! Mini: an own small AST, own data, an interpreter. -/
namespace Mi
open PySem

/-! ### data -/
inductive D where
  | non | bl (b : Bool) | int (i : Int) | str (x : Str) | tup (ds : List D) | ref (n : Nat) | lv (ds : List D) | fl (ds : List D)
instance : Inhabited D := ⟨.non⟩
mutual
def D.beq : D → D → Bool
  | .non, .non => true
  | .bl a, .bl b => decide (a = b)
  | .int a, .int b => decide (a = b)
  | .str a, .str b => decide (a = b)
  | .ref a, .ref b => decide (a = b)
  | .tup a, .tup b => D.beqL a b
  | .lv a, .lv b => D.beqL a b
  | .fl a, .fl b => D.beqL a b
  | _, _ => false
def D.beqL : List D → List D → Bool
  | [], [] => true
  | a :: as, b :: bs => D.beq a b && D.beqL as bs
  | _, _ => false
end
mutual
theorem D.beq_refl : ∀ a : D, D.beq a a = true
  | .non => by simp [D.beq]
  | .bl _ => by simp [D.beq]
  | .int _ => by simp [D.beq]
  | .str _ => by simp [D.beq]
  | .ref _ => by simp [D.beq]
  | .tup a => by simp [D.beq, D.beqL_refl a]
  | .lv a => by simp [D.beq, D.beqL_refl a]
  | .fl a => by simp [D.beq, D.beqL_refl a]
theorem D.beqL_refl : ∀ a : List D, D.beqL a a = true
  | [] => by simp [D.beqL]
  | a :: as => by simp [D.beqL, D.beq_refl a, D.beqL_refl as]
end
mutual
theorem D.eq_of_beq : ∀ a b : D, D.beq a b = true → a = b
  | .non, b, h => by cases b <;> simp_all [D.beq]
  | .bl _, b, h => by cases b <;> simp_all [D.beq]
  | .int _, b, h => by cases b <;> simp_all [D.beq]
  | .str _, b, h => by cases b <;> simp_all [D.beq]
  | .ref _, b, h => by cases b <;> simp_all [D.beq]
  | .tup a, b, h => by
    cases b with
    | tup b => rw [D.eqL_of_beq a b (by simpa [D.beq] using h)]
    | _ => simp [D.beq] at h
  | .lv a, b, h => by
    cases b with
    | lv b => rw [D.eqL_of_beq a b (by simpa [D.beq] using h)]
    | _ => simp [D.beq] at h
  | .fl a, b, h => by
    cases b with
    | fl b => rw [D.eqL_of_beq a b (by simpa [D.beq] using h)]
    | _ => simp [D.beq] at h
theorem D.eqL_of_beq : ∀ a b : List D, D.beqL a b = true → a = b
  | [], b, h => by cases b <;> simp_all [D.beqL]
  | a :: as, b, h => by
    cases b with
    | nil => simp [D.beqL] at h
    | cons b bs =>
      have h' : D.beq a b = true ∧ D.beqL as bs = true := by simpa [D.beqL] using h
      rw [D.eq_of_beq a b h'.1, D.eqL_of_beq as bs h'.2]
end
instance : DecidableEq D := fun a b =>
  if h : D.beq a b = true then isTrue (D.eq_of_beq a b h) else isFalse (fun e => h (by rw [e]; exact D.beq_refl b))

mutual
def D.map (f : Nat → Nat) : D → D
  | .tup ds => .tup (D.mapL f ds)
  | .lv ds => .lv (D.mapL f ds)
  | .fl ds => .fl (D.mapL f ds)
  | .ref n => .ref (f n)
  | .non => .non
  | .bl b => .bl b
  | .int i => .int i
  | .str x => .str x
def D.mapL (f : Nat → Nat) : List D → List D
  | [] => []
  | d :: ds => D.map f d :: D.mapL f ds
end
mutual
def D.refs : D → List Nat
  | .tup ds => D.refsL ds
  | .lv ds => D.refsL ds
  | .fl ds => D.refsL ds
  | .ref n => [n]
  | .non => []
  | .bl _ => []
  | .int _ => []
  | .str _ => []
def D.refsL : List D → List Nat
  | [] => []
  | d :: ds => D.refs d ++ D.refsL ds
end

mutual
/-- no transient list in it -/
def D.st : D → Bool
  | .tup ds => D.stL ds
  | .fl ds => D.stL ds
  | .lv _ => false
  | .ref _ => true
  | .non => true
  | .bl _ => true
  | .int _ => true
  | .str _ => true
def D.stL : List D → Bool
  | [] => true
  | d :: ds => D.st d && D.stL ds
end
inductive O where
  | lst (ds : List D)
  | dic (kvs : List (L2.Key × D))
  | frd (kvs : List (L2.Key × D))
  | ins (c : Str) (fs : List (Str × D))
  deriving DecidableEq
instance : Inhabited O := ⟨.lst []⟩
abbrev Hm := List O

def kvMap {κ : Type} (f : D → D) : List (κ × D) → List (κ × D)
  | [] => []
  | (k, d) :: r => (k, f d) :: kvMap f r
def kvRefs {κ : Type} : List (κ × D) → List Nat
  | [] => []
  | (_, d) :: r => d.refs ++ kvRefs r
def O.map (f : Nat → Nat) : O → O
  | .lst ds => .lst (D.mapL f ds)
  | .dic kvs => .dic (kvMap (D.map f) kvs)
  | .frd kvs => .frd (kvMap (D.map f) kvs)
  | .ins c fs => .ins c (kvMap (D.map f) fs)
def O.refs : O → List Nat
  | .lst ds => D.refsL ds
  | .dic kvs => kvRefs kvs
  | .frd kvs => kvRefs kvs
  | .ins _ fs => kvRefs fs

/-! ### results -/
inductive R (α : Type) where
  | ok (a : α) (h : Hm)
  | ex (c : Str) (v : List (Str × D)) (h : Hm)
  | bad
def bnd {α β : Type} (r : R α) (f : α → Hm → R β) : R β :=
  match r with
  | .ok a h => f a h
  | .ex c v h => .ex c v h
  | .bad => .bad
@[simp] theorem bnd_ok {α β : Type} (a : α) (h : Hm) (f : α → Hm → R β) : bnd (.ok a h) f = f a h := rfl
@[simp] theorem bnd_ex {α β : Type} (c v) (h : Hm) (f : α → Hm → R β) : bnd (.ex c v h) f = .ex c v h := rfl
@[simp] theorem bnd_bad {α β : Type} (f : α → Hm → R β) : bnd .bad f = .bad := rfl
def gd {α : Type} (c : Bool) (r : R α) : R α := if c = true then r else .bad
@[simp] theorem gd_t {α : Type} (r : R α) : gd true r = r := rfl
@[simp] theorem gd_f {α : Type} (r : R α) : gd false r = .bad := rfl
def opt {α : Type} (o : Option α) (h : Hm) : R α := match o with | some a => .ok a h | none => .bad
@[simp] theorem opt_some {α : Type} (a : α) (h : Hm) : opt (some a) h = .ok a h := rfl
@[simp] theorem opt_none {α : Type} (h : Hm) : opt (none : Option α) h = .bad := rfl

/-- a transient list gets a place -/
def own (d : D) (h : Hm) : R D := match d with
  | .lv ds => .ok (.ref h.length) (h ++ [.lst ds])
  | d => .ok d h

/-! ### views -/
def seqOf (h : Hm) : D → Option (List D)
  | .tup ds => some ds
  | .lv ds => some ds
  | .fl ds => some ds
  | .ref n => match h[n]? with
    | some (.lst ds) => some ds
    | _ => none
  | _ => none
def lstOf (h : Hm) : D → Option (List D)
  | .lv ds => some ds
  | .fl ds => some ds
  | .ref n => match h[n]? with
    | some (.lst ds) => some ds
    | _ => none
  | _ => none
/-- a list of one's own -/
def wlsOf (h : Hm) : D → Option (List D)
  | .lv ds => some ds
  | .ref n => match h[n]? with
    | some (.lst ds) => some ds
    | _ => none
  | _ => none
def dicOf (h : Hm) : D → Option (List (L2.Key × D))
  | .ref n => match h[n]? with
    | some (.dic kvs) => some kvs
    | some (.frd kvs) => some kvs
    | _ => none
  | _ => none
def lookK : List (L2.Key × D) → L2.Key → Option D
  | [], _ => none
  | (k', d) :: r, k => if k' = k then some d else lookK r k
def keyOf : D → Option L2.Key
  | .int i => some (.inl i)
  | .str x => some (.inr x)
  | _ => none
def ofKey : L2.Key → D
  | .inl i => .int i
  | .inr x => .str x
/-- all of some -/
def allSome {α β : Type} (f : α → Option β) : List α → Option (List β)
  | [] => some []
  | d :: ds => match f d, allSome f ds with
    | some p, some ps => some (p :: ps)
    | _, _ => none
/-- the keys that are numbers -/
def keysI : List (L2.Key × D) → Option (List Int)
  | [] => some []
  | (.inl i, _) :: r => (keysI r).map (i :: ·)
  | (.inr _, _) :: _ => none
/-- a dict that is being walked -/
def frdOf (h : Hm) : D → Option (List (L2.Key × D))
  | .ref n => match h[n]? with
    | some (.frd kvs) => some kvs
    | _ => none
  | _ => none
def dic1K (ds : List D) (h : Hm) : Option (List (L2.Key × D)) := match ds with
  | [a, d] => (keyOf a).map fun k => [(k, d)]
  | _ => none
/-- the datum a value is, lists read -/
def pyOf : Nat → Hm → D → Option PyData
  | 0, _, d => match d with
    | .non => some .none
    | .bl b => some (.bool b)
    | .int i => some (.int i)
    | .str x => some (.str x)
    | _ => none
  | n + 1, h, d => match d with
    | .non => some .none
    | .bl b => some (.bool b)
    | .int i => some (.int i)
    | .str x => some (.str x)
    | .tup ds => (allSome (pyOf n h) ds).map .tuple
    | .lv ds => (allSome (pyOf n h) ds).map .list
    | .fl ds => (allSome (pyOf n h) ds).map .list
    | .ref k => match h[k]? with
      | some (.lst ds) => (allSome (pyOf n h) ds).map .list
      | _ => none
mutual
/-- the kit's test of a datum's shape, in a form that the kernel runs -/
def shQ : PyData → Nat → Bool
  | .none, _ => true
  | .bool _, _ => true
  | .int _, _ => true
  | .str x, _ => PyData.strOk x
  | .list xs, n => match n with
    | 0 => false
    | n + 1 => shQL xs n
  | .tuple xs, n => match n with
    | 0 => false
    | n + 1 => shQL xs n
  | .dict _, _ => false
def shQL : List PyData → Nat → Bool
  | [], _ => true
  | x :: xs, n => shQ x n && shQL xs n
end
mutual
theorem shQ_eq : ∀ (d : PyData) (n : Nat), shQ d n = (d.canLay0 && decide (d.depth ≤ n))
  | .none, n => by simp [shQ, PyData.canLay0, PyData.depth]
  | .bool _, n => by simp [shQ, PyData.canLay0, PyData.depth]
  | .int _, n => by simp [shQ, PyData.canLay0, PyData.depth]
  | .str x, n => by simp [shQ, PyData.canLay0, PyData.depth]
  | .list xs, 0 => by simp [shQ, PyData.canLay0, PyData.depth]
  | .list xs, n + 1 => by simp [shQ, PyData.canLay0, PyData.depth, shQL_eq xs n]
  | .tuple xs, 0 => by simp [shQ, PyData.canLay0, PyData.depth]
  | .tuple xs, n + 1 => by simp [shQ, PyData.canLay0, PyData.depth, shQL_eq xs n]
  | .dict _, n => by simp [shQ, PyData.canLay0]
theorem shQL_eq : ∀ (ds : List PyData) (n : Nat), shQL ds n = (PyData.canLayAll0 ds && decide (PyData.depthAll ds ≤ n))
  | [], n => by simp [shQL, PyData.canLayAll0, PyData.depthAll]
  | x :: xs, n => by
    simp only [shQL, PyData.canLayAll0, PyData.depthAll, shQ_eq x n, shQL_eq xs n, Nat.max_le, Bool.decide_and]
    cases PyData.canLay0 x <;> cases PyData.canLayAll0 xs <;> simp
end
def shp (d : PyData) : Bool := shQ d 64
theorem shp_eq (d : PyData) : shp d = SeqAt.shaped d := shQ_eq d 64
mutual
/-- the kit's equality of data, in a form that the kernel runs -/
def eqQ : PyData → PyData → Bool
  | .none, b => match b with
    | .none => true
    | _ => false
  | .bool a, b => match b with
    | .bool b => a == b
    | .int j => (if a then 1 else 0) == j
    | _ => false
  | .int i, b => match b with
    | .int j => decide (i = j)
    | .bool b => i == (if b then 1 else 0)
    | _ => false
  | .str x, b => match b with
    | .str y => x == y
    | _ => false
  | .list xs, b => match b with
    | .list ys => eqQL xs ys
    | _ => false
  | .tuple xs, b => match b with
    | .tuple ys => eqQL xs ys
    | _ => false
  | .dict _, _ => false
def eqQL : List PyData → List PyData → Bool
  | [], ys => match ys with
    | [] => true
    | _ => false
  | x :: xs, ys => match ys with
    | [] => false
    | y :: ys => eqQ x y && eqQL xs ys
end
mutual
theorem eqQ_eq : ∀ a b : PyData, eqQ a b = PyData.eqv a b
  | .none, b => by cases b <;> simp [eqQ, PyData.eqv]
  | .bool _, b => by cases b <;> simp [eqQ, PyData.eqv]
  | .int i, b => by cases b <;> simp [eqQ, PyData.eqv, Bool.beq_eq_decide_eq]
  | .str _, b => by cases b <;> simp [eqQ, PyData.eqv]
  | .list xs, b => by
    cases b with
    | list ys => simp only [eqQ, PyData.eqv]; exact eqQL_eq xs ys
    | _ => simp [eqQ, PyData.eqv]
  | .tuple xs, b => by
    cases b with
    | tuple ys => simp only [eqQ, PyData.eqv]; exact eqQL_eq xs ys
    | _ => simp [eqQ, PyData.eqv]
  | .dict _, b => by cases b <;> simp [eqQ, PyData.eqv]
theorem eqQL_eq : ∀ a b : List PyData, eqQL a b = PyData.eqvAll a b
  | [], b => by cases b <;> simp [eqQL, PyData.eqvAll]
  | x :: xs, b => by
    cases b with
    | nil => simp [eqQL, PyData.eqvAll]
    | cons y ys => simp only [eqQL, PyData.eqvAll]; rw [eqQ_eq x y, eqQL_eq xs ys]
end

/-! ### operators, by values -/
def mulOk (i j : Int) : Bool := decide (i.natAbs < 2 ^ 64) || decide (j.natAbs < 2 ^ 64) || decide (i.natAbs.log2 + j.natAbs.log2 < 100000000)
def divOk (j : Int) : Bool := decide (0 < j) && decide (j.natAbs.log2 < 9000)
def powOk (i j : Int) : Bool := decide (0 ≤ j) && decide (j ≤ 1000000) && decide (i.natAbs < 2 ^ 64)
/-- xs k times -/
def reps {α : Type} (xs : List α) (k : Nat) : List α := (List.replicate k xs).flatten
def repOk (n : Nat) (k : Int) : Bool := decide (k.natAbs < 2 ^ 63) && decide (n * k.toNat ≤ sizeLine)
def addL (h : Hm) (x y : D) : Option D := match wlsOf h x, wlsOf h y with
  | some a, some b => if a.length + b.length ≤ sizeLine then some (.lv (a ++ b)) else none
  | _, _ => none
def binD (h : Hm) (o : Operator) (x y : D) : Option D := match o with
  | .Add => match x, y with
    | .int i, .int j => some (.int (i + j))
    | .str a, .str b => if a.length + b.length ≤ sizeLine then some (.str (a ++ b)) else none
    | .tup a, .tup b => if a.length + b.length ≤ sizeLine then some (.tup (a ++ b)) else none
    | .lv a, y => addL h (.lv a) y
    | .ref n, y => addL h (.ref n) y
    | _, _ => none
  | .Sub => match x, y with
    | .int i, .int j => some (.int (i - j))
    | _, _ => none
  | .Mult => match x, y with
    | .int i, .int j => if mulOk i j = true then some (.int (i * j)) else none
    | .tup a, .int k => if repOk a.length k = true then some (.tup (reps a k.toNat)) else none
    | .str a, .int k => if repOk a.length k = true then some (.str ⟨(reps a.cps.toList k.toNat).toArray⟩) else none
    | .lv a, .int k => if repOk a.length k = true then some (.lv (reps a k.toNat)) else none
    | .ref n, .int k => match wlsOf h (.ref n) with
      | some a => if repOk a.length k = true then some (.lv (reps a k.toNat)) else none
      | none => none
    | _, _ => none
  | .FloorDiv => match x, y with
    | .int i, .int j => if divOk j = true then some (.int (i / j)) else none
    | _, _ => none
  | .Mod => match x, y with
    | .int i, .int j => if 0 < j then some (.int (i % j)) else none
    | _, _ => none
  | .Pow => match x, y with
    | .int i, .int j => if powOk i j = true then some (.int (i ^ j.toNat)) else none
    | _, _ => none
  | .LShift => match x, y with
    | .int i, .int j => if powOk i j = true then some (.int (i * 2 ^ j.toNat)) else none
    | _, _ => none
  | .RShift => match x, y with
    | .int i, .int j => if 0 ≤ j then some (.int (i / 2 ^ j.toNat)) else none
    | _, _ => none
  | .BitAnd => match x, y with
    | .int i, .int j => some (.int (Builtin.bitAnd i j))
    | _, _ => none
  | .BitOr => match x, y with
    | .int i, .int j => some (.int (Builtin.bitOr i j))
    | _, _ => none
  | _ => none

/-- how deep values are read -/
abbrev deepN : Nat := 40
def eqD (h : Hm) (x y : D) : Option Bool := match x, y with
  | .int i, .int j => some (decide (i = j))
  | .str x, .str y => some (x == y)
  | x, y => match pyOf deepN h x, pyOf deepN h y with
    | some a, some b => if shp a = true ∧ shp b = true then some (eqQ a b) else none
    | _, _ => none
def inD (h : Hm) (x y : D) : Option Bool := match y with
  | .str s => match x with
    | .str z => some (!(Builtin.Str.occurrences s z 0 s.length 1).isEmpty)
    | _ => none
  | y => match dicOf h y with
    | some kvs => (keyOf x).map fun k => (lookK kvs k).isSome
    | none => match pyOf deepN h x, pyOf deepN h y with
      | some d, some (.list ds) => if shp d = true ∧ shp (.list ds) = true then some (ds.any fun z => eqQ z d) else none
      | some d, some (.tuple ds) => if shp d = true ∧ shp (.tuple ds) = true then some (ds.any fun z => eqQ z d) else none
      | _, _ => none
/-- tuples of whole numbers in order -/
def intsOf : List D → Option (List Int)
  | [] => some []
  | .int i :: ds => (intsOf ds).map (i :: ·)
  | _ :: _ => none
def ltD (x y : D) : Option Bool := match x, y with
  | .int i, .int j => some (decide (i < j))
  | .tup a, .tup b => match intsOf a, intsOf b with
    | some ns, some ms => some (HT.lexLt ns ms)
    | _, _ => none
  | _, _ => none
def leD (x y : D) : Option Bool := match x, y with
  | .int i, .int j => some (decide (i ≤ j))
  | .tup a, .tup b => match intsOf a, intsOf b with
    | some ns, some ms => some (Ob.lexAt (fun j => decide (ns.getD j 0 = ms.getD j 0)) (fun j => decide (ns.getD j 0 ≤ ms.getD j 0)) (decide (ns.length ≤ ms.length)) 0 (min ns.length ms.length))
    | _, _ => none
  | _, _ => none
def gtD (x y : D) : Option Bool := match x, y with
  | .int i, .int j => some (decide (j < i))
  | _, _ => none
def geD (x y : D) : Option Bool := match x, y with
  | .int i, .int j => some (decide (j ≤ i))
  | _, _ => none
def isN : D → Bool
  | .non => true
  | _ => false
/-- truth values are themselves -/
def isB (x y : D) : Option Bool := match x, y with
  | .bl a, .bl b => some (decide (a = b))
  | _, _ => none
def cmpD (h : Hm) (o : CmpOp) (x y : D) : Option Bool := match o with
  | .Eq => eqD h x y
  | .NotEq => (eqD h x y).map (!·)
  | .Lt => ltD x y
  | .LtE => leD x y
  | .Gt => gtD x y
  | .GtE => geD x y
  | .Is => if isN y = true then some (isN x) else isB x y
  | .IsNot => if isN y = true then some (!isN x) else (isB x y).map (!·)
  | .In => inD h x y
  | .NotIn => (inD h x y).map (!·)
def truth (h : Hm) : D → Option Bool
  | .bl b => some b
  | .int i => some (i != 0)
  | .non => some false
  | .str x => if x.length ≤ sizeLine then some ((x.length : Int) != 0) else none
  | .tup ds => some (!ds.isEmpty)
  | d => (lstOf h d).map fun ds => !ds.isEmpty

/-- places -/
def ixD (h : Hm) (o i : D) : Option D := match o with
  | .tup ds => match i with
    | .int i => L2.atI ds i
    | _ => none
  | .str x => match i with
    | .int i => if x.length ≤ sizeLine then (L2.atI x.cps.toList i).map fun c => .str ⟨#[c]⟩ else none
    | _ => none
  | .lv ds => match i with
    | .int i => L2.atI ds i
    | _ => none
  | .fl ds => match i with
    | .int i => L2.atI ds i
    | _ => none
  | .ref n => match h[n]? with
    | some (.lst ds) => match i with
      | .int i => L2.atI ds i
      | _ => none
    | some (.dic kvs) => match keyOf i with
      | some k => lookK kvs k
      | none => none
    | some (.frd kvs) => match keyOf i with
      | some k => lookK kvs k
      | none => none
    | _ => none
  | _ => none
def cutL {α : Type} (xs : List α) (lo hi : Option Int) : List α := (xs.drop (HT.sIx xs.length 0 lo)).take (HT.sIx xs.length xs.length hi - HT.sIx xs.length 0 lo)
def ixI : Option D → Option (Option Int)
  | none => some none
  | some (.int i) => some (some i)
  | _ => none
def cutD (h : Hm) (o : D) (lo hi : Option Int) : Option D := match o with
  | .tup ds => some (.tup (cutL ds lo hi))
  | .str x => if x.length ≤ sizeLine then some (.str ⟨(cutL x.cps.toList lo hi).toArray⟩) else none
  | o => (lstOf h o).map fun ds => .lv (cutL ds lo hi)
def slD (h : Hm) (o : D) (lo hi : Option D) : Option D := match ixI lo, ixI hi with
  | some lo, some hi => cutD h o lo hi
  | _, _ => none
def revD (h : Hm) (o : D) : Option D := match o with
  | .tup ds => some (.tup ds.reverse)
  | o => (lstOf h o).map fun ds => .lv ds.reverse

/-! ### built-ins, by values -/
inductive Bi where
  | len | abs | int | str | bool | repr | tuple | list | dict | sum | min | max | all | sorted | set
  | isTuple | isInt | isStr | isBool | lrange | srange
def lenD (h : Hm) (d : D) : Option Nat := match d with
  | .str x => if x.length ≤ sizeLine then some x.length else none
  | d => (seqOf h d).map (·.length)
def isTup : D → Bool
  | .tup _ => true
  | _ => false
def isIn : D → Bool
  | .int _ => true
  | .bl _ => true
  | _ => false
def isSt : D → Bool
  | .str _ => true
  | _ => false
def isBl : D → Bool
  | .bl _ => true
  | _ => false
/-- s, s + 1, .. (n of them) -/
def upto (s : Int) : Nat → List D
  | 0 => []
  | n + 1 => .int s :: upto (s + 1) n
def reprOf (h : Hm) (d : D) : Option D := match pyOf deepN h d with
  | some p => if p.showable = true ∧ shp p = true ∧ p.shown.length ≤ sizeLine then some (.str p.shown) else none
  | none => none
def blsOf : List D → Option (List Bool)
  | [] => some []
  | .bl b :: ds => (blsOf ds).map (b :: ·)
  | _ => none
def sumD (h : Hm) (d : D) : Option D := match lstOf h d with
  | some ds => (intsOf ds).map fun ns => .int ns.sum
  | none => none
def insI (x : Int) : List Int → List Int
  | [] => [x]
  | y :: ys => if x ≤ y then x :: y :: ys else y :: insI x ys
def sortI : List Int → List Int
  | [] => []
  | x :: xs => insI x (sortI xs)
def maxI (x : Int) : List Int → Int
  | [] => x
  | y :: ys => maxI (if y > x then y else x) ys
def minI (x : Int) : List Int → Int
  | [] => x
  | y :: ys => minI (if y < x then y else x) ys
def lrg (a b : Int) : Option D := if a.natAbs < 2 ^ 62 ∧ b.natAbs < 2 ^ 62 ∧ (b - a).toNat ≤ 16777216 then some (.lv (upto a (b - a).toNat)) else none
def bi1 (h : Hm) (f : Bi) (d : D) : Option D := match f with
  | .lrange => match d with
    | .int n => lrg 0 n
    | _ => none
  | .len => (lenD h d).map fun (n : Nat) => D.int (n : Int)
  | .abs => match d with
    | .int i => some (.int (if i < 0 then -i else i))
    | _ => none
  | .int => match d with
    | .int i => some (.int i)
    | .bl b => some (.int (if b = true then 1 else 0))
    | _ => none
  | .str => match d with
    | .int i => if i.natAbs.log2 < 1920 then some (.str (toString i)) else none
    | _ => none
  | .repr => reprOf h d
  | .tuple => (seqOf h d).map .tup
  | .list => (seqOf h d).map .lv
  | .sum => sumD h d
  | .all => match lstOf h d with
    | some ds => (blsOf ds).map fun bs => .bl (bs.all id)
    | none => none
  | .sorted => match seqOf h d with
    | some ds => (intsOf ds).map fun ns => .lv ((sortI ns).map .int)
    | none => match dicOf h d with
      | some kvs => match keysI kvs with
        | some ns => if ns.length ≤ sizeLine then some (.lv ((sortI ns).map .int)) else none
        | none => none
      | none => none
  | .max => match lstOf h d with
    | some ds => match intsOf ds with
      | some (n :: ns) => some (.int (maxI n ns))
      | _ => none
    | none => none
  | .min => match lstOf h d with
    | some ds => match intsOf ds with
      | some (n :: ns) => some (.int (minI n ns))
      | _ => none
    | none => none
  | .isTuple => some (.bl (isTup d))
  | .isInt => some (.bl (isIn d))
  | .isStr => some (.bl (isSt d))
  | .isBool => some (.bl (isBl d))
  | _ => none
def biD (h : Hm) (f : Bi) (ds : List D) : Option D := match ds with
  | [d] => bi1 h f d
  | [.int i, .int j] => match f with
    | .min => some (.int (if j < i then j else i))
    | .max => some (.int (if j > i then j else i))
    | .lrange => lrg i j
    | _ => none
  | _ => none

/-! ### methods of built-in types, by values: the answer and the heap behind -/
inductive Me where
  | append | extend | pop | insert | get | count | index | tindex | sindex | join | split | setdefault
/-- whose arguments get a place -/
def Me.owns : Me → Bool
  | .append => true
  | .insert => true
  | .setdefault => true
  | .get => true
  | _ => false
def txts : List D → Option (List Str)
  | [] => some []
  | .str x :: ds => (txts ds).map (x :: ·)
  | _ => none
/-- put a key -/
def putK (k : L2.Key) (d : D) (kvs : List (L2.Key × D)) : List (L2.Key × D) :=
  if (kvs.any fun kv => decide (kv.1 = k)) = true then kvs.map (fun kv => if kv.1 = k then (kv.1, d) else kv) else kvs ++ [(k, d)]
def eraseAt {α : Type} (xs : List α) (i : Nat) : List α := xs.take i ++ xs.drop (i + 1)
def countL (h : Hm) (x : D) : List D → Option Nat
  | [] => some 0
  | d :: ds => match eqD h d x, countL h x ds with
    | some b, some n => some (if b = true then n + 1 else n)
    | _, _ => none
def indexL (h : Hm) (x : D) : List D → Option Nat
  | [] => none
  | d :: ds => match eqD h d x with
    | some true => some 0
    | some false => (indexL h x ds).map (· + 1)
    | none => none
def meL (h : Hm) (n : Nat) (xs : List D) (f : Me) (ds : List D) : R D := match f with
  | .append => match ds with
    | [d] => if xs.length < sizeLine then .ok .non (h.set n (.lst (xs ++ [d]))) else .bad
    | _ => .bad
  | .extend => match ds with
    | [d] => match wlsOf h d with
      | some ys => if xs.length + ys.length ≤ sizeLine then .ok .non (h.set n (.lst (xs ++ ys))) else .bad
      | none => .bad
    | _ => .bad
  | .pop => match ds with
    | [] => match xs[xs.length - 1]? with
      | some d => .ok d (h.set n (.lst xs.dropLast))
      | none => .bad
    | [.int i] => if 0 ≤ i ∧ i < xs.length ∧ i < 2 ^ 63 then match xs[i.toNat]? with
        | some d => .ok d (h.set n (.lst (xs.eraseIdx i.toNat)))
        | none => .bad
      else .bad
    | _ => .bad
  | .insert => match ds with
    | [.int i, d] => if 0 ≤ i ∧ i < 2 ^ 63 ∧ xs.length < sizeLine then .ok .non (h.set n (.lst (xs.take i.toNat ++ [d] ++ xs.drop i.toNat))) else .bad
    | _ => .bad
  | _ => .bad
def getD (h : Hm) (o : D) (ds : List D) : R D := match dicOf h o with
  | some kvs => match ds with
    | [k] => match keyOf k with
      | some k => .ok ((lookK kvs k).getD .non) h
      | none => .bad
    | [k, d] => match keyOf k with
      | some k => .ok ((lookK kvs k).getD d) h
      | none => .bad
    | _ => .bad
  | none => .bad
/-- t.count(x) of a tuple -/
def countD (h : Hm) (o : D) (ds : List D) : Option D := match ds with
  | [x] => match pyOf deepN h x, pyOf deepN h o with
    | some d, some (.tuple es) => if shp d = true ∧ shp (.tuple es) = true then some (.int ((es.countP fun y => eqQ y d : Nat) : Int)) else none
    | _, _ => none
  | _ => none
/-- l.index(x) of a list -/
def indexD (h : Hm) (o : D) (ds : List D) : Option D := match ds with
  | [x] => match pyOf deepN h x, pyOf deepN h o with
    | some d, some (.list es) => if shp d = true ∧ shp (.list es) = true then (es.findIdx? fun y => eqQ y d).map fun (j : Nat) => .int j else none
    | _, _ => none
  | _ => none
/-- t.index(x) of a tuple of texts -/
def tindexD (o : D) (ds : List D) : Option D := match o, ds with
  | .tup es, [.str x] => match txts es with
    | some ys => (ys.findIdx? fun y => decide (y = x)).map fun (j : Nat) => .int j
    | none => none
  | _, _ => none
/-- s.index(x) of a text -/
def sindexD (o : D) (ds : List D) : Option D := match o, ds with
  | .str a, [.str b] => match Builtin.Str.occurrences a b 0 a.length 1 with
    | i :: _ => some (.int (i : Nat))
    | [] => none
  | _, _ => none
/-- s.join(l) -/
def joinD (h : Hm) (o : D) (ds : List D) : Option D := match o, ds with
  | .str a, [d] => match seqOf h d with
    | some es => match txts es with
      | some ys => if (ys.map (·.length)).sum + ys.length * a.length ≤ 16777216 then some (.str (Txt.join a ys)) else none
      | none => none
    | none => none
  | _, _ => none
/-- s.split(t) -/
def splitD (o : D) (ds : List D) : Option D := match o, ds with
  | .str a, [.str b] => if (b.length == 0) = false ∧ a.length + 2 ≤ sizeLine then some (.lv ((Txt.split a b).map .str)) else none
  | _, _ => none
def meD (h : Hm) (f : Me) (o : D) (ds : List D) : R D := match f with
  | .get => getD h o ds
  | .count => opt (countD h o ds) h
  | .index => opt (indexD h o ds) h
  | .tindex => opt (tindexD o ds) h
  | .sindex => opt (sindexD o ds) h
  | .join => opt (joinD h o ds) h
  | .split => opt (splitD o ds) h
  | f => match o with
    | .ref n => match h[n]? with
      | some (.lst xs) => meL h n xs f ds
      | _ => .bad
    | _ => .bad

/-- the receiver is of the kind that has the method -/
def meOk (h : Hm) (f : Me) (o : D) : Bool := match f with
  | .get => (dicOf h o).isSome
  | .count => isTup o
  | .tindex => isTup o
  | .index => (lstOf h o).isSome
  | .sindex => isSt o
  | .join => isSt o
  | .split => isSt o
  | _ => match o with
    | .ref n => match h[n]? with
      | some (.lst _) => true
      | _ => false
    | _ => false

/-! ### the syntax -/
mutual
inductive E where
  | c (d : D)
  | v (i : Nat)
  | g (x : Nat)
  | bin (o : Operator) (a b : E)
  | neg (a : E)
  | not (a : E)
  | cmp (o : CmpOp) (a b : E)
  | chain (o p : CmpOp) (a b c : E)
  | and (a b : E)
  | or (a b : E)
  | ife (t a b : E)
  | tup (es : Es)
  | lst (es : Es)
  | dic (ks : List L2.Key) (vs : Es)
  | dic1 (es : Es)
  | comp (e : E) (t : T) (i : I) (fs : Es) (own : List (Str × Nat))
  | ix (a i : E)
  | sl (a : E) (lo hi : Oe)
  | rev (a : E)
  | call (f : Nat) (es : Es)
  | callk (f : Nat) (es : Es) (kes : Es) (pm : List Nat)
  | bi (f : Bi) (es : Es)
  | me (f : Me) (o : E) (es : Es)
inductive Es where
  | nil | cons (e : E) (es : Es)
inductive Oe where
  | no | so (e : E)
inductive I where
  | of (e : E) | keys (e : E) | rng (es : Es) | enum (e : E) | zip (a b : E) | items (e : E) | vals (e : E)
inductive T where
  | n (i : Nat) | t (ts : Ts)
inductive Ts where
  | nil | cons (t : T) (ts : Ts)
end
mutual
inductive St where
  | asg (t : T) (e : E)
  | asgI (o i e : E)
  | asg2I (o i o2 i2 e : E)
  | asgL (ts : Ts) (e : E)
  | stop
  | aug (o : Operator) (i : Nat) (e : E)
  | augI (op : Operator) (o i e : E)
  | ex (e : E)
  | ret (e : E)
  | ret0
  | ifs (t : E) (a b : Ss)
  | for_ (t : T) (i : I) (b : Ss)
  | lock (v : Nat) (s : St)
  | while_ (t : E) (b : Ss)
  | raise (c : Nat) (es : Es)
  | try_ (b : Ss) (c : Nat) (s : Ss)
  | pass | brk | cnt
inductive Ss where
  | nil | cons (s : St) (ss : Ss)
end

/-! ### the interpreter -/
abbrev Env := List (Option D)
inductive Rs where
  | nx (ρ : Env) (h : Hm)
  | rt (d : D) (h : Hm)
  | bk (ρ : Env) (h : Hm)
  | ct (ρ : Env) (h : Hm)
  | xx (c : Str) (v : List (Str × D)) (ρ : Env) (h : Hm)
  | bad
/-- a source that has to stay as it is while it is walked -/
abbrev Src := Option (Nat × O)
def srcOk (s : Src) (h : Hm) : Bool := match s with
  | none => true
  | some (n, o) => decide (h[n]? = some o)
abbrev Gm := Nat → List D → Hm → R D

mutual
def asgT : T → D → Env → Option Env
  | .n i, d, ρ => if i < ρ.length then some (ρ.set i (some d)) else none
  | .t ts, .tup ds, ρ => asgTs ts ds ρ
  | .t _, _, _ => none
def asgTs : Ts → List D → Env → Option Env
  | .nil, [], ρ => some ρ
  | .cons t ts, d :: ds, ρ => match asgT t d ρ with
    | some ρ' => asgTs ts ds ρ'
    | none => none
  | .nil, _ :: _, _ => none
  | .cons _ _, [], _ => none
end
def wipeD (ρ : Env) : List Nat → Env
  | [] => ρ
  | v :: vs => (wipeD ρ vs).set v none
/-- where no error may leave -/
def nox {α : Type} (r : R α) : R α := match r with
  | .ex _ _ _ => .bad
  | r => r
mutual
def T.slots : T → List Nat
  | .n i => [i]
  | .t ts => Ts.slots ts
def Ts.slots : Ts → List Nat
  | .nil => []
  | .cons t ts => T.slots t ++ Ts.slots ts
end
/-- one turn of a comprehension -/
def stepC (fF : Env → Hm → R Bool) (fE : Env → Hm → R D) (t : T) (ρ : Env) (vs : List Nat) (d : D) (h : Hm) : R (Option D) := nox (match asgT t d (wipeD ρ vs) with
  | some ρ' => bnd (fF ρ' h) fun k h => if k = true then bnd (fE ρ' h) fun x h => bnd (own x h) fun x h => .ok (some x) h else .ok none h
  | none => .bad)
/-- the test of an expression's value -/
def truF (f : Env → Hm → R D) : Env → Hm → R Bool := fun ρ h => bnd (f ρ h) fun d h => opt (truth h d) h
/-- a turn of a for -/
def forS (body : Env → Hm → Rs) (t : T) (d : D) (ρ : Env) (h : Hm) : Rs := match asgT t d ρ with
  | some ρ' => body ρ' h
  | none => .bad
/-- the turns of a comprehension -/
def compL (step : D → Hm → R (Option D)) (src : Src) : List D → Hm → R (List D)
  | [], h => .ok [] h
  | d :: ds, h => bnd (step d h) fun r h1 => gd (srcOk src h1) <| bnd (compL step src ds h1) fun rs h2 =>
      .ok (match r with | some x => x :: rs | none => rs) h2
def pairs : Nat → List D → List D
  | _, [] => []
  | n, d :: ds => .tup [.int n, d] :: pairs (n + 1) ds
def zips : List D → List D → List D
  | a :: as, b :: bs => .tup [a, b] :: zips as bs
  | _, _ => []
def srcOf (h : Hm) : D → Src
  | .ref n => (h[n]?).map fun o => (n, o)
  | _ => none
/-- zip of two tuples, or of two lists of which one has no place -/
def zipD (h : Hm) (x y : D) : Option (List D × Src) := match x, y with
  | .tup a, .tup b => some (zips a b, none)
  | x, .lv b => (lstOf h x).map fun a => (zips a b, srcOf h x)
  | .lv a, y => (lstOf h y).map fun b => (zips a b, srcOf h y)
  | _, _ => none
def rngOk (i : Int) : Bool := decide (i.natAbs < 2 ^ 62)
def rngC (a c : Int) : Nat → List D
  | 0 => []
  | n + 1 => .int a :: rngC (a + c) c n
def rngD : List D → Option (List D)
  | [.int n] => if rngOk n = true then some (upto 0 n.toNat) else none
  | [.int a, .int b] => if rngOk a = true ∧ rngOk b = true then some (upto a (b - a).toNat) else none
  | [.int a, .int b, .int c] => if rngOk a = true ∧ rngOk b = true ∧ c = -1 then some (rngC a (-1) (a - b).toNat) else none
  | _ => none

mutual
def ev (Γ : Gm) (G : Nat → Option D) : E → Env → Hm → R D
  | .c d, _, h => .ok d h
  | .v i, ρ, h => match ρ[i]? with
    | some (some d) => .ok d h
    | _ => .bad
  | .g x, _, h => opt (G x) h
  | .bin o a b, ρ, h => bnd (ev Γ G a ρ h) fun x h => bnd (ev Γ G b ρ h) fun y h => opt (binD h o x y) h
  | .neg a, ρ, h => bnd (ev Γ G a ρ h) fun x h => match x with
    | .int i => .ok (.int (-i)) h
    | _ => .bad
  | .not a, ρ, h => bnd (ev Γ G a ρ h) fun x h => opt ((truth h x).map fun b => .bl (!b)) h
  | .cmp o a b, ρ, h => bnd (ev Γ G a ρ h) fun x h => bnd (ev Γ G b ρ h) fun y h => opt ((cmpD h o x y).map .bl) h
  | .chain o p a b c, ρ, h => bnd (ev Γ G a ρ h) fun x h => bnd (ev Γ G b ρ h) fun y h => bnd (opt (cmpD h o x y) h) fun k h =>
      if k = true then bnd (ev Γ G c ρ h) fun z h => opt ((cmpD h p y z).map .bl) h else .ok (.bl false) h
  | .and a b, ρ, h => bnd (ev Γ G a ρ h) fun x h => match x with
    | .bl k => if k = true then ev Γ G b ρ h else .ok (.bl false) h
    | _ => .bad
  | .or a b, ρ, h => bnd (ev Γ G a ρ h) fun x h => match x with
    | .bl k => if k = true then .ok (.bl true) h else ev Γ G b ρ h
    | _ => .bad
  | .ife t a b, ρ, h => bnd (ev Γ G t ρ h) fun x h => bnd (opt (truth h x) h) fun k h => if k = true then ev Γ G a ρ h else ev Γ G b ρ h
  | .tup es, ρ, h => bnd (evs Γ G es ρ h) fun ds h => gd (decide (ds.length ≤ sizeLine)) (.ok (.tup ds) h)
  | .lst es, ρ, h => bnd (evs Γ G es ρ h) fun ds h => gd (decide (ds.length ≤ sizeLine)) (.ok (.lv ds) h)
  | .dic ks es, ρ, h => bnd (evs Γ G es ρ h) fun ds h => gd (decide (ks.length = ds.length ∧ ks.Nodup ∧ ks.length ≤ 15)) (.ok (.ref h.length) (h ++ [.dic (ks.zip ds)]))
  | .dic1 es, ρ, h => bnd (evs Γ G es ρ h) fun ds h => match dic1K ds h with
    | some kvs => .ok (.ref h.length) (h ++ [.dic kvs])
    | none => .bad
  | .comp e t i fs w, ρ, h => bnd (evI Γ G i ρ h) fun (ds, src) h =>
      bnd (compL (stepC (evF Γ G fs) (ev Γ G e) t ρ (w.map (·.2))) src ds h) fun rs h => gd (decide (rs.length < sizeLine)) (.ok (.lv rs) h)
  | .ix a i, ρ, h => bnd (ev Γ G a ρ h) fun x h => bnd (ev Γ G i ρ h) fun y h => opt (ixD h x y) h
  | .sl a lo hi, ρ, h => bnd (ev Γ G a ρ h) fun x h => bnd (evO Γ G lo ρ h) fun l h => bnd (evO Γ G hi ρ h) fun u h => opt (slD h x l u) h
  | .rev a, ρ, h => bnd (ev Γ G a ρ h) fun x h => opt (revD h x) h
  | .call f es, ρ, h => bnd (evs Γ G es ρ h) fun ds h => Γ f ds h
  | .callk f es kes pm, ρ, h => bnd (evs Γ G es ρ h) fun ds h => bnd (evs Γ G kes ρ h) fun es h => Γ f (pm.map fun i => (ds ++ es).getD i default) h
  | .bi f es, ρ, h => bnd (evp Γ G es ρ h) fun ds h => opt (biD h f ds) h
  | .me f o es, ρ, h => bnd (ev Γ G o ρ h) fun x h => gd (meOk h f x) <| bnd (if f.owns = true then evs Γ G es ρ h else evp Γ G es ρ h) fun ds h => meD h f x ds
/-- arguments that get a place -/
def evs (Γ : Gm) (G : Nat → Option D) : Es → Env → Hm → R (List D)
  | .nil, _, h => .ok [] h
  | .cons e es, ρ, h => bnd (ev Γ G e ρ h) fun d h => bnd (own d h) fun d h => bnd (evs Γ G es ρ h) fun ds h => .ok (d :: ds) h
/-- arguments that are looked at alone -/
def evp (Γ : Gm) (G : Nat → Option D) : Es → Env → Hm → R (List D)
  | .nil, _, h => .ok [] h
  | .cons e es, ρ, h => bnd (ev Γ G e ρ h) fun d h => bnd (evp Γ G es ρ h) fun ds h => .ok (d :: ds) h
def evO (Γ : Gm) (G : Nat → Option D) : Oe → Env → Hm → R (Option D)
  | .no, _, h => .ok none h
  | .so e, ρ, h => bnd (ev Γ G e ρ h) fun d h => match d with
    | .int i => .ok (some (.int i)) h
    | _ => .bad
/-- a comprehension's tests -/
def evF (Γ : Gm) (G : Nat → Option D) : Es → Env → Hm → R Bool
  | .nil, _, h => .ok true h
  | .cons e es, ρ, h => bnd (ev Γ G e ρ h) fun d h => bnd (opt (truth h d) h) fun k h => if k = true then evF Γ G es ρ h else .ok false h
def evI (Γ : Gm) (G : Nat → Option D) : I → Env → Hm → R (List D × Src)
  | .of e, ρ, h => bnd (ev Γ G e ρ h) fun d h => opt ((seqOf h d).map fun ds => (ds, srcOf h d)) h
  | .keys e, ρ, h => bnd (ev Γ G e ρ h) fun d h => opt ((frdOf h d).map fun kvs => (kvs.map fun p => ofKey p.1, none)) h
  | .rng es, ρ, h => bnd (evp Γ G es ρ h) fun ds h => opt ((rngD ds).map fun ds => (ds, none)) h
  | .enum e, ρ, h => bnd (ev Γ G e ρ h) fun d h => opt ((seqOf h d).map fun ds => (pairs 0 ds, srcOf h d)) h
  | .zip a b, ρ, h => bnd (ev Γ G a ρ h) fun x h => bnd (ev Γ G b ρ h) fun y h => opt (zipD h x y) h
  | .items _, _, _ => .bad
  | .vals _, _, _ => .bad
end

/-- go on behind an expression -/
def bns {α : Type} (ρ : Env) (r : R α) (f : α → Hm → Rs) : Rs := match r with
  | .ok a h => f a h
  | .ex c v h => .xx c v ρ h
  | .bad => .bad
@[simp] theorem bns_ok {α : Type} (ρ) (a : α) (h : Hm) (f : α → Hm → Rs) : bns ρ (.ok a h) f = f a h := rfl
@[simp] theorem bns_ex {α : Type} (ρ c v) (h : Hm) (f : α → Hm → Rs) : bns ρ (.ex c v h) f = .xx c v ρ h := rfl
@[simp] theorem bns_bad {α : Type} (ρ) (f : α → Hm → Rs) : bns ρ .bad f = .bad := rfl
/-- go on behind a statement -/
def sq (r : Rs) (f : Env → Hm → Rs) : Rs := match r with
  | .nx ρ h => f ρ h
  | r => r
@[simp] theorem sq_nx (ρ h f) : sq (.nx ρ h) f = f ρ h := rfl
@[simp] theorem sq_rt (d h f) : sq (.rt d h) f = .rt d h := rfl
@[simp] theorem sq_bk (ρ h f) : sq (.bk ρ h) f = .bk ρ h := rfl
@[simp] theorem sq_ct (ρ h f) : sq (.ct ρ h) f = .ct ρ h := rfl
@[simp] theorem sq_xx (c v ρ h f) : sq (.xx c v ρ h) f = .xx c v ρ h := rfl
@[simp] theorem sq_bad (f) : sq .bad f = .bad := rfl
/-- what a turn leaves -/
def tn (r : Rs) (f : Env → Hm → Rs) : Rs := match r with
  | .nx ρ h => f ρ h
  | .ct ρ h => f ρ h
  | .bk ρ h => .nx ρ h
  | r => r
@[simp] theorem tn_nx (ρ h f) : tn (.nx ρ h) f = f ρ h := rfl
@[simp] theorem tn_ct (ρ h f) : tn (.ct ρ h) f = f ρ h := rfl
@[simp] theorem tn_bk (ρ h f) : tn (.bk ρ h) f = .nx ρ h := rfl
@[simp] theorem tn_rt (d h f) : tn (.rt d h) f = .rt d h := rfl
@[simp] theorem tn_xx (c v ρ h f) : tn (.xx c v ρ h) f = .xx c v ρ h := rfl
@[simp] theorem tn_bad (f) : tn .bad f = .bad := rfl
def gs (c : Bool) (r : Rs) : Rs := if c = true then r else .bad
@[simp] theorem gs_t (r : Rs) : gs true r = r := rfl
@[simp] theorem gs_f (r : Rs) : gs false r = .bad := rfl
def forL (step : D → Env → Hm → Rs) (src : Src) : List D → Env → Hm → Rs
  | [], ρ, h => .nx ρ h
  | d :: ds, ρ, h => tn (step d ρ h) fun ρ h => gs (srcOk src h) (forL step src ds ρ h)
def whileL (test : Env → Hm → R Bool) (body : Env → Hm → Rs) : Nat → Env → Hm → Rs
  | 0, _, _ => .bad
  | n + 1, ρ, h => bns ρ (test ρ h) fun k h => if k = true then tn (body ρ h) (whileL test body n) else .nx ρ h
def setI (h : Hm) (o i d : D) : R Unit := match o with
  | .ref n => match h[n]? with
    | some (.lst xs) => match i with
      | .int i => if 0 ≤ i ∧ i < xs.length then .ok () (h.set n (.lst (xs.set i.toNat d))) else .bad
      | _ => .bad
    | some (.dic kvs) => match keyOf i with
      | some k => if kvs.length < sizeLine then .ok () (h.set n (.dic (putK k d kvs))) else .bad
      | none => .bad
    | _ => .bad
  | _ => .bad
/-- x op= y -/
def augD : Operator → D → D → Option D
  | .Add, .int a, .int b => some (.int (a + b))
  | .Sub, .int a, .int b => some (.int (a - b))
  | _, _, _ => none
/-- a place that is to be written -/
def ixW (h : Hm) (o i : D) : Option D := match o with
  | .ref n => match h[n]? with
    | some (.lst xs) => match i with
      | .int i => if 0 ≤ i ∧ i < 2 ^ 63 then xs[i.toNat]? else none
      | _ => none
    | some (.dic kvs) => match keyOf i with
      | some k => lookK kvs k
      | none => none
    | _ => none
  | _ => none
/-- a walked dict may be written again -/
def rlk (n : Nat) (kvs : List (L2.Key × D)) (r : Rs) : Rs := match r with
  | .nx ρ h => if h[n]? = some (.frd kvs) then .nx ρ (h.set n (.dic kvs)) else .bad
  | .rt d h => if h[n]? = some (.frd kvs) then .rt d (h.set n (.dic kvs)) else .bad
  | _ => .bad
/-- which errors there are: the fields' names of the class c, and whether class c is under class k -/
structure Xs where
  cls : Nat → Option (Str × List Str)
  sub : Str → Nat → Bool
  /-- so many turns of a while at most -/
  wf : Nat
mutual
def exs (Γ : Gm) (G : Nat → Option D) (X : Xs) : Ss → Env → Hm → Rs
  | .nil, ρ, h => .nx ρ h
  | .cons s ss, ρ, h => sq (ex Γ G X s ρ h) (exs Γ G X ss)
def ex (Γ : Gm) (G : Nat → Option D) (X : Xs) : St → Env → Hm → Rs
  | .asg t e, ρ, h => bns ρ (ev Γ G e ρ h) fun d h => bns ρ (own d h) fun d h => bns ρ (opt (asgT t d ρ) h) .nx
  | .asgI o i e, ρ, h => bns ρ (ev Γ G e ρ h) fun d h => bns ρ (own d h) fun d h => bns ρ (ev Γ G o ρ h) fun o h => bns ρ (ev Γ G i ρ h) fun i h => bns ρ (setI h o i d) fun _ h => .nx ρ h
  | .asg2I o i o2 i2 e, ρ, h => bns ρ (ev Γ G e ρ h) fun d h => bns ρ (own d h) fun d h => match d with
    | .tup [d1, d2] => bns ρ (ev Γ G o ρ h) fun o h => bns ρ (ev Γ G i ρ h) fun i h => bns ρ (setI h o i d1) fun _ h => bns ρ (ev Γ G o2 ρ h) fun o h => bns ρ (ev Γ G i2 ρ h) fun i h => bns ρ (setI h o i d2) fun _ h => .nx ρ h
    | _ => .bad
  | .stop, _, _ => .bad
  | .asgL ts e, ρ, h => bns ρ (ev Γ G e ρ h) fun d h => bns ρ (own d h) fun d h => bns ρ (opt ((lstOf h d).bind fun ds => asgTs ts ds ρ) h) .nx
  | .aug op i e, ρ, h => bns ρ (ev Γ G (.v i) ρ h) fun x h => bns ρ (ev Γ G e ρ h) fun y h => bns ρ (opt (augD op x y) h) fun z h => .nx (ρ.set i (some z)) h
  | .augI op o i e, ρ, h => bns ρ (ev Γ G o ρ h) fun o h => bns ρ (ev Γ G i ρ h) fun i h => bns ρ (opt (ixW h o i) h) fun x h => bns ρ (ev Γ G e ρ h) fun y h => bns ρ (opt (augD op x y) h) fun z h => bns ρ (setI h o i z) fun _ h => .nx ρ h
  | .ex e, ρ, h => bns ρ (ev Γ G e ρ h) fun _ h => .nx ρ h
  | .ret e, ρ, h => bns ρ (ev Γ G e ρ h) fun d h => bns ρ (own d h) .rt
  | .ret0, _, h => .rt .non h
  | .ifs t a b, ρ, h => bns ρ (ev Γ G t ρ h) fun d h => bns ρ (opt (truth h d) h) fun k h => if k = true then exs Γ G X a ρ h else exs Γ G X b ρ h
  | .for_ t i b, ρ, h => bns ρ (evI Γ G i ρ h) fun (ds, src) h =>
      forL (forS (exs Γ G X b) t) src ds ρ h
  | .lock v s, ρ, h => match ρ[v]? with
    | some (some (.ref n)) => match h[n]? with
      | some (.dic kvs) => rlk n kvs (ex Γ G X s ρ (h.set n (.frd kvs)))
      | _ => .bad
    | _ => .bad
  | .while_ t b, ρ, h => whileL (truF (ev Γ G t)) (exs Γ G X b) X.wf ρ h
  | .raise c es, ρ, h => bns ρ (evs Γ G es ρ h) fun ds h => match X.cls c with
    | some (n, fs) => if fs.length = ds.length then .xx n (fs.zip ds) ρ h else .bad
    | none => .bad
  | .try_ b c s, ρ, h => match exs Γ G X b ρ h with
    | .xx n v ρ' h' => if X.sub n c = true then exs Γ G X s ρ' h' else .xx n v ρ' h'
    | r => r
  | .pass, ρ, h => .nx ρ h
  | .brk, ρ, h => .bk ρ h
  | .cnt, ρ, h => .ct ρ h
end

/-! ### calls -/
def ixOf : List Nat → Nat → Nat
  | [], _ => 0
  | a :: t, n => if n = a then 0 else ixOf t n + 1
def reach : Nat → Hm → List Nat → List Nat → List Nat
  | 0, _, _, seen => seen
  | _ + 1, _, [], seen => seen
  | f + 1, h, n :: t, seen => if seen.contains n = true then reach f h t seen else
      reach f h ((match h[n]? with | some o => o.refs | none => []) ++ t) (seen ++ [n])
/-- rs, no one twice, bears all that hangs on it, and ns -/
def closedB (h : Hm) (rs ns : List Nat) : Bool :=
  decide rs.Nodup && ns.all (fun n => rs.contains n) && rs.all fun n => match h[n]? with
    | some o => o.refs.all fun n => rs.contains n
    | none => false
def subH (h : Hm) (rs : List Nat) : Hm := rs.map fun n => (h.getD n default).map (ixOf rs)
def bk (rs : List Nat) (len i : Nat) : Nat := if i < rs.length then rs.getD i 0 else len + (i - rs.length)
def setAll (h : Hm) : List Nat → List O → Hm
  | n :: ns, o :: os => setAll (h.set n o) ns os
  | _, _ => h
def putH (h : Hm) (rs : List Nat) (h' : Hm) : Hm :=
  setAll h rs ((h'.take rs.length).map (O.map (bk rs h.length))) ++ (h'.drop rs.length).map (O.map (bk rs h.length))
/-- a call sees what hangs on its arguments alone, under numbers of its own -/
def callM (Γ : Gm) : Gm := fun f args h =>
  let ns := D.refsL args
  let rs := reach 100000 h ns []
  gd (closedB h rs ns) <| match Γ f (D.mapL (ixOf rs) args) (subH h rs) with
    | .ok v h' => .ok (v.map (bk rs h.length)) (putH h rs h')
    | .ex c v h' => .ex c (kvMap (D.map (bk rs h.length)) v) (putH h rs h')
    | .bad => .bad
def nums (s : Nat) : Nat → List Nat
  | 0 => []
  | n + 1 => s :: nums (s + 1) n
/-- what nothing holds any more goes -/
def gcH (k : Nat) (h : Hm) (ns : List Nat) : List Nat := reach 100000 h (((nums 0 k).flatMap fun n => match h[n]? with | some o => o.refs | none => []) ++ ns) (nums 0 k)
def gcR (k : Nat) (r : R D) : R D := match r with
  | .ok v h =>
    let rs := gcH k h v.refs
    gd (closedB h rs (nums 0 k ++ v.refs) && decide (rs.take k = nums 0 k)) (.ok (v.map (ixOf rs)) (subH h rs))
  | .ex c v h =>
    let rs := gcH k h (kvRefs v)
    gd (closedB h rs (nums 0 k ++ kvRefs v) && decide (rs.take k = nums 0 k)) (.ex c (kvMap (D.map (ixOf rs)) v) (subH h rs))
  | .bad => .bad
structure FD where
  n : Nat
  m : Nat
  b : Ss
def outR (r : Rs) : R D := match r with
  | .nx _ h => .ok .non h
  | .rt v h => .ok v h
  | .xx c v _ h => .ex c v h
  | _ => .bad
@[simp] theorem outR_nx (ρ h) : outR (.nx ρ h) = .ok .non h := rfl
@[simp] theorem outR_rt (v h) : outR (.rt v h) = .ok v h := rfl
@[simp] theorem outR_xx (c v ρ h) : outR (.xx c v ρ h) = .ex c v h := rfl
def runB (Γ : Gm) (G : Nat → Option D) (X : Xs) (d : FD) (args : List D) (h : Hm) : R D :=
  gd (decide (args.length = d.n)) (gcR h.length (outR (exs Γ G X d.b (args.map some ++ List.replicate (d.m - d.n) none) h)))
def callF (G : Nat → Option D) (X : Xs) (tab : Nat → Option FD) : Nat → Gm
  | 0 => fun _ _ _ => .bad
  | n + 1 => fun f args h => match tab f with
    | some d => runB (callM (callF G X tab n)) G X d args h
    | none => .bad
end Mi

set_option Elab.async false
set_option linter.all false
set_option maxRecDepth 100000
/-! Mini: what a small value and the small heap say of the model's. -/
namespace Mi
open PySem PySem.Spec PyProof.Rows L2
/-- a list that is read alone: locked, or an object of the module -/
def SqF (K : PySem.W.Frag) (H : Hp) (a : Addr) (xs : List V) : Prop :=
  (∃ o, H a = some (.frz o (.lst xs))) ∨
    ∃ (o : Obj) (its : Array Value) (n : Nat), K.lookup a = some o ∧ o.cls = .type "list" ∧ o.dict = none ∧ o.data = .seq its n ∧ its.size ≤ sizeLine ∧ Vals xs its.toList
theorem SqF.sq {K : PySem.W.Frag} {H : Hp} {a : Addr} {xs : List V} (h : SqF K H a xs) : SqL K H a xs := by
  rcases h with h | h
  · exact .inl (.inr h)
  · exact .inr h
/-- a tuple whose object is known, on which no dict hangs -/
def SqN (K : PySem.W.Frag) (H : Hp) (a : Addr) (xs : List V) : Prop :=
  (∃ o : Obj, H a = some (.frz o (.tup xs)) ∧ o.dict = none) ∨
    ∃ (o : Obj) (its : Array Value) (n : Nat), K.lookup a = some o ∧ o.cls = .type "tuple" ∧ o.dict = none ∧ o.data = .seq its n ∧ its.size ≤ sizeLine ∧ Vals xs its.toList
theorem SqN.sq {K : PySem.W.Frag} {H : Hp} {a : Addr} {xs : List V} (h : SqN K H a xs) : SqT K H a xs := by
  rcases h with ⟨o, h, _⟩ | ⟨o, its, n, h1, h2, _, h4⟩
  · exact .inl (.inr ⟨o, h⟩)
  · exact .inr ⟨o, its, n, h1, h2, h4⟩
theorem SqN.of {K : PySem.W.Frag} {H : Hp} {a : Addr} {xs : List V} {o : Obj} (h : H a = some (.frz o (.tup xs))) (n : o.dict = none) : SqN K H a xs := .inl ⟨o, h, n⟩
theorem stL_append (a b : List D) : D.stL (a ++ b) = (D.stL a && D.stL b) := by
  induction a with
  | nil => simp [D.stL]
  | cons x r ih => simp [D.stL, ih, Bool.and_assoc]
theorem stL_iff (a : List D) : D.stL a = true ↔ ∀ d ∈ a, D.st d = true := by
  induction a with
  | nil => simp [D.stL]
  | cons x r ih => simp [D.stL, ih]
mutual
inductive Rp (K : PySem.W.Frag) (m : List Addr) (H : Hp) : V → D → Prop
  | non : Rp K m H .non .non
  | bl (b : Bool) : Rp K m H (.bl b) (.bl b)
  | int (i : Int) : Rp K m H (.int i) (.int i)
  | str (x : Str) : Rp K m H (.str x) (.str x)
  | tup {a : Addr} {xs : List V} {ds : List D} : SqN K H a xs → D.stL ds = true → RpL K m H xs ds → Rp K m H (.ref a) (.tup ds)
  | ref {a : Addr} {n : Nat} : m[n]? = some a → Rp K m H (.ref a) (.ref n)
  | lv {a : Addr} {xs : List V} {ds : List D} : H a = some (.lst xs) → a ∉ m → D.stL ds = true → RpL K m H xs ds → Rp K m H (.ref a) (.lv ds)
  | fl {a : Addr} {xs : List V} {ds : List D} : SqF K H a xs → D.stL ds = true → RpL K m H xs ds → Rp K m H (.ref a) (.fl ds)
inductive RpL (K : PySem.W.Frag) (m : List Addr) (H : Hp) : List V → List D → Prop
  | nil : RpL K m H [] []
  | cons {v : V} {vs : List V} {d : D} {ds : List D} : Rp K m H v d → RpL K m H vs ds → RpL K m H (v :: vs) (d :: ds)
end
section
variable {K : PySem.W.Frag} {m : List Addr} {H : Hp}
theorem RpL.length : ∀ {vs : List V} {ds : List D}, RpL K m H vs ds → vs.length = ds.length
  | _, _, .nil => rfl
  | _, _, .cons _ t => congrArg Nat.succ t.length
theorem RpL.append : ∀ {vs ws : List V} {ds es : List D}, RpL K m H vs ds → RpL K m H ws es → RpL K m H (vs ++ ws) (ds ++ es)
  | _, _, _, _, .nil, s => s
  | _, _, _, _, .cons r t, s => .cons r (t.append s)
theorem RpL.get : ∀ {vs : List V} {ds : List D} {i : Nat} {d : D}, RpL K m H vs ds → ds[i]? = some d → ∃ v, vs[i]? = some v ∧ Rp K m H v d
  | _, _, _, _, .nil, e => by simp at e
  | _, _, 0, _, .cons r _, e => by simp at e; subst e; exact ⟨_, rfl, r⟩
  | _, _, i + 1, d, .cons _ t, e => by
    obtain ⟨v, h1, h2⟩ := RpL.get (i := i) (d := d) t (by simpa using e)
    exact ⟨v, by simpa using h1, h2⟩
theorem RpL.take : ∀ {vs : List V} {ds : List D} (n : Nat), RpL K m H vs ds → RpL K m H (vs.take n) (ds.take n)
  | _, _, 0, _ => by simpa using RpL.nil
  | _, _, _ + 1, .nil => by simpa using RpL.nil
  | _, _, n + 1, .cons r t => by simpa using RpL.cons r (t.take n)
theorem RpL.drop : ∀ {vs : List V} {ds : List D} (n : Nat), RpL K m H vs ds → RpL K m H (vs.drop n) (ds.drop n)
  | _, _, 0, r => by simpa using r
  | _, _, _ + 1, .nil => by simpa using RpL.nil
  | _, _, n + 1, .cons _ t => by simpa using t.drop n
theorem RpL.set {v : V} {d : D} (r : Rp K m H v d) : ∀ {vs : List V} {ds : List D} (i : Nat), RpL K m H vs ds → RpL K m H (vs.set i v) (ds.set i d)
  | _, _, _, .nil => .nil
  | _, _, 0, .cons _ t => .cons r t
  | _, _, i + 1, .cons q t => .cons q (t.set r i)
theorem RpL.one {v : V} {d : D} (r : Rp K m H v d) : RpL K m H [v] [d] := .cons r .nil
theorem RpL.reps : ∀ {vs : List V} {ds : List D} (k : Nat), RpL K m H vs ds → RpL K m H (reps vs k) (reps ds k)
  | _, _, 0, _ => .nil
  | _, _, k + 1, r => by
    have q := RpL.reps k r
    unfold Mi.reps at q ⊢
    rw [List.replicate_succ, List.flatten_cons, List.replicate_succ, List.flatten_cons]
    exact r.append q
end

/-- a dict's pairs -/
def KvR (K : PySem.W.Frag) (m : List Addr) (H : Hp) (kvs : List (L2.Key × V)) (kds : List (L2.Key × D)) : Prop :=
  kvs.map (·.1) = kds.map (·.1) ∧ D.stL (kds.map (·.2)) = true ∧ RpL K m H (kvs.map (·.2)) (kds.map (·.2))
inductive OAt (K : PySem.W.Frag) (m : List Addr) (H : Hp) (a : Addr) : O → Prop
  | lst {xs : List V} {ds : List D} : H a = some (.lst xs) → D.stL ds = true → RpL K m H xs ds → OAt K m H a (.lst ds)
  | dic {kvs : List (L2.Key × V)} {kds : List (L2.Key × D)} : H a = some (.dK kvs) → KvR K m H kvs kds → OAt K m H a (.dic kds)
  | frd {o : Obj} {kvs : List (L2.Key × V)} {kds : List (L2.Key × D)} : H a = some (.frz o (.dK kvs)) → KvR K m H kvs kds → OAt K m H a (.frd kds)
/-- the kind of what may have a number -/
def isReg : HO → Bool
  | .lst _ => true
  | .dK _ => true
  | .frz _ (.dK _) => true
  | _ => false
theorem OAt.reg {K : PySem.W.Frag} {m : List Addr} {H : Hp} {a : Addr} {o : O} (h : OAt K m H a o) : ∃ u, H a = some u ∧ isReg u = true := by
  cases h with
  | lst e _ _ => exact ⟨_, e, rfl⟩
  | dic e _ => exact ⟨_, e, rfl⟩
  | frd e _ => exact ⟨_, e, rfl⟩
structure HRp (K : PySem.W.Frag) (m : List Addr) (H : Hp) (h : Hm) : Prop where
  len : m.length = h.length
  nd : m.Nodup
  at_ : ∀ (n : Nat) (o : O) (a : Addr), h[n]? = some o → m[n]? = some a → OAt K m H a o
structure Ext (m : List Addr) (H : Hp) (m' : List Addr) (H' : Hp) : Prop where
  pre : ∃ l, m' = m ++ l ∧ ∀ a ∈ l, H a = none
  fr : ∀ a o, H a = some o → a ∉ m → H' a = some o
  fz : ∀ a o u, H a = some (.frz o u) → H' a = some (.frz o u)
section
variable {K : PySem.W.Frag} {m m' m1 m2 : List Addr} {H H' H1 H2 : Hp} {h h' h1 h2 : Hm}
theorem HRp.reg (r : HRp K m H h) {a : Addr} (ha : a ∈ m) : ∃ u, H a = some u ∧ isReg u = true := by
  obtain ⟨n, hn, e⟩ := List.getElem_of_mem ha
  have hl : n < h.length := by rw [← r.len]; exact hn
  exact (r.at_ n h[n] a (List.getElem?_eq_getElem hl) (by rw [List.getElem?_eq_getElem hn, e])).reg
theorem HRp.notIn (r : HRp K m H h) {a : Addr} {u : HO} (e : H a = some u) (hu : isReg u = false) : a ∉ m := fun ha => by
  obtain ⟨v, e', q⟩ := r.reg ha
  rw [e] at e'; cases e'
  rw [hu] at q; cases q
theorem HRp.fresh (r : HRp K m H h) {a : Addr} (e : H a = none) : a ∉ m := fun ha => by
  obtain ⟨v, e', q⟩ := r.reg ha
  rw [e] at e'; cases e'
theorem HRp.get (r : HRp K m H h) {n : Nat} {o : O} (e : h[n]? = some o) : ∃ a, m[n]? = some a ∧ OAt K m H a o := by
  have hl := (List.getElem?_eq_some_iff.mp e).1
  have hm : n < m.length := by rw [r.len]; exact hl
  exact ⟨m[n], List.getElem?_eq_getElem hm, r.at_ n o _ e (List.getElem?_eq_getElem hm)⟩
theorem Ext.refl : Ext m H m H := ⟨⟨[], by simp, fun _ h => nomatch h⟩, fun _ _ h _ => h, fun _ _ _ h => h⟩
theorem Ext.trans (r : HRp K m2 H2 h2) (a : Ext m H m1 H1) (b : Ext m1 H1 m2 H2) : Ext m H m2 H2 := by
  obtain ⟨l1, e1, f1⟩ := a.pre
  obtain ⟨l2, e2, f2⟩ := b.pre
  refine ⟨⟨l1 ++ l2, by rw [e2, e1, List.append_assoc], fun x hx => ?_⟩, fun x o e hn => ?_, fun x o u e => b.fz x o u (a.fz x o u e)⟩
  · rcases List.mem_append.mp hx with hx | hx
    · exact f1 x hx
    · cases q : H x with
      | none => rfl
      | some o =>
        have nx : x ∉ m := fun hm => by
          have nd := r.nd
          rw [e2, e1, List.append_assoc] at nd
          exact (List.nodup_append.mp nd).2.2 x hm x (List.mem_append_right _ hx) rfl
        have q1 := a.fr x o q nx
        rw [f2 x hx] at q1; cases q1
  · refine b.fr x o (a.fr x o e hn) fun hm => ?_
    rw [e1] at hm
    rcases List.mem_append.mp hm with hm | hm
    · exact hn hm
    · rw [f1 x hm] at e; cases e
theorem Ext.get (x : Ext m H m' H') {n : Nat} {a : Addr} (e : m[n]? = some a) : m'[n]? = some a := by
  obtain ⟨l, el, _⟩ := x.pre
  rw [el, List.getElem?_append_left (List.getElem?_eq_some_iff.mp e).1]
  exact e
theorem SqT.ext (r : HRp K m H h) (x : Ext m H m' H') {a : Addr} {xs : List V} (q : SqT K H a xs) : SqT K H' a xs := by
  rcases q with (q | ⟨o, q⟩) | q
  · exact .inl (.inl (x.fr a _ q (r.notIn q rfl)))
  · exact .inl (.inr ⟨o, x.fr a _ q (r.notIn q rfl)⟩)
  · exact .inr q
theorem SqN.ext (r : HRp K m H h) (x : Ext m H m' H') {a : Addr} {xs : List V} (q : SqN K H a xs) : SqN K H' a xs := by
  rcases q with ⟨o, q, n⟩ | q
  · exact .inl ⟨o, x.fr a _ q (r.notIn q rfl), n⟩
  · exact .inr q
theorem SqF.ext (r : HRp K m H h) (x : Ext m H m' H') {a : Addr} {xs : List V} (q : SqF K H a xs) : SqF K H' a xs := by
  rcases q with ⟨o, q⟩ | q
  · exact .inl ⟨o, x.fr a _ q (r.notIn q rfl)⟩
  · exact .inr q
mutual
theorem Rp.ext (r : HRp K m H h) (x : Ext m H m' H') : ∀ {v : V} {d : D}, Rp K m H v d → Rp K m' H' v d
  | _, _, .non => .non
  | _, _, .bl b => .bl b
  | _, _, .int i => .int i
  | _, _, .str y => .str y
  | _, _, .tup q s t => .tup (SqN.ext r x q) s (RpL.ext r x t)
  | _, _, .ref e => .ref (x.get e)
  | _, _, .lv e n s t => .lv (x.fr _ _ e n) (fun hm => by
      obtain ⟨l, el, f⟩ := x.pre
      rw [el] at hm
      rcases List.mem_append.mp hm with hm | hm
      · exact n hm
      · rw [f _ hm] at e; cases e) s (RpL.ext r x t)
  | _, _, .fl q s t => .fl (SqF.ext r x q) s (RpL.ext r x t)
theorem RpL.ext (r : HRp K m H h) (x : Ext m H m' H') : ∀ {v : List V} {d : List D}, RpL K m H v d → RpL K m' H' v d
  | _, _, .nil => .nil
  | _, _, .cons a t => .cons (Rp.ext r x a) (RpL.ext r x t)
end
theorem KvR.ext (r : HRp K m H h) (x : Ext m H m' H') {kvs : List (L2.Key × V)} {kds : List (L2.Key × D)} (q : KvR K m H kvs kds) : KvR K m' H' kvs kds := ⟨q.1, q.2.1, RpL.ext r x q.2.2⟩
mutual
/-- values without transient lists under more numbers -/
theorem Rp.more (l : List Addr) : ∀ {v : V} {d : D}, D.st d = true → Rp K m H v d → Rp K (m ++ l) H v d
  | _, _, _, .non => .non
  | _, _, _, .bl b => .bl b
  | _, _, _, .int i => .int i
  | _, _, _, .str y => .str y
  | _, _, _, .tup q s t => .tup q s (RpL.more l s t)
  | _, _, _, .ref e => .ref (by rw [List.getElem?_append_left (List.getElem?_eq_some_iff.mp e).1]; exact e)
  | _, _, z, .lv e n s t => by simp [D.st] at z
  | _, _, _, .fl q s t => .fl q s (RpL.more l s t)
theorem RpL.more (l : List Addr) : ∀ {v : List V} {d : List D}, D.stL d = true → RpL K m H v d → RpL K (m ++ l) H v d
  | _, _, _, .nil => .nil
  | _, _, z, .cons a t => .cons (Rp.more l (by simp [D.stL] at z; exact z.1) a) (RpL.more l (by simp [D.stL] at z; exact z.2) t)
end
theorem KvR.more (l : List Addr) {kvs : List (L2.Key × V)} {kds : List (L2.Key × D)} (q : KvR K m H kvs kds) : KvR K (m ++ l) H kvs kds := ⟨q.1, q.2.1, RpL.more l q.2.1 q.2.2⟩

/-- a new object that gets no number -/
theorem Ext.lay {p : Addr} {u : HO} (hp : H p = none) : Ext m H m (upd H p u) :=
  ⟨⟨[], by simp, fun _ h => nomatch h⟩, fun a o e _ => by rw [upd_ne (ne_of_none e hp)]; exact e, fun a o v e => by rw [upd_ne (ne_of_none e hp)]; exact e⟩
theorem OAt.ext (r : HRp K m H h) (x : Ext m H m' H') {a : Addr} {o : O} (e : H' a = H a) (q : OAt K m H a o) : OAt K m' H' a o := by
  cases q with
  | lst e' s t => exact .lst (e.trans e') s (RpL.ext r x t)
  | dic e' t => exact .dic (e.trans e') (KvR.ext r x t)
  | frd e' t => exact .frd (e.trans e') (KvR.ext r x t)
theorem HRp.lay (r : HRp K m H h) {p : Addr} {u : HO} (hp : H p = none) : HRp K m (upd H p u) h := by
  refine ⟨r.len, r.nd, fun n o a e1 e2 => ?_⟩
  have q := r.at_ n o a e1 e2
  obtain ⟨v, e, _⟩ := q.reg
  exact q.ext r (Ext.lay hp) (upd_ne (ne_of_none e hp))
theorem OAt.more (l : List Addr) {a : Addr} {o : O} (q : OAt K m H a o) : OAt K (m ++ l) H a o := by
  cases q with
  | lst e s t => exact .lst e s (RpL.more l s t)
  | dic e t => exact .dic e (KvR.more l t)
  | frd e t => exact .frd e (KvR.more l t)
/-- an object gets a number -/
theorem HRp.num (r : HRp K m H h) {p : Addr} {o : O} (hp : p ∉ m) (ho : OAt K m H p o) : HRp K (m ++ [p]) H (h ++ [o]) := by
  refine ⟨by simp [r.len], by
    rw [List.nodup_append]
    exact ⟨r.nd, by simp, fun a ha b hb e => by
      have : b = p := by simpa using hb
      subst this; subst e; exact hp ha⟩, fun n o' a e1 e2 => ?_⟩
  by_cases hn : n < h.length
  · rw [List.getElem?_append_left hn] at e1
    rw [List.getElem?_append_left (by rw [r.len]; exact hn)] at e2
    exact (r.at_ n o' a e1 e2).more [p]
  · have hl : n < (h ++ [o]).length := (List.getElem?_eq_some_iff.mp e1).1
    have en : n = h.length := by simp at hl; omega
    subst en
    rw [List.getElem?_append_right (Nat.le_refl _)] at e1
    rw [← r.len, List.getElem?_append_right (Nat.le_refl _)] at e2
    simp at e1 e2
    subst e1; subst e2
    exact ho.more [p]
/-- an object is written -/
theorem HRp.write (r : HRp K m H h) {n : Nat} {a : Addr} {u : HO} {o : O} (hn : m[n]? = some a) (hz : ∀ o w, H a ≠ some (.frz o w)) (hu : isReg u = true) (ho : ∀ H', H' = upd H a u → Ext m H m H' → OAt K m H' a o) :
    HRp K m (upd H a u) (h.set n o) ∧ Ext m H m (upd H a u) := by
  have ha : a ∈ m := List.mem_of_getElem? hn
  have x : Ext m H m (upd H a u) := ⟨⟨[], by simp, fun _ h => nomatch h⟩, fun b o e nb => by rw [upd_ne (fun z : b = a => nb (by rw [z]; exact ha))]; exact e, fun b o w e => by rw [upd_ne (fun z : b = a => hz o w (by rw [← z]; exact e))]; exact e⟩
  refine ⟨⟨by simp [r.len], r.nd, fun k o' b e1 e2 => ?_⟩, x⟩
  by_cases hk : k = n
  · subst hk
    rw [hn] at e2; cases e2
    have hl : k < h.length := by rw [← r.len]; exact (List.getElem?_eq_some_iff.mp hn).1
    rw [List.getElem?_set_self hl] at e1
    cases e1
    exact ho _ rfl x
  · rw [List.getElem?_set_ne (Ne.symm hk)] at e1
    have ne : b ≠ a := fun z => by
      subst z
      obtain ⟨h1, q1⟩ := List.getElem?_eq_some_iff.mp e2
      obtain ⟨h2, q2⟩ := List.getElem?_eq_some_iff.mp hn
      exact hk ((List.getElem_inj r.nd).mp (q1.trans q2.symm))
    exact (r.at_ k o' b e1 e2).ext r x (upd_ne ne)
end
end Mi

set_option Elab.async false
set_option linter.all false
set_option maxRecDepth 100000
/-! Mini: what is wanted behind an answer. -/
namespace Mi
open PySem PySem.Spec PyProof.Rows L2
/-- what stays through the law: the written part, where the errors' classes stand -/
structure Wi where
  K : PySem.W.Frag
  xc : Str → Option Addr
/-- an error that is raised -/
def XRp (Z : Wi) (m : List Addr) (H : Hp) (cls : Value) (dx : Option Addr) (c : Str) (fs : List (Str × D)) : Prop :=
  ∃ C, Z.xc c = some C ∧ cls = .ref C ∧ D.stL (fs.map (·.2)) = true ∧
    (fs ≠ [] → ∃ d vs, dx = some d ∧ H d = some (.xd vs) ∧ vs.map (·.1) = fs.map (·.1) ∧ RpL Z.K m H (vs.map (·.2)) (fs.map (·.2)))
/-- a transient list is new since H -/
def newV (H : Hp) (v : V) (d : D) : Prop := ∀ ds a, d = .lv ds → v = .ref a → H a = none
def newL (H : Hp) : List V → List D → Prop
  | v :: vs, d :: ds => newV H v d ∧ newL H vs ds
  | _, _ => True
theorem newV_st {H : Hp} {v : V} {d : D} (h : D.st d = true) : newV H v d := fun ds a e _ => by subst e; simp [D.st] at h
theorem newL_st {H : Hp} : ∀ {vs : List V} {ds : List D}, D.stL ds = true → newL H vs ds
  | [], _, _ => by simp [newL]
  | _ :: _, [], _ => by simp [newL]
  | v :: vs, d :: ds, h => by
    simp [D.stL] at h
    exact ⟨newV_st h.1, newL_st h.2⟩
/-- errors' wish: at the slots -/
abbrev Wx := WX
def Pst {α β : Type} (Z : Wi) (W : WX) (σ : L2.St) (rel : List Addr → Hp → α → β → Prop) (new : Hp → α → β → Prop) (m : List Addr) (H : Hp) (r : R β) (Q : α → Hp → Prop) : Prop :=
  match r with
  | .ok d h => ∀ v H' m', HRp Z.K m' H' h → Ext m H m' H' → rel m' H' v d → new H v d → Q v H'
  | .ex c fs h => ∀ cls dx H' m', HRp Z.K m' H' h → Ext m H m' H' → XRp Z m' H' cls dx c fs → W cls dx σ H'
  | .bad => False
abbrev PV (Z : Wi) (W : WX) (σ : L2.St) (m : List Addr) (H : Hp) (r : R D) (Q : VK) : Prop := Pst Z W σ (Rp Z.K) newV m H r Q
abbrev PL (Z : Wi) (W : WX) (σ : L2.St) (m : List Addr) (H : Hp) (r : R (List D)) (Q : List V → Hp → Prop) : Prop := Pst Z W σ (RpL Z.K) newL m H r Q
/-- a value that is known apart from the model's values -/
abbrev PB {β : Type} (Z : Wi) (W : WX) (σ : L2.St) (m : List Addr) (H : Hp) (r : R β) (Q : β → Hp → Prop) : Prop := Pst Z W σ (fun _ _ a b => a = b) (fun _ _ _ => True) m H r Q
section
variable {Z : Wi} {W : WX} {σ : L2.St} {m m' : List Addr} {H H' : Hp} {h h' : Hm} {α β γ δ : Type}
theorem none_back (r : HRp Z.K m' H' h') (x : Ext m H m' H') {a : Addr} (e : H' a = none) : H a = none := by
  cases q : H a with
  | none => rfl
  | some o =>
    by_cases ha : a ∈ m
    · obtain ⟨l, el, _⟩ := x.pre
      obtain ⟨u, e', _⟩ := r.reg (a := a) (by rw [el]; exact List.mem_append_left _ ha)
      rw [e] at e'; cases e'
    · have := x.fr a o q ha
      rw [e] at this; cases this
theorem newV.back (r : HRp Z.K m' H' h') (x : Ext m H m' H') {v : V} {d : D} (n : newV H' v d) : newV H v d := fun ds a e1 e2 => none_back r x (n ds a e1 e2)
theorem newL.back (r : HRp Z.K m' H' h') (x : Ext m H m' H') : ∀ {v : List V} {d : List D}, newL H' v d → newL H v d
  | [], _, _ => by simp [newL]
  | _ :: _, [], _ => by simp [newL]
  | _ :: _, _ :: _, n => ⟨newV.back r x n.1, newL.back r x n.2⟩
variable {rel : List Addr → Hp → α → β → Prop} {new : Hp → α → β → Prop} {rel2 : List Addr → Hp → γ → δ → Prop} {new2 : Hp → γ → δ → Prop} {r : R β} {Q Q' : α → Hp → Prop}
theorem Pst.mono (p : Pst Z W σ rel new m H r Q) (hq : ∀ v H', Q v H' → Q' v H') : Pst Z W σ rel new m H r Q' := by
  cases r with
  | ok d h => exact fun v H' m' a b c n => hq v H' (p v H' m' a b c n)
  | ex c fs h => exact p
  | bad => exact p
theorem Pst.rebase (nb : ∀ {v d}, new H' v d → new H v d) (x : Ext m H m' H') (p : Pst Z W σ rel new m H r Q) : Pst Z W σ rel new m' H' r Q := by
  cases r with
  | ok d h => exact fun v H2 m2 a b c n => p v H2 m2 a (x.trans a b) c (nb n)
  | ex c fs h => exact fun cls dx H2 m2 a b c => p cls dx H2 m2 a (x.trans a b) c
  | bad => exact p
/-- a step, and what comes behind it -/
theorem Pst.bnd {f : β → Hm → R δ} {Q : γ → Hp → Prop} (nb : ∀ {m' H' h'} , HRp Z.K m' H' h' → Ext m H m' H' → ∀ {v d}, new2 H' v d → new2 H v d) (p : Pst Z W σ rel2 new2 m H (Mi.bnd r f) Q) :
    Pst Z W σ rel new m H r fun v H1 => ∃ m1 d h1, r = .ok d h1 ∧ HRp Z.K m1 H1 h1 ∧ Ext m H m1 H1 ∧ rel m1 H1 v d ∧ new H v d ∧ Pst Z W σ rel2 new2 m1 H1 (f d h1) Q := by
  cases r with
  | ok d h => exact fun v H1 m1 a b c n => ⟨m1, d, h, rfl, a, b, c, n, Pst.rebase (nb a b) b p⟩
  | ex c fs h => exact p
  | bad => exact p
theorem PV.bnd {f : β → Hm → R D} {Q : VK} (p : PV Z W σ m H (Mi.bnd r f) Q) :
    Pst Z W σ rel new m H r fun v H1 => ∃ m1 d h1, r = .ok d h1 ∧ HRp Z.K m1 H1 h1 ∧ Ext m H m1 H1 ∧ rel m1 H1 v d ∧ new H v d ∧ PV Z W σ m1 H1 (f d h1) Q := Pst.bnd (fun {_ _ _} a b {_ _} n => newV.back a b n) p
theorem PL.bnd {f : β → Hm → R (List D)} {Q : List V → Hp → Prop} (p : PL Z W σ m H (Mi.bnd r f) Q) :
    Pst Z W σ rel new m H r fun v H1 => ∃ m1 d h1, r = .ok d h1 ∧ HRp Z.K m1 H1 h1 ∧ Ext m H m1 H1 ∧ rel m1 H1 v d ∧ new H v d ∧ PL Z W σ m1 H1 (f d h1) Q := Pst.bnd (fun {_ _ _} a b {_ _} n => newL.back a b n) p
theorem PB.bnd {f : β → Hm → R δ} {Q : δ → Hp → Prop} (p : PB Z W σ m H (Mi.bnd r f) Q) :
    Pst Z W σ rel new m H r fun v H1 => ∃ m1 d h1, r = .ok d h1 ∧ HRp Z.K m1 H1 h1 ∧ Ext m H m1 H1 ∧ rel m1 H1 v d ∧ new H v d ∧ PB Z W σ m1 H1 (f d h1) Q := Pst.bnd (fun {_ _ _} a b {_ _} n => trivial) p
theorem PV.opt {o : Option D} {Q : VK} (p : PV Z W σ m H (opt o h) Q) : ∃ d, o = some d ∧ PV Z W σ m H (.ok d h) Q := by
  cases o with
  | none => exact False.elim p
  | some d => exact ⟨d, rfl, p⟩
theorem PV.gd {c : Bool} {r : R D} {Q : VK} (p : PV Z W σ m H (gd c r) Q) : c = true ∧ PV Z W σ m H r Q := by
  cases c with
  | false => exact False.elim p
  | true => exact ⟨rfl, p⟩

/-- the slots -/
structure EnvR (K : PySem.W.Frag) (m : List Addr) (H : Hp) (σ : L2.St) (ρ : Env) : Prop where
  len : σ.length = ρ.length
  at_ : ∀ (i : Nat) (d : D), ρ[i]? = some (some d) → D.st d = true ∧ ∃ v, σ[i]? = some (some v) ∧ Rp K m H v d
theorem EnvR.ext {K : PySem.W.Frag} {ρ : Env} (e : EnvR K m H σ ρ) (r : HRp K m H h) (x : Ext m H m' H') : EnvR K m' H' σ ρ :=
  ⟨e.len, fun i d q => let ⟨a, v, b, c⟩ := e.at_ i d q; ⟨a, v, b, Rp.ext r x c⟩⟩
theorem EnvR.set {K : PySem.W.Frag} {ρ : Env} (e : EnvR K m H σ ρ) {i : Nat} {v : V} {d : D} (s : D.st d = true) (r : Rp K m H v d) : EnvR K m H (σ.set i (some v)) (ρ.set i (some d)) := by
  refine ⟨by simp [e.len], fun j d' q => ?_⟩
  by_cases hj : j = i
  · subst hj
    by_cases hl : j < ρ.length
    · rw [List.getElem?_set_self hl] at q
      cases q
      exact ⟨s, v, by rw [List.getElem?_set_self (by rw [e.len]; exact hl)], r⟩
    · rw [List.getElem?_eq_none (by simpa using hl)] at q; cases q
  · rw [List.getElem?_set_ne (Ne.symm hj)] at q
    rw [List.getElem?_set_ne (Ne.symm hj)]
    exact e.at_ j d' q
theorem EnvR.wipe1 {K : PySem.W.Frag} {ρ : Env} (e : EnvR K m H σ ρ) (i : Nat) : EnvR K m H (σ.set i none) (ρ.set i none) := by
  refine ⟨by simp [e.len], fun j d' q => ?_⟩
  by_cases hj : j = i
  · subst hj
    by_cases hl : j < ρ.length
    · rw [List.getElem?_set_self hl] at q; cases q
    · rw [List.getElem?_eq_none (by simpa using hl)] at q; cases q
  · rw [List.getElem?_set_ne (Ne.symm hj)] at q
    rw [List.getElem?_set_ne (Ne.symm hj)]
    exact e.at_ j d' q
theorem EnvR.wipe {K : PySem.W.Frag} {ρ : Env} (e : EnvR K m H σ ρ) : ∀ l : List Nat, EnvR K m H (L2.wipe σ l) (wipeD ρ l)
  | [] => e
  | v :: vs => (EnvR.wipe e vs).wipe1 v
structure StR (K : PySem.W.Frag) (m : List Addr) (H : Hp) (h : Hm) (σ : L2.St) (ρ : Env) : Prop where
  hr : HRp K m H h
  en : EnvR K m H σ ρ
theorem StR.go {K : PySem.W.Frag} {ρ : Env} (s : StR K m H h σ ρ) (r : HRp K m' H' h') (x : Ext m H m' H') : StR K m' H' h' σ ρ := ⟨r, s.en.ext s.hr x⟩

/-! ### the readings -/
/-- an expression's reading by the interpreter -/
def tE (Z : Wi) (W : WX) (f : Env → Hm → R D) : TE := fun σ H Q => ∃ m ρ h, StR Z.K m H h σ ρ ∧ PV Z W σ m H (f ρ h) Q
def tL (Z : Wi) (W : WX) (f : Env → Hm → R (List D)) : TA := fun σ H Q => ∃ m ρ h, StR Z.K m H h σ ρ ∧ PL Z W σ m H (f ρ h) Q
def tT (Z : Wi) (W : WX) (f : Env → Hm → R Bool) : TT := fun σ H Q => ∃ m ρ h, StR Z.K m H h σ ρ ∧ PB Z W σ m H (f ρ h) Q

/-- a transient list gets its number -/
theorem PV.own {d : D} {v : V} {H0 : Hp} {m0 : List Addr} (r : HRp Z.K m H h) (x : Ext m0 H0 m H) (q : Rp Z.K m H v d) (n : newV H0 v d) :
    ∃ m' d' h', Mi.own d h = .ok d' h' ∧ HRp Z.K m' H h' ∧ Ext m0 H0 m' H ∧ Rp Z.K m' H v d' ∧ D.st d' = true ∧ (∀ e w, D.st e = true → Rp Z.K m H w e → Rp Z.K m' H w e) := by
  cases q with
  | lv e nm s t =>
    rename_i a xs ds
    refine ⟨m ++ [a], .ref h.length, h ++ [.lst ds], rfl, r.num nm (.lst e s t), ⟨?_, fun b o e' nb => x.fr b o e' nb, x.fz⟩, .ref ?_, rfl, fun e w s q => Rp.more [a] s q⟩
    · obtain ⟨l, el, f⟩ := x.pre
      refine ⟨l ++ [a], by rw [el, List.append_assoc], fun b hb => ?_⟩
      rcases List.mem_append.mp hb with hb | hb
      · exact f b hb
      · have : b = a := by simpa using hb
        subst this
        exact n ds b rfl rfl
    · rw [← r.len, List.getElem?_append_right (Nat.le_refl _)]; simp
  | non => exact ⟨m, _, h, rfl, r, x, .non, rfl, fun _ _ _ q => q⟩
  | bl b => exact ⟨m, _, h, rfl, r, x, .bl b, rfl, fun _ _ _ q => q⟩
  | int i => exact ⟨m, _, h, rfl, r, x, .int i, rfl, fun _ _ _ q => q⟩
  | str y => exact ⟨m, _, h, rfl, r, x, .str y, rfl, fun _ _ _ q => q⟩
  | tup a s t => exact ⟨m, _, h, rfl, r, x, .tup a s t, s, fun _ _ _ q => q⟩
  | ref e => exact ⟨m, _, h, rfl, r, x, .ref e, rfl, fun _ _ _ q => q⟩
  | fl a s t => exact ⟨m, _, h, rfl, r, x, .fl a s t, s, fun _ _ _ q => q⟩

/-! ### views -/
theorem lst_view {n : Nat} {ds : List D} (r : HRp Z.K m H h) (e : h[n]? = some (.lst ds)) : ∃ a xs, m[n]? = some a ∧ H a = some (.lst xs) ∧ D.stL ds = true ∧ RpL Z.K m H xs ds := by
  obtain ⟨a, e1, q⟩ := r.get e
  cases q with
  | lst e2 s t => exact ⟨a, _, e1, e2, s, t⟩
theorem lstOf_view {d : D} {v : V} {ds : List D} (r : HRp Z.K m H h) (q : Rp Z.K m H v d) (e : lstOf h d = some ds) : ∃ a xs, v = .ref a ∧ SqL Z.K H a xs ∧ D.stL ds = true ∧ RpL Z.K m H xs ds := by
  cases q with
  | lv e1 nm s t =>
    simp [lstOf] at e; subst e
    exact ⟨_, _, rfl, .of e1, s, t⟩
  | fl q s t =>
    simp [lstOf] at e; subst e
    exact ⟨_, _, rfl, q.sq, s, t⟩
  | ref e1 =>
    rename_i a n
    simp only [lstOf] at e
    split at e
    · rename_i ds' e2
      cases e
      obtain ⟨a', xs, e3, e4, s, t⟩ := lst_view r e2
      rw [e1] at e3; cases e3
      exact ⟨a, xs, rfl, .of e4, s, t⟩
    · cases e
  | _ => simp [lstOf] at e
theorem seqOf_view {d : D} {v : V} {ds : List D} (r : HRp Z.K m H h) (q : Rp Z.K m H v d) (e : seqOf h d = some ds) : ∃ a xs, v = .ref a ∧ (SqL Z.K H a xs ∨ SqT Z.K H a xs) ∧ D.stL ds = true ∧ RpL Z.K m H xs ds := by
  cases q with
  | tup q s t =>
    simp [seqOf] at e; subst e
    exact ⟨_, _, rfl, .inr q.sq, s, t⟩
  | lv e1 nm s t =>
    obtain ⟨a, xs, h1, h2, h3⟩ := lstOf_view r (.lv e1 nm s t) (show lstOf h _ = some ds from e)
    exact ⟨a, xs, h1, .inl h2, h3⟩
  | fl q s t =>
    obtain ⟨a, xs, h1, h2, h3⟩ := lstOf_view r (.fl q s t) (show lstOf h _ = some ds from e)
    exact ⟨a, xs, h1, .inl h2, h3⟩
  | ref e1 =>
    obtain ⟨a, xs, h1, h2, h3⟩ := lstOf_view r (.ref e1) (show lstOf h _ = some ds from e)
    exact ⟨a, xs, h1, .inl h2, h3⟩
  | _ => simp [seqOf] at e
theorem seqOf_viewN {d : D} {v : V} {ds : List D} (r : HRp Z.K m H h) (q : Rp Z.K m H v d) (e : seqOf h d = some ds) : ∃ a xs, v = .ref a ∧ (SqL Z.K H a xs ∨ SqN Z.K H a xs) ∧ D.stL ds = true ∧ RpL Z.K m H xs ds := by
  cases q with
  | tup q s t =>
    simp [seqOf] at e; subst e
    exact ⟨_, _, rfl, .inr q, s, t⟩
  | lv e1 nm s t =>
    obtain ⟨a, xs, h1, h2, h3⟩ := lstOf_view r (.lv e1 nm s t) (show lstOf h _ = some ds from e)
    exact ⟨a, xs, h1, .inl h2, h3⟩
  | fl q s t =>
    obtain ⟨a, xs, h1, h2, h3⟩ := lstOf_view r (.fl q s t) (show lstOf h _ = some ds from e)
    exact ⟨a, xs, h1, .inl h2, h3⟩
  | ref e1 =>
    obtain ⟨a, xs, h1, h2, h3⟩ := lstOf_view r (.ref e1) (show lstOf h _ = some ds from e)
    exact ⟨a, xs, h1, .inl h2, h3⟩
  | _ => simp [seqOf] at e
end
end Mi

set_option Elab.async false
set_option linter.all false
set_option maxRecDepth 100000
/-! Mini: new tuples, their objects known. -/
namespace Mi
open PySem PySem.Spec PyProof.Rows L2
abbrev tupO (a : Array Value) : Obj := { cls := .type "tuple", data := .seq a }
section
variable {X : Cx} {es : List Expr} {t : TA} {pos : Pos}
/-- (e, ..) -/
theorem pe_tupN {x1} (h : PA X es t) : PE X (.Tuple es x1 pos) (fun σ H Q => t σ H fun xs H1 => xs.length ≤ sizeLine ∧ ∀ p o, o.dict = none → H1 p = none → Q (.ref p) (upd H1 p (.frz o (.tup xs)))) := by
  refine ⟨fun pins s σ H Q I hq => ?_⟩
  refine wpAny_Tuple_spliced (thn (h.run pos pins s σ H _ I hq) fun us s1 ⟨xs, H1, I1, r, z, q⟩ => ⟨by rw [← r.length]; exact z, ?_⟩)
  have hf : H1 s1.heap.objs.size = none := I1.hok.fresh (Nat.le_refl _)
  refine ⟨.ref s1.heap.objs.size, _, I1.laid (t' := s1.toks) (o := .frz (tupO us.toArray) (.tup xs)) (fun b u e => Heap.get?_push_of_some _ e) (Nat.le_refl _) ?_, rfl, q _ _ rfl hf⟩
  exact ⟨Heap.get?_push_size _ rfl, z, us, r, ⟨_, Heap.get?_push_size _ rfl, rfl, _, rfl⟩⟩
/-- t + u -/
theorem op_catN : OpR X (binaryOp .Add) (fun x y H Q => ∃ a b xs ys, x = .ref a ∧ y = .ref b ∧ SqT X.K H a xs ∧ SqT X.K H b ys ∧ xs.length + ys.length ≤ sizeLine ∧
    (xs = [] → Q (.ref b) H) ∧ (xs ≠ [] → ys = [] → Q (.ref a) H) ∧ (xs ≠ [] → ys ≠ [] → ∀ p o, o.dict = none → H p = none → Q (.ref p) (upd H p (.frz o (.tup (xs ++ ys)))))) := by
  intro pins s σ H x y v u Q I rx ry h
  obtain ⟨a, b, xs, ys, rfl, rfl, ha, hb, hz, q0, q1, q2⟩ := h
  cases rx
  cases ry
  obtain ⟨its, r1, p1, _⟩ := I.tuple ha
  obtain ⟨its2, r2, p2, _⟩ := I.tuple hb
  by_cases hx : xs = []
  · subst hx
    cases r1
    exact cat_tup0 p1 p2 ⟨.ref b, H, I, rfl, q0 rfl⟩
  · refine HT.cat_tup p1 p2 (fun z => hx (r1.nil_iff.mp z)) (fun z => ⟨.ref a, H, I, rfl, q1 hx (r2.nil_iff.mp z)⟩) (fun z => ?_) (by rw [← r1.length, ← r2.length]; exact hz)
    refine ⟨.ref s.heap.objs.size, _, I.laid (t' := s.toks) (o := .frz (tupO (its ++ its2).toArray) (.tup (xs ++ ys))) (fun b ob q => Heap.get?_push_of_some _ q) (Nat.le_refl _) ?_, rfl, q2 hx (fun w => z (r2.nil_iff.mpr w)) _ _ rfl (I.hok.fresh (Nat.le_refl _))⟩
    exact ⟨Heap.get?_push_size _ rfl, by rw [List.length_append]; exact hz, _, r1.append r2, IsTup.new _ _⟩
/-- t[lo:hi] -/
theorem sl_tupN : SlR X (fun x lo hi H Q => ∃ a xs, x = .ref a ∧ SqT X.K H a xs ∧
    (HT.sIx xs.length 0 lo = 0 ∧ HT.sIx xs.length xs.length hi = xs.length → Q (.ref a) H) ∧ (¬ (HT.sIx xs.length 0 lo = 0 ∧ HT.sIx xs.length xs.length hi = xs.length) → ∀ p o, o.dict = none → H p = none → Q (.ref p) (upd H p (.frz o (.tup (cutV xs lo hi)))))) := by
  intro pins s σ H x v vl vu lo hi sl Q I rx hs pl pu h
  obtain ⟨a, xs, rfl, hx, q1, q2⟩ := h
  cases rx
  obtain ⟨its, r, ht, hz⟩ := I.tuple hx
  have hlen : its.toArray.size = xs.length := by rw [List.size_toArray]; exact r.length.symm
  by_cases hw : HT.sIx xs.length 0 lo = 0 ∧ HT.sIx xs.length xs.length hi = xs.length
  · refine ⟨"tuple", _, PyProof.Rows.slot_tuple_getitem.lookup, ht.typeIs, ?_⟩
    exact getItem_tuple_whole ht hs pl pu (by rw [hlen]; exact hw) ⟨.ref a, H, I, rfl, q1 hw⟩
  · refine ⟨"tuple", _, PyProof.Rows.slot_tuple_getitem.lookup, ht.typeIs, ?_⟩
    refine HT.getItem_tuple_cut ht hs pl pu (by rw [hlen]; exact hw) ?_ (by rw [hlen]; exact hz)
    rw [hlen]
    refine ⟨.ref s.heap.objs.size, _, I.laid (t' := s.toks) (o := .frz (tupO ((its.drop (HT.sIx xs.length 0 lo)).take (HT.sIx xs.length xs.length hi - HT.sIx xs.length 0 lo)).toArray) (.tup (cutV xs lo hi))) (fun b ob q => Heap.get?_push_of_some _ q) (Nat.le_refl _) ?_, rfl, q2 hw _ _ rfl (I.hok.fresh (Nat.le_refl _))⟩
    exact ⟨Heap.get?_push_size _ rfl, Nat.le_trans (cutV_length xs lo hi) hz, _, (r.drop (HT.sIx xs.length 0 lo)).take (HT.sIx xs.length xs.length hi - HT.sIx xs.length 0 lo), IsTup.new _ _⟩
/-- tuple(xs) -/
theorem call_tupleN : CallR X (.type "tuple") (fun xs H Q => ∃ p ys, xs = [.ref p] ∧ ((SqL X.K H p ys ∧ ∀ l o, o.dict = none → H l = none → Q (.ref l) (upd H l (.frz o (.tup ys)))) ∨ (SqT X.K H p ys ∧ Q (.ref p) H))) := by
  intro pins s σ H xs us Q I r h
  obtain ⟨p, ys, rfl, h⟩ := h
  obtain ⟨u, rfl, rx⟩ := vals1 r
  cases rx
  rcases h with ⟨hq, q⟩ | ⟨hq, q⟩
  · obtain ⟨its, r', pl, hz⟩ := I.list hq
    have hlen := r'.length
    refine call_tuple_list pl.isList (fun h' kp => ?_) (by simp only [List.size_toArray] <;> omega)
    have I1 : Inv X pins σ H { s with heap := h' } := I.kept (t' := s.toks) kp
    refine ⟨.ref h'.objs.size, _, I1.laid (t' := s.toks) (o := .frz (tupO its.toArray) (.tup ys)) (fun b o e => Heap.get?_push_of_some _ e) (Nat.le_refl _) ?_, rfl, q _ _ rfl (I1.hok.fresh (Nat.le_refl _))⟩
    exact ⟨Heap.get?_push_size _ rfl, hz, its, r', IsTup.new _ _⟩
  · obtain ⟨its, r', pl, hz⟩ := I.tuple hq
    exact call_tuple_same pl ⟨.ref p, H, I, rfl, q⟩
end
/-! ### enumerate: pairs -/
def IteN (K : PySem.W.Frag) (a : Addr) : It :=
  ⟨fun i H => ∃ (xs : List V) (x : V), SqL K H a xs ∧ xs[i]? = some x, fun i H v H' => ∃ T x o, v = .ref T ∧ H T = none ∧ o.dict = none ∧ H' = upd H T (.frz o (.tup [.int (i : Nat), x])) ∧ ∀ xs, SqL K H a xs → xs[i]? = some x, fun i H => ∃ xs : List V, SqL K H a xs ∧ xs.length ≤ i⟩
theorem turn_enumN {P : Program} {w : World} {K : PySem.W.Frag} {elts : List Expr} {kk : Nat} {tpos : Pos} (a e it : Addr) :
    Turn P w K (.Tuple elts kk tpos) (IteN K a) [e, it] e (fun i h => (∃ old, IsEnum h e it ((i : Nat) : Int) old) ∧ h.IsListIter it a i ∧ e ≠ it) where
  mem := by simp
  obj := fun i h st b hb => by
    obtain ⟨⟨old, he⟩, ⟨o, ho, hc, hd⟩, _⟩ := st
    have e' : b = e ∨ b = it := by simpa using hb
    rcases e' with z | z
    · rw [z]; exact ⟨_, he, fun v q => nomatch q⟩
    · rw [z]; exact ⟨o, ho, fun v q => by rw [hd] at q; cases q⟩
  keep := fun i h h' st k => let ⟨⟨old, he⟩, hi, hne⟩ := st; ⟨⟨old, k e (by simp) _ he⟩, hi.at fun o q => k it (by simp) o q, hne⟩
  item := by
    intro X hP hw hK hc i pins s σ H E I hf st hg
    subst hP hw hK
    obtain ⟨⟨old, he⟩, hit, hne⟩ := st
    obtain ⟨xs, x, hq, hx⟩ := hg
    obtain ⟨its, rv, p, hz⟩ := I.list hq
    obtain ⟨u, hu, ru⟩ := rv.get hx
    have hel : e < s.heap.objs.size := Heap.lt_size he
    have hil : it < s.heap.objs.size := by obtain ⟨_, q, _⟩ := hit; exact Heap.lt_size q
    refine wpAny_pyNext_enum_item he hit p.isList (x := u) (by simpa using hu) hne fun h' ho hit' hT hsz hk => ?_
    refine ⟨_, rfl, wpAny_letOwnedTupleGo_enum (s := { s with heap := h', toks := s.toks + 1 }) ho fun h'' he' sb => ?_⟩
    have hT2 : h''.get? s.heap.objs.size = some { cls := .type "tuple", data := .seq #[.int i s.toks, u] } := (sb.2 _ (Nat.ne_of_gt hel)).trans hT
    have new : ObjOk X.prog X.w (upd H s.heap.objs.size (.frz { cls := .type "tuple", data := .seq #[.int i s.toks, u] } (.tup [.int (i : Nat), x]))) h'' s.heap.objs.size (.frz { cls := .type "tuple", data := .seq #[.int i s.toks, u] } (.tup [.int (i : Nat), x])) :=
      ⟨hT2, by show 2 ≤ sizeLine; decide, [.int i s.toks, u], .cons ⟨_, rfl⟩ (.cons ru .nil), ⟨_, hT2, rfl, _, rfl⟩⟩
    have I1 : Inv X pins σ (upd H s.heap.objs.size (.frz { cls := .type "tuple", data := .seq #[.int i s.toks, u] } (.tup [.int (i : Nat), x]))) { s with heap := h'', toks := s.toks + 1 } :=
      I.turnedNew (ch := [e, it]) (fun b ob hb q => (sb.2 b (fun z => hb (by simp [z]))).trans (hk b ob (fun z => hb (by simp [z])) (fun z => hb (by simp [z])) q)) hf (Nat.le_refl _) new
    refine ⟨.ref s.heap.objs.size, _, I1, rfl, ⟨_, x, _, rfl, I.hok.fresh (Nat.le_refl _), rfl, rfl, fun ys hy => by rw [I.list_inj hy hq]; exact hx⟩, ⟨⟨u, ?_⟩, hit'.at fun o q => (sb.2 it (Ne.symm hne)).trans q, hne⟩, fun b hb => ?_⟩
    · have e1 : ((i + 1 : Nat) : Int) = (i : Int) + 1 := by omega
      rw [e1]; exact he'
    · have hb' : b < s.heap.objs.size := by
        have e' : b = e ∨ b = it := by simpa using hb
        rcases e' with z | z
        · rw [z]; exact hel
        · rw [z]; exact hil
      rw [upd_ne (Nat.ne_of_lt hb')]
      exact (hf b hb).1
  done := by
    intro X hP hw hK hc i pins s σ H E I hf st hg
    subst hP hw hK
    obtain ⟨⟨old, he⟩, hit, hne⟩ := st
    obtain ⟨xs, hq, hx⟩ := hg
    obtain ⟨its, rv, p, hz⟩ := I.list hq
    obtain ⟨f0, f1, f2, f3, f4, f5⟩ := hf it (by simp)
    have hl := rv.length
    exact wpAny_pyNext_enum_end (I.ok.hd hc) he hit p.isList (by simp; omega) fun h' eb => ⟨rfl, I.turned (t' := s.toks) (fun b o hb q => eb b o hb q) f0 f1 f3 f4 f5⟩
  self := fun A i s Q E st h => let ⟨⟨_, he⟩, _⟩ := st; wpAny_pyIter_enum he h
end Mi

set_option Elab.async false
set_option linter.all false
set_option maxRecDepth 100000
/-! tuple * int for every int. -/
namespace Mi
open PySem PySem.Spec PyProof.Rows L2
theorem tuple_mulS (l : Addr) (items : Array Value) (n : Nat) (dd : Option Addr) (sl : Array (Option Value)) (x : Int) (u : Tok) (c0 : (decide (x < -(2 ^ 63)) || decide (x ≥ 2 ^ 63)) = false) (c1 : (items.isEmpty || x == 1) = true) :
    Meets (Builtin.«tuple.__mul__» ⟨[.ref l, .int x u], []⟩) (fun _ R s => s.heap.get? l = some { cls := .type "tuple", dict := dd, data := .seq items n, slots := sl } ∧
      R (.ok (.ret (Value.ref l))) s) :=
  .of_wp fun prog w A R s h => by
    obtain ⟨hp, g, d, tk, os⟩ := s
    obtain ⟨hl, h⟩ := h
    have f1 := AutoSeq1.idx_int
    wp_walk using wpAny_loadPart' hl
    repeat (first
      | (refine wpAny_ite_false (decide_eq_false (by rw [c0]; exact Bool.false_ne_true)) ?_; wp_walk using wpAny_loadPart' hl)
      | (refine wpAny_ite_true (decide_eq_true c1) ?_; wp_walk using wpAny_loadPart' hl))
    exact ⟨_, rfl, h⟩
theorem tuple_mulZ (l : Addr) (items : Array Value) (n : Nat) (dd : Option Addr) (sl : Array (Option Value)) (x : Int) (u : Tok) (c0 : (decide (x < -(2 ^ 63)) || decide (x ≥ 2 ^ 63)) = false) (c1 : (items.isEmpty || x == 1) = false) (c2 : (decide (x ≤ 0) || items.isEmpty) = true) :
    Meets (Builtin.«tuple.__mul__» ⟨[.ref l, .int x u], []⟩) (fun _ R s => s.heap.get? l = some { cls := .type "tuple", dict := dd, data := .seq items n, slots := sl } ∧
      R (.ok (.ret (Value.ref s.heap.objs.size))) { s with heap := s.heap.push { cls := Value.type "tuple", data := Data.seq #[] }, toks := s.toks }) :=
  .of_wp fun prog w A R s h => by
    obtain ⟨hp, g, d, tk, os⟩ := s
    obtain ⟨hl, h⟩ := h
    have f1 := AutoSeq1.idx_int
    wp_walk using wpAny_loadPart' hl
    repeat (first
      | (refine wpAny_ite_false (decide_eq_false (by rw [c0]; exact Bool.false_ne_true)) ?_; wp_walk using wpAny_loadPart' hl)
      | (refine wpAny_ite_false (decide_eq_false (by rw [c1]; exact Bool.false_ne_true)) ?_; wp_walk using wpAny_loadPart' hl)
      | (refine wpAny_ite_true (decide_eq_true c2) ?_; wp_walk using wpAny_loadPart' hl)
      | (refine wpAny_ite_false (decide_eq_false (Nat.not_lt.mpr (by show 0 ≤ sizeLine; decide))) ?_; wp_walk using wpAny_loadPart' hl))
    exact ⟨_, rfl, h⟩
end Mi

set_option Elab.async false
set_option linter.all false
set_option maxRecDepth 100000
/-! Mini: operators. -/
namespace Mi
open PySem PySem.Spec PyProof.Rows L2
/-- what is wanted of an answer z at (m, H) -/
def Fin1 (K : PySem.W.Frag) (m : List Addr) (H : Hp) (h : Hm) (z : D) (Q : VK) : Prop := ∀ v H' m', HRp K m' H' h → Ext m H m' H' → Rp K m' H' v z → newV H v z → Q v H'
section
variable {K : PySem.W.Frag} {m : List Addr} {H : Hp} {h : Hm} {z : D} {Q : VK}
/-- the answer is an elder value -/
theorem Fin1.same (r : HRp K m H h) (f : Fin1 K m H h z Q) {v : V} (q : Rp K m H v z) (s : D.st z = true) : Q v H := f v H m r .refl q (newV_st s)
/-- the answer is a new tuple -/
theorem Fin1.tup {ds : List D} (r : HRp K m H h) (f : Fin1 K m H h (.tup ds) Q) {xs : List V} (s : D.stL ds = true) (q : RpL K m H xs ds) {p : Addr} (hp : H p = none) {o : Obj} (n : o.dict = none) : Q (.ref p) (upd H p (.frz o (.tup xs))) :=
  f _ _ m (r.lay hp) (Ext.lay hp) (.tup (.of upd_same n) s (RpL.ext r (Ext.lay hp) q)) (newV_st s)
/-- the answer is a new list -/
theorem Fin1.lst {ds : List D} (r : HRp K m H h) (f : Fin1 K m H h (.lv ds) Q) {xs : List V} (s : D.stL ds = true) (q : RpL K m H xs ds) {p : Addr} (hp : H p = none) : Q (.ref p) (upd H p (.lst xs)) :=
  f _ _ m (r.lay hp) (Ext.lay hp) (.lv upd_same (r.fresh hp) s (RpL.ext r (Ext.lay hp) q)) (fun _ a e1 e2 => by cases e2; exact hp)
end
theorem mulOk_ok {i j : Int} (h : mulOk i j = true) : IntMulOk i j := by
  unfold mulOk at h
  simp only [Bool.or_eq_true, decide_eq_true_eq] at h
  have b : ∀ x : Int, Builtin.Int.intBits x ≤ x.natAbs.log2 + 1 := fun x => by
    unfold Builtin.Int.intBits
    split <;> omega
  rcases h with (h | h) | h
  · exact .of_left (intBits_le_64 (by omega) (by omega))
  · exact .of_right (intBits_le_64 (by omega) (by omega))
  · have h1 := b i
    have h2 := b j
    have e : bitsLine = 134217728 := by decide
    unfold IntMulOk
    intro z
    rw [Bool.and_eq_true] at z
    have z2 := z.2
    unfold Builtin.Int.intTooBig at z2
    have z3 := of_decide_eq_true z2
    rw [e] at z3
    omega
theorem divOk_ok {i j : Int} (h : divOk j = true) : CDivW i j := by
  unfold divOk at h
  simp only [Bool.and_eq_true, decide_eq_true_eq] at h
  exact ⟨h.1, h.2⟩
theorem powOk_ok {i j : Int} (h : powOk i j = true) : CPow i j := by
  unfold powOk at h
  simp only [Bool.and_eq_true, decide_eq_true_eq] at h
  exact ⟨h.1.1, h.1.2, h.2⟩
theorem stL_reps {ds : List D} (h : D.stL ds = true) (k : Nat) : D.stL (reps ds k) = true := by
  unfold reps
  rw [stL_iff] at h ⊢
  intro d hd
  obtain ⟨l, hl, hm⟩ := List.mem_flatten.mp hd
  rw [List.mem_replicate] at hl
  rw [hl.2] at hm
  exact h d hm
theorem repOk_ok {n : Nat} {k : Int} (h : repOk n k = true) : -(2 ^ 63) ≤ k ∧ k < 2 ^ 63 ∧ n * k.toNat ≤ sizeLine := by
  unfold repOk at h
  simp only [Bool.and_eq_true, decide_eq_true_eq] at h
  have := h.1
  exact ⟨by omega, by omega, h.2⟩
def rBin (K : PySem.W.Frag) (o : Operator) : R2 := fun x y H Q => ∃ m h d e z, HRp K m H h ∧ Rp K m H x d ∧ Rp K m H y e ∧ binD h o d e = some z ∧ Fin1 K m H h z Q
theorem rpL_nil {K : PySem.W.Frag} {m : List Addr} {H : Hp} {xs : List V} {ds : List D} (q : RpL K m H xs ds) : xs = [] ↔ ds = [] := by
  cases q <;> simp
theorem wls_view {K : PySem.W.Frag} {m : List Addr} {H : Hp} {h : Hm} {d : D} {v : V} {ds : List D} (r : HRp K m H h) (q : Rp K m H v d) (e : wlsOf h d = some ds) : ∃ a xs, v = .ref a ∧ H a = some (.lst xs) ∧ D.stL ds = true ∧ RpL K m H xs ds := by
  cases q with
  | lv e1 nm s t =>
    simp [wlsOf] at e; subst e
    exact ⟨_, _, rfl, e1, s, t⟩
  | ref e1 =>
    rename_i a n
    simp only [wlsOf] at e
    split at e
    · rename_i ds' e2
      cases e
      obtain ⟨a', xs, e3, e4, s, t⟩ := lst_view (Z := ⟨K, fun _ => none⟩) r e2
      rw [e1] at e3; cases e3
      exact ⟨a, xs, rfl, e4, s, t⟩
    · cases e
  | _ => simp [wlsOf] at e
section
variable {X : Cx}
theorem op_addL {pins : List (Addr × Obj)} {s : Shared} {σ : L2.St} {H : Hp} {x y : V} {v u : Value} {Q : VK} {m : List Addr} {h : Hm} {d e z : D} (I : Inv X pins σ H s) (rx : RelV x v) (ry : RelV y u) (hr : HRp X.K m H h) (qd : Rp X.K m H x d) (qe : Rp X.K m H y e)
    (hz : addL h d e = some z) (fin : Fin1 X.K m H h z Q) : wpAny (model X.prog X.w) X.A (binaryOp .Add v u) (EP X pins σ Q) X.xe s := by
  unfold addL at hz
  split at hz
  · rename_i a b ea eb
    split at hz
    · rename_i hl
      cases hz
      obtain ⟨p, xs, rfl, hp, sa, ta⟩ := wls_view hr qd ea
      obtain ⟨p2, ys, rfl, hp2, sb, tb⟩ := wls_view hr qe eb
      refine op_cat pins s σ H _ _ v u Q I rx ry ⟨p, p2, xs, ys, rfl, rfl, hp, hp2, by rw [ta.length, tb.length]; exact hl, fun q hq => ?_⟩
      exact fin.lst hr (by rw [stL_append, sa, sb]; rfl) (ta.append tb) hq
    · cases hz
  · cases hz
theorem op_mulL {pins : List (Addr × Obj)} {s : Shared} {σ : L2.St} {H : Hp} {x : V} {k : Int} {v u : Value} {Q : VK} {m : List Addr} {h : Hm} {d : D} {ds : List D} (I : Inv X pins σ H s) (rx : RelV x v) (ry : RelV (.int k) u) (hr : HRp X.K m H h) (qd : Rp X.K m H x d)
    (ea : wlsOf h d = some ds) (hk : repOk ds.length k = true) (fin : Fin1 X.K m H h (.lv (reps ds k.toNat)) Q) : wpAny (model X.prog X.w) X.A (binaryOp .Mult v u) (EP X pins σ Q) X.xe s := by
  obtain ⟨p, xs, rfl, hp, sa, ta⟩ := wls_view hr qd ea
  obtain ⟨h1, h2, h3⟩ := repOk_ok hk
  refine op_rep pins s σ H _ _ v u Q I rx ry ⟨p, k, xs, rfl, rfl, hp, h1, h2, by rw [ta.length]; exact h3, fun q hq => ?_⟩
  exact fin.lst hr (stL_reps sa _) (ta.reps _) hq
/-- t * k -/
theorem op_mulT {pins : List (Addr × Obj)} {s : Shared} {σ : L2.St} {H : Hp} {l : Addr} {xs : List V} {k : Int} {u : Value} {Q : VK} (I : Inv X pins σ H s) (ry : RelV (.int k) u) (hT : SqT X.K H l xs) (hk : repOk xs.length k = true)
    (h1 : (xs = [] ∨ k = 1) → Q (.ref l) H) (h2 : ¬ (xs = [] ∨ k = 1) → ∀ p o, o.dict = none → H p = none → Q (.ref p) (upd H p (.frz o (.tup (reps xs k.toNat))))) : wpAny (model X.prog X.w) X.A (binaryOp .Mult (.ref l) u) (EP X pins σ Q) X.xe s := by
  obtain ⟨t, rfl⟩ := ry
  obtain ⟨k1, k2, k3⟩ := repOk_ok hk
  obtain ⟨its, r, ⟨⟨cls, dd, data, sl⟩, ho, hc, n, hd⟩, hs⟩ := I.tuple hT
  simp only at hc hd
  subst hc hd
  have hle : its.length = xs.length := r.length.symm
  have hsz0 : its.toArray.size = xs.length := by rw [List.size_toArray, hle]
  have c0 : (decide (k < -(2 ^ 63)) || decide (k ≥ 2 ^ 63)) = false := by
    rw [decide_eq_false (by omega), decide_eq_false (by omega)] <;> rfl
  have hie : its.toArray.isEmpty = decide (xs = []) := by
    cases r <;> simp
  refine wpAny_binaryOp_repeat_ref (T := "tuple") (U := "int") (by decide) ⟨_, ho, rfl⟩ (fun s' => typeIs_int s' k t) noFill_tuple_mul F.fills_int_mul F.slot_int_rmul repeat_tuple F.slot_int_index.lookup
    (call_meets F.slot_int_rmul (typeIs_int s k t) F.entry_int_rmul (F.args_int_rmul_2 _ _) (int_rmul_tuple k t l its.toArray n dd sl) ⟨ho, rfl, ⟨_, ho, rfl⟩, ?_⟩)
  by_cases hw : xs = [] ∨ k = 1
  · have c1 : (its.toArray.isEmpty || k == 1) = true := by
      rw [hie]
      rcases hw with z | z
      · simp [z]
      · simp [z]
    exact call_meets F.slot_tuple_mul ⟨_, ho, rfl⟩ F.entry_tuple_mul (F.args_tuple_mul_2 _ _) (tuple_mulS l its.toArray n dd sl k t c0 c1) ⟨ho, ⟨.ref l, H, I, rfl, h1 hw⟩⟩
  · have hn : xs ≠ [] := fun z => hw (.inl z)
    have hk1 : k ≠ 1 := fun z => hw (.inr z)
    have c1 : (its.toArray.isEmpty || k == 1) = false := by
      rw [hie, decide_eq_false hn, Bool.false_or]
      exact beq_eq_false_iff_ne.mpr hk1
    have fin := h2 hw
    by_cases hz : k ≤ 0
    · have c2 : (decide (k ≤ 0) || its.toArray.isEmpty) = true := by simp [hz]
      have e0 : k.toNat = 0 := by omega
      refine call_meets F.slot_tuple_mul ⟨_, ho, rfl⟩ F.entry_tuple_mul (F.args_tuple_mul_2 _ _) (tuple_mulZ l its.toArray n dd sl k t c0 c1 c2) ⟨ho, ?_⟩
      rw [e0] at fin
      exact ⟨.ref s.heap.objs.size, _, I.laid (t' := s.toks) (o := .frz (tupO #[]) (.tup [])) (fun b ob q => Heap.get?_push_of_some _ q) (Nat.le_refl _) ⟨Heap.get?_push_size _ rfl, Nat.zero_le _, [], .nil, IsTup.new _ _⟩, rfl, fin _ _ rfl (I.hok.fresh (Nat.le_refl _))⟩
    · have hi : its.toArray.isEmpty = false := by rw [hie]; exact decide_eq_false hn
      have c2 : (decide (k ≤ 0) || its.toArray.isEmpty) = false := by rw [hi, Bool.or_false]; exact decide_eq_false hz
      have hm : ((its.toArray.size : Nat) : Int) * k ≤ 16777216 := by
        rw [hsz0]
        have a1 : ((xs.length * k.toNat : Nat) : Int) ≤ 16777216 := by rw [sizeLine_eq] at k3; omega
        have e1 : (k.toNat : Int) = k := by omega
        rw [Int.natCast_mul, e1] at a1
        exact a1
      have flen : (List.replicate k.toNat its).flatten.length ≤ sizeLine := by
        rw [PyProof.Rows.lm_len_rep_flat, hle, Nat.mul_comm]
        exact k3
      have c4 : Builtin.Tuple.tupleTooMany (((its.toArray.size : Nat) : Int) * k) = false := by
        unfold Builtin.Tuple.tupleTooMany
        rw [sizeLine_eq]
        exact decide_eq_false (by omega)
      refine call_meets F.slot_tuple_mul ⟨_, ho, rfl⟩ F.entry_tuple_mul (F.args_tuple_mul_2 _ _) (tuple_mulW l its.toArray n dd sl k t c0 c1 c2 (by omega) c4 (by rw [size_rep, List.size_toArray]; exact flen)) ⟨ho, ?_⟩
      rw [size_rep]
      refine ⟨.ref s.heap.objs.size, _, I.laid (t' := s.toks) (o := .frz (tupO (List.replicate k.toNat its).flatten.toArray) (.tup (reps xs k.toNat))) (fun b ob q => Heap.get?_push_of_some _ q) (Nat.le_refl _) ?_, rfl, fin _ _ rfl (I.hok.fresh (Nat.le_refl _))⟩
      exact ⟨Heap.get?_push_size _ rfl, by unfold reps; rw [PyProof.Rows.lm_len_rep_flat, Nat.mul_comm]; exact k3, _, r.rep k.toNat, IsTup.new _ _⟩
/-- x * k, x a text -/
theorem op_mulS {pins : List (Addr × Obj)} {s : Shared} {σ : L2.St} {H : Hp} {x : Str} {k : Int} {v u : Value} {Q : VK} (I : Inv X pins σ H s) (rx : RelV (.str x) v) (ry : RelV (.int k) u) (hk : repOk x.length k = true)
    (hq : Q (.str ⟨(reps x.cps.toList k.toNat).toArray⟩) H) : wpAny (model X.prog X.w) X.A (binaryOp .Mult v u) (EP X pins σ Q) X.xe s := by
  obtain ⟨t, rfl⟩ := rx
  obtain ⟨t', rfl⟩ := ry
  obtain ⟨k1, k2, k3⟩ := repOk_ok hk
  have hlen : x.length = x.cps.toList.length := by simp [Str.length]
  refine P.mul_str ?_ (fun h1 h2 => ?_) (fun h1 h2 => ?_) ?_
  · rw [decide_eq_false (by omega), decide_eq_false (by omega)] <;> rfl
  · have e1 : (k.toNat : Int) = k := by omega
    have a1 : (x.length : Int) * k ≤ 16777216 := by
      have : ((x.length * k.toNat : Nat) : Int) ≤ 16777216 := by rw [sizeLine_eq] at k3; omega
      rwa [Int.natCast_mul, e1] at this
    intro z
    have z' : (2 ^ 63 - 1) / k < (x.length : Int) := z
    have z2 := (Int.ediv_lt_iff_lt_mul (by omega : (0 : Int) < k)).mp z'
    have : (2 : Int) ^ 63 = 9223372036854775808 := by decide
    omega
  · unfold Builtin.Str.tooLong
    exact decide_eq_false (Nat.not_lt.mpr k3)
  · by_cases h1 : k < 1
    · rw [if_pos h1]
      have e0 : k.toNat = 0 := by omega
      rw [e0] at hq
      exact ⟨by decide, .str Str.empty, H, I.tok _, ⟨_, rfl⟩, hq⟩
    · rw [if_neg h1]
      by_cases h2 : (k == 1 || x.length == 0) = true
      · rw [if_pos h2]
        have e : (⟨(reps x.cps.toList k.toNat).toArray⟩ : Str) = x := by
          rw [Bool.or_eq_true] at h2
          rcases h2 with h2 | h2
          · have : k = 1 := by simpa using h2
            subst this
            simp [reps]
          · have e0 : x.cps.toList = [] := by
              have : x.length = 0 := by simpa using h2
              rw [hlen] at this
              exact List.eq_nil_of_length_eq_zero this
            have e1 : x.cps = #[] := by simpa using e0
            obtain ⟨c⟩ := x
            simp only at e1
            subst e1
            simp [reps]
        rw [e] at hq
        exact ⟨.str x, H, I, ⟨_, rfl⟩, hq⟩
      · rw [if_neg h2]
        have e : (List.replicate k.toNat x.cps).foldl (· ++ ·) #[] = (reps x.cps.toList k.toNat).toArray := by
          have q : ∀ (j : Nat) (acc : List Nat), List.foldl (fun x1 x2 => x1 ++ x2) acc.toArray (List.replicate j x.cps) = (acc ++ (List.replicate j x.cps.toList).flatten).toArray := by
            intro j
            induction j with
            | zero => intro acc; simp
            | succ j ih =>
              intro acc
              rw [List.replicate_succ, List.foldl_cons, List.replicate_succ, List.flatten_cons]
              have : acc.toArray ++ x.cps = (acc ++ x.cps.toList).toArray := by simp
              rw [this, ih, List.append_assoc]
          have := q k.toNat []
          simpa [reps] using this
        rw [e]
        refine ⟨?_, .str _, H, I.tok _, ⟨_, rfl⟩, hq⟩
        show (reps x.cps.toList k.toNat).toArray.size ≤ sizeLine
        rw [List.size_toArray]
        unfold reps
        rw [List.length_flatten]
        simp [← hlen]
        rw [Nat.mul_comm]; exact k3
theorem op_bin (o : Operator) : OpR X (binaryOp o) (rBin X.K o) := by
  intro pins s σ H x y v u Q I rx ry ⟨m, h, d, e, z, hr, qd, qe, hz, fin⟩
  cases o with
  | Add =>
    cases qd with
    | int a =>
      cases qe with
      | int b => cases hz; exact op_add pins s σ H _ _ v u Q I rx ry ⟨_, _, rfl, rfl, fin.same hr (.int _) rfl⟩
      | _ => simp [binD] at hz
    | str a =>
      cases qe with
      | str b =>
        simp only [binD] at hz
        split at hz
        · cases hz
          exact op_add_str pins s σ H _ _ v u Q I rx ry ⟨_, _, rfl, rfl, by assumption, fin.same hr (.str _) rfl⟩
        · cases hz
      | _ => simp [binD] at hz
    | tup qa sa ta =>
      cases qe with
      | tup qb sb tb =>
        simp only [binD] at hz
        split at hz
        · rename_i hl
          cases hz
          refine op_catN pins s σ H _ _ v u Q I rx ry ⟨_, _, _, _, rfl, rfl, qa.sq, qb.sq, by rw [ta.length, tb.length]; exact hl, fun e => ?_, fun e1 e2 => ?_, fun e1 e2 p o no hp => ?_⟩
          · have e' := (rpL_nil ta).mp e
            rw [e', List.nil_append] at fin
            exact fin.same hr (.tup qb sb tb) sb
          · have e' := (rpL_nil tb).mp e2
            rw [e', List.append_nil] at fin
            exact fin.same hr (.tup qa sa ta) sa
          · exact fin.tup hr (by rw [stL_append, sa, sb]; rfl) (ta.append tb) hp no
        · cases hz
      | _ => simp [binD] at hz
    | lv e1 nm sa ta => exact op_addL I rx ry hr (.lv e1 nm sa ta) qe hz fin
    | ref e1 => exact op_addL I rx ry hr (.ref e1) qe hz fin
    | _ => simp [binD] at hz
  | Sub =>
    cases qd <;> cases qe <;> first | (simp [binD] at hz; done) | skip
    cases hz
    exact op_sub pins s σ H _ _ v u Q I rx ry ⟨_, _, rfl, rfl, fin.same hr (.int _) rfl⟩
  | FloorDiv =>
    cases qd <;> cases qe <;> first | (simp [binD] at hz; done) | skip
    simp only [binD] at hz
    split at hz
    · cases hz
      rename_i hc
      exact op_fdivW pins s σ H _ _ v u Q I rx ry ⟨_, _, rfl, rfl, divOk_ok hc, fin.same hr (.int _) rfl⟩
    · cases hz
  | Mod =>
    cases qd <;> cases qe <;> first | (simp [binD] at hz; done) | skip
    simp only [binD] at hz
    split at hz
    · cases hz
      rename_i hc
      exact op_mod pins s σ H _ _ v u Q I rx ry ⟨_, _, rfl, rfl, hc, fin.same hr (.int _) rfl⟩
    · cases hz
  | Pow =>
    cases qd <;> cases qe <;> first | (simp [binD] at hz; done) | skip
    simp only [binD] at hz
    split at hz
    · cases hz
      rename_i hc
      exact op_pow pins s σ H _ _ v u Q I rx ry ⟨_, _, rfl, rfl, powOk_ok hc, fin.same hr (.int _) rfl⟩
    · cases hz
  | LShift =>
    cases qd <;> cases qe <;> first | (simp [binD] at hz; done) | skip
    simp only [binD] at hz
    split at hz
    · cases hz
      rename_i hc
      exact op_shl pins s σ H _ _ v u Q I rx ry ⟨_, _, rfl, rfl, powOk_ok hc, fin.same hr (.int _) rfl⟩
    · cases hz
  | RShift =>
    cases qd <;> cases qe <;> first | (simp [binD] at hz; done) | skip
    simp only [binD] at hz
    split at hz
    · cases hz
      rename_i hc
      exact op_shr pins s σ H _ _ v u Q I rx ry ⟨_, _, rfl, rfl, hc, fin.same hr (.int _) rfl⟩
    · cases hz
  | BitAnd =>
    cases qd <;> cases qe <;> first | (simp [binD] at hz; done) | skip
    cases hz
    exact op_and pins s σ H _ _ v u Q I rx ry ⟨_, _, rfl, rfl, fin.same hr (.int _) rfl⟩
  | BitOr =>
    cases qd <;> cases qe <;> first | (simp [binD] at hz; done) | skip
    cases hz
    exact op_or pins s σ H _ _ v u Q I rx ry ⟨_, _, rfl, rfl, fin.same hr (.int _) rfl⟩
  | Mult =>
    cases qd with
    | int a =>
      cases qe with
      | int b =>
        simp only [binD] at hz
        split at hz
        · cases hz
          rename_i hc
          obtain ⟨t, rfl⟩ := rx
          obtain ⟨t', rfl⟩ := ry
          exact mul_int ⟨.int _, H, I.tok _, ⟨_, rfl⟩, fin.same hr (.int _) rfl⟩ (mulOk_ok hc)
        · cases hz
      | _ => simp [binD] at hz
    | str a =>
      cases qe with
      | int b =>
        simp only [binD] at hz
        split at hz
        · cases hz
          exact op_mulS I rx ry (by assumption) (fin.same hr (.str _) rfl)
        · cases hz
      | _ => simp [binD] at hz
    | tup qa sa ta =>
      cases qe with
      | int b =>
        simp only [binD] at hz
        split at hz
        · rename_i hc
          cases hz
          cases rx
          refine op_mulT I ry qa.sq (by rw [ta.length]; exact hc) (fun e => ?_) fun e p o no hp => fin.tup hr (stL_reps sa _) (ta.reps _) hp no
          rcases e with e | e
          · have e' := (rpL_nil ta).mp e
            rw [e'] at fin
            have e3 : reps ([] : List D) b.toNat = [] := by simp [reps]
            rw [e3] at fin
            rw [e'] at ta
            exact fin.same hr (.tup qa rfl ta) rfl
          · subst e
            have e3 : ∀ l : List D, reps l (1 : Int).toNat = l := fun l => by simp [reps]
            rw [e3] at fin
            exact fin.same hr (.tup qa sa ta) sa
        · cases hz
      | _ => simp [binD] at hz
    | lv e1 nm sa ta =>
      cases qe with
      | int b =>
        simp only [binD] at hz
        split at hz
        · cases hz
          exact op_mulL I rx ry hr (.lv e1 nm sa ta) rfl (by assumption) fin
        · cases hz
      | _ => simp [binD] at hz
    | ref e1 =>
      cases qe with
      | int b =>
        simp only [binD] at hz
        split at hz
        · rename_i l el
          split at hz
          · cases hz
            exact op_mulL I rx ry hr (.ref e1) el (by assumption) fin
          · cases hz
        · cases hz
      | _ => simp [binD] at hz
    | _ => simp [binD] at hz
  | _ => simp [binD] at hz
end
end Mi

set_option Elab.async false
set_option linter.all false
set_option maxRecDepth 100000
/-! Mini: comparisons, truth. -/
namespace Mi
open PySem PySem.Spec PyProof.Rows L2
section
variable {K : PySem.W.Frag} {m : List Addr} {H : Hp} {h : Hm}
theorem allSome_dp {f : D → Option PyData} : ∀ {d : List D} {v : List V} {p : List PyData}, (∀ {d : D} {v : V} {p : PyData}, Rp K m H v d → f d = some p → Dp K H v p) → RpL K m H v d → allSome f d = some p → DpAll K H v p
  | _, _, _, _, .nil, e => by simp [allSome] at e; subst e; exact .nil
  | _, _, _, hf, .cons a t, e => by
    simp only [allSome] at e
    split at e
    · rename_i p ps e1 e2
      cases e
      exact .cons (hf a e1) (allSome_dp hf t e2)
    · cases e
theorem pyOf_dp (r : HRp K m H h) : ∀ (n : Nat) {d : D} {v : V} {p : PyData}, Rp K m H v d → pyOf n h d = some p → Dp K H v p
  | n, _, _, _, .non, e => by cases n <;> (simp [pyOf] at e; subst e; exact .non)
  | n, _, _, _, .bl b, e => by cases n <;> (simp [pyOf] at e; subst e; exact .bl b)
  | n, _, _, _, .int i, e => by cases n <;> (simp [pyOf] at e; subst e; exact .int i)
  | n, _, _, _, .str x, e => by cases n <;> (simp [pyOf] at e; subst e; exact .str x)
  | 0, _, _, _, .tup q s t, e => by simp [pyOf] at e
  | n + 1, _, _, _, .tup q s t, e => by
    simp only [pyOf, Option.map_eq_some_iff] at e
    obtain ⟨ps, e1, rfl⟩ := e
    exact .tup q.sq (allSome_dp (pyOf_dp r n) t e1)
  | 0, _, _, _, .lv q m s t, e => by simp [pyOf] at e
  | n + 1, _, _, _, .lv q m s t, e => by
    simp only [pyOf, Option.map_eq_some_iff] at e
    obtain ⟨ps, e1, rfl⟩ := e
    exact .lst (.of q) (allSome_dp (pyOf_dp r n) t e1)
  | 0, _, _, _, .fl q s t, e => by simp [pyOf] at e
  | n + 1, _, _, _, .fl q s t, e => by
    simp only [pyOf, Option.map_eq_some_iff] at e
    obtain ⟨ps, e1, rfl⟩ := e
    exact .lst q.sq (allSome_dp (pyOf_dp r n) t e1)
  | 0, _, _, _, .ref q, e => by simp [pyOf] at e
  | n + 1, _, _, _, .ref q, e => by
    simp only [pyOf] at e
    split at e
    · rename_i ds e2
      rw [Option.map_eq_some_iff] at e
      obtain ⟨ps, e1, rfl⟩ := e
      obtain ⟨a, xs, e3, e4, s, t⟩ := lst_view (Z := ⟨K, fun _ => none⟩) r e2
      rw [q] at e3; cases e3
      exact .lst (.of e4) (allSome_dp (pyOf_dp r n) t e1)
    · cases e
theorem intsOf_eq : ∀ {ds : List D} {ns : List Int}, intsOf ds = some ns → ds = ns.map .int
  | [], _, e => by simp [intsOf] at e; subst e; rfl
  | .int i :: ds, _, e => by
    simp only [intsOf, Option.map_eq_some_iff] at e
    obtain ⟨ms, e1, rfl⟩ := e
    rw [intsOf_eq e1]; rfl
  | .non :: _, _, e => by simp [intsOf] at e
  | .bl _ :: _, _, e => by simp [intsOf] at e
  | .str _ :: _, _, e => by simp [intsOf] at e
  | .tup _ :: _, _, e => by simp [intsOf] at e
  | .ref _ :: _, _, e => by simp [intsOf] at e
  | .lv _ :: _, _, e => by simp [intsOf] at e
  | .fl _ :: _, _, e => by simp [intsOf] at e
theorem rpL_ints : ∀ {ns : List Int} {xs : List V}, RpL K m H xs (ns.map .int) → xs = ns.map V.int
  | [], _, .nil => rfl
  | n :: ns, _, .cons (.int _) t => by rw [rpL_ints t]; rfl
theorem isN_view {v : V} {d : D} (q : Rp K m H v d) : decide (v = .non) = isN d := by cases q <;> simp [isN]
theorem dic_view {n : Nat} {a : Addr} {kds : List (L2.Key × D)} (r : HRp K m H h) (e1 : m[n]? = some a) (e : dicOf h (.ref n) = some kds) : ∃ kvs, Rd H a (.dK kvs) ∧ KvR K m H kvs kds := by
  simp only [dicOf] at e
  split at e
  · rename_i ds' e2
    cases e
    obtain ⟨a', e3, q⟩ := r.get e2
    rw [e1] at e3; cases e3
    cases q with
    | dic e4 t => exact ⟨_, .inl e4, t⟩
  · rename_i ds' e2
    cases e
    obtain ⟨a', e3, q⟩ := r.get e2
    rw [e1] at e3; cases e3
    cases q with
    | frd e4 t => exact ⟨_, .inr ⟨_, e4⟩, t⟩
  · cases e
theorem keyOf_view {v : V} {d : D} {k : L2.Key} (q : Rp K m H v d) (e : keyOf d = some k) : v = kV k := by
  cases q <;> simp [keyOf] at e <;> (subst e; rfl)
/-- what a dict holds -/
theorem kv_look : ∀ {kvs : List (L2.Key × V)} {kds : List (L2.Key × D)} (k : L2.Key), kvs.map (·.1) = kds.map (·.1) → RpL K m H (kvs.map (·.2)) (kds.map (·.2)) →
    (valV kvs k = none ∧ lookK kds k = none) ∨ ∃ v d, valV kvs k = some v ∧ lookK kds k = some d ∧ Rp K m H v d
  | [], [], k, _, _ => .inl ⟨rfl, rfl⟩
  | [], _ :: _, _, e, _ => by simp at e
  | _ :: _, [], _, e, _ => by simp at e
  | (k1, v) :: r, (k2, d) :: r', k, e, q => by
    simp only [List.map_cons, List.cons.injEq] at e
    obtain ⟨e1, e2⟩ := e
    subst e1
    cases q with
    | cons a t =>
      have ih := kv_look (kvs := r) (kds := r') k e2 t
      by_cases hk : k1 = k
      · subst hk
        refine .inr ⟨v, d, ?_, by simp [lookK], a⟩
        unfold valV; simp
      · have h1 : valV ((k1, v) :: r) k = valV r k := by unfold valV; simp [hk]
        have h2 : lookK ((k1, d) :: r') k = lookK r' k := by simp [lookK, hk]
        rw [h1, h2]
        exact ih
end
theorem isB_some {d e : D} {b : Bool} (h : isB d e = some b) : ∃ x y, d = .bl x ∧ e = .bl y ∧ b = decide (x = y) := by
  unfold isB at h
  split at h
  · cases h; exact ⟨_, _, rfl, rfl, rfl⟩
  · cases h
def rCmp (K : PySem.W.Frag) (o : CmpOp) : R2 := fun x y H Q => ∃ m h d e b, HRp K m H h ∧ Rp K m H x d ∧ Rp K m H y e ∧ cmpD h o d e = some b ∧ Q (.bl b) H
section
variable {X : Cx}
theorem cmp_eq (hu : X.A.units + 65 < cLine) {pins : List (Addr × Obj)} {s : Shared} {σ : L2.St} {H : Hp} {x y : V} {v u : Value} {Q : VK} {m : List Addr} {h : Hm} {d e : D} {b : Bool} (I : Inv X pins σ H s) (rx : RelV x v) (ry : RelV y u) (hr : HRp X.K m H h)
    (qd : Rp X.K m H x d) (qe : Rp X.K m H y e) (hz : eqD h d e = some b) : (Q (.bl b) H → wpAny (model X.prog X.w) X.A (compareOp .Eq v u) (EP X pins σ Q) X.xe s) ∧ (Q (.bl (!b)) H → wpAny (model X.prog X.w) X.A (compareOp .NotEq v u) (EP X pins σ Q) X.xe s) := by
  have hu' : X.A.units + 64 < cLine := by omega
  unfold eqD at hz
  simp only [shp_eq, eqQ_eq] at hz
  split at hz
  · cases hz
    rename_i i j
    cases qd
    cases qe
    have e : PyData.eqv (.int i) (.int j) = decide (i = j) := by simp [PyData.eqv, Bool.beq_eq_decide_eq]
    refine ⟨fun q => op_eqD hu' pins s σ H _ _ v u Q I rx ry ⟨.int i, .int j, .int i, .int j, rfl, rfl, by rw [e]; exact q⟩, fun q => op_neD hu' pins s σ H _ _ v u Q I rx ry ⟨.int i, .int j, .int i, .int j, rfl, rfl, by rw [e]; exact q⟩⟩
  · cases hz
    cases qd
    cases qe
    obtain ⟨t, rfl⟩ := rx
    obtain ⟨t', rfl⟩ := ry
    exact ⟨fun q => PyProof.Rows.eq_str ⟨.bl _, H, I, rfl, q⟩, fun q => PyProof.Rows.ne_str ⟨.bl _, H, I, rfl, q⟩⟩
  · split at hz
    · rename_i a c ea ec
      split at hz
      · rename_i hs
        cases hz
        exact ⟨fun q => op_eqD hu' pins s σ H _ _ v u Q I rx ry ⟨_, _, pyOf_dp hr _ qd ea, pyOf_dp hr _ qe ec, hs.1, hs.2, q⟩, fun q => op_neD hu' pins s σ H _ _ v u Q I rx ry ⟨_, _, pyOf_dp hr _ qd ea, pyOf_dp hr _ qe ec, hs.1, hs.2, q⟩⟩
      · cases hz
    · cases hz
theorem cmp_in (hu : X.A.units + 65 < cLine) {pins : List (Addr × Obj)} {s : Shared} {σ : L2.St} {H : Hp} {x y : V} {v u : Value} {Q : VK} {m : List Addr} {h : Hm} {d e : D} {b : Bool} (I : Inv X pins σ H s) (rx : RelV x v) (ry : RelV y u) (hr : HRp X.K m H h)
    (qd : Rp X.K m H x d) (qe : Rp X.K m H y e) (hz : inD h d e = some b) : (Q (.bl b) H → wpAny (model X.prog X.w) X.A (compareOp .In v u) (EP X pins σ Q) X.xe s) ∧ (Q (.bl (!b)) H → wpAny (model X.prog X.w) X.A (compareOp .NotIn v u) (EP X pins σ Q) X.xe s) := by
  have hu1 : X.A.units + 1 < cLine := by omega
  unfold inD at hz
  simp only [shp_eq, eqQ_eq] at hz
  split at hz
  · split at hz
    · cases hz
      cases qe
      cases qd
      exact ⟨fun q => op_in_str pins s σ H _ _ v u Q I rx ry ⟨_, _, rfl, rfl, q⟩, fun q => op_notin_str pins s σ H _ _ v u Q I rx ry ⟨_, _, rfl, rfl, q⟩⟩
    · cases hz
  · split at hz
    · rename_i kvs ek
      rw [Option.map_eq_some_iff] at hz
      obtain ⟨k, ek2, rfl⟩ := hz
      cases qe with
      | ref e1 =>
        obtain ⟨kv, rd, t⟩ := dic_view hr e1 ek
        obtain rfl := keyOf_view qd ek2
        obtain rfl : u = _ := ry
        have g : DGet H _ (kV k) (valV kv k) := .inl ⟨kv, k, rd, rfl, rfl⟩
        have eb : (valV kv k).isSome = (lookK kvs k).isSome := by
          rcases kv_look k t.1 t.2.2 with ⟨h1, h2⟩ | ⟨_, _, h1, h2, _⟩ <;> rw [h1, h2] <;> rfl
        exact ⟨fun q => d_in hu1 I g rx fun s3 I3 => ⟨.bl _, H, I3, rfl, by rw [eb]; exact q⟩, fun q => d_notIn hu1 I g rx fun s3 I3 => ⟨.bl _, H, I3, rfl, by rw [eb]; exact q⟩⟩
      | _ => simp [dicOf] at ek
    · split at hz
      · rename_i d' ds ed ee
        split at hz
        · rename_i hs
          cases hz
          exact ⟨fun q => op_inD hu pins s σ H _ _ v u Q I rx ry ⟨_, _, pyOf_dp hr _ qd ed, pyOf_dp hr _ qe ee, hs.1, hs.2, q⟩, fun q => op_notInD hu pins s σ H _ _ v u Q I rx ry ⟨_, _, pyOf_dp hr _ qd ed, pyOf_dp hr _ qe ee, hs.1, hs.2, q⟩⟩
        · cases hz
      · rename_i d' ds ed ee
        split at hz
        · rename_i hs
          cases hz
          obtain ⟨as, r1⟩ := Dp.reads I _ x v (pyOf_dp hr _ qd ed) rx
          obtain ⟨bs, r2⟩ := Dp.reads I _ y u (pyOf_dp hr _ qe ee) ry
          exact ⟨fun q => SeqAt.in_tuple_reads r2 r1 (SeqAt.canLay_of_shaped hs.2) (SeqAt.canLay_of_shaped hs.1) (room_in_shaped hs.1 hu) ⟨.bl _, H, I, rfl, q⟩,
            fun q => SeqAt.notIn_tuple_reads r2 r1 (SeqAt.canLay_of_shaped hs.2) (SeqAt.canLay_of_shaped hs.1) (room_in_shaped hs.1 hu) ⟨.bl _, H, I, rfl, q⟩⟩
        · cases hz
      · cases hz
theorem op_cmp (hu : X.A.units + 65 < cLine) (o : CmpOp) : OpR X (compareOp o) (rCmp X.K o) := by
  intro pins s σ H x y v u Q I rx ry ⟨m, h, d, e, b, hr, qd, qe, hz, fin⟩
  have hu1 : X.A.units < cLine := by omega
  cases o with
  | Eq => exact (cmp_eq hu I rx ry hr qd qe hz).1 fin
  | NotEq =>
    simp only [cmpD, Option.map_eq_some_iff] at hz
    obtain ⟨c, hc, rfl⟩ := hz
    exact (cmp_eq hu I rx ry hr qd qe hc).2 fin
  | Lt =>
    simp only [cmpD] at hz
    unfold ltD at hz
    split at hz
    · cases hz
      cases qd
      cases qe
      exact op_lt pins s σ H _ _ v u Q I rx ry ⟨_, _, rfl, rfl, fin⟩
    · split at hz
      · rename_i ns ms e1 e2
        cases hz
        rw [intsOf_eq e1] at qd
        rw [intsOf_eq e2] at qe
        cases qd with
        | tup q1 s1 t1 =>
          cases qe with
          | tup q2 s2 t2 =>
            obtain rfl := rpL_ints t1
            obtain rfl := rpL_ints t2
            exact op_ltT hu1 pins s σ H _ _ v u Q I rx ry ⟨_, _, ns, ms, rfl, rfl, q1.sq, q2.sq, fin⟩
      · cases hz
    · cases hz
  | LtE =>
    simp only [cmpD] at hz
    unfold leD at hz
    split at hz
    · cases hz
      cases qd
      cases qe
      exact op_le pins s σ H _ _ v u Q I rx ry ⟨_, _, rfl, rfl, fin⟩
    · split at hz
      · rename_i ns ms e1 e2
        cases hz
        rw [intsOf_eq e1] at qd
        rw [intsOf_eq e2] at qe
        cases qd with
        | tup q1 s1 t1 =>
          cases qe with
          | tup q2 s2 t2 =>
            obtain rfl := rpL_ints t1
            obtain rfl := rpL_ints t2
            exact op_leT hu1 pins s σ H _ _ v u Q I rx ry ⟨_, _, ns, ms, rfl, rfl, q1.sq, q2.sq, fin⟩
      · cases hz
    · cases hz
  | Gt =>
    simp only [cmpD] at hz
    unfold gtD at hz
    split at hz
    · cases hz
      cases qd
      cases qe
      exact op_gt pins s σ H _ _ v u Q I rx ry ⟨_, _, rfl, rfl, fin⟩
    · cases hz
  | GtE =>
    simp only [cmpD] at hz
    unfold geD at hz
    split at hz
    · cases hz
      cases qd
      cases qe
      exact op_ge pins s σ H _ _ v u Q I rx ry ⟨_, _, rfl, rfl, fin⟩
    · cases hz
  | Is =>
    simp only [cmpD] at hz
    split at hz
    · rename_i hn
      cases hz
      have ey : y = .non := by cases qe <;> simp [isN] at hn <;> rfl
      subst ey
      exact op_isN pins s σ H _ _ v u Q I rx ry ⟨rfl, by rw [isN_view qd]; exact fin⟩
    · obtain ⟨a, b, rfl, rfl, rfl⟩ := isB_some hz
      cases qd
      cases qe
      exact op_is_bl pins s σ H _ _ v u Q I rx ry ⟨_, _, rfl, rfl, fin⟩
  | IsNot =>
    simp only [cmpD] at hz
    split at hz
    · rename_i hn
      cases hz
      have ey : y = .non := by cases qe <;> simp [isN] at hn <;> rfl
      subst ey
      exact op_notN pins s σ H _ _ v u Q I rx ry ⟨rfl, by rw [isN_view qd]; exact fin⟩
    · rw [Option.map_eq_some_iff] at hz
      obtain ⟨c, hz, rfl⟩ := hz
      obtain ⟨a, b, rfl, rfl, rfl⟩ := isB_some hz
      cases qd
      cases qe
      exact op_isnot_bl pins s σ H _ _ v u Q I rx ry ⟨_, _, rfl, rfl, fin⟩
  | In => exact (cmp_in hu I rx ry hr qd qe hz).1 fin
  | NotIn =>
    simp only [cmpD, Option.map_eq_some_iff] at hz
    obtain ⟨c, hc, rfl⟩ := hz
    exact (cmp_in hu I rx ry hr qd qe hc).2 fin
theorem truth_view {K : PySem.W.Frag} {m : List Addr} {H : Hp} {h : Hm} {d : D} {v : V} {b : Bool} (r : HRp K m H h) (q : Rp K m H v d) (e : truth h d = some b) : TruV K v H b := by
  cases q with
  | non => simp [truth] at e; subst e; rfl
  | bl c => simp [truth] at e; subst e; rfl
  | int i => simp only [truth, Option.some.injEq] at e; subst e; rfl
  | str x =>
    simp only [truth] at e
    split at e
    · cases e; exact ⟨by assumption, rfl⟩
    · cases e
  | tup q s t =>
    simp only [truth, Option.some.injEq] at e
    subst e
    refine .inr (.inl ⟨_, q.sq, ?_⟩)
    cases t <;> rfl
  | lv q nm s t =>
    simp only [truth, lstOf, Option.map_some, Option.some.injEq] at e
    subst e
    refine .inl ⟨_, .of q, ?_⟩
    cases t <;> rfl
  | fl q s t =>
    simp only [truth, lstOf, Option.map_some, Option.some.injEq] at e
    subst e
    refine .inl ⟨_, q.sq, ?_⟩
    cases t <;> rfl
  | ref q =>
    simp only [truth, Option.map_eq_some_iff] at e
    obtain ⟨ds, e1, rfl⟩ := e
    obtain ⟨a, xs, e2, sq, s, t⟩ := lstOf_view (Z := ⟨K, fun _ => none⟩) r (.ref q) e1
    cases e2
    refine .inl ⟨_, sq, ?_⟩
    cases t <;> rfl
end
end Mi

set_option Elab.async false
set_option linter.all false
set_option maxRecDepth 100000
/-! Mini: subscripts, slices. -/
namespace HT
open PySem PySem.Spec PyProof.Rows
section
variable {prog : Program} {w : World} {A : Around} {E : Value → Shared → Prop} {s : Shared}
theorem sliceApplied_rev {sl : Addr} {vs : Value} {n : Nat} {Q : Int × Int × Nat → Shared → Prop} (hs : s.heap.IsSliceOf sl .none .none vs) (ps : IsPart vs (some (-1)))
    (h : Q ((n : Int) - 1, -1, n) s) : wpAny (model prog w) A (Builtin.Slice.sliceApplied (.ref sl) (pure (n : Int))) Q E s := by
  obtain ⟨os, hos, hcs, hds⟩ := id hs
  unfold Builtin.Slice.sliceApplied Builtin.Slice.sliceFields
  refine wpAny_bind (wpAny_bind (wpAny_field hos hds (x := .none) rfl (wpAny_bind (wpAny_field hos hds (x := .none) rfl (wpAny_bind (wpAny_field hos hds (x := vs) rfl (wpAny_pure ?_)))))))
  refine wpAny_bind (slicePart_ ps ?_)
  show wpAny _ _ (if ((-1 : Int) == 0) = true then _ else _) _ _ s
  rw [if_neg (by decide)]
  refine wpAny_bind (slicePart_none (wpAny_bind (slicePart_none (wpAny_bind (wpAny_pure ?_)))))
  have e1 : Builtin.Slice.sliceAdjust none none (-1) (n : Int) = ((n : Int) - 1, -1) := by
    unfold Builtin.Slice.sliceAdjust
    simp
  have e2 : Builtin.Slice.slicePlaces ((n : Int) - 1) (-1) (-1) = n := by
    unfold Builtin.Slice.slicePlaces
    simp
    try omega
  show wpAny _ _ (match Builtin.Slice.sliceAdjust none none (-1) (n : Int) with | (lo, hi) => pure (lo, (-1 : Int), Builtin.Slice.slicePlaces lo hi (-1))) _ _ s
  rw [e1]
  show wpAny _ _ (pure ((n : Int) - 1, (-1 : Int), Builtin.Slice.slicePlaces ((n : Int) - 1) (-1) (-1))) _ _ s
  rw [e2]
  exact wpAny_pure h
theorem filterMap_congr_mem {α β : Type} {f g : α → Option β} : ∀ {l : List α}, (∀ x ∈ l, f x = g x) → l.filterMap f = l.filterMap g
  | [], _ => rfl
  | x :: r, h => by
    have e := h x List.mem_cons_self
    have ih := filterMap_congr_mem (l := r) fun y hy => h y (List.mem_cons_of_mem _ hy)
    rw [List.filterMap_cons, List.filterMap_cons, e, ih]
theorem pick_rev (xs : Array Value) : ((List.range xs.size).filterMap fun (m : Nat) => xs[(((xs.size : Int) - 1) + (m : Int) * -1).toNat]?).toArray = xs.toList.reverse.toArray := by
  have e : ((List.range xs.size).filterMap fun (m : Nat) => xs[(((xs.size : Int) - 1) + (m : Int) * -1).toNat]?) = ((List.range xs.size).map fun k => xs.size - 1 - k).filterMap (xs[·]?) := by
    rw [List.filterMap_map]
    refine filterMap_congr_mem fun m hm => ?_
    have := List.mem_range.mp hm
    have e : (((xs.size : Int) - 1) + (m : Int) * -1).toNat = xs.size - 1 - m := by omega
    show xs[(((xs.size : Int) - 1) + (m : Int) * -1).toNat]? = xs[xs.size - 1 - m]?
    rw [e]
  rw [e, PySem.W.krv_range, List.filterMap_reverse, PySem.W.krv_all]
theorem getItem_tuple_rev {t sl : Addr} {items : Array Value} {vs : Value} {Q : Value → Shared → Prop} (ht : IsTup s.heap t items) (hs : s.heap.IsSliceOf sl .none .none vs) (ps : IsPart vs (some (-1)))
    (h : Q (.ref s.heap.objs.size) { s with heap := s.heap.push { cls := .type "tuple", data := .seq items.toList.reverse.toArray } })
    (hsz : items.size ≤ sizeLine) : wpAny (model prog w) A (getItem (.ref t) (.ref sl)) Q E s := by
  have htake : sizeOk (.seq items.toList.reverse.toArray) := by
    show items.toList.reverse.toArray.size ≤ sizeLine
    simpa using hsz
  obtain ⟨os, hos, hcs, hds⟩ := id hs
  have hTs : s.TypeIs (.ref sl) "slice" := ⟨os, hos, hcs⟩
  unfold getItem
  try with_reducible refine wpAny_holding ?_
  first | refine wpAny_bind (wpAny_pure ?_) | skip
  refine wpAny_bind (wpAny_sequenceKey ht.typeIs (by decide) ?_)
  refine wpAny_bind (wpAny_callSpecial?_slot (name := Str.ofString "__getitem__") ht.typeIs PyProof.Rows.slot_tuple_getitem
    (wpAny_call_entry PyProof.Rows.slot_tuple_getitem ht.typeIs entry_tuple_getitem ?_ (args_tuple_getitem _ _)))
  show wpAny _ _ (Builtin.Tuple.tupleItemsOf (.ref t) >>= _) _ _ s
  refine wpAny_bind (tupleItemsOf_ ht ?_)
  refine wpAny_bind (wpAny_typeOf hTs ?_)
  rw [if_pos (by decide)]
  refine wpAny_bind (sliceApplied_rev hs ps ?_)
  have hno : ¬ ((((items.size : Int) - 1) == 0 && (-1 : Int) == 1 && items.size == items.size) = true) := by
    intro q
    rw [Bool.and_eq_true, Bool.and_eq_true] at q
    have q1 : (-1 : Int) = 1 := eq_of_beq q.1.2
    omega
  show wpAny _ _ (if (((items.size : Int) - 1) == 0 && (-1 : Int) == 1 && items.size == items.size) = true then _ else _) _ _ s
  rw [if_neg hno, pick_rev]
  first
    | exact wpAny_bind (m := Builtin.Tuple.tupleExact _) (wpAny_newObj_type (wpAny_pure ⟨_, rfl, wpAny_pure h⟩) htake)
    | exact wpAny_bind (m := Builtin.Tuple.tupleExact _) (wpAny_newObj_type (wpAny_bind (wpAny_pure (wpAny_pure ⟨_, rfl, wpAny_pure h⟩))) htake)
    | exact wpAny_bind (wpAny_bind (m := Builtin.Tuple.tupleExact _) (wpAny_newObj_type (wpAny_pure (wpAny_pure ⟨_, rfl, wpAny_pure h⟩)) htake))
    | exact wpAny_bind (wpAny_bind (m := Builtin.Tuple.tupleExact _) (wpAny_newObj_type (wpAny_pure ⟨_, rfl, wpAny_pure h⟩) htake))
end
end HT
namespace Mi
open PySem PySem.Spec PyProof.Rows L2
section
variable {K : PySem.W.Frag} {m : List Addr} {H : Hp} {h : Hm}
theorem rpL_atI {xs : List V} {ds : List D} {i : Int} {d : D} (q : RpL K m H xs ds) (e : L2.atI ds i = some d) : ∃ v, L2.atI xs i = some v ∧ Rp K m H v d := by
  unfold L2.atI at e ⊢
  rw [q.length]
  cases e2 : ixN ds.length i with
  | none => rw [e2] at e; simp at e
  | some j =>
    rw [e2] at e
    exact q.get (i := j) (by simpa using e)
theorem stL_atI {ds : List D} {i : Int} {d : D} (s : D.stL ds = true) (e : L2.atI ds i = some d) : D.st d = true := by
  unfold L2.atI at e
  cases e2 : ixN ds.length i with
  | none => rw [e2] at e; simp at e
  | some j =>
    rw [e2] at e
    exact (stL_iff ds).mp s d (List.mem_of_getElem? (by simpa using e))
theorem rpL_cut {xs : List V} {ds : List D} (lo hi : Option Int) (q : RpL K m H xs ds) : RpL K m H (cutV xs lo hi) (cutL ds lo hi) := by
  unfold cutV cutL
  rw [q.length]
  exact (q.drop _).take _
theorem stL_cut {ds : List D} (lo hi : Option Int) (s : D.stL ds = true) : D.stL (cutL ds lo hi) = true := by
  rw [stL_iff] at s ⊢
  intro d hd
  unfold cutL at hd
  exact s d (List.mem_of_mem_drop (List.mem_of_mem_take hd))
theorem RpL.reverse : ∀ {xs : List V} {ds : List D}, RpL K m H xs ds → RpL K m H xs.reverse ds.reverse
  | _, _, .nil => by simpa using RpL.nil
  | _, _, .cons a t => by
    rw [List.reverse_cons, List.reverse_cons]
    exact t.reverse.append (.one a)
theorem stL_rev {ds : List D} (s : D.stL ds = true) : D.stL ds.reverse = true := by
  rw [stL_iff] at s ⊢
  intro d hd
  exact s d (List.mem_reverse.mp hd)
theorem stL_look : ∀ {kvs : List (L2.Key × D)} {k : L2.Key} {d : D}, D.stL (kvs.map (·.2)) = true → lookK kvs k = some d → D.st d = true
  | [], _, _, _, e => by simp [lookK] at e
  | (k', d') :: r, k, d, s, e => by
    simp only [List.map_cons, D.stL, Bool.and_eq_true] at s
    unfold lookK at e
    split at e
    · cases e; exact s.1
    · exact stL_look s.2 e
end
def rIx (K : PySem.W.Frag) : R2 := fun x y H Q => ∃ m h d e z, HRp K m H h ∧ Rp K m H x d ∧ Rp K m H y e ∧ ixD h d e = some z ∧ Fin1 K m H h z Q
section
variable {X : Cx}
theorem ix_dic (hu : X.A.units + 1 < cLine) {value slice : Expr} {pins : List (Addr × Obj)} {s : Shared} {σ : L2.St} {H : Hp} {a : Addr} {y : V} {u : Value} {Q : VK} {m : List Addr} {h : Hm} {e z : D} {kds : List (L2.Key × D)} {k : L2.Key} {kvs : List (L2.Key × V)}
    (I : Inv X pins σ H s) (ry : RelV y u) (hr : HRp X.K m H h) (rd : Rd H a (.dK kvs)) (t : KvR X.K m H kvs kds) (qe : Rp X.K m H y e) (ek : keyOf e = some k) (ez : lookK kds k = some z) (fin : Fin1 X.K m H h z Q)
    (hs : subscripted slice false (.ref a) u = operate [.ref a, u] (getItem (.ref a) u)) : wpAny (model X.prog X.w) X.A (subscriptTail value slice (.ref a) u) (EP X pins σ Q) X.xe s := by
  obtain rfl := keyOf_view qe ek
  obtain ⟨v, hv, rv⟩ : ∃ v, valV kvs k = some v ∧ Rp X.K m H v z := by
    rcases kv_look k t.1 t.2.2 with ⟨h1, h2⟩ | ⟨v, d, h1, h2, h3⟩
    · rw [ez] at h2; cases h2
    · rw [ez] at h2; cases h2; exact ⟨v, h1, h3⟩
  have g : DGet H a (kV k) (some v) := .inl ⟨kvs, k, rd, rfl, hv.symm⟩
  have hT := dict_typeIs I g
  unfold subscriptTail
  refine wpAny_bind ?_
  rw [getitemInPython_of_ne hT.not_modules]
  refine wpAny_bind (wpAny_specialOf hT PySem.F.slot_dict_getitem.lookup ?_)
  have fin2 : wpAny (model X.prog X.w) X.A (subscripted slice false (.ref a) u) (fun r s₃ => wpAny (model X.prog X.w) X.A (letTemporaryGo value (.ref a) r >>= fun _ => pure r) (EP X pins σ Q) X.xe s₃) X.xe s := by
    rw [hs]
    exact wpAny_operating (d_getItem hu I g ry fun w' s3 I3 rw' => wpAny_bind (wpAny_letTemporaryGo (wpAny_pure ⟨v, H, I3, rw', fin.same hr rv (stL_look t.2.1 ez)⟩)))
  first
    | exact wpAny_pure (wpAny_bind fin2)
    | exact wpAny_bind (wpAny_pure (wpAny_bind fin2))
    | exact wpAny_bind fin2
theorem op_ix (hu : X.A.units + 1 < cLine) : IxR X (rIx X.K) := by
  intro value slice pins s σ H x y v u Q I rx ry ⟨m, h, d, e, z, hr, qd, qe, hz, fin⟩ hs
  cases qd with
  | tup q1 s1 t1 =>
    simp only [ixD] at hz
    split at hz
    · cases qe
      obtain ⟨w, ew, rw'⟩ := rpL_atI t1 hz
      exact ix_tup value slice pins s σ H _ _ v u Q I rx ry ⟨_, _, _, w, rfl, rfl, q1.sq, ew, fin.same hr rw' (stL_atI s1 hz)⟩ hs
    · cases hz
  | str x =>
    simp only [ixD] at hz
    split at hz
    · split at hz
      · rename_i hl
        cases qe
        rw [Option.map_eq_some_iff] at hz
        obtain ⟨c, hc, rfl⟩ := hz
        exact ix_str value slice pins s σ H _ _ v u Q I rx ry ⟨_, _, c, rfl, rfl, hl, hc, fin.same hr (.str _) rfl⟩ hs
      · cases hz
    · cases hz
  | lv q1 nm s1 t1 =>
    simp only [ixD] at hz
    split at hz
    · cases qe
      obtain ⟨w, ew, rw'⟩ := rpL_atI t1 hz
      exact ix_list value slice pins s σ H _ _ v u Q I rx ry ⟨_, _, _, w, rfl, rfl, .of q1, ew, fin.same hr rw' (stL_atI s1 hz)⟩ hs
    · cases hz
  | fl q1 s1 t1 =>
    simp only [ixD] at hz
    split at hz
    · cases qe
      obtain ⟨w, ew, rw'⟩ := rpL_atI t1 hz
      exact ix_list value slice pins s σ H _ _ v u Q I rx ry ⟨_, _, _, w, rfl, rfl, q1.sq, ew, fin.same hr rw' (stL_atI s1 hz)⟩ hs
    · cases hz
  | ref q1 =>
    simp only [ixD] at hz
    split at hz
    · rename_i ds e2
      split at hz
      · cases qe
        obtain ⟨a, xs, e3, e4, s1, t1⟩ := lst_view (Z := ⟨X.K, fun _ => none⟩) hr e2
        rw [q1] at e3; cases e3
        obtain ⟨w, ew, rw'⟩ := rpL_atI t1 hz
        exact ix_list value slice pins s σ H _ _ v u Q I rx ry ⟨_, _, _, w, rfl, rfl, .of e4, ew, fin.same hr rw' (stL_atI s1 hz)⟩ hs
      · cases hz
    · rename_i kvs e2
      split at hz
      · rename_i k ek
        obtain ⟨kv, rd, t⟩ := dic_view hr q1 (show dicOf h _ = some kvs by simp only [dicOf, e2])
        cases rx
        exact ix_dic hu I ry hr rd t qe ek hz fin hs
      · cases hz
    · rename_i kvs e2
      split at hz
      · rename_i k ek
        obtain ⟨kv, rd, t⟩ := dic_view hr q1 (show dicOf h _ = some kvs by simp only [dicOf, e2])
        cases rx
        exact ix_dic hu I ry hr rd t qe ek hz fin hs
      · cases hz
    · cases hz
  | _ => simp [ixD] at hz
def rSl (K : PySem.W.Frag) : V → Option Int → Option Int → Hp → VK → Prop := fun x lo hi H Q => ∃ m h d z, HRp K m H h ∧ Rp K m H x d ∧ cutD h d lo hi = some z ∧ Fin1 K m H h z Q
theorem cutL_whole {ds : List D} {lo hi : Option Int} (h : HT.sIx ds.length 0 lo = 0 ∧ HT.sIx ds.length ds.length hi = ds.length) : cutL ds lo hi = ds := by
  unfold cutL
  rw [h.1, h.2]
  simp
theorem cut_lst {pins : List (Addr × Obj)} {s : Shared} {σ : L2.St} {H : Hp} {x : V} {v vl vu : Value} {lo hi : Option Int} {sl : Addr} {Q : VK} {m : List Addr} {h : Hm} {d : D} {ds : List D} (I : Inv X pins σ H s) (rx : RelV x v) (hs : s.heap.IsSliceOf sl vl vu .none) (pl : IsPart vl lo) (pu : IsPart vu hi)
    (hr : HRp X.K m H h) (qd : Rp X.K m H x d) (e : lstOf h d = some ds) (fin : Fin1 X.K m H h (.lv (cutL ds lo hi)) Q) :
    ∃ T id, typeLookup (.type T) "__getitem__" = pure (some (.builtin id)) ∧ s.TypeIs v T ∧ wpAny (model X.prog X.w) X.A (getItem v (.ref sl)) (EP X pins σ Q) X.xe s := by
  obtain ⟨a, xs, rfl, sq, sd, td⟩ := lstOf_view (Z := ⟨X.K, fun _ => none⟩) hr qd e
  exact sl_list pins s σ H _ v vl vu lo hi sl Q I rx hs pl pu ⟨a, xs, rfl, sq, fun p hp => fin.lst hr (stL_cut _ _ sd) (rpL_cut _ _ td) hp⟩
theorem op_sl : SlR X (rSl X.K) := by
  intro pins s σ H x v vl vu lo hi sl Q I rx hs pl pu ⟨m, h, d, z, hr, qd, hz, fin⟩
  cases qd with
  | tup q1 s1 t1 =>
    simp only [cutD, Option.some.injEq] at hz
    subst hz
    refine sl_tupN pins s σ H _ v vl vu lo hi sl Q I rx hs pl pu ⟨_, _, rfl, q1.sq, fun hw => ?_, fun hw p o no hp => fin.tup hr (stL_cut _ _ s1) (rpL_cut _ _ t1) hp no⟩
    rw [t1.length] at hw
    rw [cutL_whole hw] at fin
    exact fin.same hr (.tup q1 s1 t1) s1
  | str x =>
    simp only [cutD] at hz
    split at hz
    · cases hz
      refine sl_str pins s σ H _ v vl vu lo hi sl Q I rx hs pl pu ⟨_, rfl, by assumption, ?_⟩
      have e : cutS x lo hi = ⟨(cutL x.cps.toList lo hi).toArray⟩ := by
        have : x.length = x.cps.toList.length := by simp [Str.length]
        unfold cutS cutL
        rw [this]
      rw [e]
      exact fin.same hr (.str _) rfl
    · cases hz
  | lv q1 nm s1 t1 =>
    simp only [cutD, Option.map_eq_some_iff] at hz
    obtain ⟨ds, e, rfl⟩ := hz
    exact cut_lst I rx hs pl pu hr (.lv q1 nm s1 t1) e fin
  | fl q1 s1 t1 =>
    simp only [cutD, Option.map_eq_some_iff] at hz
    obtain ⟨ds, e, rfl⟩ := hz
    exact cut_lst I rx hs pl pu hr (.fl q1 s1 t1) e fin
  | ref q1 =>
    simp only [cutD, Option.map_eq_some_iff] at hz
    obtain ⟨ds, e, rfl⟩ := hz
    exact cut_lst I rx hs pl pu hr (.ref q1) e fin
  | _ => simp [cutD, lstOf] at hz
def tRevD (K : PySem.W.Frag) (te : TE) : TE := fun σ H Q => te σ H fun x H1 => ∃ m h d z, HRp K m H1 h ∧ Rp K m H1 x d ∧ revD h d = some z ∧ Fin1 K m H1 h z Q
theorem pe_revD {e : Expr} {te : TE} {k : Nat} {p1 p2 p3 pos : Pos} (he : PE X e te) : PE X (.Subscript e (.Slice none none (some (.UnaryOp .USub (.Constant (.int 1) k p1) p2)) p3) pos) (tRevD X.K te) := by
  refine ⟨fun pins s σ H Q I h => ?_⟩
  refine Subscript_ (thn (he.run pins s σ H _ I h) fun v s1 ⟨x, H1, I1, r1, m, hm, d, z, hr, qd, hz, fin⟩ => ?_)
  have hst : PO X (some (.UnaryOp .USub (.Constant (.int 1) k p1) p2)) (tPart (tUn (rU fun i => .int (-i)) (tC (.int 1)))) := po_some (pe_un un_neg pe_int)
  refine wpAny_Slice (thn (po_none.run pins s1 σ H1 (fun o H2 => o = none ∧ H2 = H1) I1 ⟨rfl, rfl⟩) fun vl s2 ⟨l, H2, I2, pl, el, e2⟩ => ?_)
  subst el e2
  refine thn (po_none.run pins s2 σ H2 (fun o H3 => o = none ∧ H3 = H2) I2 ⟨rfl, rfl⟩) fun vu s3 ⟨u, H3, I3, pu, eu, e3⟩ => ?_
  subst eu e3
  refine thn (hst.run pins s3 σ H3 (fun o H4 => o = some (-1) ∧ H4 = H3) I3 ⟨1, rfl, -1, rfl, rfl, rfl⟩) fun vs s4 ⟨o, H4, I4, ps, eo, e4⟩ => ?_
  subst eo e4
  have I5 : Inv X pins σ H4 { s4 with heap := s4.heap.push { cls := .type "slice", data := .fields #[vl, vu, vs] } } := I4.kept (t' := s4.toks) fun b ob q => Heap.get?_push_of_some _ q
  have go_list : ∀ {a : Addr} {xs : List V} {ds : List D}, x = .ref a → SqL X.K H4 a xs → D.stL ds = true → RpL X.K m H4 xs ds → Fin1 X.K m H4 hm (.lv ds.reverse) Q →
      wpAny (model X.prog X.w) X.A (subscriptTail e (.Slice none none (some (.UnaryOp .USub (.Constant (.int 1) k p1) p2)) p3) v (.ref s4.heap.objs.size)) (EP X pins σ Q) X.xe { s4 with heap := s4.heap.push { cls := .type "slice", data := .fields #[vl, vu, vs] } } := by
    intro a xs ds ex hx sd td fin
    subst ex
    cases r1
    obtain ⟨its, r, ht, hz⟩ := I5.list hx
    refine tail_any (ops := [.ref a, .ref s4.heap.objs.size]) ht.isList.typeIs (PySem.slot_list_getitem.lookup) ?_ (by with_unfolding_all rfl)
    have hlen := r.length
    refine wpAny_getItem_list_slice ht.isList (Heap.IsSliceOf.new _ vl vu vs) pl pu ps (by decide) ?_ (by rw [List.size_toArray]; omega)
    rw [PySem.W.krv_pick]
    refine ⟨.ref _, _, I5.laid (t' := s4.toks) (o := .lst xs.reverse) (fun b ob q => Heap.get?_push_of_some _ q) (Nat.le_refl _) ?_, rfl, fin.lst hr (stL_rev sd) td.reverse (I5.hok.fresh (Nat.le_refl _))⟩
    exact ⟨by rw [List.length_reverse]; exact hz, _, 0, r.reverse, Heap.get?_push_size _ rfl⟩
  cases qd with
  | tup q1 sd td =>
    simp only [revD, Option.some.injEq] at hz
    subst hz
    cases r1
    obtain ⟨its, r, ht, hzz⟩ := I5.tuple q1.sq
    cases pl
    cases pu
    refine tail_any (ops := [_, .ref s4.heap.objs.size]) ht.typeIs PyProof.Rows.slot_tuple_getitem.lookup ?_ (by with_unfolding_all rfl)
    have hlen := r.length
    refine HT.getItem_tuple_rev ht (Heap.IsSliceOf.new _ .none .none vs) ps ?_ (by rw [List.size_toArray]; omega)
    refine ⟨.ref _, _, I5.laid (t' := s4.toks) (o := .frz (tupO its.reverse.toArray) (.tup _)) (fun b ob q => Heap.get?_push_of_some _ q) (Nat.le_refl _) ?_, rfl, fin.tup hr (stL_rev sd) td.reverse (I5.hok.fresh (Nat.le_refl _)) rfl⟩
    exact ⟨Heap.get?_push_size _ rfl, by rw [List.length_reverse]; exact hzz, _, r.reverse, IsTup.new _ _⟩
  | lv a b c dd =>
    simp only [revD, Option.map_eq_some_iff] at hz
    obtain ⟨ds, e1, rfl⟩ := hz
    obtain ⟨a, xs, ex, sq, sd, td⟩ := lstOf_view (Z := ⟨X.K, fun _ => none⟩) hr (.lv a b c dd) e1
    exact go_list ex sq sd td fin
  | fl a b c =>
    simp only [revD, Option.map_eq_some_iff] at hz
    obtain ⟨ds, e1, rfl⟩ := hz
    obtain ⟨a, xs, ex, sq, sd, td⟩ := lstOf_view (Z := ⟨X.K, fun _ => none⟩) hr (.fl a b c) e1
    exact go_list ex sq sd td fin
  | ref a =>
    simp only [revD, Option.map_eq_some_iff] at hz
    obtain ⟨ds, e1, rfl⟩ := hz
    obtain ⟨a, xs, ex, sq, sd, td⟩ := lstOf_view (Z := ⟨X.K, fun _ => none⟩) hr (.ref a) e1
    exact go_list ex sq sd td fin
  | _ => simp [revD, lstOf] at hz
end
end Mi

set_option Elab.async false
set_option linter.all false
set_option maxRecDepth 100000
set_option maxHeartbeats 4000000
/-! Mini: sorted of a dict, any number of keys. -/
namespace Mi
open PySem PySem.Spec PyProof.Rows L2
section
variable {X : Cx}
theorem cr_sortedDU (hcalm : X.calm = true) : CallR X (.builtin "sorted") (fun xs H Q => ∃ (a : Addr) (kvs : List (L2.Key × V)) (ks : List Int), xs = [.ref a] ∧ Rd H a (.dK kvs) ∧ kvs.map (·.1) = ks.map Sum.inl ∧ ks.length ≤ sizeLine ∧
    ∀ (ys : List Int) (p : Addr), ys.Perm ks → ys.Pairwise (· ≤ ·) → H p = none → Q (.ref p) (upd H p (.lst (ys.map V.int)))) := by
  intro pins s σ H xs us Q I r q
  obtain ⟨a, kvs, ks, ex, hd, hks, h64, q⟩ := q
  subst ex
  obtain ⟨u, eu, rx⟩ := vals1 r
  subst eu
  cases rx
  obtain ⟨z, lo, vs, rel, dd⟩ := dk_rd I.hok hd
  obtain ⟨ep, hat⟩ := dd.dictAt
  have hkeys : vs.map (·.1) = ks.map Sum.inl := rel.keys.symm.trans hks
  have hl : vs.length = ks.length := by
    have e := congrArg List.length hkeys
    rw [List.length_map, List.length_map] at e
    exact e
  have h16 : vs.length ≤ sizeLine := by rw [hl]; exact h64
  refine Calls.call_function_entry PyProof.Rows.kind_sorted PyProof.Rows.plain_sorted PyProof.Rows.entry_sorted (PyProof.Rows.args_sorted1 _) ?_
  unfold Builtin.«sorted»
  refine wpAny_bind (m := checkCount "sorted" 1 1 _) (wpAny_pure ?_)
  refine wpAny_bind (PySem.W.kdu_collect (A := X.A.in1) (PySem.W.kdl_dict (knd := mixKind X.prog X.w) (kvs := vs) (ep := ep) lo) (I.ok.hd hcalm) hat h16 fun h' tk acc hk hacc => ?_)
  have hal : acc.toList.length = ks.length := by rw [Array.length_toList, hacc.1, hl]
  have hS : IntsAre acc.toList ks := ints_each hal fun j v e => by
    obtain ⟨k, x, e1, e2⟩ := hacc.2 j v (by rw [← Array.getElem?_toList]; exact e)
    have e3 : (vs.map (·.1))[j]? = some k := by rw [List.getElem?_map, e1]; rfl
    rw [hkeys, List.getElem?_map] at e3
    cases e4 : ks[j]? with
    | none => rw [e4] at e3; cases e3
    | some y =>
      rw [e4] at e3
      have e5 : Sum.inl y = k := Option.some.inj e3
      subst e5
      rcases keyIs_shape (show keyIs (Sum.inl y) v = true from e2) with ⟨i, t, ek, ev⟩ | ⟨z, t, ek, ev⟩
      · cases ek
        exact ⟨y, t, rfl, ev⟩
      · cases ek
  have I1 : Inv X pins σ H { s with heap := h', toks := tk } := I.kept hk
  have hzl : acc.toList.length ≤ sizeLine := by rw [hal]; exact h64
  refine wpAny_bind (wpAny_newList ?_ hzl)
  have hoL : (h'.push (seqObj "list" acc.toList.toArray 0)).get? h'.objs.size = some (seqObj "list" acc.toList.toArray 0) := Heap.get?_push_size _ rfl
  show wpAny _ _ _ _ _ { s with heap := h'.push (seqObj "list" acc.toList.toArray 0), toks := tk }
  refine wpAny_bind (wpAny_holding (wpAny_call_entry PyProof.Rows.slot_list_sort ⟨_, hoL, rfl⟩ PyProof.Rows.entry_list_sort
    (SrtO.list_sort_ord (s := { s with heap := h'.push (seqObj "list" acc.toList.toArray 0), toks := tk }) SrtO.swo_int hoL hzl (fun h2 => SrtO.ints_sortable hS h2) fun out h1 h2 => ⟨_, rfl, ?_⟩) (PyProof.Rows.args_list_sort _)))
  obtain ⟨k1, k2, k3⟩ := SrtO.ints_out hS h1 h2
  obtain ⟨e', he'⟩ := PyProof.Rows.sortedHeap_at (vs := acc.toList) (out := out.toArray) hoL
  have hlen : ((out.map SrtO.iv).map V.int).length ≤ sizeLine := by
    rw [List.length_map, k2.length_eq]
    exact h64
  refine wpAny_pure ⟨_, rfl, .ref h'.objs.size, upd H h'.objs.size (.lst ((out.map SrtO.iv).map V.int)), I1.laid (t' := tk) (fun b u e => ?_) (Nat.le_refl _)
    (show ObjOk X.prog X.w _ _ _ (.lst ((out.map SrtO.iv).map V.int)) from ⟨hlen, out, e', vals_of_ints k1, he'⟩), rfl, q _ _ k2 k3 (I1.hok.fresh (Nat.le_refl _))⟩
  have hb : b < h'.objs.size := Heap.lt_size e
  rw [PyProof.Rows.sortedHeap_old (Nat.ne_of_lt hb) (by rw [size_push']; exact Nat.lt_succ_of_lt hb)]
  exact Heap.get?_push_of_some _ e
/-- sorted(t) of a tuple of ints -/
theorem cr_sortedT : CallR X (.builtin "sorted") (fun xs H Q => ∃ (a : Addr) (ks : List Int), xs = [.ref a] ∧ SqT X.K H a (ks.map V.int) ∧
    ∀ (ys : List Int) (p : Addr), ys.Perm ks → ys.Pairwise (· ≤ ·) → H p = none → Q (.ref p) (upd H p (.lst (ys.map V.int)))) := by
  intro pins s σ H xs us Q I r q
  obtain ⟨a, ks, ex, hd, q⟩ := q
  subst ex
  obtain ⟨u, eu, rx⟩ := vals1 r
  subst eu
  cases rx
  obtain ⟨its, rv, ⟨o, ho, hc, n, hdd⟩, hz⟩ := I.tuple hd
  have hal : its.length = ks.length := by rw [← rv.length, List.length_map]
  have hsz : its.toArray.size ≤ sizeLine := by rw [List.size_toArray, hal]; simpa using hz
  refine Calls.call_function_entry PyProof.Rows.kind_sorted PyProof.Rows.plain_sorted PyProof.Rows.entry_sorted (PyProof.Rows.args_sorted1 _) ?_
  unfold Builtin.«sorted»
  refine wpAny_bind (m := checkCount "sorted" 1 1 _) (wpAny_pure ?_)
  refine wpAny_bind (wpAny_collect_seq (A := X.A.in1) a (T := "tuple") (.inr rfl) ho hc hdd (fun h' hk => ?_) hsz)
  have hS : IntsAre its ks := intsAre_of rv
  have I1 : Inv X pins σ H { s with heap := h', toks := s.toks } := I.kept hk
  have hzl : its.length ≤ sizeLine := by rw [hal]; simpa using hz
  rw [List.toList_toArray]
  refine wpAny_bind (wpAny_newList ?_ hzl)
  have hoL : (h'.push (seqObj "list" its.toArray 0)).get? h'.objs.size = some (seqObj "list" its.toArray 0) := Heap.get?_push_size _ rfl
  show wpAny _ _ _ _ _ { s with heap := h'.push (seqObj "list" its.toArray 0), toks := s.toks }
  refine wpAny_bind (wpAny_holding (wpAny_call_entry PyProof.Rows.slot_list_sort ⟨_, hoL, rfl⟩ PyProof.Rows.entry_list_sort
    (SrtO.list_sort_ord (s := { s with heap := h'.push (seqObj "list" its.toArray 0), toks := s.toks }) SrtO.swo_int hoL hzl (fun h2 => SrtO.ints_sortable hS h2) fun out h1 h2 => ⟨_, rfl, ?_⟩) (PyProof.Rows.args_list_sort _)))
  obtain ⟨k1, k2, k3⟩ := SrtO.ints_out hS h1 h2
  obtain ⟨e', he'⟩ := PyProof.Rows.sortedHeap_at (vs := its) (out := out.toArray) hoL
  have hlen : ((out.map SrtO.iv).map V.int).length ≤ sizeLine := by
    rw [List.length_map, k2.length_eq]
    simpa using hz
  refine wpAny_pure ⟨_, rfl, .ref h'.objs.size, upd H h'.objs.size (.lst ((out.map SrtO.iv).map V.int)), I1.laid (t' := s.toks) (fun b u e => ?_) (Nat.le_refl _)
    (show ObjOk X.prog X.w _ _ _ (.lst ((out.map SrtO.iv).map V.int)) from ⟨hlen, out, e', vals_of_ints k1, he'⟩), rfl, q _ _ k2 k3 (I1.hok.fresh (Nat.le_refl _))⟩
  have hb : b < h'.objs.size := Heap.lt_size e
  rw [PyProof.Rows.sortedHeap_old (Nat.ne_of_lt hb) (by rw [size_push']; exact Nat.lt_succ_of_lt hb)]
  exact Heap.get?_push_of_some _ e
end
end Mi

set_option Elab.async false
set_option linter.all false
set_option maxRecDepth 100000
/-! Mini: built-ins. -/
namespace Mi
open PySem PySem.Spec PyProof.Rows L2
def rBi (K : PySem.W.Frag) (f : Bi) : List V → Hp → VK → Prop := fun vs H Q => ∃ m h ds z, HRp K m H h ∧ RpL K m H vs ds ∧ biD h f ds = some z ∧ Fin1 K m H h z Q
section
variable {K : PySem.W.Frag} {m : List Addr} {H : Hp} {h : Hm}
theorem rp_one {vs : List V} {d : D} (q : RpL K m H vs [d]) : ∃ v, vs = [v] ∧ Rp K m H v d := by
  cases q with
  | cons a t => cases t; exact ⟨_, rfl, a⟩
theorem blsOf_eq : ∀ {ds : List D} {bs : List Bool}, blsOf ds = some bs → ds = bs.map .bl
  | [], _, e => by simp [blsOf] at e; subst e; rfl
  | .bl i :: ds, _, e => by
    simp only [blsOf, Option.map_eq_some_iff] at e
    obtain ⟨ms, e1, rfl⟩ := e
    rw [blsOf_eq e1]; rfl
  | .non :: _, _, e => by simp [blsOf] at e
  | .int _ :: _, _, e => by simp [blsOf] at e
  | .str _ :: _, _, e => by simp [blsOf] at e
  | .tup _ :: _, _, e => by simp [blsOf] at e
  | .ref _ :: _, _, e => by simp [blsOf] at e
  | .lv _ :: _, _, e => by simp [blsOf] at e
  | .fl _ :: _, _, e => by simp [blsOf] at e
theorem rpL_bls : ∀ {ns : List Bool} {xs : List V}, RpL K m H xs (ns.map .bl) → xs = ns.map V.bl
  | [], _, .nil => rfl
  | n :: ns, _, .cons (.bl _) t => by rw [rpL_bls t]; rfl
theorem rpL_ofInts : ∀ (ns : List Int), RpL K m H (ns.map V.int) (ns.map .int)
  | [] => .nil
  | n :: ns => .cons (.int n) (rpL_ofInts ns)
theorem stL_ofInts (ns : List Int) : D.stL (ns.map .int) = true := by
  induction ns with
  | nil => rfl
  | cons n ns ih => simp [D.stL, D.st, ih]
theorem insI_perm (x : Int) : ∀ l : List Int, (insI x l).Perm (x :: l)
  | [] => .refl _
  | y :: ys => by
    unfold insI
    split
    · exact .refl _
    · exact ((insI_perm x ys).cons y).trans (.swap x y ys)
theorem sortI_perm : ∀ l : List Int, (sortI l).Perm l
  | [] => .refl _
  | x :: xs => (insI_perm x _).trans ((sortI_perm xs).cons x)
theorem insI_sorted (x : Int) : ∀ l : List Int, l.Pairwise (· ≤ ·) → (insI x l).Pairwise (· ≤ ·)
  | [], _ => by simp [insI]
  | y :: ys, h => by
    unfold insI
    rw [List.pairwise_cons] at h
    split
    · rename_i hxy
      rw [List.pairwise_cons]
      refine ⟨fun a ha => ?_, List.pairwise_cons.mpr h⟩
      rcases List.mem_cons.mp ha with rfl | ha
      · exact hxy
      · exact Int.le_trans hxy (h.1 a ha)
    · rename_i hxy
      rw [List.pairwise_cons]
      refine ⟨fun a ha => ?_, insI_sorted x ys h.2⟩
      rcases List.mem_cons.mp ((insI_perm x ys).mem_iff.mp ha) with rfl | ha
      · omega
      · exact h.1 a ha
theorem sortI_sorted : ∀ l : List Int, (sortI l).Pairwise (· ≤ ·)
  | [] => .nil
  | x :: xs => insI_sorted x _ (sortI_sorted xs)
theorem sorted_unique : ∀ {l l' : List Int}, l.Perm l' → l.Pairwise (· ≤ ·) → l'.Pairwise (· ≤ ·) → l = l'
  | [], l', p, _, _ => (List.nil_perm.mp p).symm
  | a :: l, [], p, _, _ => absurd p.length_eq (by simp)
  | a :: l, b :: l', p, h1, h2 => by
    have e : a = b := by
      rw [List.pairwise_cons] at h1 h2
      have ha := p.mem_iff.mp (List.mem_cons_self (a := a) (l := l))
      have hb := p.mem_iff.mpr (List.mem_cons_self (a := b) (l := l'))
      rcases List.mem_cons.mp ha with q | q
      · exact q
      · rcases List.mem_cons.mp hb with q' | q'
        · exact q'.symm
        · exact Int.le_antisymm (h1.1 b q') (h2.1 a q)
    subst e
    rw [sorted_unique (List.perm_cons a |>.mp p) (List.pairwise_cons.mp h1).2 (List.pairwise_cons.mp h2).2]
theorem maxI_spec : ∀ (l : List Int) (x : Int), (maxI x l ∈ x :: l) ∧ ∀ y ∈ x :: l, y ≤ maxI x l
  | [], x => ⟨by simp [maxI], fun y hy => by simp at hy; subst hy; simp [maxI]⟩
  | z :: l, x => by
    obtain ⟨h1, h2⟩ := maxI_spec l (if z > x then z else x)
    unfold maxI
    refine ⟨?_, fun y hy => ?_⟩
    · rcases List.mem_cons.mp h1 with h1 | h1
      · rw [h1]; split <;> simp
      · exact List.mem_cons_of_mem _ (List.mem_cons_of_mem _ h1)
    · have h0 := h2 _ List.mem_cons_self
      rcases List.mem_cons.mp hy with rfl | hy
      · refine Int.le_trans ?_ h0; split <;> omega
      · rcases List.mem_cons.mp hy with rfl | hy
        · refine Int.le_trans ?_ h0; split <;> omega
        · exact h2 y (List.mem_cons_of_mem _ hy)
theorem minI_spec : ∀ (l : List Int) (x : Int), (minI x l ∈ x :: l) ∧ ∀ y ∈ x :: l, minI x l ≤ y
  | [], x => ⟨by simp [minI], fun y hy => by simp at hy; subst hy; simp [minI]⟩
  | z :: l, x => by
    obtain ⟨h1, h2⟩ := minI_spec l (if z < x then z else x)
    unfold minI
    refine ⟨?_, fun y hy => ?_⟩
    · rcases List.mem_cons.mp h1 with h1 | h1
      · rw [h1]; split <;> simp
      · exact List.mem_cons_of_mem _ (List.mem_cons_of_mem _ h1)
    · have h0 := h2 _ List.mem_cons_self
      rcases List.mem_cons.mp hy with rfl | hy
      · refine Int.le_trans h0 ?_; split <;> omega
      · rcases List.mem_cons.mp hy with rfl | hy
        · refine Int.le_trans h0 ?_; split <;> omega
        · exact h2 y (List.mem_cons_of_mem _ hy)
/-- a list of whole numbers -/
theorem ints_view {d : D} {v : V} {ds : List D} {ns : List Int} (r : HRp K m H h) (q : Rp K m H v d) (e : lstOf h d = some ds) (e2 : intsOf ds = some ns) : ∃ a, v = .ref a ∧ SqL K H a (ns.map V.int) := by
  obtain ⟨a, xs, rfl, sq, _, t⟩ := lstOf_view (Z := ⟨K, fun _ => none⟩) r q e
  rw [intsOf_eq e2] at t
  obtain rfl := rpL_ints t
  exact ⟨a, rfl, sq⟩
theorem k_NoneType_tuple : kitB "NoneType" "tuple" = some false := by decide +kernel
theorem k_NoneType_int : kitB "NoneType" "int" = some false := by decide +kernel
theorem k_NoneType_str : kitB "NoneType" "str" = some false := by decide +kernel
theorem k_NoneType_bool : kitB "NoneType" "bool" = some false := by decide +kernel
theorem k_bool_tuple : kitB "bool" "tuple" = some false := by decide +kernel
theorem k_bool_int : kitB "bool" "int" = some true := by decide +kernel
theorem k_bool_str : kitB "bool" "str" = some false := by decide +kernel
theorem k_bool_bool : kitB "bool" "bool" = some true := by decide +kernel
theorem k_int_tuple : kitB "int" "tuple" = some false := by decide +kernel
theorem k_int_int : kitB "int" "int" = some true := by decide +kernel
theorem k_int_str : kitB "int" "str" = some false := by decide +kernel
theorem k_int_bool : kitB "int" "bool" = some false := by decide +kernel
theorem k_str_tuple : kitB "str" "tuple" = some false := by decide +kernel
theorem k_str_int : kitB "str" "int" = some false := by decide +kernel
theorem k_str_str : kitB "str" "str" = some true := by decide +kernel
theorem k_str_bool : kitB "str" "bool" = some false := by decide +kernel
theorem k_tuple_tuple : kitB "tuple" "tuple" = some true := by decide +kernel
theorem k_tuple_int : kitB "tuple" "int" = some false := by decide +kernel
theorem k_tuple_str : kitB "tuple" "str" = some false := by decide +kernel
theorem k_tuple_bool : kitB "tuple" "bool" = some false := by decide +kernel
theorem k_list_tuple : kitB "list" "tuple" = some false := by decide +kernel
theorem k_list_int : kitB "list" "int" = some false := by decide +kernel
theorem k_list_str : kitB "list" "str" = some false := by decide +kernel
theorem k_list_bool : kitB "list" "bool" = some false := by decide +kernel
theorem k_dict_tuple : kitB "dict" "tuple" = some false := by decide +kernel
theorem k_dict_int : kitB "dict" "int" = some false := by decide +kernel
theorem k_dict_str : kitB "dict" "str" = some false := by decide +kernel
theorem k_dict_bool : kitB "dict" "bool" = some false := by decide +kernel
theorem keysI_eq : ∀ {kvs : List (L2.Key × D)} {ns : List Int}, keysI kvs = some ns → kvs.map (·.1) = ns.map Sum.inl
  | [], _, e => by simp [keysI] at e; subst e; rfl
  | (.inl i, _) :: r, _, e => by
    simp only [keysI, Option.map_eq_some_iff] at e
    obtain ⟨ms, e1, rfl⟩ := e
    simp [keysI_eq e1]
  | (.inr _, _) :: _, _, e => by simp [keysI] at e
/-- a value's type -/
theorem ty_view {d : D} {v : V} (r : HRp K m H h) (q : Rp K m H v d) : ∃ t, TyX K H v (.type t) ∧ kitB t "tuple" = some (isTup d) ∧ kitB t "int" = some (isIn d) ∧ kitB t "str" = some (isSt d) ∧ kitB t "bool" = some (isBl d) := by
  cases q with
  | non => exact ⟨_, .base .non, k_NoneType_tuple, k_NoneType_int, k_NoneType_str, k_NoneType_bool⟩
  | bl b => exact ⟨_, .base (.bl b), k_bool_tuple, k_bool_int, k_bool_str, k_bool_bool⟩
  | int b => exact ⟨_, .base (.int b), k_int_tuple, k_int_int, k_int_str, k_int_bool⟩
  | str b => exact ⟨_, .base (.str b), k_str_tuple, k_str_int, k_str_str, k_str_bool⟩
  | tup q s t =>
    rcases q with ⟨o, q, _⟩ | ⟨o, its, n, q, c, _⟩
    · exact ⟨_, .fTuple q, k_tuple_tuple, k_tuple_int, k_tuple_str, k_tuple_bool⟩
    · exact ⟨_, .kTuple q c, k_tuple_tuple, k_tuple_int, k_tuple_str, k_tuple_bool⟩
  | lv q nm s t => exact ⟨_, .base (.lst q), k_list_tuple, k_list_int, k_list_str, k_list_bool⟩
  | fl q s t =>
    rcases q with ⟨o, q⟩ | ⟨o, its, n, q, c, _⟩
    · exact ⟨_, .base (.frz q), k_list_tuple, k_list_int, k_list_str, k_list_bool⟩
    · exact ⟨_, .kList q c, k_list_tuple, k_list_int, k_list_str, k_list_bool⟩
  | ref e =>
    rename_i a n
    have hl : n < h.length := by rw [← r.len]; exact (List.getElem?_eq_some_iff.mp e).1
    have := r.at_ n h[n] a (List.getElem?_eq_getElem hl) e
    generalize h[n] = o at this
    cases this with
    | lst q _ _ => exact ⟨_, .base (.lst q), k_list_tuple, k_list_int, k_list_str, k_list_bool⟩
    | dic q _ => exact ⟨_, .base (.dK q), k_dict_tuple, k_dict_int, k_dict_str, k_dict_bool⟩
    | frd q _ => exact ⟨_, .fDict q, k_dict_tuple, k_dict_int, k_dict_str, k_dict_bool⟩
end
section
variable {X : Cx}
/-- repr of what is read -/
theorem call_repr_D (hg : X.A.guards = some []) (hu : X.A.units + 65 < cLine) {pins : List (Addr × Obj)} {s : Shared} {σ : L2.St} {H : Hp} {v : V} {u : Value} {Q : VK} {p : PyData} (I : Inv X pins σ H s) (r : RelV v u) (q : Dp X.K H v p) (hs : p.showable = true) (hsh : SeqAt.shaped p = true) (hl : p.shown.length ≤ sizeLine)
    (fin : Q (.str p.shown) H) : wpAny (model X.prog X.w) X.A (call (.builtin "repr") [u]) (EP X pins σ Q) X.xe s := by
  obtain ⟨as, rd⟩ := Dp.reads I p v u q r
  have hd : p.hasDict = false := PyData.hasDict_of_canLay p (SeqAt.canLay_of_shaped hsh)
  have hdp := SeqAt.depth_of_shaped hsh
  cases q with
  | lst _ _ =>
    cases r
    exact repr_of_reads' rd hs (PyData.noDict_hsm hd) hg (by omega) (fun _ _ e => e) (fun h' t tk hk => ⟨.str _, H, I.kept hk, ⟨_, rfl⟩, fin⟩) hl
  | tup _ _ =>
    cases r
    exact repr_of_reads' rd hs (PyData.noDict_hsm hd) hg (by omega) (fun _ _ e => e) (fun h' t tk hk => ⟨.str _, H, I.kept hk, ⟨_, rfl⟩, fin⟩) hl
  | int i =>
    have hs' : i.natAbs.log2 < 1920 := by simpa [PyData.showable] using hs
    obtain ⟨t, rfl⟩ := r
    exact PySem.P.repr_of_int hs' ⟨.str _, H, I.tok _, ⟨_, rfl⟩, fin⟩
  | str x =>
    obtain ⟨t, rfl⟩ := r
    exact PySem.P.repr_of_str ⟨.str _, H, I.tok _, ⟨_, rfl⟩, fin⟩ hl
  | bl b =>
    cases r
    exact PySem.P.repr_of_bool ⟨.str _, H, I.tok _, ⟨_, rfl⟩, fin⟩
  | non =>
    cases r
    exact PySem.P.repr_of_none ⟨.str _, H, I.tok _, ⟨_, rfl⟩, fin⟩
theorem call_bi (hc : X.calm = true) (hg : X.A.guards = some []) (hu : X.A.units + 65 < cLine) : ∀ f : Bi, match f with
    | .len => CallR X (.builtin "len") (rBi X.K .len)
    | .abs => CallR X (.builtin "abs") (rBi X.K .abs)
    | .int => CallR X (.type "int") (rBi X.K .int)
    | .str => CallR X (.type "str") (rBi X.K .str)
    | .repr => CallR X (.builtin "repr") (rBi X.K .repr)
    | .tuple => CallR X (.type "tuple") (rBi X.K .tuple)
    | .list => CallR X (.type "list") (rBi X.K .list)
    | .sum => CallR X (.builtin "sum") (rBi X.K .sum)
    | .all => CallR X (.builtin "all") (rBi X.K .all)
    | .sorted => CallR X (.builtin "sorted") (rBi X.K .sorted)
    | .max => CallR X (.builtin "max") (rBi X.K .max)
    | .min => CallR X (.builtin "min") (rBi X.K .min)
    | _ => True := by
  intro f
  have one : ∀ {h : Hm} {f : Bi} {ds : List D} {z : D}, f ≠ .lrange → biD h f ds = some z → (∃ d, ds = [d] ∧ bi1 h f d = some z) ∨ ∃ i j, ds = [.int i, .int j] ∧ ((f = .min ∧ z = .int (if j < i then j else i)) ∨ (f = .max ∧ z = .int (if j > i then j else i))) := by
    intro h f ds z nl e
    unfold biD at e
    split at e
    · exact .inl ⟨_, rfl, e⟩
    · refine .inr ⟨_, _, rfl, ?_⟩
      split at e
      · cases e; exact .inl ⟨rfl, rfl⟩
      · cases e; exact .inr ⟨rfl, rfl⟩
      · exact absurd rfl nl
      · cases e
    · cases e
  have lst1 : ∀ {h : Hm} {H : Hp} {m : List Addr} {d : D} {v : V} {ds : List D}, HRp X.K m H h → Rp X.K m H v d → seqOf h d = some ds → ∃ a xs, v = .ref a ∧ (SqL X.K H a xs ∨ SqT X.K H a xs) ∧ D.stL ds = true ∧ RpL X.K m H xs ds := fun r q e => seqOf_view (Z := ⟨X.K, fun _ => none⟩) r q e
  cases f with
  | len =>
    intro pins s σ H vs us Q I r ⟨m, h, ds, z, hr, qv, hz, fin⟩
    rcases one (by simp) hz with ⟨d, rfl, e⟩ | ⟨i, j, rfl, ⟨e, _⟩ | ⟨e, _⟩⟩
    · obtain ⟨v, rfl, qd⟩ := rp_one qv
      simp only [bi1, Option.map_eq_some_iff] at e
      obtain ⟨n, e, rfl⟩ := e
      have fin' := fin.same hr (.int _) rfl
      unfold lenD at e
      split at e
      · split at e
        · cases e
          cases qd
          exact call_len pins s σ H _ us Q I r ⟨_, _, rfl, ⟨by assumption, rfl⟩, fin'⟩
        · cases e
      · rw [Option.map_eq_some_iff] at e
        obtain ⟨ds, e, rfl⟩ := e
        obtain ⟨a, xs, rfl, sq, _, t⟩ := lst1 hr qd e
        exact call_len_seq pins s σ H _ us Q I r ⟨a, xs, rfl, sq, by rw [t.length]; exact fin'⟩
    · cases e
    · cases e
  | abs =>
    intro pins s σ H vs us Q I r ⟨m, h, ds, z, hr, qv, hz, fin⟩
    rcases one (by simp) hz with ⟨d, rfl, e⟩ | ⟨i, j, rfl, ⟨e, _⟩ | ⟨e, _⟩⟩
    · obtain ⟨v, rfl, qd⟩ := rp_one qv
      cases qd <;> simp [bi1] at e
      subst e
      exact call_abs pins s σ H _ us Q I r ⟨_, rfl, fin.same hr (.int _) rfl⟩
    · cases e
    · cases e
  | int =>
    intro pins s σ H vs us Q I r ⟨m, h, ds, z, hr, qv, hz, fin⟩
    rcases one (by simp) hz with ⟨d, rfl, e⟩ | ⟨i, j, rfl, ⟨e, _⟩ | ⟨e, _⟩⟩
    · obtain ⟨v, rfl, qd⟩ := rp_one qv
      cases qd with
      | int i =>
        simp only [bi1, Option.some.injEq] at e
        subst e
        exact call_int1 pins s σ H _ us Q I r (.inl ⟨_, rfl, fin.same hr (.int _) rfl⟩)
      | bl b =>
        simp only [bi1, Option.some.injEq] at e
        subst e
        exact call_int1 pins s σ H _ us Q I r (.inr ⟨_, rfl, fin.same hr (.int _) rfl⟩)
      | _ => simp [bi1] at e
    · cases e
    · cases e
  | str =>
    intro pins s σ H vs us Q I r ⟨m, h, ds, z, hr, qv, hz, fin⟩
    rcases one (by simp) hz with ⟨d, rfl, e⟩ | ⟨i, j, rfl, ⟨e, _⟩ | ⟨e, _⟩⟩
    · obtain ⟨v, rfl, qd⟩ := rp_one qv
      cases qd with
      | int i =>
        simp only [bi1] at e
        split at e
        · cases e
          exact call_str_int pins s σ H _ us Q I r ⟨_, rfl, by assumption, fin.same hr (.str _) rfl⟩
        · cases e
      | _ => simp [bi1] at e
    · cases e
    · cases e
  | repr =>
    intro pins s σ H vs us Q I r ⟨m, h, ds, z, hr, qv, hz, fin⟩
    rcases one (by simp) hz with ⟨d, rfl, e⟩ | ⟨i, j, rfl, ⟨e, _⟩ | ⟨e, _⟩⟩
    · obtain ⟨v, rfl, qd⟩ := rp_one qv
      obtain ⟨u, rfl, ru⟩ := vals1 r
      simp only [bi1, reprOf, shp_eq] at e
      split at e
      · rename_i p ep
        split at e
        · rename_i hc
          cases e
          exact call_repr_D hg hu I ru (pyOf_dp hr _ qd ep) hc.1 hc.2.1 hc.2.2 (fin.same hr (.str _) rfl)
        · cases e
      · cases e
    · cases e
    · cases e
  | tuple =>
    intro pins s σ H vs us Q I r ⟨m, h, ds, z, hr, qv, hz, fin⟩
    rcases one (by simp) hz with ⟨d, rfl, e⟩ | ⟨i, j, rfl, ⟨e, _⟩ | ⟨e, _⟩⟩
    · obtain ⟨v, rfl, qd⟩ := rp_one qv
      simp only [bi1, Option.map_eq_some_iff] at e
      obtain ⟨ds, e, rfl⟩ := e
      obtain ⟨a, xs, rfl, sq, sd, t⟩ := seqOf_viewN (Z := ⟨X.K, fun _ => none⟩) hr qd e
      refine call_tupleN pins s σ H _ us Q I r ⟨a, xs, rfl, ?_⟩
      rcases sq with sq | sq
      · exact .inl ⟨sq, fun l o no hl => fin.tup hr sd t hl no⟩
      · exact .inr ⟨sq.sq, fin.same hr (.tup sq sd t) sd⟩
    · cases e
    · cases e
  | list =>
    intro pins s σ H vs us Q I r ⟨m, h, ds, z, hr, qv, hz, fin⟩
    rcases one (by simp) hz with ⟨d, rfl, e⟩ | ⟨i, j, rfl, ⟨e, _⟩ | ⟨e, _⟩⟩
    · obtain ⟨v, rfl, qd⟩ := rp_one qv
      simp only [bi1, Option.map_eq_some_iff] at e
      obtain ⟨ds, e, rfl⟩ := e
      obtain ⟨a, xs, rfl, sq, sd, t⟩ := lst1 hr qd e
      exact call_list_of pins s σ H _ us Q I r ⟨a, xs, rfl, sq, fun l hl => fin.lst hr sd t hl⟩
    · cases e
    · cases e
  | sum =>
    intro pins s σ H vs us Q I r ⟨m, h, ds, z, hr, qv, hz, fin⟩
    rcases one (by simp) hz with ⟨d, rfl, e⟩ | ⟨i, j, rfl, ⟨e, _⟩ | ⟨e, _⟩⟩
    · obtain ⟨v, rfl, qd⟩ := rp_one qv
      simp only [bi1, sumD] at e
      split at e
      · rename_i l el
        rw [Option.map_eq_some_iff] at e
        obtain ⟨ns, e, rfl⟩ := e
        obtain ⟨a, rfl, sq⟩ := ints_view hr qd el e
        exact cr_sum hc pins s σ H _ us Q I r ⟨a, ns, rfl, sq, fin.same hr (.int _) rfl⟩
      · cases e
    · cases e
    · cases e
  | all =>
    intro pins s σ H vs us Q I r ⟨m, h, ds, z, hr, qv, hz, fin⟩
    rcases one (by simp) hz with ⟨d, rfl, e⟩ | ⟨i, j, rfl, ⟨e, _⟩ | ⟨e, _⟩⟩
    · obtain ⟨v, rfl, qd⟩ := rp_one qv
      simp only [bi1] at e
      split at e
      · rename_i l el
        rw [Option.map_eq_some_iff] at e
        obtain ⟨bs, e, rfl⟩ := e
        obtain ⟨a, xs, rfl, sq, _, t⟩ := lstOf_view (Z := ⟨X.K, fun _ => none⟩) hr qd el
        rw [blsOf_eq e] at t
        obtain rfl := rpL_bls t
        exact cr_all hc pins s σ H _ us Q I r ⟨a, bs, rfl, sq, fin.same hr (.bl _) rfl⟩
      · cases e
    · cases e
    · cases e
  | sorted =>
    intro pins s σ H vs us Q I r ⟨m, h, ds, z, hr, qv, hz, fin⟩
    rcases one (by simp) hz with ⟨d, rfl, e⟩ | ⟨i, j, rfl, ⟨e, _⟩ | ⟨e, _⟩⟩
    · obtain ⟨v, rfl, qd⟩ := rp_one qv
      simp only [bi1] at e
      split at e
      · rename_i l el
        rw [Option.map_eq_some_iff] at e
        obtain ⟨ns, e, rfl⟩ := e
        obtain ⟨a, xs, rfl, sq, sd, t⟩ := lst1 hr qd el
        obtain rfl := intsOf_eq e
        obtain rfl := rpL_ints t
        rcases sq with sq | sq
        · refine cr_sortedI pins s σ H _ us Q I r ⟨a, ns, rfl, sq, fun ns' p hp1 hp2 hp => ?_⟩
          have e3 : ns' = sortI ns := sorted_unique (hp1.trans (sortI_perm ns).symm) hp2 (sortI_sorted ns)
          rw [e3]
          exact fin.lst hr (stL_ofInts _) (rpL_ofInts _) hp
        · refine cr_sortedT pins s σ H _ us Q I r ⟨a, ns, rfl, sq, fun ns' p hp1 hp2 hp => ?_⟩
          have e3 : ns' = sortI ns := sorted_unique (hp1.trans (sortI_perm ns).symm) hp2 (sortI_sorted ns)
          rw [e3]
          exact fin.lst hr (stL_ofInts _) (rpL_ofInts _) hp
      · split at e
        · rename_i kds ed
          split at e
          · rename_i ns ek
            split at e
            · rename_i hz2
              cases e
              obtain ⟨n, rfl⟩ : ∃ n, d = .ref n := by cases d <;> simp [dicOf] at ed; exact ⟨_, rfl⟩
              cases qd with
              | ref qa =>
                obtain ⟨kvs, rd, t⟩ := dic_view hr qa ed
                refine cr_sortedDU hc pins s σ H _ us Q I r ⟨_, kvs, ns, rfl, rd, by rw [t.1, keysI_eq ek], hz2, fun ns' p hp1 hp2 hp => ?_⟩
                have e3 : ns' = sortI ns := sorted_unique (hp1.trans (sortI_perm ns).symm) hp2 (sortI_sorted ns)
                rw [e3]
                exact fin.lst hr (stL_ofInts _) (rpL_ofInts _) hp
            · cases e
          · cases e
        · cases e
    · cases e
    · cases e
  | max =>
    intro pins s σ H vs us Q I r ⟨m, h, ds, z, hr, qv, hz, fin⟩
    rcases one (by simp) hz with ⟨d, rfl, e⟩ | ⟨i, j, rfl, ⟨e, _⟩ | ⟨_, rfl⟩⟩
    · obtain ⟨v, rfl, qd⟩ := rp_one qv
      simp only [bi1] at e
      split at e
      · rename_i l el
        split at e
        · rename_i n ns ei
          cases e
          obtain ⟨a, rfl, sq⟩ := ints_view hr qd el ei
          refine cr_max hc pins s σ H _ us Q I r ⟨a, _, rfl, sq, by simp, fun k h1 h2 => ?_⟩
          have sp := maxI_spec ns n
          have ek : k = maxI n ns := Int.le_antisymm (sp.2 k h1) (h2 _ sp.1)
          rw [ek]
          exact fin.same hr (.int _) rfl
        · cases e
      · cases e
    · cases e
    · cases qv with
      | cons a t =>
        cases t with
        | cons b t =>
          cases t
          cases a
          cases b
          exact call_max2 hc pins s σ H _ us Q I r ⟨_, _, rfl, fin.same hr (.int _) rfl⟩
  | min =>
    intro pins s σ H vs us Q I r ⟨m, h, ds, z, hr, qv, hz, fin⟩
    rcases one (by simp) hz with ⟨d, rfl, e⟩ | ⟨i, j, rfl, ⟨_, rfl⟩ | ⟨e, _⟩⟩
    · obtain ⟨v, rfl, qd⟩ := rp_one qv
      simp only [bi1] at e
      split at e
      · rename_i l el
        split at e
        · rename_i n ns ei
          cases e
          obtain ⟨a, rfl, sq⟩ := ints_view hr qd el ei
          refine cr_min hc pins s σ H _ us Q I r ⟨a, _, rfl, sq, by simp, fun k h1 h2 => ?_⟩
          have sp := minI_spec ns n
          have ek : k = minI n ns := Int.le_antisymm (h2 _ sp.1) (sp.2 k h1)
          rw [ek]
          exact fin.same hr (.int _) rfl
        · cases e
      · cases e
    · cases qv with
      | cons a t =>
        cases t with
        | cons b t =>
          cases t
          cases a
          cases b
          exact call_min2 hc pins s σ H _ us Q I r ⟨_, _, rfl, fin.same hr (.int _) rfl⟩
    · cases e
  | _ => trivial
end
end Mi

set_option Elab.async false
set_option linter.all false
set_option maxRecDepth 100000
/-! Mini: what a def promises, where nothing is being shown. -/
namespace Mi
open PySem PySem.Spec PyProof.Rows L2
/-- a def's promise in rooms where no repr is under way -/
structure FnG (P : Program) (w : World) (K : PySem.W.Frag) (mg : Str → Option Value) (base : Heap) (k : Nat) (f : Addr) (fd : FuncData) (ps : List Str) (sp : Sp) : Prop where
  len : ∀ vs H Q E, sp vs H Q E → vs.length = ps.length
  run : ∀ (A : Around) (outer : List PySem.Env) (s : Shared) (H : Hp) (args : Args) (us : List Value) (vs : List V) (Q : VK) (E : XK), Room k A → A.guards = some [] → Env0 P w K mg base A outer s H → BindsTo s fd args (ps.zip us) → Vals vs us → sp vs H Q E →
    codeAny (model P w) A (.call (.ref f) args) (CR (L2.CX P w) outer P w H s Q E) s
/-- the callee runs; its errors are wished for at the caller's slots -/
theorem run_fnG {X : Cx} {W : WX} {k : Nat} {f : Addr} {fd : FuncData} {ps : List Str} {sp : Sp} {pins : List (Addr × Obj)} {σ : L2.St} {H : Hp} {s : Shared} {Q : VK} {us ws : List Value} {kw : List (Str × Value)} {vs : List V}
    (F : FnG X.prog X.w X.K X.mg X.base k f fd ps sp) (hr : Room k X.A) (hg : X.A.guards = some []) (tk : Takes X W) (hb : BindsTo s fd ⟨ws, kw⟩ (ps.zip us))
    (I : Inv X pins σ H s) (r : Vals vs us) (h : sp vs H Q (fun cls d H' => W cls d σ H')) : wpAny (model X.prog X.w) X.A (call (.ref f) ws kw) (EP X pins σ Q) X.xe s := by
  refine wpAny_call (codeAny_mono (F.run X.A X.stack s H ⟨ws, kw⟩ us vs Q (fun cls d H' => W cls d σ H') hr hg I.env0 hb r h) fun r s' hq => ?_)
  cases r with
  | error e => exact passAt tk σ pins H s e s' I hq
  | ok fl =>
    cases fl with
    | ret u => exact I.after hq
    | next => exact False.elim hq
    | brk => exact False.elim hq
    | cont => exact False.elim hq
section
variable {P : Program} {w : World} {K : PySem.W.Frag} {mg : Str → Option Value} {base : Heap}
/-- THE RULE for a def -/
theorem Fun.okG {x qual : Str} {st : Stmt} {f : Addr} {fd : FuncData} {N ps : List Str} {k : Nat} {sp : Sp} (F : Fun K x qual st f fd) (S : FnScope N ps (defScope st)) (len : ∀ vs H Q E, sp vs H Q E → vs.length = ps.length)
    (hbody : ∀ (cdv : Value) (A : Around) (outer : List PySem.Env) (s : Shared) (H : Hp) (vs : List V) (Q : VK) (E : XK), Room k (A.deeper (envOfC qual (defScope st) s.heap.objs.size f cdv)) → A.guards = some [] → sp vs H Q E →
      ∃ t, PSs (cxOf (L2.CX P w) P w K mg base N qual (defScope st) f cdv A outer s H E) (defBody st) t ∧ t { nx := fun _ H' => Q .non H', rt := Q } (start N vs) H) : FnG P w K mg base (k + 1) f fd ps sp := by
  obtain ⟨oc, od, kV, doc, pm, an, cdv, ct, osl, rfl, lk, hcd⟩ := F.ex
  refine ⟨len, fun A outer s H args us vs Q E hr hg e0 hb r hsp => ?_⟩
  have hl := len _ _ _ _ hsp
  have KX : K.In s.heap := e0.mod.kin.keeps fun b o e => (e0.bs b o e).1
  have lim : s.heap.NoLimit := e0.mod.nolimit.keeps fun b o e => (e0.bs b o e).1
  have hkind : ∀ y ∈ ps.zip us, (defScope st).names.lookup y.1 = some .local ∨ ((defScope st).names.lookup y.1 = some .cell ∧ ((cellsFrom (s.heap.objs.size + 1) (defScope st).names []).lookup y.1).isSome = true) := fun ⟨n, v⟩ hy => by
    rcases S.par n (List.of_mem_zip hy).1 with q | q
    · exact .inl q
    · exact .inr ⟨q, PySem.W.cellsFrom_some _ _ _ (.inl q)⟩
  refine codeAny_call_function hr.depth (KX _ _ lk) rfl S.co S.gen rfl (PySem.W.codeRec_of KX hcd) (hb _ _ _ _ ?_)
  refine wpAny_newFunctionEnv_cells S.kind hkind fun env he s1 x => ?_
  subst he
  refine ⟨lim.keeps x.toInCall.keep, codeAny_func ?_⟩
  obtain ⟨t, ht, hq⟩ := hbody cdv A outer s H vs Q E (hr.deeper _) hg hsp
  have I := inv_start (CX := L2.CX P w) (E := E) S hr.hd e0 hl r x
  refine wpAny_mono (ht.run [] s1 (start N vs) H _ I hq) (fun fl s' hs => ?_) fun e s' hs => hs
  have fin : ∀ {σ' : L2.St} {H' : Hp} {v : V} {u : Value}, Inv (cxOf (L2.CX P w) P w K mg base N qual (defScope st) f cdv A outer s H E) [] σ' H' s' → RelV v u → Q v H' → CE outer P w H s Q u s' :=
    fun {σ' H' v u} J rv q => ⟨v, H', J.os, J.bare, J.base, J.hok, rv, q⟩
  cases fl with
  | ret u =>
    obtain ⟨v, σ', H', J, rv, q⟩ := hs
    exact fin J rv q
  | next =>
    obtain ⟨σ', H', J, q⟩ := hs
    exact fin (v := V.non) (u := Value.none) J rfl q
  | brk =>
    obtain ⟨_, _, _, q⟩ := hs
    exact False.elim q
  | cont =>
    obtain ⟨_, _, _, q⟩ := hs
    exact False.elim q
end

/-! ### the law's own call -/
/-- nothing is tracked but the script -/
theorem law_callG {P : Program} {w : World} {K : PySem.W.Frag} {mg mb : Str → Option Value} {k : Nat} {fa a : Addr} {fd : FuncData} {x : Str} {sp : Sp} {s₁ : Shared} {vs : List Value} {ns : List Int}
    (KX : K.In s₁.heap) (hns : s₁.heap.Ns mainGlobals mg) (hb : s₁.heap.Ns builtinsNs mb) (hbb : ∀ x : Str, x ≠ "__name__" → mb x = bootBuiltins x) (hlim : s₁.heap.NoLimit) (hg : s₁.gens = #[])
    (ha : s₁.heap.get? a = some { cls := .type "list", data := .seq vs.toArray }) (hi : IntsAre vs ns) (hl : ns.length ≤ sizeLine) (hr : Room k callerA)
    (F : ∀ base : Heap, K.In base → base.Ns mainGlobals mg → FnG P w K mg base k fa fd [x] sp) (hbind : ∀ (s : Shared) (u : Value), BindsTo s fd ⟨[u], []⟩ [(x, u)])
    (hsp : ∀ H : Hp, SqF K H a (ns.map V.int) → sp [.ref a] H (fun v _ => v = .bl true) fun _ _ _ => False) :
    codeAny (model P w) callerA (.call (.ref fa) ⟨[.ref a], []⟩) (fun r s' => r = .ok (.ret (.bool true)) ∧ OldK s₁.heap s'.heap ∧ s'.os = s₁.os ∧ AllBare s'.gens) s₁ := by
  have rv := vals_ints hi
  have lenV := hi.length
  have core : ∀ H : Hp, Only H → SqF K H a (ns.map V.int) → HOk P w H s₁.heap → (∀ b, H b ≠ none → b = a) → (H a ≠ none → K.lookup a = none) →
      codeAny (model P w) callerA (.call (.ref fa) ⟨[.ref a], []⟩) (fun r s' => r = .ok (.ret (.bool true)) ∧ OldK s₁.heap s'.heap ∧ s'.os = s₁.os ∧ AllBare s'.gens) s₁ := by
    intro H hO hS hok hA hK
    have base_of : ∀ {b : Addr} {o : Obj}, s₁.heap.get? b = some o → H b = none → (hidT s₁.heap H).get? b = some o := fun e n => hidT_get e n
    have noA : ∀ {b : Addr} {o : Obj} {es : Array DictEntry} {ep : Nat}, s₁.heap.get? b = some o → o.data = .dict es ep → H b = none := fun {b o es ep} e d => by
      cases q : H b with
      | none => rfl
      | some u =>
        have e' : b = a := hA b (by rw [q]; simp)
        subst e'
        rw [ha] at e; cases e
        have d' : Data.seq vs.toArray _ = Data.dict es ep := d
        cases d'
    have nsK : ∀ {b : Addr} {m : Str → Option Value}, s₁.heap.Ns b m → (hidT s₁.heap H).Ns b m := fun {b m} ⟨o, es, ep, e, d, r⟩ => ⟨o, es, ep, base_of e (noA e d), d, r⟩
    have hKb : K.In (hidT s₁.heap H) := fun b o e => base_of (KX b o e) (by
      cases q : H b with
      | none => rfl
      | some u =>
        have e' : b = a := hA b (by rw [q]; simp)
        subst e'
        rw [hK (by rw [q]; simp)] at e; cases e)
    have hM : Mod K mg (hidT s₁.heap H) := ⟨hKb, nsK hns, ⟨mb, nsK hb, hbb⟩, let ⟨mc, h1, h2⟩ := hlim; ⟨mc, nsK h1, h2⟩⟩
    have e0 : Env0 P w K mg (hidT s₁.heap H) callerA [] s₁ H := ⟨rfl, hM, fun b o e => of_hidT e, Nat.le_of_eq (hidT_size _ _), trivial, fun b hb => absurd (show b ∈ ([] : List Addr) from hb) (by simp), hok, .of_eq hg⟩
    refine codeAny_mono ((F _ hKb (nsK hns)).run callerA [] s₁ H ⟨[.ref a], []⟩ [.ref a] [.ref a] _ _ hr rfl e0 (hbind s₁ (.ref a)) (.cons rfl .nil) (hsp H hS)) fun r s' h => ?_
    cases r with
    | error e =>
      obtain ⟨_, _, _, _, _, _, _, _, _, _, _, _, z⟩ := h
      exact z.elim
    | ok fl =>
      cases fl with
      | next => exact False.elim h
      | brk => exact False.elim h
      | cont => exact False.elim h
      | ret u =>
        obtain ⟨v, H', os, bare, un, hok', r', q⟩ := h
        have q' : v = .bl true := q
        subst q'
        obtain rfl : u = Value.bool true := r'
        refine ⟨rfl, OldK.of_keep fun b o e => ?_, os, bare⟩
        cases q : H b with
        | none => exact un.keep b o e q (by intro z; exact absurd (show b ∈ ([] : List Addr) from z) (by simp)) (by simp)
        | some u =>
          rcases hO b with z | ⟨ob, xs, z⟩
          · rw [q] at z; cases z
          · have z2 := un.frzs b ob _ z
            obtain ⟨e1, _⟩ := hok b _ z
            obtain ⟨e2, _⟩ := hok' b _ z2
            rw [e] at e1; cases e1
            exact e2
  cases hk : K.lookup a with
  | some o =>
    have e := KX a o hk
    rw [ha] at e
    cases e
    refine core (fun _ => none) (fun _ => .inl rfl) (.inr ⟨_, vs.toArray, _, hk, rfl, rfl, rfl, by rw [List.size_toArray, lenV]; exact hl, by simpa using rv⟩) (fun b u z => by have z' : (none : Option HO) = some u := z; cases z') (fun b z => absurd rfl z) fun z => absurd rfl z
  | none =>
    refine core (fun b => if b = a then some (.frz { cls := .type "list", data := .seq vs.toArray } (.lst (ns.map V.int))) else none) (fun b => ?_) (.inl ⟨{ cls := .type "list", data := .seq vs.toArray }, if_pos rfl⟩) (fun b u z => ?_) (fun b z => ?_) fun _ => hk
    · by_cases hb : b = a
      · exact .inr ⟨_, _, if_pos hb⟩
      · exact .inl (if_neg hb)
    · by_cases hb : b = a
      · have z' := (if_pos hb).symm.trans z
        cases z'
        subst hb
        exact ⟨ha, by rw [List.length_map]; exact hl, vs, _, rv, ha⟩
      · have z' := (if_neg hb).symm.trans z
        cases z'
    · by_cases hb : b = a
      · exact hb
      · exact absurd (if_neg hb) z
/-- the end of a law's row -/
theorem walk_ofG {l : PySem.W.OpenLaw} {n k : Nat} {q : Program} {loose : List Str} {XP : (Str → Option Value) → Heap → Prop} {YP : World → Heap → Prop} {d : DefRec} {K : Params → PySem.W.Frag} {sp : World → Sp} {x : Str}
    (hn : l.most = some n) (hn2 : n ≤ sizeLine) (hdf : d.params.defaults = []) (hr : Room k callerA)
    (hY : ∀ (w : World) (h : Heap), YP w h → (K w.params).In h)
    (F : ∀ (w : World) (mg : Str → Option Value) (fa : Addr) (h : Heap), (K w.params).In h → h.Ns mainGlobals mg → mg d.name = some (.ref fa) →
      ∃ fd : FuncData, (∀ (s : Shared) (u : Value), BindsTo s fd ⟨[u], []⟩ [(x, u)]) ∧
        ∀ base : Heap, (K w.params).In base → base.Ns mainGlobals mg → FnG l.prog w (K w.params) mg base k fa fd [x] (sp w))
    (hsp : ∀ (w : World) (H : Hp) (a : Addr) (ns : List Int), ns.length ≤ n → SqF (K w.params) H a (ns.map V.int) → sp w [.ref a] H (fun v _ => v = .bl true) fun _ _ _ => False) :
    PySem.W.WalkO q loose XP YP l.row.toRowW d [] (fun f vs => PySem.call f vs) := by
  refine Att.attach_call hn hdf fun w s₀ s₁ mg mb fa o pm cd doc a vs ns G Y ho hd hcd hmg hobj hints hlen hg => ?_
  have KX := hY w _ Y
  obtain ⟨fd, hb, hF⟩ := F w mg fa _ KX G.T.g hmg
  exact law_callG KX G.T.g G.T.b G.T.builtins G.T.nolimit hg hobj hints (Nat.le_trans hlen hn2) hr hF hb fun H hS => hsp w H a ns hlen hS
end Mi

set_option Elab.async false
set_option linter.all false
set_option maxRecDepth 100000
/-! Mini: argument lists; methods of built-in types. -/
namespace Mi
open PySem PySem.Spec PyProof.Rows L2
def noStar : Expr → Bool
  | .Starred _ _ => false
  | _ => true
theorem starEach_cons {e : Expr} {es : List Expr} {env : PySem.Env} (h : noStar e = true) : starEach (e :: es) env = (false, eval e env) :: starEach es env := by
  cases e <;> first | rfl | simp [noStar] at h
theorem starEach_map : ∀ {es : List Expr} {env : PySem.Env}, es.all noStar = true → starEach es env = es.map fun e => (false, eval e env)
  | [], _, _ => rfl
  | e :: es, env, h => by
    simp only [List.all_cons, Bool.and_eq_true] at h
    rw [starEach_cons h.1, starEach_map h.2]; rfl
theorem backTo_plain {pos : Pos} {es : List Expr} {env : PySem.Env} (h : es.all noStar = true) : (backTo pos (starEach es env)).any (·.1) = false := by
  rw [starEach_map h]
  unfold backTo
  simp
theorem fewArgs {pos : Pos} {es : List Expr} {env : PySem.Env} (h : es.all noStar = true) (hl : es.length < 29) : ((backTo pos (starEach es env)).all (fun x => !x.1) && (backToKw pos (keywordEach [] env)).all (fun x => x.1.isSome)
      && decide (es.length + ([] : List Keyword).length + (if ([] : List Keyword).isEmpty then 0 else 1) < 30)) = true := by
  rw [starEach_map h]
  unfold backTo backToKw
  simp [keywordEach]
  omega
def notSuper : Expr → Bool
  | .Call (.Name id _) [] [] _ => id != "super"
  | _ => true
theorem base_plain {o : Expr} {f : Str} {env : PySem.Env} {whole : Sem Value} (h : notSuper o = true) : attributeBase o f env whole = whole := by
  unfold attributeBase
  split
  · rename_i id p pos
    simp only [notSuper] at h
    rw [h]
    rfl
  · rfl
theorem evalArgs_sp {M : Model} {A : Around} {E : Value → Shared → Prop} {s : Shared} {f : Value} {Q : Args → Shared → Prop}
    (h : wpAny M A (spliced []) (fun vs s' => Q ⟨vs, []⟩ s') E s) : wpAny M A (evalArgs f true [] []) Q E s := by
  unfold evalArgs
  show wpAny M A (spliced [] >>= _) Q E s
  refine wpAny_bind (wpAny_mono h (fun vs s' h' => ?_) fun _ _ x => x)
  refine wpAny_holding ?_
  exact wpAny_bind (wpAny_pure (wpAny_bind (wpAny_pure (wpAny_pure h'))))
section
variable {X : Cx}
/-- a method of a builtin type, the type looked up when the receiver stands -/
theorem pe_late {o : Expr} {es : List Expr} {to : TE} {ta : TA} {name : Str} {apos cpos : Pos} {R : V → List V → Hp → VK → Prop} {R0 : V → Hp → Prop} (ho : PE X o to) (ha : PA X es ta) (hst : es.all noStar = true) (hl : es.length < 29) (hs : notSuper o = true) (hline : (apos.endLine == cpos.line) = true)
    (hr : ∀ (pins : List (Addr × Obj)) (s : Shared) (σ : L2.St) (H : Hp) (x : V) (v : Value), Inv X pins σ H s → RelV x v → R0 x H →
      ∃ T id, PlainAttrs T ∧ Slot T name id ∧ typeOf (.builtin id) = pure (.type "method_descriptor") ∧ s.TypeIs v T ∧ (∀ a, v = .ref a → ∃ ob, s.heap.get? a = some ob ∧ ob.dict = none) ∧ MtR X id R) :
    PE X (.Call (.Attribute o name apos) es [] cpos) (fun σ H Q => to σ H fun x H1 => R0 x H1 ∧ ta σ H1 fun xs H2 => R x xs H2 Q) := by
  refine ⟨fun pins s σ H Q I h => ?_⟩
  refine wpAny_Call_method_late (base_plain hs) (fewArgs hst hl) hline rfl (thn (ho.run pins s σ H _ I h) fun v s1 ⟨x, H1, I1, r1, r0, q1⟩ => ?_)
  obtain ⟨T, id, pa, slot, hty, h1, h2, hm⟩ := hr pins s1 σ H1 x v I1 r1 r0
  refine ⟨T, id, pa, slot, hty, h1, h2, ?_⟩
  have hA := ha.run cpos pins s1 σ H1 _ I1 q1
  cases es with
  | nil =>
    refine Calls.callWith_builtin rfl (evalArgs_sp ?_)
    exact thn hA fun us s2 ⟨vs, H2, I2, r2, q2⟩ => hm pins s2 σ H2 x vs v us Q I2 r1 r2 q2
  | cons e es =>
    have e1 : starEach (e :: es) X.env = (false, eval e X.env) :: starEach es X.env := starEach_cons (by simp at hst; exact hst.1)
    rw [e1] at hA ⊢
    refine Calls.callWith_builtin (by show (false || (backTo cpos (starEach es X.env)).any (·.1)) = false; rw [backTo_plain (by simp at hst; simpa using hst.2)] <;> rfl) (Calls.evalArgs_plain ?_)
    exact thn hA fun us s2 ⟨vs, H2, I2, r2, q2⟩ => hm pins s2 σ H2 x vs v us Q I2 r1 r2 q2
end
/-- a numbered list -/
def isLm (h : Hm) (d : D) : Bool := match d with
  | .ref n => match h[n]? with
    | some (.lst _) => true
    | _ => false
  | _ => false
theorem isLm_iff {h : Hm} {d : D} (q : isLm h d = true) : ∃ n es, d = .ref n ∧ h[n]? = some (.lst es) := by
  unfold isLm at q
  split at q
  · split at q
    · rename_i e; exact ⟨_, _, rfl, e⟩
    · cases q
  · cases q
/-- methods of lists alone, that write -/
@[simp] def Me.onL : Me → Bool
  | .append => true
  | .extend => true
  | .pop => true
  | .insert => true
  | _ => false
theorem meD_lm {h : Hm} {f : Me} {d : D} {ds : List D} (nf : f.onL = true) : meD h f d ds = .bad ∨ ∃ n es, d = .ref n ∧ h[n]? = some (.lst es) ∧ meD h f d ds = meL h n es f ds := by
  cases f <;> first
    | exact absurd nf (by decide)
    | (cases d <;> first
        | exact .inl rfl
        | (rename_i n
           cases e : h[n]? with
           | none => left; simp only [meD, e]
           | some o => cases o <;> first
              | (left; simp only [meD, e]; done)
              | (right; exact ⟨n, _, rfl, e, by simp only [meD, e]⟩)))
def meName : Me → Option Str
  | .append => some "append"
  | .extend => some "extend"
  | .pop => some "pop"
  | .insert => some "insert"
  | .get => some "get"
  | .count => some "count"
  | .index => some "index"
  | .tindex => some "index"
  | .sindex => some "index"
  | .join => some "join"
  | .split => some "split"
  | _ => none
/-- what is wanted of a method's answer -/
def FinM (K : PySem.W.Frag) (m : List Addr) (H : Hp) (r : R D) (Q : VK) : Prop := match r with
  | .ok z h => Fin1 K m H h z Q
  | _ => False
def rMe (K : PySem.W.Frag) (f : Me) : V → List V → Hp → VK → Prop := fun x vs H Q => ∃ m h d ds, HRp K m H h ∧ Rp K m H x d ∧ RpL K m H vs ds ∧ (f.owns = true → D.stL ds = true) ∧ FinM K m H (meD h f d ds) Q
section
variable {K : PySem.W.Frag} {m : List Addr} {H : Hp} {h : Hm}
theorem RpL.dropLast : ∀ {xs : List V} {ds : List D}, RpL K m H xs ds → RpL K m H xs.dropLast ds.dropLast
  | _, _, .nil => .nil
  | _, _, .cons a .nil => .nil
  | _, _, .cons a (.cons b t) => .cons a (RpL.dropLast (.cons b t))
theorem RpL.eraseIdx : ∀ {xs : List V} {ds : List D} (i : Nat), RpL K m H xs ds → RpL K m H (xs.eraseIdx i) (ds.eraseIdx i)
  | _, _, _, .nil => .nil
  | _, _, 0, .cons _ t => t
  | _, _, i + 1, .cons a t => .cons a (RpL.eraseIdx i t)
theorem stL_mem {ds es : List D} (s : D.stL ds = true) (h : ∀ d ∈ es, d ∈ ds) : D.stL es = true := by
  rw [stL_iff] at s ⊢
  exact fun d hd => s d (h d hd)
/-- a list is written anew -/
theorem Fin1.wlst {n : Nat} {a : Addr} {xs : List V} {ds : List D} {z : D} {v : V} {Q : VK} (r : HRp K m H h) (e : m[n]? = some a) {x0 : List V} (ez : H a = some (.lst x0)) (f : Fin1 K m H (h.set n (.lst ds)) z Q) (s : D.stL ds = true) (t : RpL K m H xs ds) (sz : D.st z = true) (qz : Rp K m H v z) : Q v (upd H a (.lst xs)) := by
  obtain ⟨r', x'⟩ := r.write (u := .lst xs) (o := .lst ds) e (fun _ _ w => by rw [ez] at w; cases w) rfl fun H' eH x' => by
    subst eH
    exact .lst upd_same s (RpL.ext r x' t)
  exact f v _ m r' x' (Rp.ext r x' qz) (newV_st sz)
end
theorem txts_eq : ∀ {ds : List D} {ys : List Str}, txts ds = some ys → ds = ys.map .str
  | [], _, e => by simp [txts] at e; subst e; rfl
  | .str x :: ds, _, e => by
    simp only [txts, Option.map_eq_some_iff] at e
    obtain ⟨ms, e1, rfl⟩ := e
    rw [txts_eq e1]; rfl
  | .non :: _, _, e => by simp [txts] at e
  | .bl _ :: _, _, e => by simp [txts] at e
  | .int _ :: _, _, e => by simp [txts] at e
  | .tup _ :: _, _, e => by simp [txts] at e
  | .ref _ :: _, _, e => by simp [txts] at e
  | .lv _ :: _, _, e => by simp [txts] at e
  | .fl _ :: _, _, e => by simp [txts] at e
theorem stL_strs : ∀ ys : List Str, D.stL (ys.map .str) = true
  | [] => rfl
  | y :: ys => by simp [D.stL, D.st, stL_strs ys]
theorem rpL_ofStrs {K : PySem.W.Frag} {m : List Addr} {H : Hp} : ∀ ys : List Str, RpL K m H (ys.map V.str) (ys.map .str)
  | [] => .nil
  | y :: ys => .cons (.str y) (rpL_ofStrs ys)
theorem rpL_strs {K : PySem.W.Frag} {m : List Addr} {H : Hp} : ∀ {ns : List Str} {xs : List V}, RpL K m H xs (ns.map .str) → xs = ns.map V.str
  | [], _, .nil => rfl
  | n :: ns, _, .cons (.str _) t => by rw [rpL_strs t]; rfl
section
variable {X : Cx}
theorem tup_ty {pins : List (Addr × Obj)} {s : Shared} {σ : L2.St} {H : Hp} {a : Addr} {xs : List V} (I : Inv X pins σ H s) (q1 : SqN X.K H a xs) : s.TypeIs (.ref a) "tuple" ∧ ∀ b, Value.ref a = .ref b → ∃ ob, s.heap.get? b = some ob ∧ ob.dict = none := by
  rcases q1 with ⟨o, e, no⟩ | ⟨o, its, k, e, c, no, _⟩
  · obtain ⟨e1, _, its, _, ⟨o2, e2, c2, _⟩⟩ := I.hok _ _ e
    exact ⟨⟨o2, e2, c2⟩, fun b eb => by cases eb; exact ⟨o, e1, no⟩⟩
  · have e1 := I.kIn _ o e
    exact ⟨⟨o, e1, c⟩, fun b eb => by cases eb; exact ⟨o, e1, no⟩⟩
/-- t.count(x) of a tuple of any data -/
theorem mt_countD (hu : X.A.units + 65 < cLine) : MtR X "tuple.count" (fun x vs H Q => ∃ y d es, vs = [y] ∧ Dp X.K H x (.tuple es) ∧ Dp X.K H y d ∧ SeqAt.shaped (.tuple es) = true ∧ SeqAt.shaped d = true ∧ Q (.int ((es.countP fun z => PyData.eqv z d : Nat) : Int)) H) := by
  intro pins s σ H x xs v us Q I rx rxs h
  obtain ⟨y, d, es, rfl, hl, hy, sl, sd, q⟩ := h
  cases rxs with
  | cons ry rt =>
    rename_i uy ut
    cases rt
    obtain ⟨bs, r1⟩ := Dp.reads I d y uy hy ry
    have hxs : PyData.canLayAll0 es = true := SeqAt.canLay_of_shaped sl
    have hroom : X.A.units + 1 + min (PyData.depthAll es) d.depth < cLine := room_in_shaped sd hu
    cases hl with
    | tup hs ha =>
      cases rx
      obtain ⟨its, rv, ⟨⟨cls, dd, data, sls⟩, ho, hc, n, hd⟩, hz⟩ := I.tuple hs
      simp only at hc hd
      subst hc hd
      obtain ⟨as, h4⟩ := Dp.readsAll I es _ its ha rv
      have hmap : its.map (SeqAt.readOf s.heap) = es := SeqAt.readsAll_map es its as hxs h4
      refine call_meets PySem.F.slot_tuple_count ⟨_, ho, rfl⟩ PySem.F.entry_tuple_count (PySem.F.args_tuple_count_2 _ _)
        (SeqAt.tuple_countAt _ its.toArray n dd sls uy (fun u => PyData.eqv (SeqAt.readOf s.heap u) d)) ⟨ho, SeqAt.items_eqAt (vs := its.toArray) (show ReadsAll s.heap its.toArray.toList es as from h4) r1 hxs (SeqAt.canLay_of_shaped sd) hroom, ?_⟩
      have e : (its.toArray.toList.countP fun u => PyData.eqv (SeqAt.readOf s.heap u) d) = es.countP fun z => PyData.eqv z d := by
        rw [← hmap, List.countP_map]; rfl
      rw [e]
      exact ⟨.int _, H, I.tok _, ⟨_, rfl⟩, q⟩
end
section
variable {X : Cx}
theorem pe_meR (hu : X.A.units + 65 < cLine) (f : Me) (pins : List (Addr × Obj)) (s : Shared) (σ : L2.St) (H : Hp) (x : V) (v : Value) (I : Inv X pins σ H s) (rx : RelV x v)
    (h0 : ∃ m h d, HRp X.K m H h ∧ Rp X.K m H x d ∧ meOk h f d = true) (name : Str) (hn : meName f = some name) :
      ∃ T id, PlainAttrs T ∧ Slot T name id ∧ typeOf (.builtin id) = pure (.type "method_descriptor") ∧ s.TypeIs v T ∧ (∀ a, v = .ref a → ∃ ob, s.heap.get? a = some ob ∧ ob.dict = none) ∧ MtR X id (rMe X.K f) := by
  obtain ⟨m, h, d, hr, qd, ok⟩ := h0
  have hu1 : X.A.units + 1 < cLine := by omega
  have lst : isLm h d = true → s.TypeIs v "list" ∧ ∀ a, v = .ref a → ∃ ob, s.heap.get? a = some ob ∧ ob.dict = none := by
    intro ok
    obtain ⟨n, es, rfl, e⟩ := isLm_iff ok
    obtain ⟨a, xs, e1, e2, _⟩ := lst_view (Z := ⟨X.K, fun _ => none⟩) hr e
    cases qd with
    | ref q =>
      rw [q] at e1; cases e1
      cases rx
      obtain ⟨_, its, k, _, ho⟩ := I.hok _ _ e2
      exact ⟨⟨_, ho, rfl⟩, fun b eb => by cases eb; exact ⟨_, ho, rfl⟩⟩
  have wl : ∀ {pins : List (Addr × Obj)} {s : Shared} {σ : L2.St} {H : Hp} {x : V} {v : Value} {m : List Addr} {h : Hm} {d : D} {ds : List D} {vs : List V} {us : List Value} {Q : VK} {id : String} {f : Me}, f.onL = true →
      (∀ (a : Addr) (n : Nat) (xs : List V) (es : List D), m[n]? = some a → x = .ref a → H a = some (.lst xs) → D.stL es = true → RpL X.K m H xs es → FinM X.K m H (meL h n es f ds) Q → wpAny (model X.prog X.w) X.A (call (.builtin id) (v :: us)) (EP X pins σ Q) X.xe s) →
      HRp X.K m H h → Rp X.K m H x d → FinM X.K m H (meD h f d ds) Q → wpAny (model X.prog X.w) X.A (call (.builtin id) (v :: us)) (EP X pins σ Q) X.xe s := by
    intro pins s σ H x v m h d ds vs us Q id f nf k hr qd fin
    rcases meD_lm (h := h) (f := f) (d := d) (ds := ds) nf with e | ⟨n, es, rfl, e2, e⟩
    · rw [e] at fin; exact fin.elim
    · rw [e] at fin
      obtain ⟨a, xs, e3, e4, s1, t1⟩ := lst_view (Z := ⟨X.K, fun _ => none⟩) hr e2
      cases qd with
      | ref q =>
        rw [q] at e3; cases e3
        exact k _ n xs es q rfl e4 s1 t1 fin
  cases f with
  | append =>
    obtain rfl := Option.some.inj hn
    obtain ⟨h1, h2⟩ := lst ok
    refine ⟨"list", "list.append", PySem.F.plainAttrs_list, PySem.F.slot_list_append, PySem.F.type_list_append, h1, h2, ?_⟩
    intro pins s σ H x vs v us Q I rx rv ⟨m, h, d, ds, hr, qd, qv, so, fin⟩
    refine wl (vs := vs) rfl (fun a n xs es e1 ex e2 s1 t1 fin => ?_) hr qd fin
    simp only [meL] at fin
    split at fin
    · rename_i z
      split at fin
      · rename_i hl
        obtain ⟨y, rfl, qy⟩ := rp_one qv
        have sz := so rfl
        simp [D.stL] at sz
        exact mt_append pins s σ H x _ v us Q I rx rv ⟨a, xs, y, ex, rfl, e2, by rw [t1.length]; exact hl, Fin1.wlst hr e1 e2 fin (by rw [stL_append, s1]; simp [D.stL, sz]) (t1.append (.one qy)) rfl .non⟩
      · exact fin.elim
    · exact fin.elim
  | extend =>
    obtain rfl := Option.some.inj hn
    obtain ⟨h1, h2⟩ := lst ok
    refine ⟨"list", "list.extend", PySem.F.plainAttrs_list, PySem.F.slot_list_extend, PySem.F.type_list_extend, h1, h2, ?_⟩
    intro pins s σ H x vs v us Q I rx rv ⟨m, h, d, ds, hr, qd, qv, so, fin⟩
    refine wl (vs := vs) rfl (fun a n xs es e1 ex e2 s1 t1 fin => ?_) hr qd fin
    simp only [meL] at fin
    split at fin
    · split at fin
      · rename_i z ys ey
        split at fin
        · rename_i hl
          obtain ⟨y, rfl, qy⟩ := rp_one qv
          obtain ⟨b, zs, rfl, hb, sb, tb⟩ := wls_view hr qy ey
          exact mt_extend pins s σ H x _ v us Q I rx rv ⟨a, b, xs, zs, ex, rfl, e2, hb, by rw [t1.length, tb.length]; exact hl, Fin1.wlst hr e1 e2 fin (by rw [stL_append, s1, sb]; rfl) (t1.append tb) rfl .non⟩
        · exact fin.elim
      · exact fin.elim
    · exact fin.elim
  | pop =>
    obtain rfl := Option.some.inj hn
    obtain ⟨h1, h2⟩ := lst ok
    refine ⟨"list", "list.pop", PySem.F.plainAttrs_list, PySem.F.slot_list_pop, PySem.F.type_list_pop, h1, h2, ?_⟩
    intro pins s σ H x vs v us Q I rx rv ⟨m, h, d, ds, hr, qd, qv, so, fin⟩
    refine wl (vs := vs) rfl (fun a n xs es e1 ex e2 s1 t1 fin => ?_) hr qd fin
    simp only [meL] at fin
    split at fin
    · split at fin
      · rename_i z ez
        cases qv
        obtain ⟨y, ey, qy⟩ := t1.get ez
        rw [← t1.length] at ey
        exact mt_pop pins s σ H x _ v us Q I rx rv ⟨a, xs, y, ex, rfl, e2, ey, Fin1.wlst hr e1 e2 fin (stL_mem s1 fun d hd => List.dropLast_subset _ hd) t1.dropLast ((stL_iff es).mp s1 z (List.mem_of_getElem? ez)) qy⟩
      · exact fin.elim
    · split at fin
      · rename_i i _ hi
        split at fin
        · rename_i z ez
          obtain ⟨y, rfl, qy⟩ := rp_one qv
          cases qy
          obtain ⟨y, ey, qy⟩ := t1.get ez
          refine mt_popAt pins s σ H x _ v us Q I rx rv ⟨a, xs, i, i.toNat, y, ex, rfl, e2, by have := hi.1; omega, hi.2.2, seqIndex_of hi.1 (by rw [t1.length]; omega), ey, Fin1.wlst hr e1 e2 fin (stL_mem s1 fun d hd => List.mem_of_mem_eraseIdx hd) (t1.eraseIdx _) ((stL_iff es).mp s1 z (List.mem_of_getElem? ez)) qy⟩
        · exact fin.elim
      · exact fin.elim
    · exact fin.elim
  | insert =>
    obtain rfl := Option.some.inj hn
    obtain ⟨h1, h2⟩ := lst ok
    refine ⟨"list", "list.insert", PySem.F.plainAttrs_list, PySem.F.slot_list_insert, PySem.F.type_list_insert, h1, h2, ?_⟩
    intro pins s σ H x vs v us Q I rx rv ⟨m, h, d, ds, hr, qd, qv, so, fin⟩
    refine wl (vs := vs) rfl (fun a n xs es e1 ex e2 s1 t1 fin => ?_) hr qd fin
    simp only [meL] at fin
    split at fin
    · rename_i i z _
      split at fin
      · rename_i hi
        cases qv with
        | cons qi t =>
          cases qi
          obtain ⟨y, rfl, qy⟩ := rp_one t
          have sz := so rfl
          simp [D.stL, D.st] at sz
          refine mt_insert pins s σ H x _ v us Q I rx rv ⟨a, xs, i, y, ex, rfl, e2, by rw [t1.length]; exact hi.2.2, hi.1, hi.2.1, Fin1.wlst hr e1 e2 fin ?_ (((t1.take _).append (.one qy)).append (t1.drop _)) rfl .non⟩
          rw [stL_append, stL_append, stL_mem s1 fun d hd => List.mem_of_mem_take hd, stL_mem s1 fun d hd => List.mem_of_mem_drop hd]
          simp [D.stL, sz]
      · exact fin.elim
    · exact fin.elim
  | get =>
    obtain rfl := Option.some.inj hn
    obtain ⟨kds, ek⟩ := Option.isSome_iff_exists.mp (show (dicOf h d).isSome = true from ok)
    cases qd with
    | ref q =>
      obtain ⟨kvs, rd, t⟩ := dic_view hr q ek
      cases rx
      obtain ⟨t1, t2, _⟩ := isD_at I (.inl ⟨kvs, rd⟩)
      refine ⟨"dict", "dict.get", PySem.F.plainAttrs_dict, PySem.F.slot_dict_get, PySem.F.type_dict_get, t1, t2, ?_⟩
      intro pins s σ H x vs v us Q I rx rv ⟨m, h, d, ds, hr, qd, qv, so, fin⟩
      simp only [meD, getD] at fin
      split at fin
      · rename_i kds ek
        cases qd with
        | ref q =>
          obtain ⟨kvs, rd, t⟩ := dic_view hr q ek
          cases rx
          split at fin
          · split at fin
            · rename_i e1 k ek1
              obtain ⟨y, rfl, qy⟩ := rp_one qv
              obtain ⟨u, rfl, ru⟩ := vals1 rv
              obtain rfl := keyOf_view qy ek1
              refine d_get1 (o := valV kvs k) hu1 I (.inl ⟨kvs, k, rd, rfl, rfl⟩) ru fun w' s3 I3 rw' => ⟨_, H, I3, rw', ?_⟩
              rcases kv_look k t.1 t.2.2 with ⟨h1, h2⟩ | ⟨v, d, h1, h2, h3⟩
              · rw [h1]; rw [h2] at fin; exact fin.same hr .non rfl
              · rw [h1]; rw [h2] at fin; exact fin.same hr h3 (stL_look t.2.1 h2)
            · exact fin.elim
          · split at fin
            · rename_i e1 e2 k ek1
              cases qv with
              | cons qy t2 =>
                obtain ⟨y2, rfl, qy2⟩ := rp_one t2
                obtain ⟨u, u2, rfl, ru, ru2⟩ := vals2 rv
                obtain rfl := keyOf_view qy ek1
                have sz := so rfl
                simp [D.stL] at sz
                refine d_get2 (o := valV kvs k) hu1 I (.inl ⟨kvs, k, rd, rfl, rfl⟩) ru ru2 fun w' s3 I3 rw' => ⟨_, H, I3, rw', ?_⟩
                rcases kv_look k t.1 t.2.2 with ⟨h1, h2⟩ | ⟨v, d, h1, h2, h3⟩
                · rw [h1]; rw [h2] at fin; exact fin.same hr qy2 sz.2
                · rw [h1]; rw [h2] at fin; exact fin.same hr h3 (stL_look t.2.1 h2)
            · exact fin.elim
          · exact fin.elim
        | _ => simp [dicOf] at ek
      · exact fin.elim
    | _ => simp [dicOf] at ek
  | count =>
    obtain rfl := Option.some.inj hn
    cases qd with
    | tup q1 s1 t1 =>
      cases rx
      have hT := tup_ty I q1
      refine ⟨"tuple", "tuple.count", PySem.F.plainAttrs_tuple, PySem.F.slot_tuple_count, PySem.F.type_tuple_count, hT.1, hT.2, ?_⟩
      intro pins s σ H x vs v us Q I rx rv ⟨m, h, d, ds, hr, qd, qv, so, fin⟩
      simp only [meD] at fin
      cases ec : countD h d ds with
      | none => rw [ec] at fin; exact fin.elim
      | some z =>
        rw [ec] at fin
        unfold countD at ec
        simp only [shp_eq, eqQ_eq] at ec
        split at ec
        · split at ec
          · rename_i e1 e2
            split at ec
            · rename_i hs
              cases ec
              obtain ⟨y, rfl, qy⟩ := rp_one qv
              exact mt_countD hu pins s σ H x _ v us Q I rx rv ⟨y, _, _, rfl, pyOf_dp hr _ qd e2, pyOf_dp hr _ qy e1, hs.2, hs.1, fin.same hr (.int _) rfl⟩
            · cases ec
          · cases ec
        · cases ec
    | _ => simp [meOk, isTup] at ok
  | tindex =>
    obtain rfl := Option.some.inj hn
    cases qd with
    | tup q1 s1 t1 =>
      cases rx
      have hT := tup_ty I q1
      refine ⟨"tuple", "tuple.index", PySem.F.plainAttrs_tuple, PySem.F.slot_tuple_index, PySem.F.type_tuple_index, hT.1, hT.2, ?_⟩
      intro pins s σ H x vs v us Q I rx rv ⟨m, h, d, ds, hr, qd, qv, so, fin⟩
      simp only [meD] at fin
      cases ec : tindexD d ds with
      | none => rw [ec] at fin; exact fin.elim
      | some z =>
        rw [ec] at fin
        unfold tindexD at ec
        split at ec
        · split at ec
          · rename_i ys et
            rw [Option.map_eq_some_iff] at ec
            obtain ⟨j, ej, rfl⟩ := ec
            obtain ⟨y, rfl, qy⟩ := rp_one qv
            cases qy
            cases qd with
            | tup q1 s1 t1 =>
              obtain rfl := txts_eq et
              obtain rfl := rpL_strs t1
              obtain ⟨h1, h2, h3⟩ := List.findIdx?_eq_some_iff_getElem.mp ej
              refine mt_tup_index pins s σ H _ _ v us Q I rx rv ⟨_, ys, _, j, rfl, rfl, q1.sq, by rw [List.getElem?_eq_getElem h1]; simpa using h2, fun k hk e => ?_, fin.same hr (.int _) rfl⟩
              obtain ⟨h4, h5⟩ := List.getElem?_eq_some_iff.mp e
              have := h3 k hk
              simp [h5] at this
          · cases ec
        · cases ec
    | _ => simp [meOk, isTup] at ok
  | index =>
    obtain rfl := Option.some.inj hn
    obtain ⟨es, ek⟩ := Option.isSome_iff_exists.mp (show (lstOf h d).isSome = true from ok)
    obtain ⟨a, xs, rfl, sq, _, _⟩ := lstOf_view (Z := ⟨X.K, fun _ => none⟩) hr qd ek
    cases rx
    obtain ⟨its, rv0, pl, hz⟩ := I.list sq
    refine ⟨"list", "list.index", PySem.F.plainAttrs_list, PySem.F.slot_list_index, PySem.F.type_list_index, pl.isList.typeIs, fun b eb => by cases eb; obtain ⟨o, n, e, c, hd, _⟩ := pl; exact ⟨o, e, hd⟩, ?_⟩
    intro pins s σ H x vs v us Q I rx rv ⟨m, h, d, ds, hr, qd, qv, so, fin⟩
    simp only [meD] at fin
    cases ec : indexD h d ds with
    | none => rw [ec] at fin; exact fin.elim
    | some z =>
      rw [ec] at fin
      unfold indexD at ec
      simp only [shp_eq, eqQ_eq] at ec
      split at ec
      · split at ec
        · rename_i e1 e2
          split at ec
          · rename_i hs
            rw [Option.map_eq_some_iff] at ec
            obtain ⟨j, ej, rfl⟩ := ec
            obtain ⟨y, rfl, qy⟩ := rp_one qv
            obtain ⟨h1, h2, h3⟩ := List.findIdx?_eq_some_iff_getElem.mp ej
            have dp := pyOf_dp hr _ qd e2
            cases dp with
            | lst hs2 ha2 =>
              refine mt_indexD hu pins s σ H _ _ v us Q I rx rv ⟨_, y, _, _, j, _, rfl, rfl, .lst hs2 ha2, pyOf_dp hr _ qy e1, hs.2, hs.1, List.getElem?_eq_getElem h1, h2, fun k z' hk e => ?_, fin.same hr (.int _) rfl⟩
              obtain ⟨h4, h5⟩ := List.getElem?_eq_some_iff.mp e
              have := h3 k hk
              rw [← h5]
              simpa using this
          · cases ec
        · cases ec
      · cases ec
  | sindex =>
    obtain rfl := Option.some.inj hn
    cases qd with
    | str y =>
      obtain ⟨t, rfl⟩ := rx
      refine ⟨"str", "str.index", PySem.F.plainAttrs_str, PySem.F.slot_str_index, PySem.F.type_str_index, typeIs_str _ _ _, (fun _ e => nomatch e), ?_⟩
      intro pins s σ H x vs v us Q I rx rv ⟨m, h, d, ds, hr, qd, qv, so, fin⟩
      simp only [meD] at fin
      cases ec : sindexD d ds with
      | none => rw [ec] at fin; exact fin.elim
      | some z =>
        rw [ec] at fin
        unfold sindexD at ec
        split at ec
        · split at ec
          · rename_i i r eo
            cases ec
            obtain ⟨y, rfl, qy⟩ := rp_one qv
            cases qy
            cases qd
            exact mt_sindex pins s σ H _ _ v us Q I rx rv ⟨_, _, i, r, rfl, rfl, eo, fin.same hr (.int _) rfl⟩
          · cases ec
        · cases ec
    | _ => simp [meOk, isSt] at ok
  | join =>
    obtain rfl := Option.some.inj hn
    cases qd with
    | str y =>
      obtain ⟨t, rfl⟩ := rx
      refine ⟨"str", "str.join", PySem.F.plainAttrs_str, PySem.F.slot_str_join, PySem.F.type_str_join, typeIs_str _ _ _, (fun _ e => nomatch e), ?_⟩
      intro pins s σ H x vs v us Q I rx rv ⟨m, h, d, ds, hr, qd, qv, so, fin⟩
      simp only [meD] at fin
      cases ec : joinD h d ds with
      | none => rw [ec] at fin; exact fin.elim
      | some z =>
        rw [ec] at fin
        unfold joinD at ec
        split at ec
        · split at ec
          · rename_i es e1
            split at ec
            · rename_i ys et
              split at ec
              · rename_i hl
                cases ec
                obtain ⟨y, rfl, qy⟩ := rp_one qv
                cases qd
                obtain ⟨a, xs, rfl, sq, _, t1⟩ := seqOf_view (Z := ⟨X.K, fun _ => none⟩) hr qy e1
                obtain rfl := txts_eq et
                obtain rfl := rpL_strs t1
                exact mt_join pins s σ H _ _ v us Q I rx rv ⟨_, a, ys, rfl, rfl, sq, hl, fin.same hr (.str _) rfl⟩
              · cases ec
            · cases ec
          · cases ec
        · cases ec
    | _ => simp [meOk, isSt] at ok
  | split =>
    obtain rfl := Option.some.inj hn
    cases qd with
    | str y =>
      obtain ⟨t, rfl⟩ := rx
      refine ⟨"str", "str.split", PySem.F.plainAttrs_str, PySem.F.slot_str_split, PySem.F.type_str_split, typeIs_str _ _ _, (fun _ e => nomatch e), ?_⟩
      intro pins s σ H x vs v us Q I rx rv ⟨m, h, d, ds, hr, qd, qv, so, fin⟩
      simp only [meD] at fin
      cases ec : splitD d ds with
      | none => rw [ec] at fin; exact fin.elim
      | some z =>
        rw [ec] at fin
        unfold splitD at ec
        split at ec
        · split at ec
          · rename_i hl
            cases ec
            obtain ⟨y, rfl, qy⟩ := rp_one qv
            cases qy
            cases qd
            exact mt_split pins s σ H _ _ v us Q I rx rv ⟨_, _, rfl, rfl, hl.1, hl.2, fun p hp => fin.lst hr (stL_strs _) (rpL_ofStrs _) hp⟩
          · cases ec
        · cases ec
    | _ => simp [meOk, isSt] at ok
  | _ => simp [meName] at hn
end
end Mi

set_option Elab.async false
set_option linter.all false
set_option maxRecDepth 100000
/-! Mini: targets, walks, glue. -/
namespace Mi
open PySem PySem.Spec PyProof.Rows L2
/-! ### what a call is to answer -/
def PostF (Z : Wi) (m : List Addr) (H : Hp) (r : R D) (Q : VK) (E : XK) : Prop := match r with
  | .ok d h' => ∀ v H' m', HRp Z.K m' H' h' → Ext m H m' H' → Rp Z.K m' H' v d → D.st d = true → Q v H'
  | .ex c fs h' => ∀ cls dx H' m', HRp Z.K m' H' h' → Ext m H m' H' → XRp Z m' H' cls dx c fs → E cls dx H'
  | .bad => False
def spF (Z : Wi) (g : List D → Hm → R D) (n : Nat) : Sp := fun vs H Q E => vs.length = n ∧ ∃ m h args, HRp Z.K m H h ∧ RpL Z.K m H vs args ∧ D.stL args = true ∧ PostF Z m H (g args h) Q E
theorem FnG.imp {P : Program} {w : World} {K : PySem.W.Frag} {mg : Str → Option Value} {base : Heap} {k : Nat} {f : Addr} {fd : FuncData} {ps : List Str} {sp sp' : Sp} (F : FnG P w K mg base k f fd ps sp) (h : ∀ vs H Q E, sp' vs H Q E → sp vs H Q E) : FnG P w K mg base k f fd ps sp' :=
  ⟨fun vs H Q E q => F.len vs H Q E (h vs H Q E q), fun A outer s H args us vs Q E a b c d e f => F.run A outer s H args us vs Q E a b c d e (h _ _ _ _ f)⟩

structure Tb where
  fns : List (Str × List Str)
  cns : List (Str × D)
  bts : List Str
  /-- a call by names: the def, how many stand by place, the names, where each parameter's value stands -/
  kws : List (Nat × Nat × List Str × List Nat)
  /-- own errors, by names -/
  exs : List Str
def WF : WX := fun _ _ _ _ => False
structure Good (T : Tb) (Z : Wi) (W : WX) (Γ : Gm) (G : Nat → Option D) (X : Cx) : Prop where
  calm : X.calm = true
  nod : X.N.Nodup
  k : X.K = Z.K
  tk : Takes X W
  gd : X.A.guards = some []
  un : X.A.units + 65 < cLine
  fns : ∀ i x ps, T.fns[i]? = some (x, ps) → ∃ f fd k, X.mg x = some (.ref f) ∧ PySem.W.keepIn X.K (.ref f) = true ∧ Room k X.A ∧ FnG X.prog X.w X.K X.mg X.base k f fd ps (spF Z (Γ i) ps.length) ∧
    (∀ (s : Shared) (us : List Value), us.length = ps.length → BindsTo s fd ⟨us, []⟩ (ps.zip us)) ∧
    ∀ n ks pm, (i, n, ks, pm) ∈ T.kws → pm.length = ps.length ∧ (∀ j ∈ pm, j < n + ks.length) ∧ ∀ (s : Shared) (us ws : List Value), us.length = n → ws.length = ks.length → BindsTo s fd ⟨us, ks.zip ws⟩ (ps.zip (pm.map fun j => (us ++ ws).getD j .none))
  cns : ∀ i x d, T.cns[i]? = some (x, d) → G i = some d ∧ D.st d = true ∧ ∃ u v, X.mg x = some u ∧ RelV v u ∧ ∀ m H, Rp X.K m H v d
  bts : ∀ x ∈ T.bts, X.mg x = none
theorem WF_takes (X : Cx) (s : Shared) (H : Hp) (sc : Scope) (e : PySem.Env) (fp : List Addr) : Takes (X.blk s H sc e fp) WF := by
  intro u s' h
  obtain ⟨a, B, sI, pins, σ, H, cls, d, e, I, nb, up, sky, na, os, ag, w⟩ := h
  exact w.elim
theorem Good.blk {T : Tb} {Z : Wi} {W : WX} {Γ : Gm} {G : Nat → Option D} {X : Cx} (g : Good T Z W Γ G X) (s : Shared) (H : Hp) (sc : Scope) (e : PySem.Env) (fp : List Addr) : Good T Z WF Γ G (X.blk s H sc e fp) :=
  ⟨g.calm, g.nod, g.k, WF_takes X s H sc e fp, g.gd, g.un, g.fns, g.cns, g.bts⟩

section
variable {Z : Wi} {W : WX} {σ : L2.St} {m : List Addr} {H : Hp} {h : Hm} {ρ : Env}
theorem PE.of {X : Cx} {e : Expr} {t t' : TE} (p : PE X e t) (h : ∀ σ H Q, t' σ H Q → t σ H Q) : PE X e t' := ⟨fun pins s σ H Q I q => p.run pins s σ H Q I (h σ H Q q)⟩
theorem PT.of {X : Cx} {e : Expr} {t t' : TT} (p : PT X e t) (h : ∀ σ H Q, t' σ H Q → t σ H Q) : PT X e t' := ⟨fun pins s σ H Q I q => p.run pins s σ H Q I (h σ H Q q)⟩
theorem PA.of {X : Cx} {e : List Expr} {t t' : TA} (p : PA X e t) (h : ∀ σ H Q, t' σ H Q → t σ H Q) : PA X e t' := ⟨fun pos pins s σ H Q I q => p.run pos pins s σ H Q I (h σ H Q q)⟩
theorem PI.of {X : Cx} {tg e : Expr} {t t' : TI} (p : PI X tg e t) (h : ∀ σ H Q, t' σ H Q → t σ H Q) : PI X tg e t' := ⟨fun pins s σ H Q I q => p.run pins s σ H Q I (h σ H Q q)⟩
theorem PG.of {X : Cx} {e : Expr} {t t' : TG} (p : PG X e t) (h : ∀ v σ H Q, t' v σ H Q → t v σ H Q) : PG X e t' := ⟨fun pins s σ H v u Q I r q => p.run pins s σ H v u Q I r (h v σ H Q q)⟩
theorem PGs.of {X : Cx} {e : List Expr} {t t' : TGs} (p : PGs X e t) (h : ∀ v σ H Q, t' v σ H Q → t v σ H Q) : PGs X e t' := ⟨fun pins s σ H v u Q I r q => p.run pins s σ H v u Q I r (h v σ H Q q)⟩
/-- an expression first -/
theorem tE_bnd {β : Type} {γ : Type} {rel2 : List Addr → Hp → γ → β → Prop} {new2 : Hp → γ → β → Prop} {f : Env → Hm → R D} {k : D → Hm → R β} {Q : γ → Hp → Prop} {Q' : VK} (nb : ∀ {m' H' h'} , HRp Z.K m' H' h' → Ext m H m' H' → ∀ {v d}, new2 H' v d → new2 H v d) (s : StR Z.K m H h σ ρ) (p : Pst Z W σ rel2 new2 m H (bnd (f ρ h) k) Q)
    (go : ∀ v H1 m1 d h1, StR Z.K m1 H1 h1 σ ρ → Ext m H m1 H1 → Rp Z.K m1 H1 v d → newV H v d → Pst Z W σ rel2 new2 m1 H1 (k d h1) Q → Q' v H1) : tE Z W f σ H Q' :=
  ⟨m, ρ, h, s, Pst.mono (Pst.bnd nb p) fun v H1 ⟨m1, d, h1, _, a, b, c, n, q⟩ => go v H1 m1 d h1 (s.go a b) b c n q⟩
theorem tL_bnd {β : Type} {γ : Type} {rel2 : List Addr → Hp → γ → β → Prop} {new2 : Hp → γ → β → Prop} {f : Env → Hm → R (List D)} {k : List D → Hm → R β} {Q : γ → Hp → Prop} {Q' : List V → Hp → Prop} (nb : ∀ {m' H' h'} , HRp Z.K m' H' h' → Ext m H m' H' → ∀ {v d}, new2 H' v d → new2 H v d) (s : StR Z.K m H h σ ρ) (p : Pst Z W σ rel2 new2 m H (bnd (f ρ h) k) Q)
    (go : ∀ v H1 m1 d h1, StR Z.K m1 H1 h1 σ ρ → Ext m H m1 H1 → RpL Z.K m1 H1 v d → newL H v d → Pst Z W σ rel2 new2 m1 H1 (k d h1) Q → Q' v H1) : tL Z W f σ H Q' :=
  ⟨m, ρ, h, s, Pst.mono (Pst.bnd nb p) fun v H1 ⟨m1, d, h1, _, a, b, c, n, q⟩ => go v H1 m1 d h1 (s.go a b) b c n q⟩
theorem tT_bnd {β : Type} {γ : Type} {rel2 : List Addr → Hp → γ → β → Prop} {new2 : Hp → γ → β → Prop} {f : Env → Hm → R Bool} {k : Bool → Hm → R β} {Q : γ → Hp → Prop} {Q' : Bool → Hp → Prop} (nb : ∀ {m' H' h'} , HRp Z.K m' H' h' → Ext m H m' H' → ∀ {v d}, new2 H' v d → new2 H v d) (s : StR Z.K m H h σ ρ) (p : Pst Z W σ rel2 new2 m H (bnd (f ρ h) k) Q)
    (go : ∀ b H1 m1 h1, StR Z.K m1 H1 h1 σ ρ → Ext m H m1 H1 → Pst Z W σ rel2 new2 m1 H1 (k b h1) Q → Q' b H1) : tT Z W f σ H Q' :=
  ⟨m, ρ, h, s, Pst.mono (Pst.bnd nb p) fun v H1 ⟨m1, d, h1, _, a, b, c, n, q⟩ => by subst c; exact go v H1 m1 h1 (s.go a b) b q⟩
theorem nbV : ∀ {m' : List Addr} {H' : Hp} {h' : Hm}, HRp Z.K m' H' h' → Ext m H m' H' → ∀ {v : V} {d : D}, newV H' v d → newV H v d := fun {_ _ _} a b {_ _} n => newV.back a b n
theorem nbL : ∀ {m' : List Addr} {H' : Hp} {h' : Hm}, HRp Z.K m' H' h' → Ext m H m' H' → ∀ {v : List V} {d : List D}, newL H' v d → newL H v d := fun {_ _ _} a b {_ _} n => newL.back a b n
theorem Pst.opt {α β : Type} {rel : List Addr → Hp → α → β → Prop} {new : Hp → α → β → Prop} {o : Option β} {Q : α → Hp → Prop} (p : Pst Z W σ rel new m H (Mi.opt o h) Q) : ∃ d, o = some d ∧ Pst Z W σ rel new m H (.ok d h) Q := by
  cases o with
  | none => exact False.elim p
  | some d => exact ⟨d, rfl, p⟩
theorem Pst.gd {α β : Type} {rel : List Addr → Hp → α → β → Prop} {new : Hp → α → β → Prop} {c : Bool} {r : R β} {Q : α → Hp → Prop} (p : Pst Z W σ rel new m H (Mi.gd c r) Q) : c = true ∧ Pst Z W σ rel new m H r Q := by
  cases c with
  | false => exact False.elim p
  | true => exact ⟨rfl, p⟩
/-- an answer that is known -/
theorem PV.fin {d : D} {Q : VK} (p : PV Z W σ m H (.ok d h) Q) : Fin1 Z.K m H h d Q := fun v H' m' a b c n => p v H' m' a b c n
end

/-! ### targets -/
section
variable {K : PySem.W.Frag} {m : List Addr} {H : Hp} {σ : L2.St} {ρ ρ' : Env}
/-- the slots that are not i's stay -/
def Same (l : List Nat) (σ σ' : L2.St) : Prop := σ'.length = σ.length ∧ ∀ i, i ∉ l → σ'[i]? = σ[i]?
theorem wipe_get (σ : L2.St) : ∀ (vs : List Nat) (i : Nat), (wipe σ vs)[i]? = if i ∈ vs ∧ i < σ.length then some none else σ[i]?
  | [], i => by simp [wipe]
  | v :: vs, i => by
    rw [wipe]
    by_cases h : i = v
    · subst h
      by_cases hl : i < σ.length
      · rw [List.getElem?_set_self (by rw [wipe_length]; exact hl)]; simp [hl]
      · rw [List.getElem?_eq_none (by simp [wipe_length]; omega)]
        simp [hl, List.getElem?_eq_none (Nat.le_of_not_lt hl)]
    · rw [List.getElem?_set_ne (Ne.symm h), wipe_get σ vs i]
      simp [h]
theorem wipe_same {l vs : List Nat} {σ σ' : L2.St} (s : Same l (wipe σ vs) σ') (h : ∀ i ∈ l, i ∈ vs) : wipe σ' vs = wipe σ vs := by
  have hl : σ'.length = σ.length := by rw [s.1, wipe_length]
  refine List.ext_getElem? fun i => ?_
  rw [wipe_get, wipe_get, hl]
  by_cases hi : i ∈ vs
  · simp only [hi, true_and]
    by_cases h2 : i < σ.length
    · simp [h2]
    · simp [h2]; omega
  · have := s.2 i (fun z => hi (h i z))
    rw [wipe_get] at this
    simp only [hi, false_and, if_false] at this ⊢
    exact this
def tG (K : PySem.W.Frag) (t : T) : TG := fun v σ H Q => ∃ m ρ h d ρ', StR K m H h σ ρ ∧ Rp K m H v d ∧ D.st d = true ∧ asgT t d ρ = some ρ' ∧ ∀ σ', EnvR K m H σ' ρ' → Same (T.slots t) σ σ' → Q σ' H
def tGs (K : PySem.W.Frag) (ts : Ts) : TGs := fun vs σ H Q => ∃ m ρ h ds ρ', StR K m H h σ ρ ∧ RpL K m H vs ds ∧ D.stL ds = true ∧ asgTs ts ds ρ = some ρ' ∧ ∀ σ', EnvR K m H σ' ρ' → Same (Ts.slots ts) σ σ' → Q σ' H
/-- everywhere in a def -/
abbrev allT : Str → Bool := fun _ => true
/-- stores: at a local, or a def's own cell -/
def stoB (sc : Scope) (top : Str → Bool) (y : Str) : Bool := match sc.names.lookup y with
  | some .local => true
  | some .cell => top y
  | _ => false
mutual
def mT (N : List Str) (sc : Scope) (top : Str → Bool) : T → Expr → Bool
  | .n i, x => match x with
    | .Name y _ => decide (N[i]? = some y) && stoB sc top y
    | _ => false
  | .t ts, x => match x with
    | .Tuple xs _ _ => mTs N sc top ts xs
    | _ => false
def mTs (N : List Str) (sc : Scope) (top : Str → Bool) : Ts → List Expr → Bool
  | .nil, [] => true
  | .cons t ts, x :: xs => mT N sc top t x && mTs N sc top ts xs
  | .nil, _ :: _ => false
  | .cons _ _, [] => false
end
theorem mT_star {N : List Str} {sc : Scope} {top : Str → Bool} {t : T} {x : Expr} (h : mT N sc top t x = true) : noStar x = true := by
  cases x <;> first | rfl | (cases t <;> simp [mT] at h)
def Ts.len : Ts → Nat
  | .nil => 0
  | .cons _ ts => Ts.len ts + 1
theorem asgTs_len : ∀ {ts : Ts} {ds : List D} {ρ ρ' : Env}, asgTs ts ds ρ = some ρ' → ds.length = Ts.len ts
  | .nil, [], _, _, _ => rfl
  | .cons t ts, d :: ds, ρ, ρ', e => by
    simp only [asgTs] at e
    split at e
    · rw [List.length_cons, asgTs_len e, Ts.len]
    · cases e
  | .nil, _ :: _, _, _, e => by simp [asgTs] at e
  | .cons _ _, [], _, _, e => by simp [asgTs] at e
theorem assignEach_cons {e : Expr} {es : List Expr} {env : PySem.Env} (h : noStar e = true) : assignEach (e :: es) env = (false, assign e env) :: assignEach es env := by
  cases e <;> first | rfl | simp [noStar] at h
theorem mTs_each {N : List Str} {sc : Scope} {top : Str → Bool} {env : PySem.Env} : ∀ {ts : Ts} {xs : List Expr}, mTs N sc top ts xs = true → (assignEach xs env).length = Ts.len ts ∧ (assignEach xs env).findIdx? (·.1) = none
  | .nil, [], _ => ⟨rfl, rfl⟩
  | .cons t ts, x :: xs, h => by
    simp only [mTs, Bool.and_eq_true] at h
    obtain ⟨a, b⟩ := mTs_each (env := env) h.2
    rw [assignEach_cons (mT_star h.1)]
    refine ⟨by simp [a, Ts.len], ?_⟩
    rw [List.findIdx?_cons, b]; rfl
  | .nil, _ :: _, h => by simp [mTs] at h
  | .cons _ _, [], h => by simp [mTs] at h
end
section
variable {X : Cx} {N : List Str} {sc : Scope} {top : Str → Bool}
theorem sto_of {y : Str} (hsc : X.env.scope = sc) (hf : ∀ y, top y = true → sc.names.lookup y = some .cell → X.fn y = true) (h : stoB sc top y = true) : Loc X.env.scope y ∧ (X.fn y = true ∨ X.env.scope.names.lookup y = some .local) := by
  subst hsc
  unfold stoB at h
  split at h
  · rename_i e; exact ⟨.inl e, .inr e⟩
  · rename_i e; exact ⟨.inr e, .inl (hf _ h e)⟩
  · cases h
mutual
theorem sT_t (hc : X.calm = true) (hN : X.N.Nodup) (hNN : X.N = N) (hsc : X.env.scope = sc) (hf : ∀ y, top y = true → sc.names.lookup y = some .cell → X.fn y = true) : ∀ (t : T) (x : Expr), mT N sc top t x = true → PG X x (tG X.K t)
  | .n i, x, h => by
    cases x with
    | Name y p =>
      simp only [mT, Bool.and_eq_true, decide_eq_true_eq] at h
      obtain ⟨h1, h2⟩ := sto_of hsc hf h.2
      refine PG.of (pg_name hN (by rw [hNN]; exact h.1) h1 h2) fun v σ H Q ⟨m, ρ, hh, d, ρ', s, r, st, e, q⟩ => ?_
      simp only [asgT] at e
      split at e
      · cases e
        exact q _ (s.en.set st r) ⟨by simp, fun j hj => by rw [List.getElem?_set_ne]; intro z; subst z; exact hj (by simp [T.slots])⟩
      · cases e
    | _ => simp [mT] at h
  | .t ts, x, h => by
    cases x with
    | Tuple xs k p =>
      have h : mTs N sc top ts xs = true := h
      refine PG.of (pg_tup hc (sT_ts hc hN hNN hsc hf ts xs h) (mTs_each h).1 (mTs_each h).2) fun v σ H Q ⟨m, ρ, hh, d, ρ', s, r, st, e, q⟩ => ?_
      cases r with
      | tup q1 s1 t1 =>
        simp only [asgT] at e
        exact ⟨_, _, rfl, q1.sq, by rw [t1.length]; exact asgTs_len e, m, ρ, hh, _, ρ', s, t1, s1, e, q⟩
      | _ => simp [asgT] at e
    | _ => simp [mT] at h
theorem sT_ts (hc : X.calm = true) (hN : X.N.Nodup) (hNN : X.N = N) (hsc : X.env.scope = sc) (hf : ∀ y, top y = true → sc.names.lookup y = some .cell → X.fn y = true) : ∀ (ts : Ts) (xs : List Expr), mTs N sc top ts xs = true → PGs X xs (tGs X.K ts)
  | .nil, [], h => PGs.of pgs_nil fun v σ H Q ⟨m, ρ, hh, ds, ρ', s, r, st, e, q⟩ => by
    cases r with
    | nil => simp only [asgTs, Option.some.injEq] at e; subst e; exact ⟨rfl, q σ s.en ⟨rfl, fun _ _ => rfl⟩⟩
    | cons a b => simp [asgTs] at e
  | .cons t ts, x :: xs, h => by
    simp only [mTs, Bool.and_eq_true] at h
    refine PGs.of (pgs_cons (sT_t hc hN hNN hsc hf t x h.1) (sT_ts hc hN hNN hsc hf ts xs h.2) (by rw [assignEach_cons (mT_star h.1)]; rfl)) fun v σ H Q ⟨m, ρ, hh, ds, ρ', s, r, st, e, q⟩ => ?_
    cases r with
    | nil => simp [asgTs] at e
    | cons a b =>
      simp only [asgTs] at e
      simp only [D.stL, Bool.and_eq_true] at st
      split at e
      · rename_i ρ1 e1
        exact ⟨_, _, rfl, m, ρ, hh, _, ρ1, s, a, st.1, e1, fun σ1 en1 sa1 => ⟨m, ρ1, hh, _, ρ', ⟨s.hr, en1⟩, b, st.2, e, fun σ2 en2 sa2 => q σ2 en2 ⟨sa2.1.trans sa1.1, fun i hi => by
          simp only [Ts.slots, List.mem_append, not_or] at hi
          exact (sa2.2 i hi.2).trans (sa1.2 i hi.1)⟩⟩⟩
      · cases e
  | .nil, _ :: _, h => by simp [mTs] at h
  | .cons _ _, [], h => by simp [mTs] at h
end
end
end Mi

set_option Elab.async false
set_option linter.all false
set_option maxRecDepth 100000
/-! Mini: what is walked. -/
namespace Mi
open PySem PySem.Spec PyProof.Rows L2
structure WalkD (Z : Wi) (m0 : List Addr) (H0 : Hp) (src : Src) (ds : List D) (J : It) : Prop where
  st : D.stL ds = true
  go : ∀ i m H h, i < ds.length → HRp Z.K m H h → Ext m0 H0 m H → srcOk src h = true → J.go i H
  stop : ∀ m H h, HRp Z.K m H h → Ext m0 H0 m H → srcOk src h = true → J.stop ds.length H
  yld : ∀ i m H h x H', i < ds.length → HRp Z.K m H h → Ext m0 H0 m H → srcOk src h = true → J.yld i H x H' → ∃ d, ds[i]? = some d ∧ HRp Z.K m H' h ∧ Ext m H m H' ∧ Rp Z.K m H' x d
abbrev relI (Z : Wi) : List Addr → Hp → It → List D × Src → Prop := fun m H J p => WalkD Z m H p.2 p.1 J ∧ ∀ h, HRp Z.K m H h → True
/-- .. and the source is as it was -/
def tI (Z : Wi) (W : WX) (f : Env → Hm → R (List D × Src)) : TI := fun σ H R => ∃ m ρ h, StR Z.K m H h σ ρ ∧ match f ρ h with
  | .ok (ds, src) h' => ∀ J H' m', HRp Z.K m' H' h' → Ext m H m' H' → WalkD Z m' H' src ds J → srcOk src h' = true → R J H'
  | .ex c fs h' => ∀ cls dx H' m', HRp Z.K m' H' h' → Ext m H m' H' → XRp Z m' H' cls dx c fs → W cls dx σ H'
  | .bad => False
section
variable {Z : Wi} {m0 m : List Addr} {H0 H : Hp} {h : Hm}
theorem stL_get {ds : List D} {i : Nat} {d : D} (s : D.stL ds = true) (e : ds[i]? = some d) : D.st d = true := (stL_iff ds).mp s d (List.mem_of_getElem? e)
theorem get_of_rp {xs : List V} {ds : List D} {i : Nat} {x : V} {K : PySem.W.Frag} (t : RpL K m H xs ds) (e : xs[i]? = some x) : ∃ d, ds[i]? = some d ∧ Rp K m H x d := by
  have hl : i < ds.length := by rw [← t.length]; exact (List.getElem?_eq_some_iff.mp e).1
  obtain ⟨v, h1, h2⟩ := t.get (List.getElem?_eq_getElem hl)
  rw [e] at h1; cases h1
  exact ⟨_, List.getElem?_eq_getElem hl, h2⟩
/-- a list of any kind, later -/
theorem list_later {d : D} {a : Addr} {ds : List D} (hr0 : HRp Z.K m0 H0 h0) (q : Rp Z.K m0 H0 (.ref a) d) (e : lstOf h0 d = some ds) (hr : HRp Z.K m H h) (x : Ext m0 H0 m H) (so : srcOk (srcOf h0 d) h = true) :
    ∃ xs, SqL Z.K H a xs ∧ D.stL ds = true ∧ RpL Z.K m H xs ds := by
  have q' := Rp.ext hr0 x q
  have e' : lstOf h d = some ds := by
    cases d with
    | ref n =>
      simp only [lstOf] at e
      cases e2 : h0[n]? with
      | none => rw [e2] at e; cases e
      | some o =>
        rw [e2] at e
        have so : decide (h[n]? = some o) = true := by simpa [srcOf, e2, srcOk] using so
        have so := of_decide_eq_true so
        simp only [lstOf, so]
        exact e
    | lv xs => exact e
    | fl xs => exact e
    | _ => simp [lstOf] at e
  obtain ⟨a', xs, e1, s, st, t⟩ := lstOf_view (Z := Z) hr q' e'
  cases e1
  exact ⟨xs, s, st, t⟩
theorem walkD_list {d : D} {a : Addr} {ds : List D} (hr0 : HRp Z.K m0 H0 h0) (q : Rp Z.K m0 H0 (.ref a) d) (e : lstOf h0 d = some ds) : WalkD Z m0 H0 (srcOf h0 d) ds (Itl Z.K a) := by
  obtain ⟨a0, xs0, e1, s0, st0, t0⟩ := lstOf_view (Z := Z) hr0 q e
  refine ⟨st0, fun i m H h hi hr x so => ?_, fun m H h hr x so => ?_, fun i m H h y H' hi hr x so yl => ?_⟩
  · obtain ⟨xs, s, st, t⟩ := list_later hr0 q e hr x so
    exact (walk_list (K := Z.K) (a := a) (xs := xs)).goes i H (by rw [t.length]; exact hi) s
  · obtain ⟨xs, s, st, t⟩ := list_later hr0 q e hr x so
    rw [← t.length]
    exact (walk_list (K := Z.K) (a := a) (xs := xs)).stops H s
  · obtain ⟨xs, s, st, t⟩ := list_later hr0 q e hr x so
    obtain ⟨e2, e3⟩ := (walk_list (K := Z.K) (a := a) (xs := xs)).yields i H y H' (by rw [t.length]; exact hi) s yl
    subst e2
    obtain ⟨d, h1, h2⟩ := get_of_rp t e3
    exact ⟨d, h1, hr, .refl, h2⟩
theorem walkD_tup {a : Addr} {ds : List D} (hr0 : HRp Z.K m0 H0 h0) (q : Rp Z.K m0 H0 (.ref a) (.tup ds)) : WalkD Z m0 H0 none ds (Itt Z.K a) := by
  have tv : ∀ {m H h}, HRp Z.K m H h → Ext m0 H0 m H → ∃ xs, SqT Z.K H a xs ∧ D.stL ds = true ∧ RpL Z.K m H xs ds := fun hr x => by
    cases Rp.ext hr0 x q with
    | tup q s t => exact ⟨_, q.sq, s, t⟩
  obtain ⟨xs0, _, st0, _⟩ := tv hr0 .refl
  refine ⟨st0, fun i m H h hi hr x so => ?_, fun m H h hr x so => ?_, fun i m H h y H' hi hr x so yl => ?_⟩
  · obtain ⟨xs, s, st, t⟩ := tv hr x
    exact (walk_tup (K := Z.K) (a := a) (xs := xs)).goes i H (by rw [t.length]; exact hi) s
  · obtain ⟨xs, s, st, t⟩ := tv hr x
    rw [← t.length]
    exact (walk_tup (K := Z.K) (a := a) (xs := xs)).stops H s
  · obtain ⟨xs, s, st, t⟩ := tv hr x
    obtain ⟨e2, e3⟩ := (walk_tup (K := Z.K) (a := a) (xs := xs)).yields i H y H' (by rw [t.length]; exact hi) s yl
    subst e2
    obtain ⟨d, h1, h2⟩ := get_of_rp t e3
    exact ⟨d, h1, hr, .refl, h2⟩
theorem pairs_len : ∀ (n : Nat) (ds : List D), (pairs n ds).length = ds.length
  | _, [] => rfl
  | n, d :: ds => by simp [pairs, pairs_len (n + 1) ds]
theorem pairs_get : ∀ (n : Nat) (ds : List D) (i : Nat) (d : D), ds[i]? = some d → (pairs n ds)[i]? = some (.tup [.int ((n + i : Nat) : Int), d])
  | n, d :: ds, 0, e, h => by simp at h; subst h; simp [pairs]
  | n, d :: ds, i + 1, e, h => by
    simp only [List.getElem?_cons_succ] at h
    simp only [pairs, List.getElem?_cons_succ]
    rw [pairs_get (n + 1) ds i e h, show n + 1 + i = n + (i + 1) by omega]
  | _, [], _, _, h => by simp at h
theorem pairs_st : ∀ (n : Nat) (ds : List D), D.stL ds = true → D.stL (pairs n ds) = true
  | _, [], _ => rfl
  | n, d :: ds, h => by
    simp only [D.stL, Bool.and_eq_true] at h
    simp [pairs, D.stL, D.st, h.1, pairs_st (n + 1) ds h.2]
theorem walkD_enum {d : D} {a : Addr} {ds : List D} (hr0 : HRp Z.K m0 H0 h0) (q : Rp Z.K m0 H0 (.ref a) d) (e : lstOf h0 d = some ds) : WalkD Z m0 H0 (srcOf h0 d) (pairs 0 ds) (IteN Z.K a) := by
  obtain ⟨a0, xs0, e1, s0, st0, t0⟩ := lstOf_view (Z := Z) hr0 q e
  refine ⟨pairs_st 0 ds st0, fun i m H h hi hr x so => ?_, fun m H h hr x so => ?_, fun i m H h y H' hi hr x so yl => ?_⟩
  · obtain ⟨xs, s, st, t⟩ := list_later hr0 q e hr x so
    rw [pairs_len] at hi
    exact ⟨xs, xs[i]'(by rw [t.length]; exact hi), s, List.getElem?_eq_getElem _⟩
  · obtain ⟨xs, s, st, t⟩ := list_later hr0 q e hr x so
    exact ⟨xs, s, by rw [pairs_len, t.length]; exact Nat.le_refl _⟩
  · obtain ⟨xs, s, st, t⟩ := list_later hr0 q e hr x so
    rw [pairs_len] at hi
    obtain ⟨T, x1, o, rfl, hT, no, rfl, h2⟩ := yl
    obtain ⟨d2, h3, h4⟩ := get_of_rp t (h2 xs s)
    have std := stL_get st h3
    exact ⟨_, pairs_get 0 ds i d2 h3, hr.lay hT, Ext.lay hT, .tup (.of upd_same no) (by simp [D.stL, D.st, std]) (by
      rw [Nat.zero_add]
      exact .cons (.int _) (.one (Rp.ext hr (Ext.lay hT) h4)))⟩
theorem upto_get : ∀ (n : Nat) (lo : Int) (i : Nat), i < n → (upto lo n)[i]? = some (.int (lo + i))
  | n + 1, lo, 0, _ => by simp [upto]
  | n + 1, lo, i + 1, h => by
    simp only [upto, List.getElem?_cons_succ]
    rw [upto_get n (lo + 1) i (by omega), show lo + 1 + (i : Int) = lo + ((i + 1 : Nat) : Int) by omega]
theorem upto_len : ∀ (n : Nat) (lo : Int), (upto lo n).length = n
  | 0, _ => rfl
  | n + 1, lo => by simp [upto, upto_len n]
theorem upto_st : ∀ (n : Nat) (lo : Int), D.stL (upto lo n) = true
  | 0, _ => rfl
  | n + 1, lo => by simp [upto, D.stL, D.st, upto_st n]
theorem rngC_get : ∀ (n : Nat) (lo c : Int) (i : Nat), i < n → (rngC lo c n)[i]? = some (.int (lo + i * c))
  | n + 1, lo, c, 0, _ => by simp [rngC]
  | n + 1, lo, c, i + 1, h => by
    simp only [rngC, List.getElem?_cons_succ]
    rw [rngC_get n (lo + c) c i (by omega)]
    have : lo + c + (i : Int) * c = lo + ((i + 1 : Nat) : Int) * c := by
      have : ((i + 1 : Nat) : Int) = (i : Int) + 1 := by omega
      rw [this, Int.add_mul]; omega
    rw [this]
theorem rngC_len : ∀ (n : Nat) (lo c : Int), (rngC lo c n).length = n
  | 0, _, _ => rfl
  | n + 1, lo, c => by simp [rngC, rngC_len n]
theorem rngC_st : ∀ (n : Nat) (lo c : Int), D.stL (rngC lo c n) = true
  | 0, _, _ => rfl
  | n + 1, lo, c => by simp [rngC, D.stL, D.st, rngC_st n]
theorem walkD_range {lo : Int} {n : Nat} : WalkD Z m0 H0 none (upto lo n) (Itr lo n) := by
  refine ⟨upto_st n lo, fun i m H h hi hr x so => ?_, fun m H h hr x so => ?_, fun i m H h y H' hi hr x so yl => ?_⟩
  · rw [upto_len] at hi; exact hi
  · rw [upto_len]; exact Nat.le_refl n
  · rw [upto_len] at hi
    obtain ⟨rfl, rfl⟩ := yl
    exact ⟨_, upto_get n lo i hi, hr, .refl, .int _⟩
theorem walkD_rangeC {lo c : Int} {n : Nat} : WalkD Z m0 H0 none (rngC lo c n) (Itc lo c n) := by
  refine ⟨rngC_st n lo c, fun i m H h hi hr x so => ?_, fun m H h hr x so => ?_, fun i m H h y H' hi hr x so yl => ?_⟩
  · rw [rngC_len] at hi; exact hi
  · rw [rngC_len]; exact Nat.le_refl n
  · rw [rngC_len] at hi
    obtain ⟨rfl, rfl⟩ := yl
    exact ⟨_, rngC_get n lo c i hi, hr, .refl, .int _⟩
theorem srcOf_ok (h : Hm) (d : D) : srcOk (srcOf h d) h = true := by
  cases d with
  | ref n =>
    simp only [srcOf]
    cases e : h[n]? with
    | none => rfl
    | some o => simp [srcOk, e]
  | _ => rfl
end

/-! ### an unnumbered list is written -/
section
variable {K : PySem.W.Frag} {m m' : List Addr} {H H' : Hp} {h h' : Hm} {p : Addr} {u u0 : HO}
theorem Ext.notIn (x : Ext m H m' H') {o : HO} (e : H p = some o) (n : p ∉ m) : p ∉ m' := fun hm => by
  obtain ⟨l, el, f⟩ := x.pre
  rw [el] at hm
  rcases List.mem_append.mp hm with hm | hm
  · exact n hm
  · rw [f p hm] at e; cases e
theorem Ext.upU (x : Ext m H m' H') (e : H p = none) : Ext m H m' (upd H' p u) :=
  ⟨x.pre, fun a o q n => by rw [upd_ne (ne_of_none q e)]; exact x.fr a o q n, fun a o w q => by rw [upd_ne (ne_of_none q e)]; exact x.fz a o w q⟩
theorem SqT.upU (e : H p = some u0) (hu : isReg u0 = true) {a : Addr} {xs : List V} (q : SqT K H a xs) : SqT K (upd H p u) a xs := by
  rcases q with (q | ⟨o, q⟩) | q
  · exact .inl (.inl (by rw [upd_ne (by intro z; subst z; rw [e] at q; cases q; cases hu)]; exact q))
  · exact .inl (.inr ⟨o, by rw [upd_ne (by intro z; subst z; rw [e] at q; cases q; cases hu)]; exact q⟩)
  · exact .inr q
theorem SqN.upU (e : H p = some u0) (hu : isReg u0 = true) {a : Addr} {xs : List V} (q : SqN K H a xs) : SqN K (upd H p u) a xs := by
  rcases q with ⟨o, q, n⟩ | q
  · exact .inl ⟨o, by rw [upd_ne (by intro z; subst z; rw [e] at q; cases q; cases hu)]; exact q, n⟩
  · exact .inr q
theorem SqF.upU (e : H p = some u0) (hu : isReg u0 = true) {a : Addr} {xs : List V} (q : SqF K H a xs) : SqF K (upd H p u) a xs := by
  rcases q with ⟨o, q⟩ | q
  · exact .inl ⟨o, by rw [upd_ne (by intro z; subst z; rw [e] at q; cases q; cases hu)]; exact q⟩
  · exact .inr q
mutual
theorem Rp.upU (e : H p = some u0) (hu : isReg u0 = true) : ∀ {v : V} {d : D}, D.st d = true → Rp K m H v d → Rp K m (upd H p u) v d
  | _, _, _, .non => .non
  | _, _, _, .bl b => .bl b
  | _, _, _, .int i => .int i
  | _, _, _, .str y => .str y
  | _, _, _, .tup q s t => .tup (SqN.upU e hu q) s (RpL.upU e hu s t)
  | _, _, _, .ref q => .ref q
  | _, _, z, .lv _ _ _ _ => by simp [D.st] at z
  | _, _, _, .fl q s t => .fl (SqF.upU e hu q) s (RpL.upU e hu s t)
theorem RpL.upU (e : H p = some u0) (hu : isReg u0 = true) : ∀ {v : List V} {d : List D}, D.stL d = true → RpL K m H v d → RpL K m (upd H p u) v d
  | _, _, _, .nil => .nil
  | _, _, z, .cons a t => .cons (Rp.upU e hu (by simp [D.stL] at z; exact z.1) a) (RpL.upU e hu (by simp [D.stL] at z; exact z.2) t)
end
theorem HRp.upU (r : HRp K m H h) (e : H p = some u0) (hu : isReg u0 = true) (n : p ∉ m) : HRp K m (upd H p u) h := by
  refine ⟨r.len, r.nd, fun k o a e1 e2 => ?_⟩
  have ne : a ≠ p := fun z => n (by subst z; exact List.mem_of_getElem? e2)
  cases r.at_ k o a e1 e2 with
  | lst q s t => exact .lst (by rw [upd_ne ne]; exact q) s (RpL.upU e hu s t)
  | dic q t => exact .dic (by rw [upd_ne ne]; exact q) ⟨t.1, t.2.1, RpL.upU e hu t.2.1 t.2.2⟩
  | frd q t => exact .frd (by rw [upd_ne ne]; exact q) ⟨t.1, t.2.1, RpL.upU e hu t.2.1 t.2.2⟩
end
theorem bnd_assoc {α β γ : Type} (r : R α) (f : α → Hm → R β) (g : β → Hm → R γ) : bnd (bnd r f) g = bnd r fun a h => bnd (f a h) g := by cases r <;> rfl
theorem bnd_ok' {α β : Type} {r : R α} {f : α → Hm → R β} {b : β} {h : Hm} (e : bnd r f = .ok b h) : ∃ a h1, r = .ok a h1 ∧ f a h1 = .ok b h := by
  cases r with
  | ok a h1 => exact ⟨a, h1, rfl, e⟩
  | ex _ _ _ => cases e
  | bad => cases e
theorem nox_ok {α : Type} {r : R α} {b : α} {h : Hm} (e : nox r = .ok b h) : r = .ok b h := by
  cases r with
  | ok a h1 => exact e
  | ex _ _ _ => cases e
  | bad => cases e
theorem nox_or {α : Type} (r : R α) : (∃ a h, nox r = .ok a h) ∨ nox r = .bad := by
  cases r with
  | ok a h1 => exact .inl ⟨a, h1, rfl⟩
  | ex _ _ _ => exact .inr rfl
  | bad => exact .inr rfl
theorem gd_ok {α : Type} {c : Bool} {r : R α} {b : α} {h : Hm} (e : gd c r = .ok b h) : c = true ∧ r = .ok b h := by
  cases c with
  | false => cases e
  | true => exact ⟨rfl, e⟩
theorem compL_or {step : D → Hm → R (Option D)} {src : Src} (hs : ∀ d h, (∃ a h', step d h = .ok a h') ∨ step d h = .bad) : ∀ (ds : List D) (h : Hm), (∃ rs h', compL step src ds h = .ok rs h') ∨ compL step src ds h = .bad
  | [], h => .inl ⟨[], h, rfl⟩
  | d :: ds, h => by
    rw [compL]
    rcases hs d h with ⟨a, h', e⟩ | e
    · rw [e, bnd_ok]
      cases srcOk src h' with
      | false => exact .inr rfl
      | true =>
        rw [gd_t]
        rcases compL_or hs ds h' with ⟨rs, h2, e2⟩ | e2
        · rw [e2]; exact .inl ⟨_, _, rfl⟩
        · rw [e2]; exact .inr rfl
    · rw [e]; exact .inr rfl
/-- [e for t in i if f] -/
theorem lc_of {Z : Wi} {W : WX} {σ : L2.St} {H : Hp} {Q : VK} {fI : Env → Hm → R (List D × Src)} {fF : Env → Hm → R Bool} {fE : Env → Hm → R D} {t : T} {vs : List Nat} (hv : ∀ i ∈ T.slots t, i ∈ vs)
    (p : tE Z W (fun ρ h => bnd (fI ρ h) fun (ds, src) h => bnd (compL (stepC fF fE t ρ vs) src ds h) fun rs h => gd (decide (rs.length < sizeLine)) (.ok (.lv rs) h)) σ H Q) :
    tLc (tI Z W fI) (tG Z.K t) (tT Z WF fF) (tE Z WF fE) vs σ H Q := by
  obtain ⟨m, ρ, h, s, p⟩ := p
  refine ⟨m, ρ, h, s, ?_⟩
  cases eI : fI ρ h with
  | bad => simp only [eI, bnd_bad] at p; exact p
  | ex c fs h1 => simp only [eI, bnd_ex] at p; exact p
  | ok a h1 =>
    obtain ⟨ds, src⟩ := a
    simp only [eI, bnd_ok] at p
    intro J H1 m1 hr1 x1 wd so1 L hL
    have s1 : StR Z.K m1 H1 h1 σ ρ := s.go hr1 x1
    have p := Pst.rebase (fun {v d} n => newV.back hr1 x1 n) x1 p
    have tot := compL_or (step := stepC fF fE t ρ vs) (src := src) (fun d h => nox_or _)
    refine ⟨fun i mm H => mm = ds.length - i ∧ i ≤ ds.length ∧ ∃ m h acc rs0, HRp Z.K m H h ∧ Ext m1 H1 m H ∧ srcOk src h = true ∧ H L = some (.lst acc) ∧ L ∉ m ∧ RpL Z.K m H acc rs0 ∧ D.stL rs0 = true ∧
      PV Z W σ m1 H1 (bnd (compL (stepC fF fE t ρ vs) src (ds.drop i) h) fun rs h => gd (decide ((rs0 ++ rs).length < sizeLine)) (.ok (.lv (rs0 ++ rs)) h)) Q, ⟨_, rfl, Nat.zero_le _, m1, h1, [], [], hr1.lay hL, Ext.lay hL, so1, upd_same, hr1.fresh hL, .nil, rfl, p⟩, ?_⟩
    rintro i mm H ⟨rfl, hi, m, h, acc, rs0, hr, x, so, eD, nD, ra, sa, pv⟩
    by_cases hlt : i < ds.length
    · refine .inr ⟨wd.go i m H h hlt hr x so, fun H' => i + 1 ≤ ds.length ∧ ∃ m h acc rs0, HRp Z.K m H' h ∧ Ext m1 H1 m H' ∧ srcOk src h = true ∧ H' L = some (.lst acc) ∧ L ∉ m ∧ RpL Z.K m H' acc rs0 ∧ D.stL rs0 = true ∧
        PV Z W σ m1 H1 (bnd (compL (stepC fF fE t ρ vs) src (ds.drop (i + 1)) h) fun rs h => gd (decide ((rs0 ++ rs).length < sizeLine)) (.ok (.lv (rs0 ++ rs)) h)) Q, fun H' q => ⟨ds.length - (i + 1), by omega, rfl, q⟩, fun y H2 yl => ?_⟩
      obtain ⟨d, ed, hr2, x2, rd⟩ := wd.yld i m H h y H2 hlt hr x so yl
      have std := stL_get wd.st ed
      rw [List.drop_eq_getElem_cons hlt, show ds[i] = d from Option.some.inj ((List.getElem?_eq_getElem hlt).symm.trans ed)] at pv
      rw [compL, bnd_assoc] at pv
      rcases nox_or (match asgT t d (wipeD ρ vs) with
        | some ρ' => bnd (fF ρ' h) fun k h => if k = true then bnd (fE ρ' h) fun x h => bnd (own x h) fun x h => .ok (some x) h else .ok none h
        | none => .bad) with ⟨r, h3, e3⟩ | e3
      rotate_left
      · have e3 : stepC fF fE t ρ vs d h = .bad := e3
        rw [e3, bnd_bad] at pv; exact pv.elim
      have e3' : stepC fF fE t ρ vs d h = .ok r h3 := e3
      rw [e3', bnd_ok] at pv
      have e3 := nox_ok e3
      cases so3 : srcOk src h3 with
      | false => rw [so3, gd_f, bnd_bad] at pv; exact pv.elim
      | true =>
        rw [so3, gd_t, bnd_assoc] at pv
        rcases tot (ds.drop (i + 1)) h3 with ⟨rs, h9, e9⟩ | e9
        rotate_left
        · rw [e9, bnd_bad] at pv; exact pv.elim
        rw [e9, bnd_ok, bnd_ok] at pv
        obtain ⟨hlen, pv⟩ := Pst.gd pv
        have hlen := of_decide_eq_true hlen
        cases ea : asgT t d (wipeD ρ vs) with
        | none => simp only [ea] at e3; cases e3
        | some ρ' =>
          simp only [ea] at e3
          obtain ⟨k, h4, e4, e3⟩ := bnd_ok' e3
          have xw : Ext m1 H1 m H2 := Ext.trans hr2 x x2
          refine ⟨m, wipeD ρ vs, h, d, ρ', ⟨hr2, (s1.en.ext s1.hr xw).wipe vs⟩, rd, std, ea, fun σ2 en2 sa2 => ⟨wipe_same sa2 hv, m, ρ', h, ⟨hr2, en2⟩, ?_⟩⟩
          show PB Z WF σ2 m H2 (fF ρ' h) _
          rw [e4]
          intro b H5 m5 hr5 x5 eb _
          subst eb
          have eD2 : H2 L = some (.lst acc) := x2.fr L _ eD nD
          have eD5 : H5 L = some (.lst acc) := x5.fr L _ eD2 nD
          have nD5 : L ∉ m5 := x5.notIn eD2 nD
          have ra5 := RpL.ext hr2 x5 (RpL.ext hr x2 ra)
          cases b with
          | false =>
            simp only [Bool.false_eq_true, if_false] at e3 ⊢
            cases e3
            refine ⟨hlt, m5, _, acc, rs0, hr5, Ext.trans hr5 xw x5, so3, eD5, nD5, ra5, sa, ?_⟩
            rw [e9, bnd_ok, decide_eq_true (by simpa using hlen)]
            exact pv
          | true =>
            simp only [if_true] at e3 ⊢
            obtain ⟨x6, h6, e6, e3⟩ := bnd_ok' e3
            obtain ⟨x7, h7, e7, e3⟩ := bnd_ok' e3
            cases e3
            refine ⟨m5, ρ', h4, ⟨hr5, en2.ext hr2 x5⟩, ?_⟩
            rw [e6]
            intro z H6 m6 hr6 xe6 rz nz
            have eD6 : H6 L = some (.lst acc) := xe6.fr L _ eD5 nD5
            obtain ⟨m7, d7, h7', eo, hr7, xe7, rz7, sz7, kp⟩ := PV.own hr6 xe6 rz nz
            rw [e7] at eo; cases eo
            have nD7 : L ∉ m7 := xe7.notIn eD5 nD5
            have ra7 := RpL.ext hr5 xe7 ra5
            simp only [List.length_append, List.length_cons] at hlen
            refine ⟨acc, eD6, by rw [ra.length]; omega, hlt, m7, h3, acc ++ [z], rs0 ++ [x7], hr7.upU eD6 rfl nD7, (Ext.trans hr7 (Ext.trans hr5 xw x5) xe7).upU hL, so3, upd_same, nD7, (RpL.upU eD6 rfl sa ra7).append (.one (Rp.upU eD6 rfl sz7 rz7)), by rw [stL_append, sa]; simp [D.stL, sz7], ?_⟩
            rw [e9, bnd_ok, decide_eq_true (by simp; omega), List.append_assoc]
            exact pv
    · have e : i = ds.length := by omega
      subst e
      refine .inl ⟨wd.stop m H h hr x so, ?_⟩
      rw [List.drop_length, compL, bnd_ok] at pv
      obtain ⟨_, pv⟩ := Pst.gd pv
      rw [List.append_nil] at pv
      exact pv (.ref L) H m hr x (.lv eD nD sa ra) fun ds a e1 e2 => by cases e2; exact hL
end Mi

set_option Elab.async false
set_option linter.all false
set_option maxRecDepth 100000
/-! Mini: the written expression and its tree. -/
namespace Mi
open PySem PySem.Spec PyProof.Rows L2
def okH : Expr → Bool
  | .Name _ _ => true
  | .Constant _ _ _ => true
  | .BinOp _ _ _ _ => true
  | .UnaryOp _ _ _ => true
  | .Compare _ _ _ _ => true
  | .BoolOp _ _ _ => true
  | .IfExp _ _ _ _ => true
  | .Tuple _ _ _ => true
  | .List _ _ => true
  | .Dict _ _ _ => true
  | .ListComp _ _ _ _ => true
  | .Subscript _ _ _ => true
  | .Call _ _ _ _ => true
  | _ => false
theorem okH_star {e : Expr} (h : okH e = true) : noStar e = true := by cases e <;> first | rfl | simp [okH] at h
theorem okH_mark {e : Expr} (op : CmpOp) (h : okH e = true) : behindInMarks op e = false := by cases e <;> first | rfl | simp [okH] at h
theorem okH_ix {e : Expr} (h : okH e = true) : PlainIx e := by intro o i; cases e <;> first | rfl | simp [okH] at h
theorem okH_set {e : Expr} (env : PySem.Env) (h : okH e = true) (x : Value) : foldedSetIterable e env x = pure x := by cases e <;> first | rfl | simp [okH] at h
def visB (sc : Scope) (x : Str) : Bool := match sc.names.lookup x with
  | some .local => true
  | some .cell => true
  | some .free => true
  | _ => false
def glB (sc : Scope) (x : Str) : Bool := match sc.names.lookup x with
  | some .globalImplicit => true
  | _ => false
def dbg (x : Str) : Bool := x == ("__debug__" : Str)
def cdc (x : Str) : Bool := x == ("__classdict__" : Str)
def mC : D → Expr → Bool
  | d, .Constant c _ _ => match c, d with
    | .int i, .int j => decide (i = j)
    | .bool b, .bl c => decide (b = c)
    | .none, .non => true
    | .str x, .str y => decide (x = y)
    | _, _ => false
  | _, _ => false
def mKs : List L2.Key → List (Option Expr) → Bool
  | [], [] => true
  | .inl i :: ks, some (.Constant (.int j) _ _) :: es => decide (i = j) && mKs ks es
  | .inr x :: ks, some (.Constant (.str y) _ _) :: es => decide (x = y) && mKs ks es
  | _, _ => false
def biName : Bi → Option Str
  | .len => some "len"
  | .abs => some "abs"
  | .int => some "int"
  | .str => some "str"
  | .repr => some "repr"
  | .tuple => some "tuple"
  | .list => some "list"
  | .sum => some "sum"
  | .all => some "all"
  | .sorted => some "sorted"
  | .max => some "max"
  | .min => some "min"
  | _ => none
def isName : Bi → Option Str
  | .isTuple => some "tuple"
  | .isInt => some "int"
  | .isStr => some "str"
  | .isBool => some "bool"
  | _ => none
def inB (l : List Str) (x : Str) : Bool := l.any fun y => decide (y = x)
/-- fit for a test -/
def tst : E → Bool
  | .ife _ _ _ => false
  | .not a => tst a
  | .and a b => tst a && tst b
  | .or a b => tst a && tst b
  | _ => true
def tsts : Es → Bool
  | .nil => true
  | .cons e es => tst e && tsts es
def isTg : Expr → Bool
  | .Tuple _ _ _ => true
  | _ => false
def kwsOk : List Str → List Keyword → Bool
  | [], [] => true
  | k :: ks, kw :: kws => decide (kw.arg = some k) && kwsOk ks kws
  | _, _ => false
mutual
def mE (T : Tb) (N : List Str) : E → Scope → Expr → Bool
  | .c d, _, x => mC d x
  | .v i, sc, x => match x with
    | .Name y _ => decide (N[i]? = some y) && visB sc y && !(dbg y) && !(cdc y)
    | _ => false
  | .g n, sc, x => match x with
    | .Name y _ => (match T.cns[n]? with
      | some (z, _) => decide (z = y)
      | none => false) && glB sc y && !(dbg y)
    | _ => false
  | .bin o a b, sc, x => match x with
    | .BinOp xa o' xb _ => decide (o' = o) && mE T N a sc xa && mE T N b sc xb
    | _ => false
  | .neg a, sc, x => match x with
    | .UnaryOp .USub xa _ => mE T N a sc xa
    | _ => false
  | .not a, sc, x => match x with
    | .UnaryOp .Not xa _ => mE T N a sc xa
    | _ => false
  | .cmp o a b, sc, x => match x with
    | .Compare xa [o'] [xb] _ => decide (o' = o) && okH xb && mE T N a sc xa && mE T N b sc xb
    | _ => false
  | .chain o p a b c, sc, x => match x with
    | .Compare xa [o', p'] [xb, xc] _ => decide (o' = o) && decide (p' = p) && okH xc && mE T N a sc xa && mE T N b sc xb && mE T N c sc xc
    | _ => false
  | .and a b, sc, x => match x with
    | .BoolOp .And (xa :: xb :: xs) p => mE T N a sc xa && (match xs with
      | [] => mE T N b sc xb
      | _ :: _ => mE T N b sc (.BoolOp .And (xb :: xs) p))
    | _ => false
  | .or a b, sc, x => match x with
    | .BoolOp .Or (xa :: xb :: xs) p => mE T N a sc xa && (match xs with
      | [] => mE T N b sc xb
      | _ :: _ => mE T N b sc (.BoolOp .Or (xb :: xs) p))
    | _ => false
  | .ife t a b, sc, x => match x with
    | .IfExp xt xa xb _ => tst t && mE T N t sc xt && mE T N a sc xa && mE T N b sc xb
    | _ => false
  | .tup es, sc, x => match x with
    | .Tuple xs _ _ => mEs T N es sc xs
    | _ => false
  | .lst es, sc, x => match x with
    | .List xs _ => mEs T N es sc xs
    | _ => false
  | .dic ks es, sc, x => match x with
    | .Dict keys xs _ => mKs ks keys && decide (ks.length ≤ 15) && decide (xs.length = ks.length) && decide ks.Nodup && mEs T N es sc xs
    | _ => false
  | .dic1 es, sc, x => match x with
    | .Dict [some xk] [xv] _ => mEs T N es sc [xk, xv]
    | _ => false
  | .comp e t i fs w, sc, x => match x with
    | .ListComp xe gens scope _ => match gens with
      | [⟨tg, iter, ifs, n⟩] => decide (n = 0) && okH iter && mI T N i sc tg iter && blkC N sc scope w && mE T N e (relS scope sc) xe && mT N (relS scope sc) (fun y => scope.names.lookup y == some .cell) t tg && mEs T N fs (relS scope sc) ifs &&
          decide (ifs.length ≤ 1) && tsts fs && t.slots.all fun i => (w.map (·.2)).contains i
      | _ => false
    | _ => false
  | .ix a i, sc, x => match x with
    | .Subscript xa xi _ => okH xi && mE T N a sc xa && mE T N i sc xi
    | _ => false
  | .sl a lo hi, sc, x => match x with
    | .Subscript xa (.Slice lo' hi' none _) _ => mE T N a sc xa && mO T N lo sc lo' && mO T N hi sc hi'
    | _ => false
  | .rev a, sc, x => match x with
    | .Subscript xa (.Slice none none (some (.UnaryOp .USub (.Constant (.int i) _ _) _)) _) _ => decide (i = 1) && mE T N a sc xa
    | _ => false
  | .call f es, sc, x => match x with
    | .Call (.Name y _) xs [] _ => (match T.fns[f]? with
      | some (z, ps) => decide (z = y) && decide (xs.length = ps.length)
      | none => false) && glB sc y && !(dbg y) && mEs T N es sc xs
    | _ => false
  | .callk f es kes pm, sc, x => match x with
    | .Call (.Name y _) xs kws _ => (match T.fns[f]? with
      | some (z, ps) => decide (z = y)
      | none => false) && glB sc y && !(dbg y) && mEs T N es sc xs && mEs T N kes sc (kws.map (·.value)) && kws.all (fun k => k.arg.isSome) && T.kws.any (fun q => decide (q = (f, xs.length, kws.filterMap (·.arg), pm)))
    | _ => false
  | .bi f es, sc, x => match x with
    | .Call (.Name y _) xs kws _ => decide (kws.length = 0) && glB sc y && inB T.bts y && (match biName f with
      | some z => decide (z = y) && decide (0 < xs.length) && mEs T N es sc xs
      | none => match isName f with
        | some z => decide (y = "isinstance") && (match xs with
          | [xa, .Name t _] => decide (t = z) && glB sc t && inB T.bts t && okH xa && (match es with
            | .cons e .nil => mE T N e sc xa
            | _ => false)
          | _ => false)
        | none => (match f with
          | .lrange => (match xs with
            | [.Call (.Name r _) ys ks _] => decide (y = "list") && decide (r = "range") && decide (ks.length = 0) && glB sc r && inB T.bts r && decide (0 < ys.length) && decide (ys.length ≤ 2) && mEs T N es sc ys
            | _ => false)
          | _ => false))
    | _ => false
  | .me f o es, sc, x => match x with
    | .Call (.Attribute xo nm apos) xs [] cpos => decide (meName f = some nm) && notSuper xo && decide (xs.length < 29) && (apos.endLine == cpos.line) && mE T N o sc xo && mEs T N es sc xs
    | _ => false
def mEs (T : Tb) (N : List Str) : Es → Scope → List Expr → Bool
  | .nil, _, xs => match xs with
    | [] => true
    | _ => false
  | .cons e es, sc, xs => match xs with
    | x :: xs => okH x && mE T N e sc x && mEs T N es sc xs
    | [] => false
def mO (T : Tb) (N : List Str) : Oe → Scope → Option Expr → Bool
  | .no, _, x => match x with
    | none => true
    | some _ => false
  | .so e, sc, x => match x with
    | some x => mE T N e sc x
    | none => false
def mI (T : Tb) (N : List Str) : I → Scope → Expr → Expr → Bool
  | .of e, sc, _, x => mE T N e sc x
  | .keys e, sc, _, x => mE T N e sc x
  | .rng es, sc, _, x => match x with
    | .Call (.Name y _) xs kws _ => decide (kws.length = 0) && decide (y = "range") && decide (0 < xs.length) && decide (xs.length ≤ 3) && glB sc y && inB T.bts y && mEs T N es sc xs
    | _ => false
  | .enum e, sc, tg, x => match x with
    | .Call (.Name y _) [x] kws _ => decide (kws.length = 0) && decide (y = "enumerate") && glB sc y && inB T.bts y && isTg tg && okH x && mE T N e sc x
    | _ => false
  | .zip a b, sc, tg, x => match x with
    | .Call (.Name y _) [xa, xb] kws _ => decide (kws.length = 0) && decide (y = "zip") && glB sc y && inB T.bts y && isTg tg && okH xa && okH xb && mE T N a sc xa && mE T N b sc xb
    | _ => false
  | .items _, _, _, _ => false
  | .vals _, _, _, _ => false
end
end Mi

set_option Elab.async false
set_option linter.all false
set_option maxRecDepth 100000
/-! Mini: a tree's reading is the written expression's. -/
namespace Mi
open PySem PySem.Spec PyProof.Rows L2
theorem Vals.pick {vs : List V} {us : List Value} (r : Vals vs us) : ∀ (pm : List Nat), (∀ j ∈ pm, j < us.length) → Vals (pm.map fun j => vs.getD j .non) (pm.map fun j => us.getD j .none)
  | [], _ => .nil
  | j :: pm, h => by
    refine .cons ?_ (Vals.pick r pm fun j hj => h j (List.mem_cons_of_mem _ hj))
    have hj := h j List.mem_cons_self
    clear h
    induction r generalizing j with
    | nil => simp at hj
    | cons a t ih =>
      cases j with
      | zero => simpa using a
      | succ j => simpa using ih j (by simpa using hj)
theorem RpL.pick {K : PySem.W.Frag} {m : List Addr} {H : Hp} {vs : List V} {ds : List D} (r : RpL K m H vs ds) : ∀ (pm : List Nat), (∀ j ∈ pm, j < ds.length) → RpL K m H (pm.map fun j => vs.getD j .non) (pm.map fun j => ds.getD j default)
  | [], _ => .nil
  | j :: pm, h => by
    refine .cons ?_ (RpL.pick r pm fun j hj => h j (List.mem_cons_of_mem _ hj))
    have hj := h j List.mem_cons_self
    obtain ⟨v, h1, h2⟩ := r.get (List.getElem?_eq_getElem hj)
    show Rp K m H (vs.getD j .non) (ds.getD j default)
    rw [List.getD_eq_getElem?_getD, List.getD_eq_getElem?_getD, h1, List.getElem?_eq_getElem hj]
    exact h2
theorem stL_pick {ds : List D} (s : D.stL ds = true) (pm : List Nat) (h : ∀ j ∈ pm, j < ds.length) : D.stL (pm.map fun j => ds.getD j default) = true := by
  rw [stL_iff]
  intro d hd
  obtain ⟨j, hj, rfl⟩ := List.mem_map.mp hd
  show D.st (ds.getD j default) = true
  rw [List.getD_eq_getElem?_getD, List.getElem?_eq_getElem (h j hj)]
  exact (stL_iff ds).mp s _ (List.getElem_mem _)
theorem mergeK_new : ∀ {more acc : List (L2.Key × V)}, (∀ k ∈ more.map (·.1), k ∉ acc.map (·.1)) → (more.map (·.1)).Nodup → mergeK acc more = acc ++ more
  | [], acc, _, _ => by simp [mergeK]
  | p :: r, acc, h, n => by
    have e : L2.putK acc p.1 p.2 = acc ++ [p] := by
      unfold L2.putK
      rw [if_neg]
      simp only [List.any_eq_true, decide_eq_true_eq, not_exists, not_and]
      intro q hq e
      exact h p.1 (by simp) (by rw [← e]; exact List.mem_map_of_mem hq)
    simp only [List.map_cons, List.nodup_cons] at n
    show mergeK (L2.putK acc p.1 p.2) r = _
    rw [e, mergeK_new (fun k hk => by
      simp only [List.map_append, List.map_cons, List.map_nil, List.mem_append, List.mem_singleton, not_or]
      exact ⟨h k (by simp only [List.map_cons, List.mem_cons]; exact .inr hk), fun z => n.1 (by rw [← z]; exact hk)⟩) n.2, List.append_assoc]
    rfl
section
variable {X : Cx} {sc : Scope} {y : Str}
theorem vis_of (hsc : X.env.scope = sc) (h : visB sc y = true) : Vis X.env.scope y := by
  subst hsc
  unfold visB at h
  split at h
  · rename_i e; exact .inl e
  · rename_i e; exact .inr (.inl e)
  · rename_i e; exact .inr (.inr e)
  · cases h
theorem gl_of (hsc : X.env.scope = sc) (h : glB sc y = true) : Gl X y := by
  subst hsc
  unfold glB at h
  split at h
  · rename_i e; exact e
  · cases h
theorem nb {b : Bool} (h : (!b) = true) : b = false := by cases b <;> simp_all
theorem inB_mem {l : List Str} (h : inB l y = true) : y ∈ l := by
  unfold inB at h
  simp only [List.any_eq_true, decide_eq_true_eq] at h
  obtain ⟨z, h1, h2⟩ := h
  exact h2 ▸ h1
end
section
variable {T : Tb} {Z : Wi} {W : WX} {Γ : Gm} {G : Nat → Option D} {X : Cx} {σ : L2.St} {m : List Addr} {H : Hp} {h : Hm} {ρ : Env}
theorem PV.val {d : D} {v : V} {Q : VK} (p : PV Z W σ m H (.ok d h) Q) (r : HRp Z.K m H h) (q : Rp Z.K m H v d) (s : D.st d = true) : Q v H := p v H m r .refl q (newV_st s)
theorem l_var (g : Good T Z W Γ G X) {i : Nat} {y : Str} {p : Pos} (hN : X.N[i]? = some y) (hv : Vis X.env.scope y) (h1 : dbg y = false) (h2 : cdc y = false) : PE X (.Name y p) (tE Z W (ev Γ G (.v i))) := by
  refine PE.of (pe_var hN hv h1 h2) fun σ H Q ⟨m, ρ, h, s, q⟩ => ?_
  simp only [ev] at q
  split at q
  · rename_i d e
    obtain ⟨st, v, ev, rv⟩ := s.en.at_ i d e
    exact ⟨v, ev, q.val s.hr rv st⟩
  · exact q.elim
theorem l_c (d : D) (x : Expr) (hm : mC d x = true) : PE X x (tE Z W (ev Γ G (.c d))) := by
  have fin : ∀ {v : V}, D.st d = true → (∀ m H, Rp Z.K m H v d) → PE X x (tC v) → PE X x (tE Z W (ev Γ G (.c d))) := fun st r p =>
    PE.of p fun σ H Q ⟨m, ρ, h, s, q⟩ => by simp only [ev] at q; exact q.val s.hr (r m H) st
  cases x with
  | Constant c k p =>
    cases c <;> cases d <;> first
      | (simp [mC] at hm; done)
      | skip
    · exact fin rfl (fun _ _ => .non) pe_non
    · rename_i a b
      have e : a = b := by simpa [mC] using hm
      subst e
      exact fin rfl (fun _ _ => .bl a) pe_bl
    · rename_i a b
      have e : a = b := by simpa [mC] using hm
      subst e
      exact fin rfl (fun _ _ => .int a) pe_int
    · rename_i a b
      have e : a = b := by simpa [mC] using hm
      subst e
      exact fin rfl (fun _ _ => .str a) pe_str
  | _ => simp [mC] at hm
theorem l_g (g : Good T Z W Γ G X) {i : Nat} {y : Str} {d : D} {p : Pos} (hc : T.cns[i]? = some (y, d)) (hg : Gl X y) (h1 : dbg y = false) : PE X (.Name y p) (tE Z W (ev Γ G (.g i))) := by
  obtain ⟨e, st, u, v, hm, r, rp⟩ := g.cns i y d hc
  refine PE.of (pe_glob hg hm r h1) fun σ H Q ⟨m, ρ, h, s, q⟩ => ?_
  simp only [ev, e, opt_some] at q
  exact q.val s.hr (by rw [← g.k]; exact rp m H) st
theorem l_bin (g : Good T Z W Γ G X) {a b : E} {xa xb : Expr} {o : Operator} {p : Pos} (ha : PE X xa (tE Z W (ev Γ G a))) (hb : PE X xb (tE Z W (ev Γ G b))) : PE X (.BinOp xa o xb p) (tE Z W (ev Γ G (.bin o a b))) := by
  have ho : OpR X (binaryOp o) (rBin Z.K o) := by rw [← g.k]; exact op_bin o
  refine PE.of (pe_op ho ha hb) fun σ H Q ⟨m, ρ, h, s, q⟩ => ?_
  simp only [ev] at q
  exact tE_bnd nbV s q fun x H1 m1 d h1 s1 x1 r1 n1 q1 => tE_bnd nbV s1 q1 fun y H2 m2 d2 h2 s2 x2 r2 n2 q2 => by
    obtain ⟨z, e, q2⟩ := Pst.opt q2
    exact ⟨m2, h2, d, d2, z, s2.hr, Rp.ext s1.hr x2 r1, r2, e, PV.fin q2⟩
theorem l_neg {a : E} {xa : Expr} {p : Pos} (ha : PE X xa (tE Z W (ev Γ G a))) : PE X (.UnaryOp .USub xa p) (tE Z W (ev Γ G (.neg a))) := by
  refine PE.of (pe_un un_neg ha) fun σ H Q ⟨m, ρ, h, s, q⟩ => ?_
  simp only [ev] at q
  exact tE_bnd nbV s q fun x H1 m1 d h1 s1 x1 r1 n1 q1 => by
    cases d with
    | int i =>
      cases r1
      exact ⟨i, rfl, PV.val q1 s1.hr (.int _) rfl⟩
    | _ => exact q1.elim
theorem l_cmp (g : Good T Z W Γ G X) {a b : E} {xa xb : Expr} {o : CmpOp} {p : Pos} (hok : okH xb = true) (ha : PE X xa (tE Z W (ev Γ G a))) (hb : PE X xb (tE Z W (ev Γ G b))) :
    PE X (.Compare xa [o] [xb] p) (tE Z W (ev Γ G (.cmp o a b))) ∧ PT X (.Compare xa [o] [xb] p) (tT Z W (truF (ev Γ G (.cmp o a b)))) := by
  have ho : OpR X (compareOp o) (rCmp Z.K o) := by rw [← g.k]; exact op_cmp g.un o
  refine ⟨PE.of (pe_cmpR ho ha hb (okH_mark o hok)) fun σ H Q ⟨m, ρ, h, s, q⟩ => ?_, PT.of (pt_cmpR ho ha hb (okH_mark o hok)) fun σ H Q ⟨m, ρ, h, s, q⟩ => ?_⟩
  · simp only [ev] at q
    exact tE_bnd nbV s q fun x H1 m1 d h1 s1 x1 r1 n1 q1 => tE_bnd nbV s1 q1 fun y H2 m2 d2 h2 s2 x2 r2 n2 q2 => by
      obtain ⟨z, e, q2⟩ := Pst.opt q2
      obtain ⟨b, e', rfl⟩ := Option.map_eq_some_iff.mp e
      exact ⟨m2, h2, d, d2, b, s2.hr, Rp.ext s1.hr x2 r1, r2, e', PV.val q2 s2.hr (.bl b) rfl⟩
  · simp only [truF, ev, bnd_assoc] at q
    exact tE_bnd (fun {_ _ _} a b {_ _} n => trivial) s q fun x H1 m1 d h1 s1 x1 r1 n1 q1 => tE_bnd (fun {_ _ _} a b {_ _} n => trivial) s1 q1 fun y H2 m2 d2 h2 s2 x2 r2 n2 q2 => by
      cases e : cmpD h2 o d d2 with
      | none => rw [e] at q2; exact q2.elim
      | some b =>
        rw [e] at q2
        exact ⟨m2, h2, d, d2, b, s2.hr, Rp.ext s1.hr x2 r1, r2, e, b, rfl, q2 b H2 m2 s2.hr .refl rfl trivial⟩
theorem l_not {a : E} {xa : Expr} {p : Pos} (ha : PT X xa (tT Z W (truF (ev Γ G a)))) (ha' : PE X xa (tE Z W (ev Γ G a))) : PT X (.UnaryOp .Not xa p) (tT Z W (truF (ev Γ G (.not a)))) := by
  refine PT.of (pt_not ha) fun σ H Q ⟨m, ρ, h, s, q⟩ => ?_
  refine ⟨m, ρ, h, s, ?_⟩
  simp only [truF, ev, bnd_assoc] at q ⊢
  cases e : ev Γ G a ρ h with
  | bad => rw [e] at q; exact q
  | ex c fs h1 => rw [e] at q; exact q
  | ok d h1 =>
    simp only [e, bnd_ok] at q ⊢
    cases e2 : truth h1 d with
    | none => rw [e2] at q; exact q.elim
    | some b =>
      simp only [e2, Option.map_some, opt_some, bnd_ok] at q ⊢
      have q : PB Z W σ m H (.ok (!b) h1) Q := q
      exact fun v H' m' a b c n => by subst c; exact q _ H' m' a b rfl trivial
theorem l_chain (g : Good T Z W Γ G X) {a b c : E} {xa xb xc : Expr} {o o' : CmpOp} {p : Pos} (hok : okH xc = true) (ha : PE X xa (tE Z W (ev Γ G a))) (hb : PE X xb (tE Z W (ev Γ G b))) (hc : PE X xc (tE Z W (ev Γ G c))) :
    PE X (.Compare xa [o, o'] [xb, xc] p) (tE Z W (ev Γ G (.chain o o' a b c))) ∧ PT X (.Compare xa [o, o'] [xb, xc] p) (tT Z W (truF (ev Γ G (.chain o o' a b c)))) := by
  have ho : ∀ o, OpR X (compareOp o) (rCmp Z.K o) := fun o => by rw [← g.k]; exact op_cmp g.un o
  have hm : lastMarks [o, o'] [xb, xc] = false := okH_mark o' hok
  refine ⟨PE.of (pe_chain (ho o) (ho o') ha hb hc hm) fun σ H Q ⟨m, ρ, h, s, q⟩ => ?_, PT.of (pt_chain (ho o) (ho o') ha hb hc hm) fun σ H Q ⟨m, ρ, h, s, q⟩ => ?_⟩
  · simp only [ev] at q
    exact tE_bnd nbV s q fun x H1 m1 d h1 s1 x1 r1 n1 q1 => tE_bnd nbV s1 q1 fun y H2 m2 d2 h2 s2 x2 r2 n2 q2 => by
      cases e : cmpD h2 o d d2 with
      | none => rw [e] at q2; exact q2.elim
      | some k =>
        rw [e, opt_some, bnd_ok] at q2
        refine ⟨m2, h2, d, d2, k, s2.hr, Rp.ext s1.hr x2 r1, r2, e, k, rfl, ?_⟩
        cases k with
        | false => exact PV.val q2 s2.hr (.bl false) rfl
        | true =>
          exact tE_bnd nbV s2 q2 fun z H3 m3 d3 h3 s3 x3 r3 n3 q3 => by
            obtain ⟨z, e, q3⟩ := Pst.opt q3
            obtain ⟨b, e', rfl⟩ := Option.map_eq_some_iff.mp e
            exact ⟨m3, h3, d2, d3, b, s3.hr, Rp.ext s2.hr x3 r2, r3, e', PV.val q3 s3.hr (.bl b) rfl⟩
  · simp only [truF, ev, bnd_assoc] at q
    exact tE_bnd (fun {_ _ _} a b {_ _} n => trivial) s q fun x H1 m1 d h1 s1 x1 r1 n1 q1 => tE_bnd (fun {_ _ _} a b {_ _} n => trivial) s1 q1 fun y H2 m2 d2 h2 s2 x2 r2 n2 q2 => by
      cases e : cmpD h2 o d d2 with
      | none => rw [e] at q2; exact q2.elim
      | some k =>
        rw [e, opt_some, bnd_ok] at q2
        refine ⟨m2, h2, d, d2, k, s2.hr, Rp.ext s1.hr x2 r1, r2, e, k, rfl, ?_⟩
        cases k with
        | false => exact ⟨false, rfl, q2 false H2 m2 s2.hr .refl rfl trivial⟩
        | true =>
          simp only [if_true, bnd_assoc] at q2
          exact tE_bnd (fun {_ _ _} a b {_ _} n => trivial) s2 q2 fun z H3 m3 d3 h3 s3 x3 r3 n3 q3 => by
            cases e : cmpD h3 o' d2 d3 with
            | none => rw [e] at q3; exact q3.elim
            | some b =>
              rw [e] at q3
              exact ⟨m3, h3, d2, d3, b, s3.hr, Rp.ext s2.hr x3 r2, r3, e, b, rfl, q3 b H3 m3 s3.hr .refl rfl trivial⟩
/-- the test of a value, of no special form -/
theorem l_truth (g : Good T Z W Γ G X) {a : E} {xa : Expr} (ha : PE X xa (tE Z W (ev Γ G a))) (he : ∀ whole, isTrue xa X.env whole = (do let v ← whole; standAt xa.pos; holding [v] (truthy v))) : PT X xa (tT Z W (truF (ev Γ G a))) := by
  refine PT.of (pt_truth ha he) fun σ H Q ⟨m, ρ, h, s, q⟩ => ?_
  simp only [truF] at q
  exact tE_bnd (fun {_ _ _} a b {_ _} n => trivial) s q fun x H1 m1 d h1 s1 x1 r1 n1 q1 => by
    obtain ⟨b, e, q1⟩ := Pst.opt q1
    exact ⟨b, by rw [g.k]; exact truth_view s1.hr r1 e, q1 b H1 m1 s1.hr .refl rfl trivial⟩
theorem pt_pw {op : BoolOp} {xs : List Expr} {p : Pos} {t : TT} (h : PT X (.BoolOp op xs p) t) : PW X (.BoolOp op xs p) t := ⟨fun wh pins s σ H Q I q => h.run pins s σ H Q I q⟩
theorem PW.of {e : Expr} {t t' : TT} (p : PW X e t) (h : ∀ σ H Q, t' σ H Q → t σ H Q) : PW X e t' := ⟨fun wh pins s σ H Q I q => p.run wh pins s σ H Q I (h σ H Q q)⟩
theorem l_andV {a b : E} (σ : L2.St) (H : Hp) (Q : VK) (q : tE Z W (ev Γ G (.and a b)) σ H Q) : tAndV (tE Z W (ev Γ G a)) (tE Z W (ev Γ G b)) σ H Q := by
  obtain ⟨m, ρ, h, s, q⟩ := q
  simp only [ev] at q
  exact tE_bnd nbV s q fun x H1 m1 d h1 s1 x1 r1 n1 q1 => by
    cases d with
    | bl k =>
      cases r1
      refine ⟨k, rfl, ?_⟩
      cases k with
      | true => exact ⟨m1, ρ, h1, s1, q1⟩
      | false => exact PV.val q1 s1.hr (.bl false) rfl
    | _ => exact q1.elim
theorem l_orV {a b : E} (σ : L2.St) (H : Hp) (Q : VK) (q : tE Z W (ev Γ G (.or a b)) σ H Q) : tOrV (tE Z W (ev Γ G a)) (tE Z W (ev Γ G b)) σ H Q := by
  obtain ⟨m, ρ, h, s, q⟩ := q
  simp only [ev] at q
  exact tE_bnd nbV s q fun x H1 m1 d h1 s1 x1 r1 n1 q1 => by
    cases d with
    | bl k =>
      cases r1
      refine ⟨k, rfl, ?_⟩
      cases k with
      | false => exact ⟨m1, ρ, h1, s1, q1⟩
      | true => exact PV.val q1 s1.hr (.bl true) rfl
    | _ => exact q1.elim
theorem l_andT {a b : E} (σ : L2.St) (H : Hp) (Q : Bool → Hp → Prop) (q : tT Z W (truF (ev Γ G (.and a b))) σ H Q) : tAnd (tT Z W (truF (ev Γ G a))) (tT Z W (truF (ev Γ G b))) σ H Q := by
  obtain ⟨m, ρ, h, s, q⟩ := q
  simp only [truF, ev, bnd_assoc] at q
  refine ⟨m, ρ, h, s, ?_⟩
  simp only [truF]
  cases e : ev Γ G a ρ h with
  | bad => rw [e] at q; exact q
  | ex c fs h1 => rw [e] at q; exact q
  | ok d h1 =>
    simp only [e, bnd_ok] at q ⊢
    cases d with
    | bl k =>
      intro v H' m' hr x c n
      have c : v = k := c
      subst c
      cases v with
      | true => exact ⟨m', ρ, h1, s.go hr x, Pst.rebase (fun {_ _} _ => trivial) x q⟩
      | false => exact q false H' m' hr x rfl trivial
    | _ => exact q.elim
theorem l_orT {a b : E} (σ : L2.St) (H : Hp) (Q : Bool → Hp → Prop) (q : tT Z W (truF (ev Γ G (.or a b))) σ H Q) : tOr (tT Z W (truF (ev Γ G a))) (tT Z W (truF (ev Γ G b))) σ H Q := by
  obtain ⟨m, ρ, h, s, q⟩ := q
  simp only [truF, ev, bnd_assoc] at q
  refine ⟨m, ρ, h, s, ?_⟩
  simp only [truF]
  cases e : ev Γ G a ρ h with
  | bad => rw [e] at q; exact q
  | ex c fs h1 => rw [e] at q; exact q
  | ok d h1 =>
    simp only [e, bnd_ok] at q ⊢
    cases d with
    | bl k =>
      intro v H' m' hr x c n
      have c : v = k := c
      subst c
      cases v with
      | false => exact ⟨m', ρ, h1, s.go hr x, Pst.rebase (fun {_ _} _ => trivial) x q⟩
      | true => exact q true H' m' hr x rfl trivial
    | _ => exact q.elim
theorem l_ife (g : Good T Z W Γ G X) {t a b : E} {xt xa xb : Expr} {p : Pos} (ht : PT X xt (tT Z W (truF (ev Γ G t)))) (ha : PE X xa (tE Z W (ev Γ G a))) (hb : PE X xb (tE Z W (ev Γ G b))) : PE X (.IfExp xt xa xb p) (tE Z W (ev Γ G (.ife t a b))) := by
  refine PE.of (pe_ifExp ht ha hb) fun σ H Q ⟨m, ρ, h, s, q⟩ => ?_
  simp only [ev] at q
  rw [← bnd_assoc] at q
  exact tT_bnd nbV s q fun k H1 m1 h1 s1 x1 q1 => by
    cases k with
    | true => exact ⟨m1, ρ, h1, s1, q1⟩
    | false => exact ⟨m1, ρ, h1, s1, q1⟩
end
end Mi

set_option Elab.async false
set_option linter.all false
set_option maxRecDepth 100000
/-! Mini: displays, places, calls. -/
namespace Mi
open PySem PySem.Spec PyProof.Rows L2
theorem meD_ex (h : Hm) (f : Me) (d : D) (ds : List D) (c : Str) (fs : List (Str × D)) (h3 : Hm) : meD h f d ds ≠ .ex c fs h3 := by
  intro e
  have op : ∀ {o : Option D} {h h3 : Hm}, opt o h ≠ .ex c fs h3 := fun {o h h3} e => by cases o <;> cases e
  unfold meD getD meL at e
  repeat' (split at e)
  all_goals try exact op e
  all_goals first | cases e | skip
section
variable {T : Tb} {Z : Wi} {W : WX} {Γ : Gm} {G : Nat → Option D} {X : Cx} {σ : L2.St} {m : List Addr} {H : Hp} {h : Hm} {ρ : Env}
theorem PV.fin' {h' : Hm} {d : D} {Q : VK} (p : PV Z W σ m H (.ok d h') Q) : FinM Z.K m H (.ok d h') Q := fun v H' m' a b c n => p v H' m' a b c n
theorem l_not' (g : Good T Z W Γ G X) {a : E} {xa : Expr} {p : Pos} (ha : PE X xa (tE Z W (ev Γ G a))) : PE X (.UnaryOp .Not xa p) (tE Z W (ev Γ G (.not a))) := by
  refine ⟨fun pins s σ H Q I h => ?_⟩
  obtain ⟨m, ρ, h, st, q⟩ := h
  simp only [ev] at q
  refine UnaryOp_ (thn (ha.run pins s σ H (fun x H1 => ∃ b, TruV X.K x H1 b ∧ Q (.bl (!b)) H1) I (tE_bnd nbV st q fun x H1 m1 d h1 s1 x1 r1 n1 q1 => ?_)) fun v s1 ⟨x, H1, I1, r1, b, tv, q1⟩ => ?_)
  · obtain ⟨z, e, q1⟩ := Pst.opt q1
    obtain ⟨b, e', rfl⟩ := Option.map_eq_some_iff.mp e
    exact ⟨b, by rw [g.k]; exact truth_view s1.hr r1 e', PV.val q1 s1.hr (.bl _) rfl⟩
  · exact not_of (thn (tru_ok pins s1 σ H1 x v (fun c H2 => Q (.bl (!c)) H2) I1 r1 ⟨b, tv, q1⟩) fun c s2 ⟨H2, I2, q2⟩ => ⟨.bl (!c), H2, I2, rfl, q2⟩)
theorem EnvR.more {K : PySem.W.Frag} {m m' : List Addr} {H : Hp} (e : EnvR K m H σ ρ) (kp : ∀ d v, D.st d = true → Rp K m H v d → Rp K m' H v d) : EnvR K m' H σ ρ :=
  ⟨e.len, fun i d q => let ⟨a, v, b, c⟩ := e.at_ i d q; ⟨a, v, b, kp d v a c⟩⟩
/-- .. and the value gets a place -/
theorem tE_own {β : Type} {γ : Type} {rel2 : List Addr → Hp → γ → β → Prop} {new2 : Hp → γ → β → Prop} {f : Env → Hm → R D} {k : D → Hm → R β} {Q : γ → Hp → Prop} {Q' : VK} (nb : ∀ {m' H' h'} , HRp Z.K m' H' h' → Ext m H m' H' → ∀ {v d}, new2 H' v d → new2 H v d) (s : StR Z.K m H h σ ρ) (p : Pst Z W σ rel2 new2 m H (bnd (f ρ h) fun d h => bnd (own d h) k) Q)
    (go : ∀ v H1 m1 d h1, StR Z.K m1 H1 h1 σ ρ → Ext m H m1 H1 → Rp Z.K m1 H1 v d → D.st d = true → Pst Z W σ rel2 new2 m1 H1 (k d h1) Q → Q' v H1) : tE Z W f σ H Q' := by
  refine ⟨m, ρ, h, s, ?_⟩
  cases e : f ρ h with
  | bad => rw [e] at p; exact p
  | ex c fs h1 => rw [e] at p; exact p
  | ok d h1 =>
    rw [e, bnd_ok] at p
    intro v H1 m1 hr x r n
    obtain ⟨m', d', h', eo, hr', xe', r', st', kp⟩ := PV.own hr x r n
    rw [eo, bnd_ok] at p
    exact go v H1 m' d' h' ⟨hr', (s.en.ext s.hr x).more fun d v a b => kp d v a b⟩ xe' r' st' (Pst.rebase (nb hr' xe') xe' p)
/-! ### lists of arguments -/
def RpLs (K : PySem.W.Frag) (m : List Addr) (H : Hp) (vs : List V) (ds : List D) : Prop := RpL K m H vs ds ∧ D.stL ds = true
def tAs (Z : Wi) (W : WX) (f : Env → Hm → R (List D)) : TA := fun σ H Q => ∃ m ρ h, StR Z.K m H h σ ρ ∧ Pst Z W σ (RpLs Z.K) (fun _ _ _ => True) m H (f ρ h) Q
def tAp (Z : Wi) (W : WX) (f : Env → Hm → R (List D)) : TA := fun σ H Q => ∃ m ρ h, StR Z.K m H h σ ρ ∧ Pst Z W σ (RpL Z.K) (fun _ _ _ => True) m H (f ρ h) Q
theorem nbT {β γ : Type} : ∀ {m' : List Addr} {H' : Hp} {h' : Hm}, HRp Z.K m' H' h' → Ext m H m' H' → ∀ {v : γ} {d : β}, (fun (_ : Hp) (_ : γ) (_ : β) => True) H' v d → (fun (_ : Hp) (_ : γ) (_ : β) => True) H v d := fun {_ _ _} _ _ {_ _} _ => trivial
theorem tAs_bnd {β : Type} {γ : Type} {rel2 : List Addr → Hp → γ → β → Prop} {new2 : Hp → γ → β → Prop} {f : Env → Hm → R (List D)} {k : List D → Hm → R β} {Q : γ → Hp → Prop} {Q' : List V → Hp → Prop} (nb : ∀ {m' H' h'} , HRp Z.K m' H' h' → Ext m H m' H' → ∀ {v d}, new2 H' v d → new2 H v d) (s : StR Z.K m H h σ ρ) (p : Pst Z W σ rel2 new2 m H (bnd (f ρ h) k) Q)
    (go : ∀ v H1 m1 d h1, StR Z.K m1 H1 h1 σ ρ → Ext m H m1 H1 → RpL Z.K m1 H1 v d → D.stL d = true → Pst Z W σ rel2 new2 m1 H1 (k d h1) Q → Q' v H1) : tAs Z W f σ H Q' :=
  ⟨m, ρ, h, s, Pst.mono (Pst.bnd nb p) fun v H1 ⟨m1, d, h1, _, a, b, c, n, q⟩ => go v H1 m1 d h1 (s.go a b) b c.1 c.2 q⟩
theorem tAp_bnd {β : Type} {γ : Type} {rel2 : List Addr → Hp → γ → β → Prop} {new2 : Hp → γ → β → Prop} {f : Env → Hm → R (List D)} {k : List D → Hm → R β} {Q : γ → Hp → Prop} {Q' : List V → Hp → Prop} (nb : ∀ {m' H' h'} , HRp Z.K m' H' h' → Ext m H m' H' → ∀ {v d}, new2 H' v d → new2 H v d) (s : StR Z.K m H h σ ρ) (p : Pst Z W σ rel2 new2 m H (bnd (f ρ h) k) Q)
    (go : ∀ v H1 m1 d h1, StR Z.K m1 H1 h1 σ ρ → Ext m H m1 H1 → RpL Z.K m1 H1 v d → Pst Z W σ rel2 new2 m1 H1 (k d h1) Q → Q' v H1) : tAp Z W f σ H Q' :=
  ⟨m, ρ, h, s, Pst.mono (Pst.bnd nb p) fun v H1 ⟨m1, d, h1, _, a, b, c, n, q⟩ => go v H1 m1 d h1 (s.go a b) b c q⟩
theorem a_nilL : PA X [] (tAs Z W (evs Γ G .nil)) := PA.of pa_nil fun σ H Q ⟨m, ρ, h, s, q⟩ => by simp only [evs] at q; exact q [] H m s.hr .refl ⟨.nil, rfl⟩ trivial
theorem a_nilP : PA X [] (tAp Z W (evp Γ G .nil)) := PA.of pa_nil fun σ H Q ⟨m, ρ, h, s, q⟩ => by simp only [evp] at q; exact q [] H m s.hr .refl .nil trivial
theorem a_consL {e : E} {es : Es} {x : Expr} {xs : List Expr} (hx : okH x = true) (he : PE X x (tE Z W (ev Γ G e))) (hs : PA X xs (tAs Z W (evs Γ G es))) : PA X (x :: xs) (tAs Z W (evs Γ G (.cons e es))) := by
  refine PA.of (pa_cons he hs (starEach_cons (okH_star hx))) fun σ H Q ⟨m, ρ, h, s, q⟩ => ?_
  simp only [evs] at q
  exact tE_own nbT s q fun v H1 m1 d h1 s1 x1 r1 st q1 => tAs_bnd nbT s1 q1 fun vs H2 m2 ds h2 s2 x2 r2 st2 q2 =>
    q2 (v :: vs) H2 m2 s2.hr .refl ⟨.cons (Rp.ext s1.hr x2 r1) r2, by simp [D.stL, st, st2]⟩ trivial
theorem a_consP {e : E} {es : Es} {x : Expr} {xs : List Expr} (hx : okH x = true) (he : PE X x (tE Z W (ev Γ G e))) (hs : PA X xs (tAp Z W (evp Γ G es))) : PA X (x :: xs) (tAp Z W (evp Γ G (.cons e es))) := by
  refine PA.of (pa_cons he hs (starEach_cons (okH_star hx))) fun σ H Q ⟨m, ρ, h, s, q⟩ => ?_
  simp only [evp] at q
  exact tE_bnd nbT s q fun v H1 m1 d h1 s1 x1 r1 n1 q1 => tAp_bnd nbT s1 q1 fun vs H2 m2 ds h2 s2 x2 r2 q2 =>
    q2 (v :: vs) H2 m2 s2.hr .refl (.cons (Rp.ext s1.hr x2 r1) r2) trivial
theorem l_tup (g : Good T Z W Γ G X) {es : Es} {xs : List Expr} {k : Nat} {p : Pos} (ha : PA X xs (tAs Z W (evs Γ G es))) : PE X (.Tuple xs k p) (tE Z W (ev Γ G (.tup es))) := by
  refine PE.of (pe_tupN ha) fun σ H Q ⟨m, ρ, h, s, q⟩ => ?_
  simp only [ev] at q
  exact tAs_bnd nbV s q fun vs H1 m1 ds h1 s1 x1 r1 st q1 => by
    obtain ⟨c, q1⟩ := Pst.gd q1
    exact ⟨by rw [r1.length]; exact of_decide_eq_true c, fun p o no hp => (PV.fin q1).tup s1.hr st r1 hp no⟩
theorem l_lst (g : Good T Z W Γ G X) {es : Es} {xs : List Expr} {p : Pos} (ha : PA X xs (tAs Z W (evs Γ G es))) : PE X (.List xs p) (tE Z W (ev Γ G (.lst es))) := by
  refine PE.of (pe_lst ha) fun σ H Q ⟨m, ρ, h, s, q⟩ => ?_
  simp only [ev] at q
  exact tAs_bnd nbV s q fun vs H1 m1 ds h1 s1 x1 r1 st q1 => by
    obtain ⟨c, q1⟩ := Pst.gd q1
    exact ⟨by rw [r1.length]; exact of_decide_eq_true c, fun p hp => (PV.fin q1).lst s1.hr st r1 hp⟩
theorem l_ix (g : Good T Z W Γ G X) {a b : E} {xa xb : Expr} {p : Pos} (hok : okH xb = true) (ha : PE X xa (tE Z W (ev Γ G a))) (hb : PE X xb (tE Z W (ev Γ G b))) : PE X (.Subscript xa xb p) (tE Z W (ev Γ G (.ix a b))) := by
  have ho : IxR X (rIx Z.K) := by rw [← g.k]; exact op_ix (by have := g.un; omega)
  refine PE.of (pe_ix ho ha hb (okH_ix hok)) fun σ H Q ⟨m, ρ, h, s, q⟩ => ?_
  simp only [ev] at q
  exact tE_bnd nbV s q fun x H1 m1 d h1 s1 x1 r1 n1 q1 => tE_bnd nbV s1 q1 fun y H2 m2 d2 h2 s2 x2 r2 n2 q2 => by
    obtain ⟨z, e, q2⟩ := Pst.opt q2
    exact ⟨m2, h2, d, d2, z, s2.hr, Rp.ext s1.hr x2 r1, r2, e, PV.fin q2⟩
/-- a slice's end -/
def tO (Z : Wi) (W : WX) (Γ : Gm) (G : Nat → Option D) : Oe → TO
  | .no => tNoPart
  | .so e => tPart (tE Z W (ev Γ G e))
theorem o_step {β : Type} {γ : Type} {rel2 : List Addr → Hp → γ → β → Prop} {new2 : Hp → γ → β → Prop} {o : Oe} {k : Option D → Hm → R β} {Q : γ → Hp → Prop} {Q' : Option Int → Hp → Prop} (nb : ∀ {m' H' h'} , HRp Z.K m' H' h' → Ext m H m' H' → ∀ {v d}, new2 H' v d → new2 H v d) (s : StR Z.K m H h σ ρ) (p : Pst Z W σ rel2 new2 m H (bnd (evO Γ G o ρ h) k) Q)
    (go : ∀ (i : Option Int) (d : Option D) H1 m1 h1, ixI d = some i → StR Z.K m1 H1 h1 σ ρ → Ext m H m1 H1 → Pst Z W σ rel2 new2 m1 H1 (k d h1) Q → Q' i H1) : tO Z W Γ G o σ H Q' := by
  cases o with
  | no => exact go none none H m h rfl s .refl (by simp only [evO, bnd_ok] at p; exact p)
  | so e =>
    simp only [evO, bnd_assoc] at p
    refine tE_bnd nb s p fun v H1 m1 d h1 s1 x1 r1 n1 q1 => ?_
    cases d with
    | int i =>
      cases r1
      exact ⟨i, rfl, go (some i) (some (.int i)) H1 m1 h1 rfl s1 x1 q1⟩
    | _ => exact q1.elim
theorem l_sl (g : Good T Z W Γ G X) {a : E} {lo hi : Oe} {xa : Expr} {xl xh : Option Expr} {p p2 : Pos} (ha : PE X xa (tE Z W (ev Γ G a))) (hl : PO X xl (tO Z W Γ G lo)) (hh : PO X xh (tO Z W Γ G hi)) : PE X (.Subscript xa (.Slice xl xh none p2) p) (tE Z W (ev Γ G (.sl a lo hi))) := by
  have ho : SlR X (rSl Z.K) := by rw [← g.k]; exact op_sl
  refine PE.of (pe_slice ho ha hl hh) fun σ H Q ⟨m, ρ, h, s, q⟩ => ?_
  simp only [ev] at q
  exact tE_bnd nbV s q fun x H1 m1 d h1 s1 x1 r1 n1 q1 => o_step nbV s1 q1 fun i di H2 m2 h2 e2 s2 x2 q2 => o_step nbV s2 q2 fun j dj H3 m3 h3 e3 s3 x3 q3 => by
    obtain ⟨z, e, q3⟩ := Pst.opt q3
    simp only [slD, e2, e3] at e
    exact ⟨m3, h3, d, z, s3.hr, Rp.ext s2.hr x3 (Rp.ext s1.hr x2 r1), e, PV.fin q3⟩
theorem l_rev (g : Good T Z W Γ G X) {a : E} {xa : Expr} {k : Nat} {p1 p2 p3 p : Pos} (ha : PE X xa (tE Z W (ev Γ G a))) : PE X (.Subscript xa (.Slice none none (some (.UnaryOp .USub (.Constant (.int 1) k p1) p2)) p3) p) (tE Z W (ev Γ G (.rev a))) := by
  refine PE.of (pe_revD ha) fun σ H Q ⟨m, ρ, h, s, q⟩ => ?_
  simp only [ev] at q
  unfold tRevD
  rw [g.k]
  exact tE_bnd nbV s q fun x H1 m1 d h1 s1 x1 r1 n1 q1 => by
    obtain ⟨z, e, q1⟩ := Pst.opt q1
    exact ⟨m1, h1, d, z, s1.hr, r1, e, PV.fin q1⟩
/-! ### calls -/
theorem XRp_id {E : XK} {cls : Value} {dx : Option Addr} : E cls dx = E cls dx := rfl
/-- a def is called -/
theorem spF_of {f : Nat} {n : Nat} {ds : List D} {vs : List V} {Q : VK} (r : HRp Z.K m H h) (q : RpL Z.K m H vs ds) (s : D.stL ds = true) (hn : vs.length = n) (p : PV Z W σ m H (Γ f ds h) Q) : spF Z (Γ f) n vs H Q (fun cls d H' => W cls d σ H') := by
  refine ⟨hn, m, h, ds, r, q, s, ?_⟩
  cases e : Γ f ds h with
  | bad => rw [e] at p; exact p
  | ex c fs h1 => rw [e] at p; exact p
  | ok d h1 =>
    rw [e] at p
    exact fun v H' m' a b c d => p v H' m' a b c (newV_st d)
theorem l_call (g : Good T Z W Γ G X) {f : Nat} {y : Str} {ps : List Str} {es : Es} {xs : List Expr} {p pos : Pos} (hf : T.fns[f]? = some (y, ps)) (hl : xs.length = ps.length) (hel : ∀ ρ h ds h', evs Γ G es ρ h = .ok ds h' → ds.length = xs.length) (hnil : xs = [] → es = .nil) (hg : Gl X y) (h1 : dbg y = false) (hst : xs.all noStar = true) (ha : PA X xs (tAs Z W (evs Γ G es))) :
    PE X (.Call (.Name y p) xs [] pos) (tE Z W (ev Γ G (.call f es))) := by
  obtain ⟨fa, fd, k, hm, hk, hr, F, hb, _⟩ := g.fns f y ps hf
  refine ⟨fun pins s σ H Q I ⟨m, ρ, h, st, q⟩ => ?_⟩
  simp only [ev] at q
  have tr : tAs Z W (evs Γ G es) σ H (fun vs H1 => vs.length = ps.length ∧ spF Z (Γ f) ps.length vs H1 Q (fun cls d H' => W cls d σ H')) := by
    refine ⟨m, ρ, h, st, Pst.mono (Pst.bnd nbV q) fun vs H1 ⟨m1, ds, h1, e1, a, b, c, n, q1⟩ => ?_⟩
    have hv : vs.length = ps.length := by rw [c.1.length, hel _ _ _ _ e1, hl]
    exact ⟨hv, spF_of a c.1 c.2 hv q1⟩
  refine wpAny_Call_Name_kw (ld_glob I hg hm ?_ h1)
  have run : ∀ {s1 : Shared} {H1 : Hp} {us : List Value} {vs : List V}, Inv X pins σ H1 s1 → Vals vs us → vs.length = ps.length ∧ spF Z (Γ f) ps.length vs H1 Q (fun cls d H' => W cls d σ H') → wpAny (model X.prog X.w) X.A (call (.ref fa) us) (EP X pins σ Q) X.xe s1 := fun I1 r ⟨hv, q1⟩ =>
    run_fnG F hr g.gd g.tk (hb _ _ (by rw [← r.length]; exact hv)) I1 r q1
  cases xs with
  | nil =>
    refine PySem.W.callWith_K0 I.kIn hk ?_
    refine run (us := []) I .nil ?_
    obtain ⟨m, ρ, h, st, q⟩ := tr
    have e := hnil rfl
    subst e
    simp only [evs] at q
    exact q [] H m st.hr .refl ⟨.nil, rfl⟩ trivial
  | cons x xs =>
    exact PySem.W.callWith_K (h₀ := X.base) I.ok.mod.kin hk (thn (ha.run pos pins s σ H _ I tr) fun us s1 ⟨vs, H1, I1, r, q⟩ => ⟨I1.kIn, run I1 r q⟩) (starEach_cons (by simp only [List.all_cons, Bool.and_eq_true] at hst; exact hst.1)) (backTo_plain (by simp only [List.all_cons, Bool.and_eq_true] at hst; exact hst.2))
theorem kwArg (kws : List Keyword) (env : PySem.Env) (pos : Pos) : (backToKw pos (keywordEach kws env)).map (·.1) = kws.map (·.arg) := by
  induction kws with
  | nil => rfl
  | cons k r ih =>
    obtain ⟨a, b, c⟩ := k
    have : (backToKw pos (keywordEach (⟨a, b, c⟩ :: r) env)).map (·.1) = a :: (backToKw pos (keywordEach r env)).map (·.1) := rfl
    rw [this, ih]; rfl
theorem kwAll {kws : List Keyword} {env : PySem.Env} {pos : Pos} (h : kws.all (fun k => k.arg.isSome) = true) : (backToKw pos (keywordEach kws env)).all (·.1.isSome) = true ∧ (backToKw pos (keywordEach kws env)).any (·.1.isNone) = false ∧ (backToKw pos (keywordEach kws env)).filterMap (·.1) = kws.filterMap (·.arg) := by
  have e := kwArg kws env pos
  refine ⟨?_, ?_, ?_⟩
  · have : ((backToKw pos (keywordEach kws env)).map (·.1)).all (·.isSome) = true := by rw [e, List.all_map]; exact h
    rwa [List.all_map] at this
  · have : ((backToKw pos (keywordEach kws env)).map (·.1)).any (·.isNone) = false := by
      rw [e, List.any_map]
      rw [List.any_eq_false]
      intro k hk
      rw [List.all_eq_true] at h
      have := h k hk
      simp only [Function.comp]
      cases q : k.arg with
      | none => rw [q] at this; cases this
      | some _ => simp
    rwa [List.any_map] at this
  · have : ((backToKw pos (keywordEach kws env)).map (·.1)).filterMap id = (kws.map (·.arg)).filterMap id := by rw [e]
    simpa [List.filterMap_map, Function.comp] using this
theorem PK.of {kws : List Keyword} {t t' : TA} (p : PK X kws t) (h : ∀ σ H Q, t' σ H Q → t σ H Q) : PK X kws t' := ⟨fun pos pins s σ H Q I q => p.run pos pins s σ H Q I (h σ H Q q)⟩
theorem k_nil : PK X [] (tAs Z W (evs Γ G .nil)) := PK.of pk_nil fun σ H Q ⟨m, ρ, h, s, q⟩ => by simp only [evs] at q; exact q [] H m s.hr .refl ⟨.nil, rfl⟩ trivial
theorem k_cons {e : E} {es : Es} {x : Expr} {nm : Option Str} {kp : Pos} {xs : List Keyword} (he : PE X x (tE Z W (ev Γ G e))) (hs : PK X xs (tAs Z W (evs Γ G es))) : PK X (⟨nm, x, kp⟩ :: xs) (tAs Z W (evs Γ G (.cons e es))) := by
  refine PK.of (pk_cons he hs) fun σ H Q ⟨m, ρ, h, s, q⟩ => ?_
  simp only [evs] at q
  exact tE_own nbT s q fun v H1 m1 d h1 s1 x1 r1 st q1 => tAs_bnd nbT s1 q1 fun vs H2 m2 ds h2 s2 x2 r2 st2 q2 =>
    q2 (v :: vs) H2 m2 s2.hr .refl ⟨.cons (Rp.ext s1.hr x2 r1) r2, by simp [D.stL, st, st2]⟩ trivial
theorem Vals.append' {vs : List V} {us : List Value} {zs : List V} {ws : List Value} (r : Vals vs us) (q : Vals zs ws) : Vals (vs ++ zs) (us ++ ws) := by
  induction r with
  | nil => exact q
  | cons a t ih => exact .cons a ih
theorem l_callk (g : Good T Z W Γ G X) {f : Nat} {y : Str} {ps ks : List Str} {pm : List Nat} {es kes : Es} {xs : List Expr} {kws : List Keyword} {p pos : Pos} (hf : T.fns[f]? = some (y, ps)) (hkw : (f, xs.length, ks, pm) ∈ T.kws) (hks : kws.filterMap (·.arg) = ks) (hsome : kws.all (fun k => k.arg.isSome) = true)
    (hel : ∀ ρ h ds h', evs Γ G es ρ h = .ok ds h' → ds.length = xs.length) (hek : ∀ ρ h ds h', evs Γ G kes ρ h = .ok ds h' → ds.length = kws.length) (hnil : xs = [] → es = .nil) (hg : Gl X y) (h1 : dbg y = false) (hst : xs.all noStar = true) (ha : PA X xs (tAs Z W (evs Γ G es))) (hk2 : PK X kws (tAs Z W (evs Γ G kes))) :
    PE X (.Call (.Name y p) xs kws pos) (tE Z W (ev Γ G (.callk f es kes pm))) := by
  obtain ⟨fa, fd, k, hm, hk, hr, F, _, hB⟩ := g.fns f y ps hf
  obtain ⟨pl, pj, hb⟩ := hB _ _ _ hkw
  have hkl : ks.length = kws.length := by
    subst hks
    clear hek hk2 hkw pj hb
    induction kws with
    | nil => rfl
    | cons k r ih =>
      simp only [List.all_cons, Bool.and_eq_true] at hsome
      obtain ⟨a, ea⟩ := Option.isSome_iff_exists.mp hsome.1
      rw [List.filterMap_cons, ea, List.length_cons, List.length_cons, ih hsome.2]
  obtain ⟨c1, c2, c3⟩ := kwAll (env := X.env) (pos := pos) hsome
  refine ⟨fun pins s σ H Q I ⟨m, ρ, h, st, q⟩ => ?_⟩
  simp only [ev] at q
  have tr : tAs Z W (evs Γ G es) σ H (fun vs H1 => vs.length = xs.length ∧ tAs Z W (evs Γ G kes) σ H1 fun zs H2 => zs.length = kws.length ∧ spF Z (Γ f) ps.length (pm.map fun j => (vs ++ zs).getD j .non) H2 Q (fun cls d H' => W cls d σ H')) := by
    refine ⟨m, ρ, h, st, Pst.mono (Pst.bnd nbV q) fun vs H1 ⟨m1, ds, h1, e1, a, b, c, n, q1⟩ => ?_⟩
    have hv : vs.length = xs.length := by rw [c.1.length, hel _ _ _ _ e1]
    refine ⟨hv, m1, ρ, h1, st.go a b, Pst.mono (Pst.bnd nbV q1) fun zs H2 ⟨m2, es2, h2, e2, a2, b2, cc2, n2, q2⟩ => ?_⟩
    have hz : zs.length = kws.length := by rw [cc2.1.length, hek _ _ _ _ e2]
    have rr := (RpL.ext a b2 c.1).append cc2.1
    have hj : ∀ j ∈ pm, j < (ds ++ es2).length := fun j hj => by rw [← rr.length, List.length_append, hv, hz, ← hkl]; exact pj j hj
    exact ⟨hz, spF_of a2 (rr.pick pm hj) (stL_pick (by rw [stL_append, c.2, cc2.2]; rfl) pm hj) (by rw [List.length_map, pl]) q2⟩
  refine wpAny_Call_Name_kw (ld_glob I hg hm ?_ h1)
  have run : ∀ {s2 : Shared} {H2 : Hp} {us : List Value} {vs : List V} {ws : List Value} {zs : List V}, Inv X pins σ H2 s2 → Vals vs us → Vals zs ws → vs.length = xs.length → zs.length = kws.length ∧ spF Z (Γ f) ps.length (pm.map fun j => (vs ++ zs).getD j .non) H2 Q (fun cls d H' => W cls d σ H') → wpAny (model X.prog X.w) X.A (call (.ref fa) us (ks.zip ws)) (EP X pins σ Q) X.xe s2 := fun {s2 H2 us vs ws zs} I1 r rz hv ⟨hz, q1⟩ => by
    have l1 : us.length = xs.length := by rw [← r.length, hv]
    have l2 : ws.length = ks.length := by rw [← rz.length, hz, hkl]
    exact run_fnG F hr g.gd g.tk (hb _ us ws l1 l2) I1 (Vals.pick (Vals.append' r rz) pm fun j hj => by rw [List.length_append, l1, l2]; exact pj j hj) q1
  cases xs with
  | nil =>
    have e := hnil rfl
    subst e
    obtain ⟨m, ρ, h, st, q⟩ := tr
    simp only [evs] at q
    obtain ⟨_, q⟩ := q [] H m st.hr .refl ⟨.nil, rfl⟩ trivial
    refine PySem.W.callWith_KW0 (h₀ := X.base) I.ok.mod.kin hk c1 (thn (hk2.run pos pins s σ H _ I q) fun ws s2 ⟨zs, H2, I2, rz, q2⟩ => ⟨I2.kIn, ?_⟩) c2
    rw [c3, hks]
    exact run (us := []) (vs := []) I2 .nil rz rfl q2
  | cons x xs =>
    simp only [List.all_cons, Bool.and_eq_true] at hst
    have hs1 : starEach (x :: xs) X.env = (false, eval x X.env) :: starEach xs X.env := starEach_cons hst.1
    refine PySem.W.callWith_KW (h₀ := X.base) I.ok.mod.kin hk c1 (thn (ha.run pos pins s σ H _ I tr) fun us s1 ⟨vs, H1, I1, r, hv, q⟩ => ?_) (by rw [c2, Bool.or_false]; exact backTo_plain (by simp only [List.all_cons, Bool.and_eq_true]; exact hst)) hs1
    refine thn (hk2.run pos pins s1 σ H1 _ I1 q) fun ws s2 ⟨zs, H2, I2, rz, q2⟩ => ⟨I2.kIn, ?_⟩
    rw [c3, hks]
    exact run I2 r rz hv q2
theorem l_bi (g : Good T Z W Γ G X) {f : Bi} {y : Str} {es : Es} {xs : List Expr} {p pos : Pos} (hb : biName f = some y) (hl : 0 < xs.length) (hg : Gl X y) (hm : X.mg y = none) (hst : xs.all noStar = true) (ha : PA X xs (tAp Z W (evp Γ G es))) :
    PE X (.Call (.Name y p) xs [] pos) (tE Z W (ev Γ G (.bi f es))) := by
  cases xs with
  | nil => simp at hl
  | cons x xs =>
    simp only [List.all_cons, Bool.and_eq_true] at hst
    have h1 : starEach (x :: xs) X.env = (false, eval x X.env) :: starEach xs X.env := starEach_cons hst.1
    have h2 : (backTo pos (starEach xs X.env)).any (·.1) = false := backTo_plain hst.2
    have fin : PE X (.Call (.Name y p) (x :: xs) [] pos) (tCB (rBi X.K f) (tAp Z W (evp Γ G es))) → PE X (.Call (.Name y p) (x :: xs) [] pos) (tE Z W (ev Γ G (.bi f es))) := fun pp => PE.of pp fun σ H Q ⟨m, ρ, h, s, q⟩ => by
      simp only [ev] at q
      exact tAp_bnd nbV s q fun vs H1 m1 ds h1 s1 x1 r1 q1 => by
        obtain ⟨z, e, q1⟩ := Pst.opt q1
        rw [g.k]
        exact ⟨m1, h1, ds, z, s1.hr, r1, e, PV.fin q1⟩
    have cb := call_bi (X := X) g.calm g.gd g.un f
    cases f with
    | len => cases hb; exact fin (pe_callB cb hg hm boot_len ha (by decide) (by decide) h1 h2)
    | abs => cases hb; exact fin (pe_callB cb hg hm boot_abs ha (by decide) (by decide) h1 h2)
    | int => cases hb; exact fin (pe_callTy cb hg hm (by decide +kernel) ha (by decide) (by decide) h1 h2)
    | str => cases hb; exact fin (pe_callTy cb hg hm (by decide +kernel) ha (by decide) (by decide) h1 h2)
    | repr => cases hb; exact fin (pe_callB cb hg hm (by decide +kernel) ha (by decide) (by decide) h1 h2)
    | tuple => cases hb; exact fin (pe_callTy cb hg hm (by decide +kernel) ha (by decide) (by decide) h1 h2)
    | list => cases hb; exact fin (pe_callTy cb hg hm (by decide +kernel) ha (by decide) (by decide) h1 h2)
    | sum => cases hb; exact fin (pe_callB cb hg hm (by decide +kernel) ha (by decide) (by decide) h1 h2)
    | all => cases hb; exact fin (pe_callB cb hg hm (by decide +kernel) ha (by decide) (by decide) h1 h2)
    | sorted => cases hb; exact fin (pe_callB cb hg hm (by decide +kernel) ha (by decide) (by decide) h1 h2)
    | max => cases hb; exact fin (pe_callB cb hg hm (by decide +kernel) ha (by decide) (by decide) h1 h2)
    | min => cases hb; exact fin (pe_callB cb hg hm (by decide +kernel) ha (by decide) (by decide) h1 h2)
    | _ => simp [biName] at hb
theorem l_isi (g : Good T Z W Γ G X) {f : Bi} {t : Str} {e : E} {xa : Expr} {p p2 pos : Pos} (hb : isName f = some t) (hok : okH xa = true) (hg : Gl X "isinstance") (hm : X.mg "isinstance" = none) (hg2 : Gl X t) (hm2 : X.mg t = none) (he : PE X xa (tE Z W (ev Γ G e))) :
    PE X (.Call (.Name "isinstance" p) [xa, .Name t p2] [] pos) (tE Z W (ev Γ G (.bi f (.cons e .nil)))) := by
  have h1 : starEach [xa, .Name t p2] X.env = (false, eval xa X.env) :: starEach [.Name t p2] X.env := starEach_cons (okH_star hok)
  have two : ∀ n : String, PE X (.Name t p2) (tC (.ty n)) → PA X [xa, .Name t p2] (tCons (tE Z W (ev Γ G e)) (tCons (tC (.ty n)) tNil)) := fun n hn => pa_cons he (pa_cons hn pa_nil) h1
  have fin : ∀ (n : String) (is : D → Bool), (∀ h d, bi1 h f d = some (.bl (is d))) → (∀ {m H h d v}, HRp X.K m H h → Rp X.K m H v d → ∃ tt, TyX X.K H v (.type tt) ∧ kitB tt n = some (is d)) → PE X (.Name t p2) (tC (.ty n)) → PE X (.Call (.Name "isinstance" p) [xa, .Name t p2] [] pos) (tE Z W (ev Γ G (.bi f (.cons e .nil)))) := fun n is hbi hty hn => by
    refine PE.of (pe_callB call_isi hg hm PyProof.Rows.boot_isinstance (two n hn) (by decide) (by decide) h1 rfl) fun σ H Q ⟨m, ρ, h, s, q⟩ => ?_
    simp only [ev, evp, bnd_assoc, bnd_ok] at q
    exact tE_bnd nbV s q fun v H1 m1 d h2 s1 x1 r1 n1 q1 => by
      have e2 : biD h2 f [d] = some (.bl (is d)) := hbi h2 d
      rw [e2, opt_some] at q1
      obtain ⟨tt, ty, kk⟩ := hty (by rw [g.k]; exact s1.hr) (by rw [g.k]; exact r1)
      exact ⟨v, .ty n, .type tt, .type n, is d, rfl, .ty n, ty, kit_ty kk, PV.val q1 s1.hr (.bl _) rfl⟩
  cases f with
  | isTuple => cases hb; exact fin "tuple" isTup (fun _ _ => rfl) (fun r q => let ⟨tt, a, b, c, d, e⟩ := ty_view r q; ⟨tt, a, b⟩) (pe_bltn hg2 hm2 (by decide +kernel) rfl)
  | isInt => cases hb; exact fin "int" isIn (fun _ _ => rfl) (fun r q => let ⟨tt, a, b, c, d, e⟩ := ty_view r q; ⟨tt, a, c⟩) (pe_bltn hg2 hm2 (by decide +kernel) rfl)
  | isStr => cases hb; exact fin "str" isSt (fun _ _ => rfl) (fun r q => let ⟨tt, a, b, c, d, e⟩ := ty_view r q; ⟨tt, a, d⟩) (pe_bltn hg2 hm2 (by decide +kernel) rfl)
  | isBool => cases hb; exact fin "bool" isBl (fun _ _ => rfl) (fun r q => let ⟨tt, a, b, c, d, e⟩ := ty_view r q; ⟨tt, a, e⟩) (pe_bltn hg2 hm2 (by decide +kernel) rfl)
  | _ => simp [isName] at hb
/-! ### list(range(..)) -/
theorem upto_ints : ∀ (n : Nat) (s : Int), upto s n = ((List.range n).map fun i : Nat => s + (i : Int)).map .int
  | 0, s => rfl
  | n + 1, s => by
    rw [upto, upto_ints n (s + 1), List.range_succ_eq_map]
    simp only [List.map_cons, List.map_map]
    congr 1
    · simp
    · refine List.map_congr_left fun i _ => ?_
      simp only [Function.comp]
      congr 1; push_cast; omega
theorem lrg_fin {K : PySem.W.Frag} {a b : Int} {z : D} {Q : VK} (hr : HRp K m H h) (e : lrg a b = some z) (fin : Fin1 K m H h z Q) : RgOk a b ∧ ∀ q, H q = none → Q (.ref q) (upd H q (.lst (rgV a b))) := by
  unfold lrg at e
  split at e
  · rename_i c
    cases e
    obtain ⟨c1, c2, c3⟩ := c
    refine ⟨⟨by omega, by omega, by omega, by omega, c3⟩, fun q hq => ?_⟩
    rw [upto_ints] at fin
    have e2 : rgV a b = ((List.range (b - a).toNat).map fun i : Nat => a + (i : Int)).map V.int := by unfold rgV; rw [List.map_map]; rfl
    rw [e2]
    exact fin.lst hr (stL_ofInts _) (rpL_ofInts _) hq
  · cases e
theorem bi_lrange1 {h : Hm} {d z : D} (e : biD h .lrange [d] = some z) : ∃ n, d = .int n ∧ lrg 0 n = some z := by
  cases d <;> first | exact ⟨_, rfl, e⟩ | (simp [biD, bi1] at e)
theorem bi_lrange2 {h : Hm} {d e z : D} (eq : biD h .lrange [d, e] = some z) : ∃ a b, d = .int a ∧ e = .int b ∧ lrg a b = some z := by
  unfold biD at eq
  split at eq
  · rename_i e1; simp at e1
  · rename_i i j e1
    simp only [List.cons.injEq, and_true] at e1
    obtain ⟨rfl, rfl⟩ := e1
    exact ⟨_, _, rfl, rfl, eq⟩
  · cases eq
theorem l_lrange1 (g : Good T Z W Γ G X) {e : E} {xa : Expr} {p p2 pos pos2 : Pos} (hok : okH xa = true) (hg : Gl X "list") (hm : X.mg "list" = none) (hg2 : Gl X "range") (hm2 : X.mg "range" = none) (he : PE X xa (tE Z W (ev Γ G e))) :
    PE X (.Call (.Name "list" p) [.Call (.Name "range" p2) [xa] [] pos2] [] pos) (tE Z W (ev Γ G (.bi .lrange (.cons e .nil)))) := by
  refine PE.of (pe_listRg g.calm hg hm (prg_1 hg2 hm2 he (starEach_cons (okH_star hok)))) fun σ H Q ⟨m, ρ, h, s, q⟩ => ?_
  simp only [ev, evp, bnd_assoc, bnd_ok] at q
  exact tE_bnd nbV s q fun v H1 m1 d h1 s1 x1 r1 n1 q1 => by
    obtain ⟨z, e1, q9⟩ := Pst.opt q1
    obtain ⟨n, rfl, e2⟩ := bi_lrange1 e1
    cases r1
    exact ⟨n, rfl, lrg_fin s1.hr e2 (PV.fin q9)⟩
theorem l_lrange2 (g : Good T Z W Γ G X) {e e' : E} {xa xb : Expr} {p p2 pos pos2 : Pos} (hok : okH xa = true) (hok2 : okH xb = true) (hg : Gl X "list") (hm : X.mg "list" = none) (hg2 : Gl X "range") (hm2 : X.mg "range" = none) (he : PE X xa (tE Z W (ev Γ G e))) (he2 : PE X xb (tE Z W (ev Γ G e'))) :
    PE X (.Call (.Name "list" p) [.Call (.Name "range" p2) [xa, xb] [] pos2] [] pos) (tE Z W (ev Γ G (.bi .lrange (.cons e (.cons e' .nil))))) := by
  refine PE.of (pe_listRg g.calm hg hm (prg_2 hg2 hm2 he he2 (starEach_cons (okH_star hok)) (starEach_cons (okH_star hok2)) (backTo_plain (by simp [okH_star hok2])))) fun σ H Q ⟨m, ρ, h, s, q⟩ => ?_
  simp only [ev, evp, bnd_assoc, bnd_ok] at q
  exact tE_bnd nbV s q fun v H1 m1 d h1 s1 x1 r1 n1 q1 => tE_bnd nbV s1 q1 fun v2 H2 m2 d2 h2 s2 x2 r2 n2 q2 => by
    obtain ⟨z, e1, q9⟩ := Pst.opt q2
    obtain ⟨a, b, rfl, rfl, e2⟩ := bi_lrange2 e1
    cases r1
    cases r2
    exact ⟨a, b, rfl, rfl, lrg_fin s2.hr e2 (PV.fin q9)⟩
/-! ### methods -/
theorem l_me (g : Good T Z W Γ G X) {f : Me} {nm : Str} {o : E} {es : Es} {xo : Expr} {xs : List Expr} {apos cpos : Pos} (hf : meName f = some nm) (hs : notSuper xo = true) (hl : xs.length < 29) (hline : (apos.endLine == cpos.line) = true) (hst : xs.all noStar = true) (ho : PE X xo (tE Z W (ev Γ G o)))
    (ha : PA X xs (tAs Z W (evs Γ G es))) (hp : PA X xs (tAp Z W (evp Γ G es))) : PE X (.Call (.Attribute xo nm apos) xs [] cpos) (tE Z W (ev Γ G (.me f o es))) := by
  have hr := fun pins s σ H x v I rx h0 => pe_meR (X := X) g.un f pins s σ H x v I rx h0 nm hf
  cases e : f.owns with
  | true =>
    refine PE.of (pe_late ho ha hst hl hs hline hr) fun σ H Q ⟨m, ρ, h, s, q⟩ => ?_
    simp only [ev, e, if_true] at q
    exact tE_bnd nbV s q fun x H1 m1 d h1 s1 x1 r1 n1 q1 => by
      obtain ⟨ok, q1⟩ := Pst.gd q1
      refine ⟨⟨m1, h1, d, by rw [g.k]; exact s1.hr, by rw [g.k]; exact r1, ok⟩, tAs_bnd nbV s1 q1 fun vs H2 m2 ds h2 s2 x2 r2 st2 q2 => ?_⟩
      rw [g.k]
      refine ⟨m2, h2, d, ds, s2.hr, Rp.ext s1.hr x2 r1, r2, fun _ => st2, ?_⟩
      cases eq : meD h2 f d ds with
      | ok z h3 => rw [eq] at q2; exact PV.fin' q2
      | ex c fs h3 => exact absurd eq (meD_ex h2 f d ds c fs h3)
      | bad => rw [eq] at q2; exact q2
  | false =>
    refine PE.of (pe_late ho hp hst hl hs hline hr) fun σ H Q ⟨m, ρ, h, s, q⟩ => ?_
    simp only [ev, e, Bool.false_eq_true, if_false] at q
    exact tE_bnd nbV s q fun x H1 m1 d h1 s1 x1 r1 n1 q1 => by
      obtain ⟨ok, q1⟩ := Pst.gd q1
      refine ⟨⟨m1, h1, d, by rw [g.k]; exact s1.hr, by rw [g.k]; exact r1, ok⟩, tAp_bnd nbV s1 q1 fun vs H2 m2 ds h2 s2 x2 r2 q2 => ?_⟩
      rw [g.k]
      refine ⟨m2, h2, d, ds, s2.hr, Rp.ext s1.hr x2 r1, r2, (fun z => by rw [e] at z; cases z), ?_⟩
      cases eq : meD h2 f d ds with
      | ok z h3 => rw [eq] at q2; exact PV.fin' q2
      | ex c fs h3 => exact absurd eq (meD_ex h2 f d ds c fs h3)
      | bad => rw [eq] at q2; exact q2
end
end Mi

set_option Elab.async false
set_option linter.all false
set_option maxRecDepth 100000
/-! Mini: enumerate of a tuple. -/
namespace Mi
open PySem PySem.Spec PyProof.Rows L2
theorem enT_new (t : Addr) (items : Array Value) :
    Meets (Builtin.«enumerate.__new__» ⟨[.type "enumerate", .ref t], []⟩) (fun _ R s => s.heap.IsTuple t items ∧
      R (.ok (.ret (.ref (s.heap.push { cls := .type "tuple_iterator", data := .fields #[.ref t, .int 0 0] }).objs.size)))
        { s with heap := (s.heap.push { cls := .type "tuple_iterator", data := .fields #[.ref t, .int 0 0] }).push { cls := .type "enumerate", data := .fields #[.none, .bool false, .ref s.heap.objs.size, rawInt 0, .none, .none] } }) :=
  .of_wp fun prog w A R s hyp => by
    obtain ⟨hp, gs, dr, tk, os⟩ := s
    obtain ⟨hT, fin⟩ := hyp
    have sb := sub_enumerate
    have it : ∀ {A' : Around} {E : Value → Shared → Prop} {Q : Value → Shared → Prop}, Q (.ref hp.objs.size) ⟨hp.push { cls := .type "tuple_iterator", data := .fields #[.ref t, .int 0 0] }, gs, dr, tk, os⟩ → wpAny (model prog w) A' (pyIter (.ref t)) Q E ⟨hp, gs, dr, tk, os⟩ :=
      fun q => (begins_tuple t items).iter prog w _ _ ⟨hp, gs, dr, tk, os⟩ _ hT q
    wp_walk using it
    refine wpAny_stack_any fun _ => wpAny_pure ?_
    split
    · rename_i k _ _ _ _ _
      cases (k == Value.type "enumerate") <;> (wp_walk using it; exact ⟨_, rfl, fin⟩)
    · (wp_walk using it; exact ⟨_, rfl, fin⟩)
section
variable {prog : Program} {w : World} {A : Around} {E : Value → Shared → Prop} {s : Shared}
theorem call_enT {t : Addr} {items : Array Value} {Q : Value → Shared → Prop} (hT : s.heap.IsTuple t items)
    (fin : ∀ h', IsEnum h' (s.heap.objs.size + 1) s.heap.objs.size 0 .none → h'.IsTupleIter s.heap.objs.size t 0 →
      (∀ b o, s.heap.get? b = some o → h'.get? b = some o) → Q (.ref (s.heap.objs.size + 1)) { s with heap := h' }) :
    wpAny (model prog w) A (call (.type "enumerate") [.ref t]) Q E s := by
  refine callType_new F.called_enumerate (by decide) (F.typeCall_enumerate_1 _) (F.newCall_enumerate_1 _) (fun obj => F.args_object_init_2 obj _) F.entry_enumerate_new (enT_new t items) ⟨hT, ?_⟩
  have sz : (s.heap.push { cls := .type "tuple_iterator", data := .fields #[.ref t, .int 0 0] }).objs.size = s.heap.objs.size + 1 := Heap.size_push ..
  have en := Heap.get?_push_size (s.heap.push { cls := .type "tuple_iterator", data := .fields #[.ref t, .int 0 0] }) (o := { cls := .type "enumerate", data := .fields #[.none, .bool false, .ref s.heap.objs.size, rawInt 0, .none, .none] }) rfl
  rw [sz] at en
  show _ ∧ _
  rw [sz]
  exact ⟨⟨_, en, rfl⟩, fin _ en ⟨_, Heap.get?_push_of_some _ (Heap.get?_push_size _ rfl), rfl, rfl⟩ fun b o x => Heap.get?_push_of_some _ (Heap.get?_push_of_some _ x)⟩
theorem enT_end {e it t : Addr} {i : Nat} {items : Array Value} {old : Value} {Q : Option Value → Shared → Prop} (hh : A.handled = none) (he : IsEnum s.heap e it i old) (hit : s.heap.IsTupleIter it t i) (hT : s.heap.IsTuple t items) (hx : items[i]? = none)
    (fin : ∀ h', Heap.ExtBut it s.heap h' → Q none { s with heap := h' }) : wpAny (model prog w) A (pyNext (.ref e)) Q E s := by
  have ty : s.TypeIs (.ref e) "enumerate" := ⟨_, he, rfl⟩
  unfold pyNext
  refine wpAny_bind (wpAny_attempt (wpAny_callSpecial?_slot (name := Str.ofString "__next__") ty F.slot_enumerate_next (wpAny_call_entry F.slot_enumerate_next ty F.entry_enumerate_next ?_ (F.args_enumerate_next_1 _))))
  show wpAny _ _ (field (.ref e) 2 >>= fun x => Builtin.SmallTypes.nextOf x >>= _) _ _ _
  refine wpAny_bind (wpAny_field he rfl (x := .ref it) rfl (wpAny_bind (wpAny_nextOf_tuple_end hh hit hT hx fun h' y a ⟨o, ho, hc⟩ => ?_)))
  exact wpAny_bind (wpAny_isInstance (T := "StopIteration") (b := true) ⟨o, ho, hc⟩ isSubtype_stop (wpAny_pure (fin _ a)))
end
/-- the tuple at a, each item in a new pair -/
def Itp (K : PySem.W.Frag) (a : Addr) : It :=
  ⟨fun i H => ∃ (xs : List V) (x : V), SqT K H a xs ∧ xs[i]? = some x, fun i H v H' => ∃ T x o, v = .ref T ∧ H T = none ∧ o.dict = none ∧ H' = upd H T (.frz o (.tup [.int (i : Nat), x])) ∧ ∀ xs, SqT K H a xs → xs[i]? = some x, fun i H => ∃ xs : List V, SqT K H a xs ∧ xs.length ≤ i⟩
theorem tup_inj {X : Cx} {pins : List (Addr × Obj)} {σ : L2.St} {H : Hp} {s : Shared} {a : Addr} {xs ys : List V} (I : Inv X pins σ H s) (h1 : SqT X.K H a xs) (h2 : SqT X.K H a ys) : xs = ys := by
  obtain ⟨i1, r1, p1, _⟩ := I.tuple h1
  obtain ⟨i2, r2, p2, _⟩ := I.tuple h2
  exact I.tuple_inj h1 h2
theorem turn_enT {P : Program} {w : World} {K : PySem.W.Frag} {elts : List Expr} {kk : Nat} {tpos : Pos} (a e it : Addr) :
    Turn P w K (.Tuple elts kk tpos) (Itp K a) [e, it] e (fun i h => (∃ old, IsEnum h e it ((i : Nat) : Int) old) ∧ h.IsTupleIter it a i ∧ e ≠ it) where
  mem := by simp
  obj := fun i h st b hb => by
    obtain ⟨⟨old, he⟩, ⟨o, ho, hc, hd⟩, _⟩ := st
    rcases (by simpa using hb : b = e ∨ b = it) with rfl | rfl
    · exact ⟨_, he, fun v q => nomatch q⟩
    · exact ⟨o, ho, fun v q => by rw [hd] at q; cases q⟩
  keep := fun i h h' st k => ⟨⟨st.1.choose, k e (by simp) _ st.1.choose_spec⟩, st.2.1.at fun o q => k it (by simp) o q, st.2.2⟩
  item := by
    intro X hP hw hK hc i pins s σ H E I hf st hg
    subst hP hw hK
    obtain ⟨⟨old, he⟩, hit, hne⟩ := st
    obtain ⟨xs, x, hq, hx⟩ := hg
    obtain ⟨its, rv, p, hz⟩ := I.tuple hq
    obtain ⟨u, hu, ru⟩ := rv.get hx
    have hT : s.heap.IsTuple a its.toArray := p
    have hel : e < s.heap.objs.size := Heap.lt_size he
    have hil : it < s.heap.objs.size := by obtain ⟨_, q, _⟩ := hit; exact Heap.lt_size q
    have hea : e ≠ a := fun z => by
      obtain ⟨o, ho, hc, _⟩ := hT
      rw [← z, he] at ho; cases ho; simp at hc
    have hai : a ≠ it := fun z => by
      obtain ⟨o, ho, hc, _⟩ := hT
      obtain ⟨o', ho', hc', _⟩ := hit
      rw [z, ho'] at ho; cases ho; rw [hc'] at hc; simp at hc
    have hlt : i < its.toArray.size := by
      have := (List.getElem?_eq_some_iff.mp hu).1
      simpa using this
    refine wpAny_pyNext_enum_itemD (Draws.tuple (A := X.A.in1) (I.ok.hd hc) it a hai its.toArray) he ⟨hit, hT⟩ hlt hne (by simp [hne, hea]) fun y h' tk hy ho hst hT1 hsz hk => ?_
    have hyu : y = u := by
      have : its.toArray[i]? = some u := by simpa using hu
      rw [this] at hy; exact (Option.some.inj hy).symm
    subst hyu
    refine ⟨_, rfl, wpAny_letOwnedTupleGo_enum (s := { s with heap := h', toks := tk + 1 }) ho fun h'' he' sb => ?_⟩
    have hT2 : h''.get? s.heap.objs.size = some { cls := .type "tuple", data := .seq #[.int i tk, y] } := (sb.2 _ (Nat.ne_of_gt hel)).trans hT1
    have new : ObjOk X.prog X.w (upd H s.heap.objs.size (.frz { cls := .type "tuple", data := .seq #[.int i tk, y] } (.tup [.int (i : Nat), x]))) h'' s.heap.objs.size (.frz { cls := .type "tuple", data := .seq #[.int i tk, y] } (.tup [.int (i : Nat), x])) :=
      ⟨hT2, by show 2 ≤ sizeLine; decide, [.int i tk, y], .cons ⟨_, rfl⟩ (.cons ru .nil), ⟨_, hT2, rfl, _, rfl⟩⟩
    have I1 : Inv X pins σ (upd H s.heap.objs.size (.frz { cls := .type "tuple", data := .seq #[.int i tk, y] } (.tup [.int (i : Nat), x]))) { s with heap := h'', toks := tk + 1 } :=
      I.turnedNew (ch := [e, it]) (fun b ob hb q => (sb.2 b (fun z => hb (by simp [z]))).trans (hk b ob (fun z => hb (by simp [z])) (fun z => hb (by simp [z])) q)) hf (Nat.le_refl _) new
    refine ⟨.ref s.heap.objs.size, _, I1, rfl, ⟨_, x, _, rfl, I.hok.fresh (Nat.le_refl _), rfl, rfl, fun ys hy => by rw [tup_inj I hy hq]; exact hx⟩, ⟨⟨y, ?_⟩, hst.1.at fun o q => (sb.2 it (Ne.symm hne)).trans q, hne⟩, fun b hb => ?_⟩
    · rw [show ((i + 1 : Nat) : Int) = (i : Int) + 1 by omega]; exact he'
    · have hb' : b < s.heap.objs.size := by
        rcases (by simpa using hb : b = e ∨ b = it) with z | z
        · rw [z]; exact hel
        · rw [z]; exact hil
      rw [upd_ne (Nat.ne_of_lt hb')]
      exact (hf b hb).1
  done := by
    intro X hP hw hK hc i pins s σ H E I hf st hg
    subst hP hw hK
    obtain ⟨⟨old, he⟩, hit, hne⟩ := st
    obtain ⟨xs, hq, hx⟩ := hg
    obtain ⟨its, rv, p, hz⟩ := I.tuple hq
    have hT : s.heap.IsTuple a its.toArray := p
    obtain ⟨f0, f1, f2, f3, f4, f5⟩ := hf it (by simp)
    have hl := rv.length
    refine enT_end (I.ok.hd hc) he hit hT (by simp; omega) fun h' eb => ⟨rfl, I.turned (t' := s.toks) (fun b o hb q => eb b o hb q) f0 f1 f3 f4 f5⟩
  self := fun A i s Q E st h => wpAny_pyIter_enum st.1.choose_spec h
/-- enumerate of a list or of a tuple -/
theorem pi_enumA {X : Cx} {e : Expr} {te : TE} {p pos tpos : Pos} {elts : List Expr} {kk : Nat} (hg : Gl X "enumerate") (hm : X.mg "enumerate" = none) (he : PE X e te) (hok : okH e = true) :
    PI X (.Tuple elts kk tpos) (.Call (.Name "enumerate" p) [e] [] pos) (fun σ H R => te σ H fun x H1 => ∃ a, x = .ref a ∧ (((∃ xs, SqL X.K H1 a xs) ∧ R (IteN X.K a) H1) ∨ ((∃ xs, SqT X.K H1 a xs) ∧ R (Itp X.K a) H1))) := by
  refine ⟨fun pins s σ H R I h => ?_⟩
  have hs : starEach [e] X.env = [(false, eval e X.env)] := by rw [starEach_cons (okH_star hok)]; rfl
  refine Call_ (ld_blt I hg hm boot_enumerate (PyProof.Rows.callWith_type1 (one_arg he I h (fun v s1 x H1 I1 r q => ?_) (starEach_cons (okH_star hok))) hs rfl))
  obtain ⟨a, rfl, q⟩ := q
  cases r
  have fresh : ∀ {b : Addr}, b ∈ [s1.heap.objs.size + 1, s1.heap.objs.size] → s1.heap.objs.size ≤ b := fun {b} hb => by
    rcases (by simpa using hb : b = s1.heap.objs.size + 1 ∨ b = s1.heap.objs.size) with z | z <;> rw [z] <;> first | exact Nat.le_succ _ | exact Nat.le_refl _
  rcases q with ⟨⟨xs, hq⟩, q⟩ | ⟨⟨xs, hq⟩, q⟩
  · obtain ⟨its, rv, p', hz⟩ := I1.list hq
    refine call_enumerate_list p'.isList fun h' en hit hsz hk => wpAny_pyIter_enum en ?_
    exact ⟨s1.heap.objs.size + 1, [s1.heap.objs.size + 1, s1.heap.objs.size], _, _, H1, rfl, I1.kept (t' := s1.toks) hk, turn_enumN a (s1.heap.objs.size + 1) s1.heap.objs.size, ⟨⟨.none, en⟩, hit, Nat.succ_ne_self _⟩, fun b hb => I1.fpOk (fresh hb) (I1.hok.fresh (fresh hb)), q⟩
  · obtain ⟨its, rv, p', hz⟩ := I1.tuple hq
    refine call_enT (show s1.heap.IsTuple a its.toArray from p') fun h' en hit hk => wpAny_pyIter_enum en ?_
    exact ⟨s1.heap.objs.size + 1, [s1.heap.objs.size + 1, s1.heap.objs.size], _, _, H1, rfl, I1.kept (t' := s1.toks) hk, turn_enT a (s1.heap.objs.size + 1) s1.heap.objs.size, ⟨⟨.none, en⟩, hit, Nat.succ_ne_self _⟩, fun b hb => I1.fpOk (fresh hb) (I1.hok.fresh (fresh hb)), q⟩
section
variable {Z : Wi} {m0 : List Addr} {H0 : Hp} {h0 : Hm}
theorem walkD_enT {a : Addr} {ds : List D} (hr0 : HRp Z.K m0 H0 h0) (q : Rp Z.K m0 H0 (.ref a) (.tup ds)) : WalkD Z m0 H0 none (pairs 0 ds) (Itp Z.K a) := by
  have tv : ∀ {m H h}, HRp Z.K m H h → Ext m0 H0 m H → ∃ xs, SqT Z.K H a xs ∧ D.stL ds = true ∧ RpL Z.K m H xs ds := fun hr x => by
    cases Rp.ext hr0 x q with
    | tup q s t => exact ⟨_, q.sq, s, t⟩
  obtain ⟨_, _, st0, _⟩ := tv hr0 .refl
  refine ⟨pairs_st 0 ds st0, fun i m H h hi hr x so => ?_, fun m H h hr x so => ?_, fun i m H h y H' hi hr x so yl => ?_⟩
  · obtain ⟨xs, s, st, t⟩ := tv hr x
    rw [pairs_len] at hi
    exact ⟨xs, xs[i]'(by rw [t.length]; exact hi), s, List.getElem?_eq_getElem _⟩
  · obtain ⟨xs, s, st, t⟩ := tv hr x
    exact ⟨xs, s, by rw [pairs_len, t.length]; exact Nat.le_refl _⟩
  · obtain ⟨xs, s, st, t⟩ := tv hr x
    obtain ⟨T, x1, o, rfl, hT, no, rfl, h2⟩ := yl
    obtain ⟨d2, h3, h4⟩ := get_of_rp t (h2 xs s)
    have std := stL_get st h3
    exact ⟨_, pairs_get 0 ds i d2 h3, hr.lay hT, Ext.lay hT, .tup (.of upd_same no) (by simp [D.stL, D.st, std]) (by
      rw [Nat.zero_add]
      exact .cons (.int _) (.one (Rp.ext hr (Ext.lay hT) h4)))⟩
end
end Mi

set_option Elab.async false
set_option linter.all false
set_option maxRecDepth 100000
/-! Mini: zip, its pairs known. -/
namespace Mi
open PySem PySem.Spec PyProof.Rows L2 RZ
def ItzN (K : PySem.W.Frag) (a b : Addr) : It :=
  ⟨fun i H => ∃ (xs ys : List V) (x y : V), SqL K H a xs ∧ SqL K H b ys ∧ xs[i]? = some x ∧ ys[i]? = some y,
    fun i H v H' => ∃ T x y o, v = .ref T ∧ H T = none ∧ o.dict = none ∧ H' = upd H T (.frz o (.tup [x, y])) ∧ (∀ xs, SqL K H a xs → xs[i]? = some x) ∧ ∀ ys, SqL K H b ys → ys[i]? = some y,
    fun i H => ∃ xs ys : List V, SqL K H a xs ∧ SqL K H b ys ∧ (xs.length ≤ i ∨ ys.length ≤ i)⟩
def ItzTN (K : PySem.W.Frag) (a b : Addr) : It :=
  ⟨fun i H => ∃ (xs ys : List V) (x y : V), SqT K H a xs ∧ SqT K H b ys ∧ xs[i]? = some x ∧ ys[i]? = some y,
    fun i H v H' => ∃ T x y o, v = .ref T ∧ H T = none ∧ o.dict = none ∧ H' = upd H T (.frz o (.tup [x, y])) ∧ (∀ xs, SqT K H a xs → xs[i]? = some x) ∧ ∀ ys, SqT K H b ys → ys[i]? = some y,
    fun i H => ∃ xs ys : List V, SqT K H a xs ∧ SqT K H b ys ∧ (xs.length ≤ i ∨ ys.length ≤ i)⟩
theorem turn_zipN {P : Program} {w : World} {K : PySem.W.Frag} {elts : List Expr} {kk : Nat} {tpos : Pos} {a b z TI TO i1 i2 : Addr} (D : ZipApart z TI TO i1 i2 a b) :
    Turn P w K (.Tuple elts kk tpos) (ItzN K a b) [z, TI, TO, i1, i2] z (fun i h => IsZip h z TI TO .none ∧ IsPair h TI (.ref i1) (.ref i2) ∧ (∃ x y, IsPair h TO x y) ∧ h.IsListIter i1 a i ∧ h.IsListIter i2 b i) where
  mem := by simp
  obj := fun i h st c hc => by
    obtain ⟨hz, hTI, ⟨x, y, hTO⟩, ⟨o1, e1, _, d1⟩, ⟨o2, e2, _, d2⟩⟩ := st
    have e' : c = z ∨ c = TI ∨ c = TO ∨ c = i1 ∨ c = i2 := by simpa using hc
    rcases e' with q | q | q | q | q
    · rw [q]; exact ⟨_, hz, fun v q => nomatch q⟩
    · rw [q]; exact ⟨_, hTI, fun v q => nomatch q⟩
    · rw [q]; exact ⟨_, hTO, fun v q => nomatch q⟩
    · rw [q]; exact ⟨o1, e1, fun v q => by rw [d1] at q; cases q⟩
    · rw [q]; exact ⟨o2, e2, fun v q => by rw [d2] at q; cases q⟩
  keep := fun i h h' st k => by
    obtain ⟨hz, hTI, ⟨x, y, hTO⟩, h1, h2⟩ := st
    exact ⟨k z (by simp) _ hz, k TI (by simp) _ hTI, ⟨x, y, k TO (by simp) _ hTO⟩, h1.at fun o q => k i1 (by simp) o q, h2.at fun o q => k i2 (by simp) o q⟩
  item := by
    intro X hP hw hK hc i pins s σ H E I hf st hg
    subst hP hw hK
    obtain ⟨hz, hTI, ⟨x0, y0, hTO⟩, h1, h2⟩ := st
    obtain ⟨xs, ys, x, y, hqx, hqy, hx, hy⟩ := hg
    obtain ⟨its, rv, p, _⟩ := I.list hqx
    obtain ⟨its2, rv2, p2, _⟩ := I.list hqy
    obtain ⟨u, hu, ru⟩ := rv.get hx
    obtain ⟨u2, hu2, ru2⟩ := rv2.get hy
    have hzl : z < s.heap.objs.size := Heap.lt_size hz
    refine wpAny_pyNext_zip_item D hz hTI hTO h1 h2 p.isList p2.isList (x := u) (y := u2) (by simpa using hu) (by simpa using hu2) fun h' z' TO' h1' h2' hT hsz hk => ?_
    refine ⟨_, rfl, wpAny_letOwnedTupleGo_zip (s := { s with heap := h' }) z' fun h'' z'' sb => ?_⟩
    have hT2 : h''.get? s.heap.objs.size = some { cls := .type "tuple", data := .seq #[u, u2] } := (sb.2 _ (Nat.ne_of_gt hzl)).trans hT
    have new : ObjOk X.prog X.w (upd H s.heap.objs.size (.frz (tupO #[u, u2]) (.tup [x, y]))) h'' s.heap.objs.size (.frz (tupO #[u, u2]) (.tup [x, y])) :=
      ⟨hT2, by show 2 ≤ sizeLine; decide, [u, u2], .cons ru (.cons ru2 .nil), ⟨_, hT2, rfl, _, rfl⟩⟩
    have I1 : Inv X pins σ (upd H s.heap.objs.size (.frz (tupO #[u, u2]) (.tup [x, y]))) { s with heap := h'' } :=
      I.turnedNew (t' := s.toks) (ch := [z, TI, TO, i1, i2]) (fun c o hb q => (sb.2 c (fun q' => hb (by simp [q']))).trans (hk c o (fun q' => hb (by simp [q'])) (fun q' => hb (by simp [q'])) (fun q' => hb (by simp [q'])) (fun q' => hb (by simp [q'])) q)) hf (Nat.le_refl _) new
    refine ⟨.ref s.heap.objs.size, _, I1, rfl, ⟨_, x, y, _, rfl, I.hok.fresh (Nat.le_refl _), rfl, rfl, fun l hl => by rw [I.list_inj hl hqx]; exact hx, fun l hl => by rw [I.list_inj hl hqy]; exact hy⟩, ⟨z'', ?_, ⟨u, u2, ?_⟩, ?_, ?_⟩, fun c hcm => ?_⟩
    · exact (sb.2 _ D.TIz).trans (hk _ _ D.TIz D.TITO D.TIi1 D.TIi2 hTI)
    · exact (sb.2 _ D.TOz).trans TO'
    · exact h1'.at fun o q => (sb.2 _ D.i1z).trans q
    · exact h2'.at fun o q => (sb.2 _ D.i2z).trans q
    · have hlt : c < s.heap.objs.size := by
        have e' : c = z ∨ c = TI ∨ c = TO ∨ c = i1 ∨ c = i2 := by simpa using hcm
        rcases e' with q | q | q | q | q
        · rw [q]; exact hzl
        · rw [q]; exact Heap.lt_size hTI
        · rw [q]; exact Heap.lt_size hTO
        · rw [q]; obtain ⟨_, e1, _⟩ := h1; exact Heap.lt_size e1
        · rw [q]; obtain ⟨_, e2, _⟩ := h2; exact Heap.lt_size e2
      rw [upd_ne (Nat.ne_of_lt hlt)]
      exact (hf c hcm).1
  done := by
    intro X hP hw hK hc i pins s σ H E I hf st hg
    subst hP hw hK
    obtain ⟨hz, hTI, ⟨x0, y0, hTO⟩, h1, h2⟩ := st
    obtain ⟨xs, ys, hqx, hqy, hend⟩ := hg
    obtain ⟨its, rv, p, _⟩ := I.list hqx
    obtain ⟨its2, rv2, p2, _⟩ := I.list hqy
    have l1 := rv.length
    have l2 := rv2.length
    have he : its.toArray[i]? = none ∨ its2.toArray[i]? = none := by
      rcases hend with q | q
      · exact .inl (by simp; omega)
      · exact .inr (by simp; omega)
    exact wpAny_pyNext_zip_end (I.ok.hd hc) D hz hTI hTO h1 h2 p.isList p2.isList he fun h' hk => ⟨rfl, I.turnedL (t' := s.toks) (ch := [z, TI, TO, i1, i2]) (fun c o hb q =>
      hk c o (fun q' => hb (by simp [q'])) (fun q' => hb (by simp [q'])) (fun q' => hb (by simp [q'])) (fun q' => hb (by simp [q'])) q) hf⟩
  self := fun A i s Q E st h => wpAny_pyIter_zip st.1 h
theorem turn_zipTN {P : Program} {w : World} {K : PySem.W.Frag} {elts : List Expr} {kk : Nat} {tpos : Pos} {a b z TI TO i1 i2 : Addr} (D : ZipApart z TI TO i1 i2 a b) :
    Turn P w K (.Tuple elts kk tpos) (ItzTN K a b) [z, TI, TO, i1, i2] z (fun i h => IsZip h z TI TO .none ∧ IsPair h TI (.ref i1) (.ref i2) ∧ (∃ x y, IsPair h TO x y) ∧ h.IsTupleIter i1 a i ∧ h.IsTupleIter i2 b i) where
  mem := by simp
  obj := fun i h st c hc => by
    obtain ⟨hz, hTI, ⟨x, y, hTO⟩, ⟨o1, e1, _, d1⟩, ⟨o2, e2, _, d2⟩⟩ := st
    have e' : c = z ∨ c = TI ∨ c = TO ∨ c = i1 ∨ c = i2 := by simpa using hc
    rcases e' with q | q | q | q | q
    · rw [q]; exact ⟨_, hz, fun v q => nomatch q⟩
    · rw [q]; exact ⟨_, hTI, fun v q => nomatch q⟩
    · rw [q]; exact ⟨_, hTO, fun v q => nomatch q⟩
    · rw [q]; exact ⟨o1, e1, fun v q => by rw [d1] at q; cases q⟩
    · rw [q]; exact ⟨o2, e2, fun v q => by rw [d2] at q; cases q⟩
  keep := fun i h h' st k => by
    obtain ⟨hz, hTI, ⟨x, y, hTO⟩, h1, h2⟩ := st
    exact ⟨k z (by simp) _ hz, k TI (by simp) _ hTI, ⟨x, y, k TO (by simp) _ hTO⟩, h1.at fun o q => k i1 (by simp) o q, h2.at fun o q => k i2 (by simp) o q⟩
  item := by
    intro X hP hw hK hc i pins s σ H E I hf st hg
    subst hP hw hK
    obtain ⟨hz, hTI, ⟨x0, y0, hTO⟩, h1, h2⟩ := st
    obtain ⟨xs, ys, x, y, hqx, hqy, hx, hy⟩ := hg
    obtain ⟨its, rv, p, _⟩ := I.tuple hqx
    obtain ⟨its2, rv2, p2, _⟩ := I.tuple hqy
    obtain ⟨u, hu, ru⟩ := rv.get hx
    obtain ⟨u2, hu2, ru2⟩ := rv2.get hy
    have hzl : z < s.heap.objs.size := Heap.lt_size hz
    refine pyNext_zipT_item D hz hTI hTO h1 h2 p p2 (x := u) (y := u2) (by simpa using hu) (by simpa using hu2) fun h' z' TO' h1' h2' hT hsz hk => ?_
    refine ⟨_, rfl, wpAny_letOwnedTupleGo_zip (s := { s with heap := h' }) z' fun h'' z'' sb => ?_⟩
    have hT2 : h''.get? s.heap.objs.size = some { cls := .type "tuple", data := .seq #[u, u2] } := (sb.2 _ (Nat.ne_of_gt hzl)).trans hT
    have new : ObjOk X.prog X.w (upd H s.heap.objs.size (.frz (tupO #[u, u2]) (.tup [x, y]))) h'' s.heap.objs.size (.frz (tupO #[u, u2]) (.tup [x, y])) :=
      ⟨hT2, by show 2 ≤ sizeLine; decide, [u, u2], .cons ru (.cons ru2 .nil), ⟨_, hT2, rfl, _, rfl⟩⟩
    have I1 : Inv X pins σ (upd H s.heap.objs.size (.frz (tupO #[u, u2]) (.tup [x, y]))) { s with heap := h'' } :=
      I.turnedNew (t' := s.toks) (ch := [z, TI, TO, i1, i2]) (fun c o hb q => (sb.2 c (fun q' => hb (by simp [q']))).trans (hk c o (fun q' => hb (by simp [q'])) (fun q' => hb (by simp [q'])) (fun q' => hb (by simp [q'])) (fun q' => hb (by simp [q'])) q)) hf (Nat.le_refl _) new
    refine ⟨.ref s.heap.objs.size, _, I1, rfl, ⟨_, x, y, _, rfl, I.hok.fresh (Nat.le_refl _), rfl, rfl, fun l hl => by rw [I.tuple_inj hl hqx]; exact hx, fun l hl => by rw [I.tuple_inj hl hqy]; exact hy⟩, ⟨z'', ?_, ⟨u, u2, ?_⟩, ?_, ?_⟩, fun c hcm => ?_⟩
    · exact (sb.2 _ D.TIz).trans (hk _ _ D.TIz D.TITO D.TIi1 D.TIi2 hTI)
    · exact (sb.2 _ D.TOz).trans TO'
    · exact h1'.at fun o q => (sb.2 _ D.i1z).trans q
    · exact h2'.at fun o q => (sb.2 _ D.i2z).trans q
    · have hlt : c < s.heap.objs.size := by
        have e' : c = z ∨ c = TI ∨ c = TO ∨ c = i1 ∨ c = i2 := by simpa using hcm
        rcases e' with q | q | q | q | q
        · rw [q]; exact hzl
        · rw [q]; exact Heap.lt_size hTI
        · rw [q]; exact Heap.lt_size hTO
        · rw [q]; obtain ⟨_, e1, _⟩ := h1; exact Heap.lt_size e1
        · rw [q]; obtain ⟨_, e2, _⟩ := h2; exact Heap.lt_size e2
      rw [upd_ne (Nat.ne_of_lt hlt)]
      exact (hf c hcm).1
  done := by
    intro X hP hw hK hc i pins s σ H E I hf st hg
    subst hP hw hK
    obtain ⟨hz, hTI, ⟨x0, y0, hTO⟩, h1, h2⟩ := st
    obtain ⟨xs, ys, hqx, hqy, hend⟩ := hg
    obtain ⟨its, rv, p, _⟩ := I.tuple hqx
    obtain ⟨its2, rv2, p2, _⟩ := I.tuple hqy
    have l1 := rv.length
    have l2 := rv2.length
    have he : its.toArray[i]? = none ∨ its2.toArray[i]? = none := by
      rcases hend with q | q
      · exact .inl (by simp; omega)
      · exact .inr (by simp; omega)
    exact pyNext_zipT_end (I.ok.hd hc) D hz hTI hTO h1 h2 p p2 he fun h' hk => ⟨rfl, I.turnedL (t' := s.toks) (ch := [z, TI, TO, i1, i2]) (fun c o hb q =>
      hk c o (fun q' => hb (by simp [q'])) (fun q' => hb (by simp [q'])) (fun q' => hb (by simp [q'])) (fun q' => hb (by simp [q'])) q) hf⟩
  self := fun A i s Q E st h => wpAny_pyIter_zip st.1 h

def iZipN (K : PySem.W.Frag) (ta : TA) : TI := fun σ H R => ta σ H fun vs H1 => ∃ a b xs ys, vs = [.ref a, .ref b] ∧ ((SqL K H1 a xs ∧ SqL K H1 b ys ∧ R (ItzN K a b) H1) ∨ (SqT K H1 a xs ∧ SqT K H1 b ys ∧ R (ItzTN K a b) H1))
theorem pi_zipN {X : Cx} {e e2 : Expr} {ta : TA} {p pos tpos : Pos} {elts : List Expr} {kk : Nat} (hg : Gl X "zip") (hm : X.mg "zip" = none) (ha : PA X [e, e2] ta)
    (hs : starEach [e, e2] X.env = (false, eval e X.env) :: starEach [e2] X.env := by rfl) (hpl : (backTo pos (starEach [e2] X.env)).any (·.1) = false := by rfl) :
    PI X (.Tuple elts kk tpos) (.Call (.Name "zip" p) [e, e2] [] pos) (iZipN X.K ta) := by
  refine ⟨fun pins s σ H R I h => ?_⟩
  refine Call_ (ld_blt I hg hm PyProof.Rows.boot_zip (PyProof.Rows.callWith_type1 (thn (ha.run pos pins s σ H _ I h) fun us s1 ⟨vs, H1, I1, r1, q1⟩ => ?_) hs hpl))
  obtain ⟨a, b, xs, ys, ex, q1⟩ := q1
  subst ex
  cases r1 with
  | cons r rr =>
    cases rr with
    | cons r' rr =>
      cases rr
      cases r
      cases r'
      have fresh5 : ∀ c, c ∈ [s1.heap.objs.size + 4, s1.heap.objs.size + 2, s1.heap.objs.size + 3, s1.heap.objs.size, s1.heap.objs.size + 1] → FpOk X pins H1 c := fun c hcm => by
        have e' : c = s1.heap.objs.size + 4 ∨ c = s1.heap.objs.size + 2 ∨ c = s1.heap.objs.size + 3 ∨ c = s1.heap.objs.size ∨ c = s1.heap.objs.size + 1 := by simpa using hcm
        have hle : s1.heap.objs.size ≤ c := by
          rcases e' with z | z | z | z | z
          · rw [z]; exact Nat.le_add_right _ _
          · rw [z]; exact Nat.le_add_right _ _
          · rw [z]; exact Nat.le_add_right _ _
          · rw [z]; exact Nat.le_refl _
          · rw [z]; exact Nat.le_add_right _ _
        exact I1.fpOk hle (I1.hok.fresh hle)
      rcases q1 with ⟨hqx, hqy, q⟩ | ⟨hqx, hqy, q⟩
      · obtain ⟨its, rv, p1, _⟩ := I1.list hqx
        obtain ⟨its2, rv2, p2, _⟩ := I1.list hqy
        refine call_zip_2 p1.isList p2.isList fun h' hz hTI hTO h1 h2 hsz hk => wpAny_pyIter_zip hz ?_
        have I2 : Inv X pins σ H1 { s1 with heap := h' } := I1.kept (t' := s1.toks) hk
        exact ⟨s1.heap.objs.size + 4, [s1.heap.objs.size + 4, s1.heap.objs.size + 2, s1.heap.objs.size + 3, s1.heap.objs.size, s1.heap.objs.size + 1], _, _, H1, rfl, I2, turn_zipN (PySem.W.ktu_apart s1.heap.objs.size a b p1.lt p2.lt), ⟨hz, hTI, ⟨_, _, hTO⟩, h1, h2⟩, fresh5, q⟩
      · obtain ⟨its, rv, p1, _⟩ := I1.tuple hqx
        obtain ⟨its2, rv2, p2, _⟩ := I1.tuple hqy
        obtain ⟨o1, ho1, _⟩ := id p1
        obtain ⟨o2, ho2, _⟩ := id p2
        refine call_zipT (show s1.heap.IsTuple a its.toArray from p1) (show s1.heap.IsTuple b its2.toArray from p2) fun h' hz hTI hTO h1 h2 hsz hk => wpAny_pyIter_zip hz ?_
        have I2 : Inv X pins σ H1 { s1 with heap := h' } := I1.kept (t' := s1.toks) hk
        exact ⟨s1.heap.objs.size + 4, [s1.heap.objs.size + 4, s1.heap.objs.size + 2, s1.heap.objs.size + 3, s1.heap.objs.size, s1.heap.objs.size + 1], _, _, H1, rfl, I2, turn_zipTN (PySem.W.ktu_apart s1.heap.objs.size a b (Heap.lt_size ho1) (Heap.lt_size ho2)), ⟨hz, hTI, ⟨_, _, hTO⟩, h1, h2⟩, fresh5, q⟩

end Mi

set_option Elab.async false
set_option linter.all false
set_option maxRecDepth 100000
/-! Mini: dict displays, comprehensions, walks; every expression. -/
namespace Mi
open PySem PySem.Spec PyProof.Rows L2
section
variable {T : Tb} {Z : Wi} {W : WX} {Γ : Gm} {G : Nat → Option D} {X : Cx} {σ : L2.St} {m : List Addr} {H : Hp} {h : Hm} {ρ : Env}
/-! ### dict displays -/
def trs (Z : Wi) (W : WX) (Γ : Gm) (G : Nat → Option D) : List L2.Key → Es → List (TE × TE)
  | k :: ks, .cons e es => (tC (kV k), tE Z W (ev Γ G e)) :: trs Z W Γ G ks es
  | _, _ => []
def Es.len : Es → Nat
  | .nil => 0
  | .cons _ es => Es.len es + 1
theorem evs_len : ∀ {es : Es} {ρ : Env} {h : Hm} {ds : List D} {h' : Hm}, evs Γ G es ρ h = .ok ds h' → ds.length = Es.len es
  | .nil, ρ, h, ds, h', e => by simp only [evs] at e; cases e; rfl
  | .cons x es, ρ, h, ds, h', e => by
    simp only [evs] at e
    obtain ⟨a, h1, e1, e⟩ := bnd_ok' e
    obtain ⟨b, h2, e2, e⟩ := bnd_ok' e
    obtain ⟨c, h3, e3, e⟩ := bnd_ok' e
    cases e
    simp [Es.len, evs_len e3]
theorem pairs_of : ∀ (ks : List L2.Key) (es : Es) {m : List Addr} {H : Hp} {h : Hm} {σ : L2.St} {ρ : Env} {Q : List V → Hp → Prop} {Q' : List (V × V) → Hp → Prop}, ks.length = Es.len es → StR Z.K m H h σ ρ → Pst Z W σ (RpLs Z.K) (fun _ _ _ => True) m H (evs Γ G es ρ h) Q → (∀ vs H1, vs.length = ks.length → Q vs H1 → Q' ((ks.map kV).zip vs) H1) →
    tPairs (trs Z W Γ G ks es) σ H Q'
  | [], .nil, m, H, h, σ, ρ, Q, Q', _, s, p, hq => by simp only [evs] at p; exact hq [] H rfl (p [] H m s.hr .refl ⟨.nil, rfl⟩ trivial)
  | k :: ks, .cons e es, m, H, h, σ, ρ, Q, Q', hl, s, p, hq => by
    simp only [evs] at p
    refine tE_own nbT s p fun v H1 m1 d h1 s1 x1 r1 st q1 => ?_
    refine pairs_of ks es (by simpa [Es.len] using hl) s1 (Pst.mono (Pst.bnd nbT q1) fun vs H2 hh => hh) fun vs H2 lv ⟨m2, ds, h2, e2, a, b, c, n, q2⟩ => ?_
    exact hq (v :: vs) H2 (by simp [lv]) (q2 (v :: vs) H2 m2 a .refl ⟨.cons (Rp.ext s1.hr b r1) c.1, by simp [D.stL, st, c.2]⟩ trivial)
  | [], .cons _ _, _, _, _, _, _, _, _, hl, _, _, _ => by simp [Es.len] at hl
  | _ :: _, .nil, _, _, _, _, _, _, _, hl, _, _, _ => by simp [Es.len] at hl
theorem mKs_len : ∀ {ks : List L2.Key} {keys : List (Option Expr)}, mKs ks keys = true → keys.length = ks.length ∧ keys.all (·.isSome) = true
  | [], [], _ => ⟨rfl, rfl⟩
  | [], _ :: _, h => by simp [mKs] at h
  | .inl _ :: _, [], h => by simp [mKs] at h
  | .inr _ :: _, [], h => by simp [mKs] at h
  | .inl i :: ks, x :: es, h => by
    unfold mKs at h
    split at h
    · rename_i e1 e2; simp at e1
    · rename_i e1 e2
      cases e1; cases e2
      simp only [Bool.and_eq_true] at h
      obtain ⟨a, b⟩ := mKs_len h.2
      exact ⟨by simp [a], by simp [b]⟩
    · rename_i e1 e2; cases e1
    · cases h
  | .inr i :: ks, x :: es, h => by
    unfold mKs at h
    split at h
    · rename_i e1 e2; simp at e1
    · rename_i e1 e2; cases e1
    · rename_i e1 e2
      cases e1; cases e2
      simp only [Bool.and_eq_true] at h
      obtain ⟨a, b⟩ := mKs_len h.2
      exact ⟨by simp [a], by simp [b]⟩
    · cases h
theorem pp_cons {k : L2.Key} {ks : List L2.Key} {key : Option Expr} {keys : List (Option Expr)} {e : E} {es : Es} {x : Expr} {xs : List Expr} {pos : Pos} (hk : mKs (k :: ks) (key :: keys) = true) (he : PE X x (tE Z W (ev Γ G e))) (hr : mKs ks keys = true → PPs X pos keys xs (trs Z W Γ G ks es)) : PPs X pos (key :: keys) (x :: xs) (trs Z W Γ G (k :: ks) (.cons e es)) := by
  unfold mKs at hk
  split at hk
  · rename_i e1 e2; cases e1
  · rename_i i ks' j a b es' e1 e2
    cases e1; cases e2
    simp only [Bool.and_eq_true, decide_eq_true_eq] at hk
    obtain ⟨rfl, hk⟩ := hk
    exact pps_cons (tk := tC (kV (.inl i))) pe_int he (hr hk)
  · rename_i i ks' j a b es' e1 e2
    cases e1; cases e2
    simp only [Bool.and_eq_true, decide_eq_true_eq] at hk
    obtain ⟨rfl, hk⟩ := hk
    exact pps_cons (tk := tC (kV (.inr i))) pe_str he (hr hk)
  · cases hk
theorem zip_fst {α β : Type} : ∀ (a : List α) (b : List β), a.length = b.length → (a.zip b).map (·.1) = a
  | [], [], _ => rfl
  | x :: a, y :: b, h => by simp [zip_fst a b (by simpa using h)]
  | [], _ :: _, h => by simp at h
  | _ :: _, [], h => by simp at h
theorem zip_snd {α β : Type} : ∀ (a : List α) (b : List β), a.length = b.length → (a.zip b).map (·.2) = b
  | [], [], _ => rfl
  | x :: a, y :: b, h => by simp [zip_snd a b (by simpa using h)]
  | [], _ :: _, h => by simp at h
  | _ :: _, [], h => by simp at h
theorem zip_kV : ∀ (ks : List L2.Key) (vs : List V), (ks.map kV).zip vs = (ks.zip vs).map fun kv => (kV kv.1, kv.2)
  | [], _ => by simp
  | _ :: _, [] => by simp
  | k :: ks, v :: vs => by simp [zip_kV ks vs]
theorem Pst.bnd0 {α β γ δ : Type} {rel : List Addr → Hp → α → β → Prop} {new : Hp → α → β → Prop} {rel2 : List Addr → Hp → γ → δ → Prop} {new2 : Hp → γ → δ → Prop} {r : R β} {f : β → Hm → R δ} {Q : γ → Hp → Prop} (p : Pst Z W σ rel2 new2 m H (Mi.bnd r f) Q) :
    Pst Z W σ rel new m H r fun v H1 => ∃ m1 d h1, r = .ok d h1 ∧ HRp Z.K m1 H1 h1 ∧ Ext m H m1 H1 ∧ rel m1 H1 v d ∧ Pst Z W σ rel2 new2 m H (f d h1) Q := by
  cases r with
  | ok d h => exact fun v H1 m1 a b c n => ⟨m1, d, h, rfl, a, b, c, p⟩
  | ex c fs h => exact p
  | bad => exact p
theorem Pst.know {α β : Type} {rel : List Addr → Hp → α → β → Prop} {new : Hp → α → β → Prop} {r : R β} {Q : α → Hp → Prop} (p : Pst Z W σ rel new m H r Q) :
    Pst Z W σ rel new m H r fun v H1 => Q v H1 ∧ ∃ m1 d h1, r = .ok d h1 ∧ HRp Z.K m1 H1 h1 ∧ Ext m H m1 H1 ∧ rel m1 H1 v d := by
  cases r with
  | ok d h => exact fun v H1 m1 a b c n => ⟨p v H1 m1 a b c n, m1, d, h, rfl, a, b, c⟩
  | ex c fs h => exact p
  | bad => exact p
theorem numU {u : HO} {o : O} {p : Addr} {kvs : List (L2.Key × V)} (r : HRp Z.K m H h) (e : H p = some (.dK kvs)) (n : p ∉ m) (ho : OAt Z.K m (upd H p u) p o) : HRp Z.K (m ++ [p]) (upd H p u) (h ++ [o]) := (r.upU e rfl n).num n ho
/-- a new dict, written and numbered -/
theorem dic_fin {m0 : List Addr} {H0 : Hp} {ks : List L2.Key} {vs : List V} {ds : List D} {p : Addr} {Q : VK} (nd : ks.Nodup) (lv : vs.length = ks.length) (r : HRp Z.K m H h) (x0 : Ext m0 H0 m H) (e0 : H0 p = none) (e : H p = some (.dK [])) (n : p ∉ m) (c : RpLs Z.K m H vs ds) (pv : PV Z W σ m0 H0 (.ok (.ref h.length) (h ++ [.dic (ks.zip ds)])) Q) :
    Q (.ref p) (upd H p (.dK (mergeK [] (ks.zip vs)))) := by
  have ld : ds.length = ks.length := by rw [← c.1.length, lv]
  rw [mergeK_new (by simp) (by rw [zip_fst _ _ lv.symm]; exact nd), List.nil_append]
  have hr' := numU (o := .dic (ks.zip ds)) (u := .dK (ks.zip vs)) r e n (.dic upd_same ⟨by rw [zip_fst _ _ lv.symm, zip_fst _ _ ld.symm], by rw [zip_snd _ _ ld.symm]; exact c.2, by rw [zip_snd _ _ ld.symm, zip_snd _ _ lv.symm]; exact RpL.upU e rfl c.2 c.1⟩)
  refine pv (.ref p) _ _ hr' ?_ (.ref ?_) (newV_st rfl)
  · obtain ⟨l, el, f⟩ := x0.pre
    refine ⟨⟨l ++ [p], by rw [el, List.append_assoc], fun b hb => ?_⟩, fun a o q na => ?_, fun a o w q => ?_⟩
    · rcases List.mem_append.mp hb with hb | hb
      · exact f b hb
      · have : b = p := by simpa using hb
        subst this; exact e0
    · rw [upd_ne (by intro z; subst z; rw [e0] at q; cases q)]; exact x0.fr a o q na
    · rw [upd_ne (by intro z; subst z; rw [e0] at q; cases q)]; exact x0.fz a o w q
  · rw [← r.len, List.getElem?_append_right (Nat.le_refl _)]; simp
theorem l_dic {ks : List L2.Key} {es : Es} {keys : List (Option Expr)} {xs : List Expr} {p : Pos} (hk : mKs ks keys = true) (h15 : ks.length ≤ 15) (hxl : xs.length = ks.length) (hel : Es.len es = xs.length) (nd : ks.Nodup) (hp : PPs X p keys xs (trs Z W Γ G ks es)) : PE X (.Dict keys xs p) (tE Z W (ev Γ G (.dic ks es))) := by
  obtain ⟨kl, ka⟩ := mKs_len hk
  by_cases h0 : keys = []
  · subst h0
    have e0 : ks = [] := by cases ks with
      | nil => rfl
      | cons _ _ => simp at kl
    subst e0
    have e1 : xs = [] := by cases xs with
      | nil => rfl
      | cons _ _ => simp at hxl
    subst e1
    have e2 : es = .nil := by cases es with
      | nil => rfl
      | cons _ _ => simp [Es.len] at hel
    subst e2
    refine PE.of pe_dnewK fun σ H Q ⟨m, ρ, h, s, q⟩ => fun p hp => ?_
    simp only [ev, evs, bnd_ok] at q
    obtain ⟨_, q⟩ := Pst.gd q
    have hh := dic_fin (ks := []) (vs := []) (ds := []) (p := p) (H := upd H p (.dK [])) nd rfl (s.hr.lay hp) (Ext.lay hp) hp upd_same (s.hr.fresh hp) ⟨.nil, rfl⟩ q
    have ee : upd (upd H p (HO.dK [])) p (HO.dK (mergeK [] (([] : List L2.Key).zip ([] : List V)))) = upd H p (HO.dK []) := by
      funext b
      by_cases hb : b = p
      · subst hb; rw [upd_same, upd_same]; rfl
      · rw [upd_ne hb]
    rwa [ee] at hh
  · refine PE.of (pe_disp hp ka (by rw [kl, hxl]) h0 (by rw [kl]; exact h15)) fun σ H Q ⟨m, ρ, h, s, q⟩ => fun p hpn => ?_
    simp only [ev] at q
    have q1 := Pst.bnd0 (rel := RpLs Z.K) (new := fun _ _ _ => True) q
    have q2 := Pst.know (Pst.rebase (m' := m) (H' := upd H p (.dK [])) (fun {_ _} _ => trivial) (Ext.lay hpn) q1)
    have s2 : StR Z.K m (upd H p (.dK [])) h σ ρ := s.go (s.hr.lay hpn) (Ext.lay hpn)
    refine pairs_of ks es (by rw [hel, hxl]) s2 q2 fun vs H1 lv ⟨⟨m1, ds, h1, e1, hr1, x1, c1, pv⟩, m1', ds', h1', e1', hr1', x1', c1'⟩ => ?_
    have nP : p ∉ m := s.hr.fresh hpn
    have eP := x1'.fr p _ upd_same nP
    refine ⟨eP, ks.zip vs, ?_, by rw [List.length_zip, lv]; omega, ?_⟩
    · exact zip_kV ks vs
    · rw [e1] at e1'
      cases e1'
      obtain ⟨_, pv⟩ := Pst.gd pv
      exact dic_fin nd lv hr1' (Ext.trans hr1' (Ext.lay hpn) x1') hpn eP (x1'.notIn upd_same nP) c1' pv
theorem pairs2 {k v : E} {Q : List V → Hp → Prop} {Q' : List (V × V) → Hp → Prop} (s : StR Z.K m H h σ ρ) (p : Pst Z W σ (RpLs Z.K) (fun _ _ _ => True) m H (evs Γ G (.cons k (.cons v .nil)) ρ h) Q) (hq : ∀ a b H1, Q [a, b] H1 → Q' [(a, b)] H1) :
    tPairs [(tE Z W (ev Γ G k), tE Z W (ev Γ G v))] σ H Q' := by
  simp only [evs, bnd_assoc, bnd_ok] at p
  refine tE_own nbT s p fun a H1 m1 d1 h1 s1 x1 r1 st1 q1 => ?_
  refine tE_own nbT s1 q1 fun b H2 m2 d2 h2 s2 x2 r2 st2 q2 => ?_
  exact hq a b H2 (q2 [a, b] H2 m2 s2.hr .refl ⟨.cons (Rp.ext s1.hr x2 r1) (.cons r2 .nil), by simp [D.stL, st1, st2]⟩ trivial)
theorem l_dic1 {k v : E} {xk xv : Expr} {p : Pos} (hk : PE X xk (tE Z W (ev Γ G k))) (hv : PE X xv (tE Z W (ev Γ G v))) : PE X (.Dict [some xk] [xv] p) (tE Z W (ev Γ G (.dic1 (.cons k (.cons v .nil))))) := by
  refine PE.of (pe_disp (pps_cons hk hv pps_nil) rfl rfl (by simp) (by simp)) fun σ H Q ⟨m, ρ, h, s, q⟩ => fun p hpn => ?_
  simp only [ev] at q
  have q1 := Pst.bnd0 (rel := RpLs Z.K) (new := fun _ _ _ => True) q
  have q2 := Pst.know (Pst.rebase (m' := m) (H' := upd H p (.dK [])) (fun {_ _} _ => trivial) (Ext.lay hpn) q1)
  have s2 : StR Z.K m (upd H p (.dK [])) h σ ρ := s.go (s.hr.lay hpn) (Ext.lay hpn)
  refine pairs2 s2 q2 fun a b H1 ⟨⟨m1, ds, h1, e1, hr1, x1, c1, pv⟩, m1', ds', h1', e1', hr1', x1', c1'⟩ => ?_
  have nP : p ∉ m := s.hr.fresh hpn
  have eP := x1'.fr p _ upd_same nP
  rw [e1] at e1'
  cases e1'
  obtain ⟨c1, c2⟩ := c1'
  cases c1 with
  | cons ra t =>
    rename_i da _
    cases t with
    | cons rb t =>
      rename_i db _
      cases t
      cases ek : keyOf da with
      | none => simp only [dic1K, ek] at pv; exact pv.elim
      | some k0 =>
        simp only [dic1K, ek, Option.map_some] at pv
        obtain rfl := keyOf_view ra ek
        refine ⟨eP, [(k0, b)], rfl, by simp, ?_⟩
        exact dic_fin (ks := [k0]) (vs := [b]) (ds := [db]) (by simp) rfl hr1' (Ext.trans hr1' (Ext.lay hpn) x1') hpn eP (x1'.notIn upd_same nP) ⟨.cons rb .nil, by simp [D.stL] at c2 ⊢; exact c2.2⟩ pv
/-! ### comprehensions -/
theorem PTs.of {X : Cx} {ifs : List Expr} {t t' : TT} (p : PTs X ifs t) (h : ∀ σ H Q, t' σ H Q → t σ H Q) : PTs X ifs t' := ⟨fun pins s σ H Q I q => p.run pins s σ H Q I (h σ H Q q)⟩
theorem f_nil : PTs X [] (tT Z W (evF Γ G .nil)) := PTs.of pts_nil fun σ H Q ⟨m, ρ, h, s, q⟩ => by simp only [evF] at q; exact q true H m s.hr .refl rfl trivial
theorem f_one {e : E} {x : Expr} (he : PT X x (tT Z W (truF (ev Γ G e)))) : PTs X [x] (tT Z W (evF Γ G (.cons e .nil))) := PTs.of (pts_one he) fun σ H Q ⟨m, ρ, h, s, q⟩ => by
  refine ⟨m, ρ, h, s, ?_⟩
  have e : evF Γ G (.cons e .nil) ρ h = truF (ev Γ G e) ρ h := by
    simp only [evF, truF]
    cases ev Γ G e ρ h with
    | ok d h1 =>
      simp only [bnd_ok]
      cases truth h1 d with
      | none => rfl
      | some k => cases k <;> rfl
    | ex _ _ _ => rfl
    | bad => rfl
  rw [← e]; exact q
theorem l_comp (g : Good T Z W Γ G X) {e : E} {t : Mi.T} {i : I} {fs : Es} {w : List (Str × Nat)} {elt tg iter : Expr} {ifs : List Expr} {scope : Scope} {pos : Pos} (hok : okH iter = true) (hi : PI X tg iter (tI Z W (evI Γ G i))) (ok : BlkOk X.N X.env.scope scope w) (hv : ∀ i ∈ t.slots, i ∈ w.map (·.2))
    (hg : ∀ (s : Shared) (H : Hp) (C : Addr) (cl : List (Str × Addr)) (fp : List Addr), PG (X.blk s H scope (compEnvC scope cl C X.env) fp) tg (tG Z.K t)) (ht : ∀ (s : Shared) (H : Hp) (C : Addr) (cl : List (Str × Addr)) (fp : List Addr), PTs (X.blk s H scope (compEnvC scope cl C X.env) fp) ifs (tT Z WF (evF Γ G fs)))
    (he : ∀ (s : Shared) (H : Hp) (C : Addr) (cl : List (Str × Addr)) (fp : List Addr), PE (X.blk s H scope (compEnvC scope cl C X.env) fp) elt (tE Z WF (ev Γ G e))) :
    PE X (.ListComp elt [⟨tg, iter, ifs, 0⟩] scope pos) (tE Z W (ev Γ G (.comp e t i fs w))) :=
  PE.of (pe_lc g.calm g.nod hi ok hg ht he (okH_set X.env hok)) fun σ H Q q => lc_of hv (by simp only [ev] at q ⊢; exact q)
/-! ### what is walked -/
theorem pi_any {X : Cx} {tg l : Expr} {tl : TE} (hl : PE X l tl) : PI X tg l (fun σ H R => tl σ H fun x H1 => ∃ a, x = .ref a ∧ (((∃ xs, SqL X.K H1 a xs) ∧ R (Itl X.K a) H1) ∨ ((∃ xs, SqT X.K H1 a xs) ∧ R (Itt X.K a) H1))) := by
  refine ⟨fun pins s σ H R I h => ?_⟩
  refine thn (hl.run pins s σ H _ I h) fun v s1 ⟨x, H1, I1, r1, q1⟩ => ?_
  obtain ⟨a, e, q⟩ := q1
  subst e
  cases r1
  rcases q with ⟨⟨xs, hq⟩, q⟩ | ⟨⟨xs, hq⟩, q⟩
  · obtain ⟨its, rv, p, hz⟩ := I1.list hq
    refine wpAny_pyIter_list p.isList ?_
    refine ⟨s1.heap.objs.size, [s1.heap.objs.size], _, _, H1, rfl, I1.kept (t' := s1.toks) fun b o e => Heap.get?_push_of_some _ e, turn_list a _, ⟨_, Heap.get?_push_size _ rfl, rfl, rfl⟩, fun b hb => ?_, q⟩
    have e : b = s1.heap.objs.size := by simpa using hb
    subst e
    exact I1.fpOk (Nat.le_refl _) (I1.hok.fresh (Nat.le_refl _))
  · obtain ⟨its, rv, p, hz⟩ := I1.tuple hq
    refine wpAny_pyIter_tuple (show s1.heap.IsTuple a its.toArray from p) ?_
    refine ⟨s1.heap.objs.size, [s1.heap.objs.size], _, _, H1, rfl, I1.kept (t' := s1.toks) fun b o e => Heap.get?_push_of_some _ e, turn_tuple a _, ⟨_, Heap.get?_push_size _ rfl, rfl, rfl⟩, fun b hb => ?_, q⟩
    have e : b = s1.heap.objs.size := by simpa using hb
    subst e
    exact I1.fpOk (Nat.le_refl _) (I1.hok.fresh (Nat.le_refl _))
/-- a value first, then its walk -/
theorem tI_bnd {f : Env → Hm → R D} {k : D → Hm → R (List D × Src)} {R : It → Hp → Prop} {Q' : VK} (s : StR Z.K m H h σ ρ) (p : match bnd (f ρ h) k with
  | .ok (ds, src) h' => ∀ J H' m', HRp Z.K m' H' h' → Ext m H m' H' → WalkD Z m' H' src ds J → srcOk src h' = true → R J H'
  | .ex c fs h' => ∀ cls dx H' m', HRp Z.K m' H' h' → Ext m H m' H' → XRp Z m' H' cls dx c fs → W cls dx σ H'
  | .bad => False)
    (go : ∀ v H1 m1 d h1 ds src, HRp Z.K m1 H1 h1 → Rp Z.K m1 H1 v d → k d h1 = .ok (ds, src) h1 → (∀ J, WalkD Z m1 H1 src ds J → srcOk src h1 = true → R J H1) → Q' v H1) (hk : ∀ d h r h', k d h = .ok r h' → h' = h) (hkx : ∀ d h c fs h', k d h ≠ .ex c fs h') : tE Z W f σ H Q' := by
  refine ⟨m, ρ, h, s, ?_⟩
  cases e : f ρ h with
  | bad => rw [e] at p; exact p
  | ex c fs h1 => rw [e] at p; exact p
  | ok d h1 =>
    rw [e, bnd_ok] at p
    intro v H1 m1 hr x r n
    cases e2 : k d h1 with
    | bad => rw [e2] at p; exact p.elim
    | ex c fs h2 => exact absurd e2 (hkx _ _ _ _ _)
    | ok a h2 =>
      obtain ⟨ds, src⟩ := a
      have := hk _ _ _ _ e2
      subst this
      rw [e2] at p
      exact go v H1 m1 d _ ds src hr r e2 fun J w so => p J H1 m1 hr x w so
theorem i_of (g : Good T Z W Γ G X) {e : E} {tg x : Expr} (he : PE X x (tE Z W (ev Γ G e))) : PI X tg x (tI Z W (evI Γ G (.of e))) := by
  refine PI.of (pi_any he) fun σ H R ⟨m, ρ, h, s, q⟩ => ?_
  simp only [evI] at q
  rw [g.k]
  refine tI_bnd s q (fun v H1 m1 d h1 ds src hr r e2 fin => ?_) (fun d h r h' e => ?_) (fun d h c fs h' e => ?_)
  · cases e3 : seqOf h1 d with
    | none => rw [e3] at e2; cases e2
    | some es =>
      rw [e3] at e2
      cases e2
      have lst : ∀ {a : Addr}, Rp Z.K m1 H1 (.ref a) d → lstOf h1 d = some ds → ∃ a', V.ref a = .ref a' ∧ (((∃ xs, SqL Z.K H1 a' xs) ∧ R (Itl Z.K a') H1) ∨ ((∃ xs, SqT Z.K H1 a' xs) ∧ R (Itt Z.K a') H1)) := fun {a} q e => by
        obtain ⟨a', xs, e4, s4, _⟩ := lstOf_view (Z := Z) hr q e
        cases e4
        exact ⟨_, rfl, .inl ⟨⟨xs, s4⟩, fin _ (walkD_list hr q e) (srcOf_ok h1 d)⟩⟩
      cases r with
      | tup q s4 t4 =>
        cases e3
        exact ⟨_, rfl, .inr ⟨⟨_, q.sq⟩, fin _ (walkD_tup hr (.tup q s4 t4)) rfl⟩⟩
      | lv a b c d => exact lst (.lv a b c d) e3
      | fl a b c => exact lst (.fl a b c) e3
      | ref a => exact lst (.ref a) e3
      | _ => simp [seqOf] at e3
  · cases e3 : seqOf h d with
    | none => rw [e3] at e; cases e
    | some es => rw [e3] at e; cases e; rfl
  · cases e3 : seqOf h d with
    | none => rw [e3] at e; cases e
    | some es => rw [e3] at e; cases e
theorem rp_ofKey {K : PySem.W.Frag} : ∀ (k : L2.Key), Rp K m H (kV k) (ofKey k)
  | .inl i => .int i
  | .inr x => .str x
theorem walkD_keys {m0 : List Addr} {H0 : Hp} {a : Addr} {o : Obj} {kvs : List (L2.Key × V)} {kds : List (L2.Key × D)} (e : H0 a = some (.frz o (.dK kvs))) (t : kvs.map (·.1) = kds.map (·.1)) : WalkD Z m0 H0 none (kds.map fun p => ofKey p.1) (Itk a o kvs) := by
  have ln : kvs.length = kds.length := by have := congrArg List.length t; simpa using this
  refine ⟨by rw [stL_iff]; intro d hd; obtain ⟨p, _, rfl⟩ := List.mem_map.mp hd; cases p.1 <;> rfl, fun i m H h hi hr x so => ⟨x.fz a o _ e, by rw [ln]; simpa using hi⟩, fun m H h hr x so => ⟨x.fz a o _ e, by simp [ln]⟩, fun i m H h y H' hi hr x so yl => ?_⟩
  obtain ⟨rfl, k, v, ek, rfl⟩ := yl
  have q := congrArg (·[i]?) t
  simp only [List.getElem?_map, ek, Option.map_some] at q
  cases e2 : kds[i]? with
  | none => rw [e2] at q; cases q
  | some p =>
    rw [e2] at q
    have q : k = p.1 := Option.some.inj q
    exact ⟨ofKey k, by rw [List.getElem?_map, e2, q]; rfl, hr, .refl, rp_ofKey k⟩
theorem i_keys (g : Good T Z W Γ G X) {e : E} {tg x : Expr} (he : PE X x (tE Z W (ev Γ G e))) : PI X tg x (tI Z W (evI Γ G (.keys e))) := by
  refine PI.of (pi_keys he) fun σ H R ⟨m, ρ, h, s, q⟩ => ?_
  simp only [evI] at q
  refine tI_bnd s q (fun v H1 m1 d h1 ds src hr r e2 fin => ?_) (fun d h r h' e => ?_) (fun d h c fs h' e => ?_)
  · cases e3 : frdOf h1 d with
    | none => rw [e3] at e2; cases e2
    | some kds =>
      rw [e3] at e2
      cases e2
      cases r with
      | ref qa =>
        simp only [frdOf] at e3
        split at e3
        · rename_i e4
          cases e3
          obtain ⟨a', e5, oa⟩ := hr.get e4
          rw [qa] at e5; cases e5
          cases oa with
          | frd e6 t => exact ⟨_, _, rfl, .inl ⟨_, e6, fin _ (walkD_keys e6 t.1) rfl⟩⟩
        · cases e3
      | _ => simp [frdOf] at e3
  · cases e3 : frdOf h d with
    | none => rw [e3] at e; cases e
    | some es => rw [e3] at e; cases e; rfl
  · cases e3 : frdOf h d with
    | none => rw [e3] at e; cases e
    | some es => rw [e3] at e; cases e
theorem bts_of (g : Good T Z W Γ G X) {y : Str} (h : inB T.bts y = true) : X.mg y = none := g.bts y (inB_mem h)
theorem i_enum (g : Good T Z W Γ G X) {e : E} {tg x : Expr} {p pos : Pos} (ht : isTg tg = true) (hg : Gl X "enumerate") (hm : X.mg "enumerate" = none) (hok : okH x = true) (he : PE X x (tE Z W (ev Γ G e))) : PI X tg (.Call (.Name "enumerate" p) [x] [] pos) (tI Z W (evI Γ G (.enum e))) := by
  cases tg with
  | Tuple elts kk tpos =>
    refine PI.of (pi_enumA hg hm he hok) fun σ H R ⟨m, ρ, h, s, q⟩ => ?_
    simp only [evI] at q
    rw [g.k]
    refine tI_bnd s q (fun v H1 m1 d h1 ds src hr r e2 fin => ?_) (fun d h r h' e => ?_) (fun d h c fs h' e => ?_)
    · cases e3 : seqOf h1 d with
      | none => rw [e3] at e2; cases e2
      | some es =>
        rw [e3] at e2
        cases e2
        have lst : ∀ {a : Addr}, Rp Z.K m1 H1 (.ref a) d → lstOf h1 d = some es → ∃ a', V.ref a = .ref a' ∧ (((∃ xs, SqL Z.K H1 a' xs) ∧ R (IteN Z.K a') H1) ∨ ((∃ xs, SqT Z.K H1 a' xs) ∧ R (Itp Z.K a') H1)) := fun {a} q e => by
          obtain ⟨a', xs, e4, s4, _⟩ := lstOf_view (Z := Z) hr q e
          cases e4
          exact ⟨_, rfl, .inl ⟨⟨xs, s4⟩, fin _ (walkD_enum hr q e) (srcOf_ok h1 d)⟩⟩
        cases r with
        | tup q s4 t4 =>
          cases e3
          exact ⟨_, rfl, .inr ⟨⟨_, q.sq⟩, fin _ (walkD_enT hr (.tup q s4 t4)) rfl⟩⟩
        | lv a b c d => exact lst (.lv a b c d) e3
        | fl a b c => exact lst (.fl a b c) e3
        | ref a => exact lst (.ref a) e3
        | _ => simp [seqOf] at e3
    · cases e3 : seqOf h d with
      | none => rw [e3] at e; cases e
      | some es => rw [e3] at e; cases e; rfl
    · cases e3 : seqOf h d with
      | none => rw [e3] at e; cases e
      | some es => rw [e3] at e; cases e
  | _ => simp [isTg] at ht
/-! ### zip -/
theorem zips_len : ∀ (as bs : List D), (zips as bs).length = min as.length bs.length
  | [], bs => by simp [zips]
  | a :: as, [] => by simp [zips]
  | a :: as, b :: bs => by simp [zips, zips_len as bs]
theorem zips_get : ∀ (as bs : List D) (i : Nat) (a b : D), as[i]? = some a → bs[i]? = some b → (zips as bs)[i]? = some (.tup [a, b])
  | a :: as, b :: bs, 0, _, _, h1, h2 => by simp at h1 h2; subst h1 h2; simp [zips]
  | a :: as, b :: bs, i + 1, _, _, h1, h2 => by
    simp only [List.getElem?_cons_succ] at h1 h2
    simp only [zips, List.getElem?_cons_succ]
    exact zips_get as bs i _ _ h1 h2
  | [], _, _, _, _, h1, _ => by simp at h1
  | _ :: _, [], _, _, _, _, h2 => by simp at h2
theorem zips_st : ∀ (as bs : List D), D.stL as = true → D.stL bs = true → D.stL (zips as bs) = true
  | [], _, _, _ => by simp [zips, D.stL]
  | _ :: _, [], _, _ => by simp [zips, D.stL]
  | a :: as, b :: bs, h1, h2 => by
    simp only [D.stL, Bool.and_eq_true] at h1 h2
    simp [zips, D.stL, D.st, h1.1, h2.1, zips_st as bs h1.2 h2.2]
section
variable {m0 : List Addr} {H0 : Hp} {h0 : Hm}
theorem walkD_zipT {a b : Addr} {ds es : List D} (hr0 : HRp Z.K m0 H0 h0) (qa : Rp Z.K m0 H0 (.ref a) (.tup ds)) (qb : Rp Z.K m0 H0 (.ref b) (.tup es)) : WalkD Z m0 H0 none (zips ds es) (ItzTN Z.K a b) := by
  have tv : ∀ {a : Addr} {ds : List D} {m H h}, Rp Z.K m0 H0 (.ref a) (.tup ds) → HRp Z.K m H h → Ext m0 H0 m H → ∃ xs, SqT Z.K H a xs ∧ D.stL ds = true ∧ RpL Z.K m H xs ds := fun q hr x => by
    cases Rp.ext hr0 x q with
    | tup q s t => exact ⟨_, q.sq, s, t⟩
  obtain ⟨_, _, sa, _⟩ := tv qa hr0 .refl
  obtain ⟨_, _, sb, _⟩ := tv qb hr0 .refl
  refine ⟨zips_st _ _ sa sb, fun i m H h hi hr x so => ?_, fun m H h hr x so => ?_, fun i m H h y H' hi hr x so yl => ?_⟩
  · obtain ⟨xs, s1, _, t1⟩ := tv qa hr x
    obtain ⟨ys, s2, _, t2⟩ := tv qb hr x
    rw [zips_len] at hi
    exact ⟨xs, ys, xs[i]'(by rw [t1.length]; omega), ys[i]'(by rw [t2.length]; omega), s1, s2, List.getElem?_eq_getElem _, List.getElem?_eq_getElem _⟩
  · obtain ⟨xs, s1, _, t1⟩ := tv qa hr x
    obtain ⟨ys, s2, _, t2⟩ := tv qb hr x
    exact ⟨xs, ys, s1, s2, by rw [zips_len, t1.length, t2.length]; omega⟩
  · obtain ⟨xs, s1, _, t1⟩ := tv qa hr x
    obtain ⟨ys, s2, _, t2⟩ := tv qb hr x
    obtain ⟨T, x1, y1, o, rfl, hT, no, rfl, h2, h3⟩ := yl
    obtain ⟨d1, e1, r1⟩ := get_of_rp t1 (h2 xs s1)
    obtain ⟨d2, e2, r2⟩ := get_of_rp t2 (h3 ys s2)
    exact ⟨_, zips_get ds es i d1 d2 e1 e2, hr.lay hT, Ext.lay hT, .tup (.of upd_same no) (by simp [D.stL, stL_get sa e1, stL_get sb e2]) (.cons (Rp.ext hr (Ext.lay hT) r1) (.one (Rp.ext hr (Ext.lay hT) r2)))⟩
theorem walkD_zipL {a b : Addr} {da db : D} {ds es : List D} {src : Src} (hr0 : HRp Z.K m0 H0 h0) (qa : Rp Z.K m0 H0 (.ref a) da) (qb : Rp Z.K m0 H0 (.ref b) db) (ea : lstOf h0 da = some ds) (eb : lstOf h0 db = some es)
    (ka : ∀ h, srcOk src h = true → srcOk (srcOf h0 da) h = true) (kb : ∀ h, srcOk src h = true → srcOk (srcOf h0 db) h = true) : WalkD Z m0 H0 src (zips ds es) (ItzN Z.K a b) := by
  obtain ⟨_, _, _, _, sa, _⟩ := lstOf_view (Z := Z) hr0 qa ea
  obtain ⟨_, _, _, _, sb, _⟩ := lstOf_view (Z := Z) hr0 qb eb
  refine ⟨zips_st _ _ sa sb, fun i m H h hi hr x so => ?_, fun m H h hr x so => ?_, fun i m H h y H' hi hr x so yl => ?_⟩
  · obtain ⟨xs, s1, _, t1⟩ := list_later hr0 qa ea hr x (ka h so)
    obtain ⟨ys, s2, _, t2⟩ := list_later hr0 qb eb hr x (kb h so)
    rw [zips_len] at hi
    exact ⟨xs, ys, xs[i]'(by rw [t1.length]; omega), ys[i]'(by rw [t2.length]; omega), s1, s2, List.getElem?_eq_getElem _, List.getElem?_eq_getElem _⟩
  · obtain ⟨xs, s1, _, t1⟩ := list_later hr0 qa ea hr x (ka h so)
    obtain ⟨ys, s2, _, t2⟩ := list_later hr0 qb eb hr x (kb h so)
    exact ⟨xs, ys, s1, s2, by rw [zips_len, t1.length, t2.length]; omega⟩
  · obtain ⟨xs, s1, _, t1⟩ := list_later hr0 qa ea hr x (ka h so)
    obtain ⟨ys, s2, _, t2⟩ := list_later hr0 qb eb hr x (kb h so)
    obtain ⟨T, x1, y1, o, rfl, hT, no, rfl, h2, h3⟩ := yl
    obtain ⟨d1, e1, r1⟩ := get_of_rp t1 (h2 xs s1)
    obtain ⟨d2, e2, r2⟩ := get_of_rp t2 (h3 ys s2)
    exact ⟨_, zips_get ds es i d1 d2 e1 e2, hr.lay hT, Ext.lay hT, .tup (.of upd_same no) (by simp [D.stL, stL_get sa e1, stL_get sb e2]) (.cons (Rp.ext hr (Ext.lay hT) r1) (.one (Rp.ext hr (Ext.lay hT) r2)))⟩
end
theorem i_zip (g : Good T Z W Γ G X) {a b : E} {tg xa xb : Expr} {p pos : Pos} (ht : isTg tg = true) (hg : Gl X "zip") (hm : X.mg "zip" = none) (hoka : okH xa = true) (hokb : okH xb = true) (ha : PE X xa (tE Z W (ev Γ G a))) (hb : PE X xb (tE Z W (ev Γ G b))) : PI X tg (.Call (.Name "zip" p) [xa, xb] [] pos) (tI Z W (evI Γ G (.zip a b))) := by
  have hA := a_consP hoka ha (a_consP hokb hb a_nilP)
  cases tg with
  | Tuple elts kk tpos =>
    refine PI.of (pi_zipN hg hm hA (by rw [starEach_cons (okH_star hoka)]) (backTo_plain (by simp [okH_star hokb]))) fun σ H R ⟨m, ρ, h, s, q⟩ => ?_
    simp only [evI] at q
    refine ⟨m, ρ, h, s, ?_⟩
    rw [g.k]
    simp only [evp]
    cases e1 : ev Γ G a ρ h with
    | bad => rw [e1] at q; exact q
    | ex c fs h1 => rw [e1] at q; exact q
    | ok x h1 =>
      rw [e1, bnd_ok] at q
      simp only [bnd_ok]
      cases e2 : ev Γ G b ρ h1 with
      | bad => rw [e2] at q; exact q
      | ex c fs h1 => rw [e2] at q; exact q
      | ok y h2 =>
        simp only [e2, bnd_ok] at q ⊢
        intro vs H' m' hr x1 rl _
        cases rl with
        | cons r1 rl =>
          obtain ⟨v2, rfl, r2⟩ := rp_one rl
          cases ez : zipD h2 x y with
          | none => rw [ez] at q; exact q.elim
          | some r =>
            obtain ⟨ds, src⟩ := r
            rw [ez] at q
            have q := fun J wd so => q J H' m' hr x1 wd so
            unfold zipD at ez
            split at ez
            · cases ez
              cases r1 with
              | tup q1 s1 t1 =>
                cases r2 with
                | tup q2 s2 t2 => exact ⟨_, _, _, _, rfl, .inr ⟨q1.sq, q2.sq, q _ (walkD_zipT hr (.tup q1 s1 t1) (.tup q2 s2 t2)) rfl⟩⟩
            · rw [Option.map_eq_some_iff] at ez
              obtain ⟨as, ea, ez⟩ := ez
              cases ez
              obtain ⟨a1, xs, rfl, sa, _, _⟩ := lstOf_view (Z := Z) hr r1 ea
              obtain ⟨a2, ys, rfl, sb, _, _⟩ := lstOf_view (Z := Z) hr r2 (show lstOf h2 (.lv _) = some _ from rfl)
              exact ⟨_, _, _, _, rfl, .inl ⟨sa, sb, q _ (walkD_zipL hr r1 r2 ea rfl (fun h so => so) fun h so => rfl) (srcOf_ok _ _)⟩⟩
            · rw [Option.map_eq_some_iff] at ez
              obtain ⟨bs, eb, ez⟩ := ez
              cases ez
              obtain ⟨a1, xs, rfl, sa, _, _⟩ := lstOf_view (Z := Z) hr r1 (show lstOf h2 (.lv _) = some _ from rfl)
              obtain ⟨a2, ys, rfl, sb, _, _⟩ := lstOf_view (Z := Z) hr r2 eb
              exact ⟨_, _, _, _, rfl, .inl ⟨sa, sb, q _ (walkD_zipL hr r1 r2 rfl eb (fun h so => rfl) fun h so => so) (srcOf_ok _ _)⟩⟩
            · cases ez
  | _ => simp [isTg] at ht
/-- arguments first, then a walk -/
theorem tI_args {f : Env → Hm → R (List D)} {k : List D → Hm → R (List D × Src)} {R : It → Hp → Prop} {Q' : List V → Hp → Prop} (s : StR Z.K m H h σ ρ) (p : match bnd (f ρ h) k with
  | .ok (ds, src) h' => ∀ J H' m', HRp Z.K m' H' h' → Ext m H m' H' → WalkD Z m' H' src ds J → srcOk src h' = true → R J H'
  | .ex c fs h' => ∀ cls dx H' m', HRp Z.K m' H' h' → Ext m H m' H' → XRp Z m' H' cls dx c fs → W cls dx σ H'
  | .bad => False)
    (go : ∀ vs H1 m1 ds h1 es, HRp Z.K m1 H1 h1 → RpL Z.K m1 H1 vs ds → f ρ h = .ok ds h1 → k ds h1 = .ok (es, none) h1 → (∀ J, WalkD Z m1 H1 none es J → R J H1) → Q' vs H1) (hk : ∀ d h r h', k d h = .ok r h' → h' = h ∧ r.2 = none) (hkx : ∀ d h c fs h', k d h ≠ .ex c fs h') : tAp Z W f σ H Q' := by
  refine ⟨m, ρ, h, s, ?_⟩
  cases e : f ρ h with
  | bad => rw [e] at p; exact p
  | ex c fs h1 => rw [e] at p; exact p
  | ok d h1 =>
    rw [e, bnd_ok] at p
    intro v H1 m1 hr x r n
    cases e2 : k d h1 with
    | bad => rw [e2] at p; exact p.elim
    | ex c fs h2 => exact absurd e2 (hkx _ _ _ _ _)
    | ok a h2 =>
      obtain ⟨ds, src⟩ := a
      obtain ⟨e3, e4⟩ := hk _ _ _ _ e2
      simp only at e4
      subst e3; subst e4
      rw [e2] at p
      exact go v H1 m1 d _ ds hr r e e2 fun J w => p J H1 m1 hr x w rfl
theorem i_rng (g : Good T Z W Γ G X) {es : Es} {tg : Expr} {xs : List Expr} {p pos : Pos} (hg : Gl X "range") (hm : X.mg "range" = none) (hst : xs.all noStar = true) (hel : ∀ ρ h ds h', evp Γ G es ρ h = .ok ds h' → ds.length = xs.length) (hl : 0 < xs.length ∧ xs.length ≤ 3) (ha : PA X xs (tAp Z W (evp Γ G es))) : PI X tg (.Call (.Name "range" p) xs [] pos) (tI Z W (evI Γ G (.rng es))) := by
  have hk : ∀ (d : List D) (h : Hm) (r : List D × Src) (h' : Hm), opt ((rngD d).map fun ds => (ds, (none : Src))) h = .ok r h' → h' = h ∧ r.2 = none := fun d h r h' e => by
    cases e2 : rngD d with
    | none => rw [e2] at e; cases e
    | some z => rw [e2] at e; cases e; exact ⟨rfl, rfl⟩
  have hkx : ∀ (d : List D) (h : Hm) c fs h', opt ((rngD d).map fun ds => (ds, (none : Src))) h ≠ .ex c fs h' := fun d h c fs h' e => by
    cases e2 : rngD d with
    | none => rw [e2] at e; cases e
    | some z => rw [e2] at e; cases e
  have rok : ∀ {i : Int}, rngOk i = true → -(2 ^ 62) ≤ i ∧ i < 2 ^ 62 := fun {i} e => by
    have : i.natAbs < 2 ^ 62 := by simpa [rngOk] using e
    omega
  match xs, hst, hl, hel, ha with
  | [a], hst, _, hel, ha =>
    simp only [List.all_cons, Bool.and_eq_true] at hst
    refine PI.of (pi_range1 hg hm ha (by rw [starEach_cons hst.1]; rfl)) fun σ H R ⟨m, ρ, h, s, q⟩ => ?_
    simp only [evI] at q
    refine tI_args s q (fun vs H1 m1 ds h1 es hr r e1 e2 fin => ?_) hk hkx
    have l := hel _ _ _ _ e1
    cases e3 : rngD ds with
    | none => rw [e3] at e2; cases e2
    | some z =>
      rw [e3] at e2; cases e2
      unfold rngD at e3
      split at e3
      · rename_i n
        split at e3
        · rename_i ok
          cases e3
          obtain ⟨v, rfl, rz⟩ := rp_one r
          cases rz
          exact ⟨n, rfl, (rok ok).1, (rok ok).2, fin _ walkD_range⟩
        · cases e3
      · simp at l
      · simp at l
      · cases e3
  | [a, b], hst, _, hel, ha =>
    simp only [List.all_cons, Bool.and_eq_true] at hst
    refine PI.of (pi_range2 hg hm ha (by rw [starEach_cons hst.1, starEach_cons hst.2.1]; rfl) (by rw [starEach_cons hst.2.1]; rfl)) fun σ H R ⟨m, ρ, h, s, q⟩ => ?_
    simp only [evI] at q
    refine tI_args s q (fun vs H1 m1 ds h1 es hr r e1 e2 fin => ?_) hk hkx
    have l := hel _ _ _ _ e1
    cases e3 : rngD ds with
    | none => rw [e3] at e2; cases e2
    | some z =>
      rw [e3] at e2; cases e2
      unfold rngD at e3
      split at e3
      · simp at l
      · rename_i i j
        split at e3
        · rename_i ok
          cases e3
          cases r with
          | cons r1 r =>
            obtain ⟨v, rfl, rz⟩ := rp_one r
            cases r1; cases rz
            exact ⟨i, j, rfl, ⟨(rok ok.1).1, (rok ok.1).2, (rok ok.2).1, (rok ok.2).2⟩, fin _ walkD_range⟩
        · cases e3
      · simp at l
      · cases e3
  | [a, b, c], hst, _, hel, ha =>
    simp only [List.all_cons, Bool.and_eq_true] at hst
    refine PI.of (pi_range3 hg hm ha (starEach_cons hst.1) (backTo_plain (by simp [hst.2.1, hst.2.2.1]))) fun σ H R ⟨m, ρ, h, s, q⟩ => ?_
    simp only [evI] at q
    refine tI_args s q (fun vs H1 m1 ds h1 es hr r e1 e2 fin => ?_) hk hkx
    have l := hel _ _ _ _ e1
    cases e3 : rngD ds with
    | none => rw [e3] at e2; cases e2
    | some z =>
      rw [e3] at e2; cases e2
      unfold rngD at e3
      split at e3
      · simp at l
      · simp at l
      · rename_i i j k
        split at e3
        · rename_i ok
          obtain ⟨o1, o2, rfl⟩ := ok
          cases e3
          cases r with
          | cons r1 r =>
            cases r with
            | cons r2 r =>
              obtain ⟨v, rfl, rz⟩ := rp_one r
              cases r1; cases r2; cases rz
              exact ⟨i, j, -1, (i - j).toNat, rfl, RgC.neg (rok o1).1 (rok o1).2 (rok o2).1 (rok o2).2, fin _ walkD_rangeC⟩
        · cases e3
      · cases e3
  | _ :: _ :: _ :: _ :: _, _, hl, _, _ => simp at hl
end
end Mi

set_option Elab.async false
set_option linter.all false
set_option maxRecDepth 100000
/-! Mini: every expression. -/
namespace Mi
open PySem PySem.Spec PyProof.Rows L2
section
variable {T : Tb} {Z : Wi} {Γ : Gm} {G : Nat → Option D}
theorem mEs_len {N : List Str} {sc : Scope} : ∀ {es : Es} {xs : List Expr}, mEs T N es sc xs = true → xs.length = Es.len es ∧ xs.all noStar = true ∧ (xs = [] → es = .nil)
  | .nil, [], _ => ⟨rfl, rfl, fun _ => rfl⟩
  | .nil, _ :: _, h => by simp [mEs] at h
  | .cons _ _, [], h => by simp [mEs] at h
  | .cons e es, x :: xs, h => by
    simp only [mEs, Bool.and_eq_true] at h
    obtain ⟨a, b, _⟩ := mEs_len h.2
    exact ⟨by simp [Es.len, a], by simp [b, okH_star h.1.1], fun z => by cases z⟩
theorem evp_len : ∀ {es : Es} {ρ : Env} {h : Hm} {ds : List D} {h' : Hm}, evp Γ G es ρ h = .ok ds h' → ds.length = Es.len es
  | .nil, ρ, h, ds, h', e => by simp only [evp] at e; cases e; rfl
  | .cons x es, ρ, h, ds, h', e => by
    simp only [evp] at e
    obtain ⟨a, h1, e1, e⟩ := bnd_ok' e
    obtain ⟨c, h3, e3, e⟩ := bnd_ok' e
    cases e
    simp [Es.len, evp_len e3]
mutual
theorem sE : ∀ (e : E) {W : WX} {X : Cx} {sc : Scope} {N : List Str} (g : Good T Z W Γ G X) (hN : X.N = N) (hsc : X.env.scope = sc) (x : Expr), mE T N e sc x = true → PE X x (tE Z W (ev Γ G e)) ∧ (tst e = true → PT X x (tT Z W (truF (ev Γ G e))))
  | .c d, W, X, sc, N, g, hN, hsc, x, hm => by
    have p := l_c (Z := Z) (W := W) (Γ := Γ) (G := G) (X := X) d x hm
    refine ⟨p, fun _ => ?_⟩
    cases x with
    | Constant c k pos => exact l_truth g p fun _ => rfl
    | _ => simp [mE, mC] at hm
  | .v i, W, X, sc, N, g, hN, hsc, x, hm => by
    cases x with
    | Name y p =>
      simp only [mE, Bool.and_eq_true, decide_eq_true_eq] at hm
      have p := l_var (p := p) g (by rw [hN]; exact hm.1.1.1) (vis_of hsc hm.1.1.2) (nb hm.1.2) (nb hm.2)
      exact ⟨p, fun _ => l_truth g p fun _ => rfl⟩
    | _ => simp [mE] at hm
  | .g n, W, X, sc, N, g, hN, hsc, x, hm => by
    cases x with
    | Name y p =>
      simp only [mE, Bool.and_eq_true] at hm
      obtain ⟨⟨h1, h2⟩, h3⟩ := hm
      split at h1
      · rename_i z d e
        have := of_decide_eq_true h1
        subst this
        have p := l_g (p := p) g e (gl_of hsc h2) (nb h3)
        exact ⟨p, fun _ => l_truth g p fun _ => rfl⟩
      · cases h1
    | _ => simp [mE] at hm
  | .bin o a b, W, X, sc, N, g, hN, hsc, x, hm => by
    cases x with
    | BinOp xa o' xb p =>
      simp only [mE, Bool.and_eq_true, decide_eq_true_eq] at hm
      obtain ⟨⟨rfl, h1⟩, h2⟩ := hm
      have p := l_bin (p := p) (o := o') g (sE a g hN hsc xa h1).1 (sE b g hN hsc xb h2).1
      exact ⟨p, fun _ => l_truth g p fun _ => rfl⟩
    | _ => simp [mE] at hm
  | .neg a, W, X, sc, N, g, hN, hsc, x, hm => by
    cases x with
    | UnaryOp o xa p =>
      cases o with
      | USub =>
        have hm : mE T N a sc xa = true := hm
        have p := l_neg (p := p) (sE a g hN hsc xa hm).1
        exact ⟨p, fun _ => l_truth g p fun _ => rfl⟩
      | _ => simp [mE] at hm
    | _ => simp [mE] at hm
  | .not a, W, X, sc, N, g, hN, hsc, x, hm => by
    cases x with
    | UnaryOp o xa p =>
      cases o with
      | Not =>
        have hm : mE T N a sc xa = true := hm
        obtain ⟨h1, h2⟩ := sE a g hN hsc xa hm
        exact ⟨l_not' g h1, fun ht => l_not (h2 ht) h1⟩
      | _ => simp [mE] at hm
    | _ => simp [mE] at hm
  | .cmp o a b, W, X, sc, N, g, hN, hsc, x, hm => by
    cases x with
    | Compare xa os xbs p =>
      match os, xbs, hm with
      | [o'], [xb], hm =>
        simp only [mE, Bool.and_eq_true, decide_eq_true_eq] at hm
        obtain ⟨⟨⟨rfl, h0⟩, h1⟩, h2⟩ := hm
        obtain ⟨p1, p2⟩ := l_cmp (p := p) (o := o') g h0 (sE a g hN hsc xa h1).1 (sE b g hN hsc xb h2).1
        exact ⟨p1, fun _ => p2⟩
      | [], _, hm => simp [mE] at hm
      | _ :: _ :: _, _, hm => simp [mE] at hm
      | [_], [], hm => simp [mE] at hm
      | [_], _ :: _ :: _, hm => simp [mE] at hm
    | _ => simp [mE] at hm
  | .chain o o2 a b c, W, X, sc, N, g, hN, hsc, x, hm => by
    cases x with
    | Compare xa os xbs p =>
      match os, xbs, hm with
      | [o', o2'], [xb, xc], hm =>
        simp only [mE, Bool.and_eq_true, decide_eq_true_eq] at hm
        obtain ⟨⟨⟨⟨⟨rfl, rfl⟩, h0⟩, h1⟩, h2⟩, h3⟩ := hm
        obtain ⟨p1, p2⟩ := l_chain (p := p) (o := o') (o' := o2') g h0 (sE a g hN hsc xa h1).1 (sE b g hN hsc xb h2).1 (sE c g hN hsc xc h3).1
        exact ⟨p1, fun _ => p2⟩
      | [], _, hm => simp [mE] at hm
      | [_], _, hm => simp [mE] at hm
      | _ :: _ :: _ :: _, _, hm => simp [mE] at hm
      | [_, _], [], hm => simp [mE] at hm
      | [_, _], [_], hm => simp [mE] at hm
      | [_, _], _ :: _ :: _ :: _, hm => simp [mE] at hm
    | _ => simp [mE] at hm
  | .and a b, W, X, sc, N, g, hN, hsc, x, hm => by
    cases x with
    | BoolOp op xs p =>
      match op, xs, hm with
      | .And, xa :: xb :: [], hm =>
        simp only [mE, Bool.and_eq_true] at hm
        obtain ⟨a1, a2⟩ := sE a g hN hsc xa hm.1
        obtain ⟨b1, b2⟩ := sE b g hN hsc xb hm.2
        refine ⟨PE.of (pe_and a1 (pe_one b1)) l_andV, fun ht => ?_⟩
        have ht : tst a = true ∧ tst b = true := by simpa [tst] using ht
        exact PT.of (pw_and (a2 ht.1) (pw_and1 (b2 ht.2))).pt l_andT
      | .And, xa :: xb :: xc :: xs, hm =>
        simp only [mE, Bool.and_eq_true] at hm
        obtain ⟨a1, a2⟩ := sE a g hN hsc xa hm.1
        obtain ⟨b1, b2⟩ := sE b g hN hsc _ hm.2
        refine ⟨PE.of (pe_and a1 b1) l_andV, fun ht => ?_⟩
        have ht : tst a = true ∧ tst b = true := by simpa [tst] using ht
        exact PT.of (pw_and (a2 ht.1) (pt_pw (b2 ht.2))).pt l_andT
      | .And, [], hm => simp [mE] at hm
      | .And, [_], hm => simp [mE] at hm
      | .Or, _, hm => simp [mE] at hm
    | _ => simp [mE] at hm
  | .or a b, W, X, sc, N, g, hN, hsc, x, hm => by
    cases x with
    | BoolOp op xs p =>
      match op, xs, hm with
      | .Or, xa :: xb :: [], hm =>
        simp only [mE, Bool.and_eq_true] at hm
        obtain ⟨a1, a2⟩ := sE a g hN hsc xa hm.1
        obtain ⟨b1, b2⟩ := sE b g hN hsc xb hm.2
        refine ⟨PE.of (pe_or a1 (pe_one b1)) l_orV, fun ht => ?_⟩
        have ht : tst a = true ∧ tst b = true := by simpa [tst] using ht
        exact PT.of (pw_or (a2 ht.1) (pw_or1 (b2 ht.2))).pt l_orT
      | .Or, xa :: xb :: xc :: xs, hm =>
        simp only [mE, Bool.and_eq_true] at hm
        obtain ⟨a1, a2⟩ := sE a g hN hsc xa hm.1
        obtain ⟨b1, b2⟩ := sE b g hN hsc _ hm.2
        refine ⟨PE.of (pe_or a1 b1) l_orV, fun ht => ?_⟩
        have ht : tst a = true ∧ tst b = true := by simpa [tst] using ht
        exact PT.of (pw_or (a2 ht.1) (pt_pw (b2 ht.2))).pt l_orT
      | .Or, [], hm => simp [mE] at hm
      | .Or, [_], hm => simp [mE] at hm
      | .And, _, hm => simp [mE] at hm
    | _ => simp [mE] at hm
  | .ife t a b, W, X, sc, N, g, hN, hsc, x, hm => by
    cases x with
    | IfExp xt xa xb p =>
      simp only [mE, Bool.and_eq_true] at hm
      obtain ⟨⟨⟨h0, h1⟩, h2⟩, h3⟩ := hm
      exact ⟨l_ife g ((sE t g hN hsc xt h1).2 h0) (sE a g hN hsc xa h2).1 (sE b g hN hsc xb h3).1, fun z => by simp [tst] at z⟩
    | _ => simp [mE] at hm
  | .tup es, W, X, sc, N, g, hN, hsc, x, hm => by
    cases x with
    | Tuple xs k p =>
      have hm : mEs T N es sc xs = true := hm
      have p := l_tup (k := k) (p := p) g (sL es g hN hsc xs hm)
      exact ⟨p, fun _ => l_truth g p fun _ => rfl⟩
    | _ => simp [mE] at hm
  | .lst es, W, X, sc, N, g, hN, hsc, x, hm => by
    cases x with
    | List xs p =>
      have hm : mEs T N es sc xs = true := hm
      have p := l_lst (p := p) g (sL es g hN hsc xs hm)
      exact ⟨p, fun _ => l_truth g p fun _ => rfl⟩
    | _ => simp [mE] at hm
  | .dic1 (.cons k (.cons v .nil)), W, X, sc, N, g, hN, hsc, x, hm => by
    unfold mE at hm
    split at hm
    · rename_i xk xv p
      simp only [mEs, Bool.and_eq_true] at hm
      have p := l_dic1 (p := p) (sE k g hN hsc xk hm.1.2).1 (sE v g hN hsc xv hm.2.1.2).1
      exact ⟨p, fun _ => l_truth g p fun _ => rfl⟩
    · cases hm
  | .dic1 .nil, W, X, sc, N, g, hN, hsc, x, hm => by
    unfold mE at hm
    split at hm
    · simp [mEs] at hm
    · cases hm
  | .dic1 (.cons k .nil), W, X, sc, N, g, hN, hsc, x, hm => by
    unfold mE at hm
    split at hm
    · simp [mEs] at hm
    · cases hm
  | .dic1 (.cons k (.cons v (.cons _ _))), W, X, sc, N, g, hN, hsc, x, hm => by
    unfold mE at hm
    split at hm
    · simp [mEs] at hm
    · cases hm
  | .dic ks es, W, X, sc, N, g, hN, hsc, x, hm => by
    cases x with
    | Dict keys xs p =>
      simp only [mE, Bool.and_eq_true, decide_eq_true_eq] at hm
      obtain ⟨⟨⟨⟨h1, h2⟩, h3⟩, h4⟩, h5⟩ := hm
      have p := l_dic (p := p) h1 h2 h3 (mEs_len h5).1.symm h4 (sD es ks keys g hN hsc xs h1 h3 h5)
      exact ⟨p, fun _ => l_truth g p fun _ => rfl⟩
    | _ => simp [mE] at hm
  | .comp e t i fs w, W, X, sc, N, g, hN, hsc, x, hm => by
    cases x with
    | ListComp xe gens scope p =>
      match gens, hm with
      | [⟨tg, iter, ifs, n⟩], hm =>
        simp only [mE, Bool.and_eq_true, decide_eq_true_eq] at hm
        obtain ⟨⟨⟨⟨⟨⟨⟨⟨⟨rfl, h1⟩, h2⟩, h3⟩, h4⟩, h5⟩, h6⟩, h7⟩, h8⟩, h9⟩ := hm
        have p := l_comp (pos := p) (W := W) (fs := fs) g h1 (sI i g hN hsc tg iter h2) (by rw [hN, hsc]; exact blkOk_by h3) (fun i hi => by
            rw [List.all_eq_true] at h9
            simpa using h9 i hi) (fun s H C cl fp => sT_t (X := X.blk s H scope (compEnvC scope cl C X.env) fp) g.calm g.nod hN (by show relS scope X.env.scope = _; rw [hsc]) (fun y z _ => z) t tg h5 |> PG.of <| fun v σ H Q q => by rw [← g.k] at q; exact q)
          (fun s H C cl fp => sF fs (g.blk s H scope (compEnvC scope cl C X.env) fp) hN (by show relS scope X.env.scope = _; rw [hsc]) ifs h6 h7 h8)
          (fun s H C cl fp => (sE e (g.blk s H scope (compEnvC scope cl C X.env) fp) hN (by show relS scope X.env.scope = _; rw [hsc]) xe h4).1)
        exact ⟨p, fun _ => l_truth g p fun _ => rfl⟩
      | [], hm => simp [mE] at hm
      | _ :: _ :: _, hm => simp [mE] at hm
    | _ => simp [mE] at hm
  | .ix a i, W, X, sc, N, g, hN, hsc, x, hm => by
    cases x with
    | Subscript xa xi p =>
      simp only [mE, Bool.and_eq_true] at hm
      have p := l_ix (p := p) g hm.1.1 (sE a g hN hsc xa hm.1.2).1 (sE i g hN hsc xi hm.2).1
      exact ⟨p, fun _ => l_truth g p fun _ => rfl⟩
    | _ => simp [mE] at hm
  | .sl a lo hi, W, X, sc, N, g, hN, hsc, x, hm => by
    cases x with
    | Subscript xa xi p =>
      cases xi with
      | Slice lo' hi' st p2 =>
        cases st with
        | none =>
          simp only [mE, Bool.and_eq_true] at hm
          have p := l_sl (p := p) (p2 := p2) g (sE a g hN hsc xa hm.1.1).1 (sO lo g hN hsc lo' hm.1.2) (sO hi g hN hsc hi' hm.2)
          exact ⟨p, fun _ => l_truth g p fun _ => rfl⟩
        | some _ => simp [mE] at hm
      | _ => simp [mE] at hm
    | _ => simp [mE] at hm
  | .rev a, W, X, sc, N, g, hN, hsc, x, hm => by
    unfold mE at hm
    split at hm
    · rename_i xa i k p1 p2 p3 p
      simp only [Bool.and_eq_true, decide_eq_true_eq] at hm
      obtain ⟨rfl, h1⟩ := hm
      have p := l_rev (k := k) (p1 := p1) (p2 := p2) (p3 := p3) (p := p) g (sE a g hN hsc xa h1).1
      exact ⟨p, fun _ => l_truth g p fun _ => rfl⟩
    · cases hm
  | .call f es, W, X, sc, N, g, hN, hsc, x, hm => by
    unfold mE at hm
    split at hm
    · rename_i y p xs pos
      simp only [Bool.and_eq_true] at hm
      obtain ⟨⟨⟨h1, h2⟩, h3⟩, h4⟩ := hm
      split at h1
      · rename_i z ps e
        simp only [Bool.and_eq_true, decide_eq_true_eq] at h1
        obtain ⟨rfl, h1⟩ := h1
        obtain ⟨l1, l2, l3⟩ := mEs_len h4
        have p := l_call (p := p) (pos := pos) g e h1 (fun ρ h ds h' e => by rw [evs_len e, l1]) l3 (gl_of hsc h2) (nb h3) l2 (sL es g hN hsc xs h4)
        exact ⟨p, fun _ => l_truth g p fun _ => rfl⟩
      · cases h1
    · cases hm
  | .callk f es kes pm, W, X, sc, N, g, hN, hsc, x, hm => by
    unfold mE at hm
    split at hm
    · rename_i y p xs kws pos
      simp only [Bool.and_eq_true] at hm
      obtain ⟨⟨⟨⟨⟨⟨h1, h2⟩, h3⟩, h4⟩, h5⟩, h6⟩, h7⟩ := hm
      split at h1
      · rename_i z ps e
        have e0 := of_decide_eq_true h1
        subst e0
        obtain ⟨l1, l2, l3⟩ := mEs_len h4
        obtain ⟨k1, k2, k3⟩ := mEs_len h5
        rw [List.any_eq_true] at h7
        obtain ⟨q, hq, e1⟩ := h7
        have e1 := of_decide_eq_true e1
        subst e1
        have p := l_callk (p := p) (pos := pos) g e hq rfl h6 (fun ρ h ds h' e => by rw [evs_len e, l1]) (fun ρ h ds h' e => by rw [evs_len e, ← k1, List.length_map]) l3 (gl_of hsc h2) (nb h3) l2 (sL es g hN hsc xs h4) (sK kes g hN hsc kws h5)
        exact ⟨p, fun _ => l_truth g p fun _ => rfl⟩
      · cases h1
    · cases hm
  | .bi f es, W, X, sc, N, g, hN, hsc, x, hm => by
    unfold mE at hm
    split at hm
    · rename_i y p xs kws pos
      simp only [Bool.and_eq_true, decide_eq_true_eq] at hm
      obtain ⟨⟨⟨h1, h2⟩, h3⟩, h4⟩ := hm
      cases kws with
      | cons _ _ => simp at h1
      | nil =>
        split at h4
        · rename_i z e
          simp only [Bool.and_eq_true, decide_eq_true_eq] at h4
          obtain ⟨⟨rfl, h5⟩, h6⟩ := h4
          have p := l_bi (p := p) (pos := pos) g e h5 (gl_of hsc h2) (bts_of g h3) (mEs_len h6).2.1 (sP es g hN hsc xs h6)
          exact ⟨p, fun _ => l_truth g p fun _ => rfl⟩
        · split at h4
          · rename_i z e
            simp only [Bool.and_eq_true, decide_eq_true_eq] at h4
            obtain ⟨rfl, h4⟩ := h4
            split at h4
            · rename_i xa t p2
              simp only [Bool.and_eq_true, decide_eq_true_eq] at h4
              obtain ⟨⟨⟨⟨rfl, h5⟩, h6⟩, h7⟩, h8⟩ := h4
              match es, h8 with
              | .cons e' .nil, h8 =>
                have p := l_isi (p := p) (pos := pos) (p2 := p2) g e h7 (gl_of hsc h2) (bts_of g h3) (gl_of hsc h5) (bts_of g h6) (sE e' g hN hsc xa h8).1
                exact ⟨p, fun _ => l_truth g p fun _ => rfl⟩
              | .nil, h8 => cases h8
              | .cons _ (.cons _ _), h8 => cases h8
            · cases h4
          · split at h4
            · split at h4
              · rename_i r p2 ys ks pos2
                simp only [Bool.and_eq_true, decide_eq_true_eq] at h4
                obtain ⟨⟨⟨⟨⟨⟨⟨rfl, rfl⟩, h5⟩, h6⟩, h7⟩, h8⟩, h9⟩, h10⟩ := h4
                cases ks with
                | cons _ _ => simp at h5
                | nil =>
                  match es, ys, h8, h9, h10 with
                  | .cons e1 .nil, [xa], _, _, h10 =>
                    simp only [mEs, Bool.and_eq_true] at h10
                    have p := l_lrange1 (p := p) (pos := pos) (p2 := p2) (pos2 := pos2) g h10.1.1 (gl_of hsc h2) (bts_of g h3) (gl_of hsc h6) (bts_of g h7) (sE e1 g hN hsc xa h10.1.2).1
                    exact ⟨p, fun _ => l_truth g p fun _ => rfl⟩
                  | .cons e1 (.cons e2 .nil), [xa, xb], _, _, h10 =>
                    simp only [mEs, Bool.and_eq_true] at h10
                    have p := l_lrange2 (p := p) (pos := pos) (p2 := p2) (pos2 := pos2) g h10.1.1 h10.2.1.1 (gl_of hsc h2) (bts_of g h3) (gl_of hsc h6) (bts_of g h7) (sE e1 g hN hsc xa h10.1.2).1 (sE e2 g hN hsc xb h10.2.1.2).1
                    exact ⟨p, fun _ => l_truth g p fun _ => rfl⟩
                  | .nil, _ :: _, _, _, h10 => simp [mEs] at h10
                  | .nil, [], h8, _, _ => simp at h8
                  | .cons _ _, [], h8, _, _ => simp at h8
                  | .cons _ .nil, _ :: _ :: _, _, _, h10 => simp [mEs] at h10
                  | .cons _ (.cons _ _), [_], _, _, h10 => simp [mEs] at h10
                  | .cons _ (.cons _ _), _ :: _ :: _ :: _, _, h9, _ => simp at h9
                  | .cons _ (.cons _ (.cons _ _)), [_, _], _, _, h10 => simp [mEs] at h10
              · cases h4
            · cases h4
    · cases hm
  | .me f o es, W, X, sc, N, g, hN, hsc, x, hm => by
    unfold mE at hm
    split at hm
    · rename_i xo nm apos xs cpos
      simp only [Bool.and_eq_true, decide_eq_true_eq] at hm
      obtain ⟨⟨⟨⟨⟨h1, h2⟩, h3⟩, h4⟩, h5⟩, h6⟩ := hm
      have p := l_me (apos := apos) (cpos := cpos) g h1 h2 h3 h4 (mEs_len h6).2.1 (sE o g hN hsc xo h5).1 (sL es g hN hsc xs h6) (sP es g hN hsc xs h6)
      exact ⟨p, fun _ => l_truth g p fun _ => rfl⟩
    · cases hm
theorem sL : ∀ (es : Es) {W : WX} {X : Cx} {sc : Scope} {N : List Str} (g : Good T Z W Γ G X) (hN : X.N = N) (hsc : X.env.scope = sc) (xs : List Expr), mEs T N es sc xs = true → PA X xs (tAs Z W (evs Γ G es))
  | .nil, W, X, sc, N, g, hN, hsc, [], hm => a_nilL
  | .cons e es, W, X, sc, N, g, hN, hsc, x :: xs, hm => by
    simp only [mEs, Bool.and_eq_true] at hm
    exact a_consL hm.1.1 (sE e g hN hsc x hm.1.2).1 (sL es g hN hsc xs hm.2)
  | .nil, W, X, sc, N, g, hN, hsc, _ :: _, hm => by simp [mEs] at hm
  | .cons _ _, W, X, sc, N, g, hN, hsc, [], hm => by simp [mEs] at hm
theorem sP : ∀ (es : Es) {W : WX} {X : Cx} {sc : Scope} {N : List Str} (g : Good T Z W Γ G X) (hN : X.N = N) (hsc : X.env.scope = sc) (xs : List Expr), mEs T N es sc xs = true → PA X xs (tAp Z W (evp Γ G es))
  | .nil, W, X, sc, N, g, hN, hsc, [], hm => a_nilP
  | .cons e es, W, X, sc, N, g, hN, hsc, x :: xs, hm => by
    simp only [mEs, Bool.and_eq_true] at hm
    exact a_consP hm.1.1 (sE e g hN hsc x hm.1.2).1 (sP es g hN hsc xs hm.2)
  | .nil, W, X, sc, N, g, hN, hsc, _ :: _, hm => by simp [mEs] at hm
  | .cons _ _, W, X, sc, N, g, hN, hsc, [], hm => by simp [mEs] at hm
theorem sK : ∀ (es : Es) {W : WX} {X : Cx} {sc : Scope} {N : List Str} (g : Good T Z W Γ G X) (hN : X.N = N) (hsc : X.env.scope = sc) (kws : List Keyword), mEs T N es sc (kws.map (·.value)) = true → PK X kws (tAs Z W (evs Γ G es))
  | .nil, W, X, sc, N, g, hN, hsc, [], hm => k_nil
  | .cons e es, W, X, sc, N, g, hN, hsc, ⟨nm, x, kp⟩ :: kws, hm => by
    simp only [List.map_cons, mEs, Bool.and_eq_true] at hm
    exact k_cons (sE e g hN hsc x hm.1.2).1 (sK es g hN hsc kws hm.2)
  | .nil, W, X, sc, N, g, hN, hsc, _ :: _, hm => by simp [mEs] at hm
  | .cons _ _, W, X, sc, N, g, hN, hsc, [], hm => by simp [mEs] at hm
theorem sD : ∀ (es : Es) (ks : List L2.Key) (keys : List (Option Expr)) {W : WX} {X : Cx} {sc : Scope} {N : List Str} (g : Good T Z W Γ G X) (hN : X.N = N) (hsc : X.env.scope = sc) (xs : List Expr) {p : Pos}, mKs ks keys = true → xs.length = ks.length → mEs T N es sc xs = true → PPs X p keys xs (trs Z W Γ G ks es)
  | .nil, [], [], W, X, sc, N, g, hN, hsc, [], p, hk, hl, hm => pps_nil
  | .cons e es, k :: ks, key :: keys, W, X, sc, N, g, hN, hsc, x :: xs, p, hk, hl, hm => by
    simp only [mEs, Bool.and_eq_true] at hm
    exact pp_cons hk (sE e g hN hsc x hm.1.2).1 fun h => sD es ks keys g hN hsc xs h (by simpa using hl) hm.2
  | .nil, _, _, W, X, sc, N, g, hN, hsc, _ :: _, p, hk, hl, hm => by simp [mEs] at hm
  | .cons _ _, _, _, W, X, sc, N, g, hN, hsc, [], p, hk, hl, hm => by simp [mEs] at hm
  | .nil, _ :: _, _, W, X, sc, N, g, hN, hsc, [], p, hk, hl, hm => by simp at hl
  | .nil, [], _ :: _, W, X, sc, N, g, hN, hsc, [], p, hk, hl, hm => by have := (mKs_len hk).1; simp at this
  | .cons _ _, [], _, W, X, sc, N, g, hN, hsc, _ :: _, p, hk, hl, hm => by simp at hl
  | .cons _ _, _ :: _, [], W, X, sc, N, g, hN, hsc, _ :: _, p, hk, hl, hm => by have := (mKs_len hk).1; simp at this
theorem sO : ∀ (o : Oe) {W : WX} {X : Cx} {sc : Scope} {N : List Str} (g : Good T Z W Γ G X) (hN : X.N = N) (hsc : X.env.scope = sc) (x : Option Expr), mO T N o sc x = true → PO X x (tO Z W Γ G o)
  | .no, W, X, sc, N, g, hN, hsc, none, hm => po_none
  | .so e, W, X, sc, N, g, hN, hsc, some x, hm => po_some (sE e g hN hsc x hm).1
  | .no, W, X, sc, N, g, hN, hsc, some _, hm => by simp [mO] at hm
  | .so e, W, X, sc, N, g, hN, hsc, none, hm => by simp [mO] at hm
theorem sI : ∀ (i : I) {W : WX} {X : Cx} {sc : Scope} {N : List Str} (g : Good T Z W Γ G X) (hN : X.N = N) (hsc : X.env.scope = sc) (tg x : Expr), mI T N i sc tg x = true → PI X tg x (tI Z W (evI Γ G i))
  | .of e, W, X, sc, N, g, hN, hsc, tg, x, hm => i_of g (sE e g hN hsc x hm).1
  | .keys e, W, X, sc, N, g, hN, hsc, tg, x, hm => i_keys g (sE e g hN hsc x hm).1
  | .rng es, W, X, sc, N, g, hN, hsc, tg, x, hm => by
    unfold mI at hm
    split at hm
    · rename_i y p xs kws pos
      simp only [Bool.and_eq_true, decide_eq_true_eq] at hm
      obtain ⟨⟨⟨⟨⟨⟨h1, rfl⟩, h2⟩, h3⟩, h4⟩, h5⟩, h6⟩ := hm
      cases kws with
      | cons _ _ => simp at h1
      | nil =>
        have l := mEs_len h6
        exact i_rng g (gl_of hsc h4) (bts_of g h5) l.2.1 (fun ρ h ds h' e => by rw [evp_len e, l.1]) ⟨h2, h3⟩ (sP es g hN hsc xs h6)
    · cases hm
  | .enum e, W, X, sc, N, g, hN, hsc, tg, x, hm => by
    unfold mI at hm
    split at hm
    · rename_i y p x kws pos
      simp only [Bool.and_eq_true, decide_eq_true_eq] at hm
      obtain ⟨⟨⟨⟨⟨⟨h1, rfl⟩, h2⟩, h3⟩, h4⟩, h5⟩, h6⟩ := hm
      cases kws with
      | cons _ _ => simp at h1
      | nil => exact i_enum g h4 (gl_of hsc h2) (bts_of g h3) h5 (sE e g hN hsc x h6).1
    · cases hm
  | .zip a b, W, X, sc, N, g, hN, hsc, tg, x, hm => by
    unfold mI at hm
    split at hm
    · rename_i y p xa xb kws pos
      simp only [Bool.and_eq_true, decide_eq_true_eq] at hm
      obtain ⟨⟨⟨⟨⟨⟨⟨⟨h1, rfl⟩, h2⟩, h3⟩, h4⟩, h5⟩, h6⟩, h7⟩, h8⟩ := hm
      cases kws with
      | cons _ _ => simp at h1
      | nil => exact i_zip g h4 (gl_of hsc h2) (bts_of g h3) h5 h6 (sE a g hN hsc xa h7).1 (sE b g hN hsc xb h8).1
    · cases hm
  | .items _, W, X, sc, N, g, hN, hsc, tg, x, hm => by simp [mI] at hm
  | .vals _, W, X, sc, N, g, hN, hsc, tg, x, hm => by simp [mI] at hm
theorem sF : ∀ (es : Es) {W : WX} {X : Cx} {sc : Scope} {N : List Str} (g : Good T Z W Γ G X) (hN : X.N = N) (hsc : X.env.scope = sc) (xs : List Expr), mEs T N es sc xs = true → xs.length ≤ 1 → tsts es = true → PTs X xs (tT Z W (evF Γ G es))
  | .nil, W, X, sc, N, g, hN, hsc, [], hm, hl, ht => f_nil
  | .cons e .nil, W, X, sc, N, g, hN, hsc, [x], hm, hl, ht => by
    simp only [mEs, Bool.and_eq_true] at hm
    simp only [tsts, Bool.and_eq_true] at ht
    exact f_one ((sE e g hN hsc x hm.1.2).2 ht.1)
  | _, W, X, sc, N, g, hN, hsc, _ :: _ :: _, hm, hl, ht => by simp at hl
  | .nil, W, X, sc, N, g, hN, hsc, _ :: _, hm, hl, ht => by simp [mEs] at hm
  | .cons _ _, W, X, sc, N, g, hN, hsc, [], hm, hl, ht => by simp [mEs] at hm
  | .cons _ (.cons _ _), W, X, sc, N, g, hN, hsc, [_], hm, hl, ht => by simp [mEs] at hm
end
end
end Mi

set_option Elab.async false
set_option linter.all false
set_option maxRecDepth 100000
/-! Mini: statements' lemmas. -/
namespace Mi
open PySem PySem.Spec PyProof.Rows L2
/-- what is wanted behind a statement -/
def PoS (Z : Wi) (W : WX) (m : List Addr) (H : Hp) (r : Rs) (E : Ends) : Prop := match r with
  | .nx ρ h => ∀ σ' H' m', StR Z.K m' H' h σ' ρ → Ext m H m' H' → E.nx σ' H'
  | .bk ρ h => ∀ σ' H' m', StR Z.K m' H' h σ' ρ → Ext m H m' H' → E.bk σ' H'
  | .ct ρ h => ∀ σ' H' m', StR Z.K m' H' h σ' ρ → Ext m H m' H' → E.ct σ' H'
  | .rt d h => ∀ v H' m', HRp Z.K m' H' h → Ext m H m' H' → Rp Z.K m' H' v d → D.st d = true → E.rt v H'
  | .xx c fs ρ h => ∀ cls dx σ' H' m', StR Z.K m' H' h σ' ρ → Ext m H m' H' → XRp Z m' H' cls dx c fs → W cls dx σ' H'
  | .bad => False
def tS (Z : Wi) (W : WX) (f : Env → Hm → Rs) : TS := fun E σ H => ∃ m ρ h, StR Z.K m H h σ ρ ∧ PoS Z W m H (f ρ h) E
structure GoodS (T : Tb) (Z : Wi) (W : WX) (Γ : Gm) (G : Nat → Option D) (X : Cx) : Prop extends Good T Z W Γ G X where
  own : PassesOwn (model X.prog X.w) X.A X.env X.xe
  fn : ∀ y, X.fn y = true
  fk : X.env.blockKind = .function
  hs : X.stack = X.env :: X.outer
  hf : X.env.frame = some X.env.locals
  rm : Room 0 X.A
theorem PS.of {X : Cx} {s : Stmt} {t t' : TS} (p : PS X s t) (h : ∀ E σ H, t' E σ H → t E σ H) : PS X s t' := ⟨fun pins s σ H E I q => p.run pins s σ H E I (h E σ H q)⟩
theorem PSs.of {X : Cx} {s : List Stmt} {t t' : TS} (p : PSs X s t) (h : ∀ E σ H, t' E σ H → t E σ H) : PSs X s t' := ⟨fun pins s σ H E I q => p.run pins s σ H E I (h E σ H q)⟩
section
variable {T : Tb} {Z : Wi} {W : WX} {Γ : Gm} {G : Nat → Option D} {X : Cx} {σ : L2.St} {m m' : List Addr} {H H' : Hp} {h : Hm} {ρ : Env} {E : Ends}
theorem PoS.rebase {r : Rs} (x : Ext m H m' H') (p : PoS Z W m H r E) : PoS Z W m' H' r E := by
  cases r with
  | nx ρ h => exact fun σ' H2 m2 a b => p σ' H2 m2 a (x.trans a.hr b)
  | bk ρ h => exact fun σ' H2 m2 a b => p σ' H2 m2 a (x.trans a.hr b)
  | ct ρ h => exact fun σ' H2 m2 a b => p σ' H2 m2 a (x.trans a.hr b)
  | rt d h => exact fun v H2 m2 a b => p v H2 m2 a (x.trans a b)
  | xx c fs ρ h => exact fun cls dx σ' H2 m2 a b => p cls dx σ' H2 m2 a (x.trans a.hr b)
  | bad => exact p
/-- an expression ahead -/
theorem S_bnd {β γ : Type} {rel : List Addr → Hp → γ → β → Prop} {new : Hp → γ → β → Prop} {r : R β} {k : β → Hm → Rs} (s : StR Z.K m H h σ ρ) (p : PoS Z W m H (bns ρ r k) E) :
    Pst Z W σ rel new m H r fun v H1 => ∃ m1 d h1, r = .ok d h1 ∧ StR Z.K m1 H1 h1 σ ρ ∧ Ext m H m1 H1 ∧ rel m1 H1 v d ∧ new H v d ∧ PoS Z W m H (k d h1) E := by
  cases r with
  | ok d h1 => exact fun v H1 m1 a b c n => ⟨m1, d, h1, rfl, s.go a b, b, c, n, p⟩
  | ex c fs h1 => exact fun cls dx H1 m1 a b c => p cls dx σ H1 m1 (s.go a b) b c
  | bad => exact p
theorem tE_S {f : Env → Hm → R D} {k : D → Hm → Rs} {Q' : VK} (s : StR Z.K m H h σ ρ) (p : PoS Z W m H (bns ρ (f ρ h) k) E)
    (go : ∀ v H1 m1 d h1, StR Z.K m1 H1 h1 σ ρ → Ext m H m1 H1 → Rp Z.K m1 H1 v d → newV H v d → PoS Z W m H (k d h1) E → Q' v H1) : tE Z W f σ H Q' :=
  ⟨m, ρ, h, s, Pst.mono (S_bnd s p) fun v H1 ⟨m1, d, h1, _, a, b, c, n, q⟩ => go v H1 m1 d h1 a b c n q⟩
/-- .. its value gets a place -/
theorem tE_So {f : Env → Hm → R D} {k : D → Hm → Rs} {Q' : VK} (s : StR Z.K m H h σ ρ) (p : PoS Z W m H (bns ρ (f ρ h) fun d h => bns ρ (own d h) k) E)
    (go : ∀ v H1 m1 d h1, StR Z.K m1 H1 h1 σ ρ → Ext m H m1 H1 → Rp Z.K m1 H1 v d → D.st d = true → PoS Z W m1 H1 (k d h1) E → Q' v H1) : tE Z W f σ H Q' := by
  refine tE_S s p fun v H1 m1 d h1 s1 x1 r1 n1 q => ?_
  obtain ⟨m', d', h', eo, hr', xe', r', st', kp⟩ := PV.own s1.hr x1 r1 n1
  rw [eo, bns_ok] at q
  exact go v H1 m' d' h' ⟨hr', s1.en.more fun d v a b => kp d v a b⟩ xe' r' st' (q.rebase xe')
theorem tT_S {f : Env → Hm → R Bool} {k : Bool → Hm → Rs} {Q' : Bool → Hp → Prop} (s : StR Z.K m H h σ ρ) (p : PoS Z W m H (bns ρ (f ρ h) k) E)
    (go : ∀ b H1 m1 h1, StR Z.K m1 H1 h1 σ ρ → Ext m H m1 H1 → PoS Z W m1 H1 (k b h1) E → Q' b H1) : tT Z W f σ H Q' :=
  ⟨m, ρ, h, s, Pst.mono (S_bnd s p) fun v H1 ⟨m1, d, h1, _, a, b, c, n, q⟩ => by subst c; exact go v H1 m1 h1 a b (q.rebase b)⟩
theorem bns_assoc {α β : Type} (r : R α) (f : α → Hm → R β) (g : β → Hm → Rs) : bns ρ (bnd r f) g = bns ρ r fun a h => bns ρ (f a h) g := by cases r <;> rfl
theorem PoS.optB {β : Type} {o : Option β} {k : β → Hm → Rs} (p : PoS Z W m H (bns ρ (opt o h) k) E) : ∃ d, o = some d ∧ PoS Z W m H (k d h) E := by
  cases o with
  | none => exact p.elim
  | some d => exact ⟨d, rfl, p⟩

/-! ### plain statements -/
theorem s_pass {p : Pos} : PS X (.Pass p) (tS Z W (fun ρ h => .nx ρ h)) := PS.of ps_pass fun E σ H ⟨m, ρ, h, s, q⟩ => q σ H m s .refl
theorem s_break {p : Pos} : PS X (.Break p) (tS Z W (fun ρ h => .bk ρ h)) := PS.of ps_break fun E σ H ⟨m, ρ, h, s, q⟩ => q σ H m s .refl
theorem s_continue {p : Pos} : PS X (.Continue p) (tS Z W (fun ρ h => .ct ρ h)) := PS.of ps_continue fun E σ H ⟨m, ρ, h, s, q⟩ => q σ H m s .refl
theorem s_retN {p : Pos} : PS X (.Return none p) (tS Z W (fun _ h => .rt .non h)) := PS.of ps_retN fun E σ H ⟨m, ρ, h, s, q⟩ => q .non H m s.hr .refl .non rfl
theorem s_ret {e : Mi.E} {x : Expr} {Xs0 : Xs} {p : Pos} (he : PE X x (tE Z W (ev Γ G e))) : PS X (.Return (some x) p) (tS Z W (ex Γ G Xs0 (.ret e))) := PS.of (ps_ret he) fun E σ H ⟨m, ρ, h, s, q⟩ => by
  simp only [ex] at q
  exact tE_So s q fun v H1 m1 d h1 s1 x1 r1 st q1 => q1 v H1 m1 s1.hr .refl r1 st
def isLC : Expr → Bool
  | .ListComp _ _ _ _ => true
  | _ => false
theorem sw_no {x : Expr} {t : Option Expr} {n : Nat} {env : PySem.Env} (h : okH x = true) (h2 : isLC x = false) : swapsWith x t n env = pure false := by
  cases x <;> first | rfl | (simp [okH] at h; done) | (simp [isLC] at h2)
theorem s_ex {e : Mi.E} {x : Expr} {Xs0 : Xs} {p : Pos} (hok : okH x = true) (hl : isLC x = false) (he : PE X x (tE Z W (ev Γ G e))) : PS X (.Expr x p) (tS Z W (ex Γ G Xs0 (.ex e))) := PS.of (ps_expr he (sw_no hok hl)) fun E σ H ⟨m, ρ, h, s, q⟩ => by
  simp only [ex] at q
  exact tE_S s q fun v H1 m1 d h1 s1 x1 r1 n1 q1 => q1 σ H1 m1 s1 x1
theorem s_if {e : Mi.E} {a b : Ss} {x : Expr} {xa xb : List Stmt} {Xs0 : Xs} {p : Pos} (ht : PT X x (tT Z W (truF (ev Γ G e)))) (ha : PSs X xa (tS Z W (exs Γ G Xs0 a))) (hb : PSs X xb (tS Z W (exs Γ G Xs0 b))) : PS X (.If x xa xb p) (tS Z W (ex Γ G Xs0 (.ifs e a b))) := PS.of (ps_if ht ha hb) fun E σ H ⟨m, ρ, h, s, q⟩ => by
  simp only [ex] at q
  rw [← bns_assoc] at q
  refine tT_S s q fun k H1 m1 h1 s1 x1 q1 => ?_
  cases k with
  | true => exact ⟨m1, ρ, h1, s1, q1⟩
  | false => exact ⟨m1, ρ, h1, s1, q1⟩
theorem ss_nil {Xs0 : Xs} : PSs X [] (tS Z W (exs Γ G Xs0 .nil)) := PSs.of pss_nil fun E σ H ⟨m, ρ, h, s, q⟩ => by
  simp only [exs] at q
  exact q σ H m s .refl
theorem PoS.seq {r : Rs} {k : Env → Hm → Rs} (p : PoS Z W m H (sq r k) E) : PoS Z W m H r { E with nx := fun σ' H' => ∃ m' ρ' h', StR Z.K m' H' h' σ' ρ' ∧ PoS Z W m' H' (k ρ' h') E } := by
  cases r with
  | nx ρ h => exact fun σ' H2 m2 a b => ⟨m2, ρ, h, a, PoS.rebase b p⟩
  | bk ρ h => exact p
  | ct ρ h => exact p
  | rt d h => exact p
  | xx c fs ρ h => exact p
  | bad => exact p
theorem ss_cons {s : Mi.St} {ss : Ss} {x : Stmt} {xs : List Stmt} {Xs0 : Xs} (h1 : PS X x (tS Z W (ex Γ G Xs0 s))) (h2 : PSs X xs (tS Z W (exs Γ G Xs0 ss))) : PSs X (x :: xs) (tS Z W (exs Γ G Xs0 (.cons s ss))) := PSs.of (pss_cons h1 h2) fun E σ H ⟨m, ρ, h, st, q⟩ => by
  simp only [exs] at q
  exact ⟨m, ρ, h, st, q.seq⟩
/-! ### stores -/
theorem PoS.asg {t : Mi.T} {d : D} {v : V} {Q : L2.St → Hp → Prop} (s : StR Z.K m H h σ ρ) (r : Rp Z.K m H v d) (st : D.st d = true) (q : PoS Z W m H (bns ρ (opt (asgT t d ρ) h) .nx) E) : tG Z.K t v σ H E.nx := by
  obtain ⟨ρ', e, q⟩ := q.optB
  exact ⟨m, ρ, h, d, ρ', s, r, st, e, fun σ' en sa => q σ' H m ⟨s.hr, en⟩ .refl⟩
theorem s_asg {e : Mi.E} {t : Mi.T} {x tg : Expr} {Xs0 : Xs} {p : Pos} (he : PE X x (tE Z W (ev Γ G e))) (hg : PG X tg (tG Z.K t)) (hs : swapsWithSole [tg] x p.line X.env = pure false) (hw : swappedStores [tg] x X.env = pure none) (h1 : noStar tg = true) : PS X (.Assign [tg] x p) (tS Z W (ex Γ G Xs0 (.asg t e))) :=
  PS.of (ps_asg he hg hs hw (by rw [assignEach_cons h1]; rfl)) fun E σ H ⟨m, ρ, h, s, q⟩ => by
  simp only [ex] at q
  exact tE_So s q fun v H1 m1 d h1 s1 x1 r1 st q1 => q1.asg (Q := E.nx) s1 r1 st
end
end Mi

set_option Elab.async false
set_option linter.all false
set_option maxRecDepth 100000
/-! Mini: stores in places, loops. -/
namespace Mi
open PySem PySem.Spec PyProof.Rows L2
section
variable {K : PySem.W.Frag} {m : List Addr} {H : Hp}
theorem any_keys : ∀ {kvs : List (L2.Key × V)} {kds : List (L2.Key × D)} (k : L2.Key), kvs.map (·.1) = kds.map (·.1) → (kvs.any fun kv => decide (kv.1 = k)) = kds.any fun kv => decide (kv.1 = k) := fun {kvs kds} k e => by
  have : (kvs.map (·.1)).any (fun q => decide (q = k)) = (kds.map (·.1)).any fun q => decide (q = k) := by rw [e]
  rw [List.any_map, List.any_map] at this
  exact this
theorem putMap {k : L2.Key} {v : V} {d : D} (r : Rp K m H v d) (sd : D.st d = true) : ∀ {kvs : List (L2.Key × V)} {kds : List (L2.Key × D)}, KvR K m H kvs kds → KvR K m H (kvs.map fun kv => if kv.1 = k then (kv.1, v) else kv) (kds.map fun kv => if kv.1 = k then (kv.1, d) else kv)
  | [], [], _ => ⟨rfl, rfl, .nil⟩
  | [], _ :: _, q => by have := q.1; simp at this
  | _ :: _, [], q => by have := q.1; simp at this
  | p :: kvs, p' :: kds, ⟨e, s, t⟩ => by
    simp only [List.map_cons, List.cons.injEq] at e
    simp only [List.map_cons, D.stL, Bool.and_eq_true] at s
    cases t with
    | cons a t =>
      obtain ⟨e2, s2, t2⟩ := putMap (k := k) r sd (kvs := kvs) (kds := kds) ⟨e.2, s.2, t⟩
      simp only [List.map_cons]
      by_cases h : p.1 = k
      · rw [if_pos h, if_pos (by rw [← e.1]; exact h)]
        exact ⟨by simp only [List.map_cons]; rw [e.1, e2], by simp only [List.map_cons, D.stL, Bool.and_eq_true]; exact ⟨sd, s2⟩, by simp only [List.map_cons]; exact .cons r t2⟩
      · rw [if_neg h, if_neg (by rw [← e.1]; exact h)]
        exact ⟨by simp only [List.map_cons]; rw [e.1, e2], by simp only [List.map_cons, D.stL, Bool.and_eq_true]; exact ⟨s.1, s2⟩, by simp only [List.map_cons]; exact .cons a t2⟩
theorem putK_rel {k : L2.Key} {v : V} {d : D} {kvs : List (L2.Key × V)} {kds : List (L2.Key × D)} (q : KvR K m H kvs kds) (r : Rp K m H v d) (sd : D.st d = true) : KvR K m H (L2.putK kvs k v) (Mi.putK k d kds) := by
  unfold L2.putK Mi.putK
  rw [any_keys k q.1]
  split
  · exact putMap r sd q
  · exact ⟨by simp [q.1], by rw [List.map_append, stL_append, q.2.1]; simp [D.stL, sd], by rw [List.map_append, List.map_append]; exact q.2.2.append (.one r)⟩
end
section
variable {T : Tb} {Z : Wi} {W : WX} {Γ : Gm} {G : Nat → Option D} {X : Cx} {σ : L2.St} {m m' : List Addr} {H H' : Hp} {h : Hm} {ρ : Env} {E : Ends}
/-- o[i] = v -/
def rSet (K : PySem.W.Frag) : TSet := fun o i v H Q => ∃ m h d e z h', HRp K m H h ∧ Rp K m H o d ∧ Rp K m H i e ∧ Rp K m H v z ∧ D.st z = true ∧ setI h d e z = .ok () h' ∧ ∀ H', HRp K m H' h' → Ext m H m H' → Q H'
theorem set_any (hu : X.A.units + 1 < cLine) : PSet X (rSet X.K) := by
  intro pins s σ H o i v ov iv u Q I ro ri rv ⟨m, h, d, e, z, h', hr, qd, qe, qz, sz, eq, fin⟩
  unfold setI at eq
  split at eq
  · rename_i n
    split at eq
    · rename_i es e1
      split at eq
      · rename_i k
        split at eq
        · rename_i hk
          cases eq
          obtain ⟨a, xs, e3, e4, s1, t1⟩ := lst_view (Z := ⟨X.K, fun _ => none⟩) hr e1
          cases qd with
          | ref q =>
            rw [q] at e3; cases e3
            cases qe
            obtain ⟨r', x'⟩ := hr.write (u := .lst (xs.set k.toNat v)) (o := .lst (es.set k.toNat z)) q (fun _ _ w => by rw [e4] at w; cases w) rfl fun H2 eH x' => by
              subst eH
              exact .lst upd_same (by rw [stL_iff]; intro d hd; rcases List.mem_or_eq_of_mem_set hd with hd | hd; exact (stL_iff es).mp s1 d hd; exact hd ▸ sz) ((RpL.ext hr x' t1).set (Rp.ext hr x' qz) _)
            refine set_list pins s σ H _ _ v ov iv u Q I ro ri rv ⟨a, xs, k, k.toNat, rfl, rfl, e4, ?_, fin _ r' x'⟩
            unfold ixN
            rw [if_pos hk.1, if_pos (by rw [t1.length]; exact hk.2)]
        · cases eq
      · cases eq
    · rename_i kds e1
      split at eq
      · rename_i k ek
        split at eq
        · rename_i hl
          cases eq
          obtain ⟨a, e3, oa⟩ := hr.get e1
          cases oa with
          | dic e4 t =>
            rename_i kvs
            cases qd with
            | ref q =>
              rw [q] at e3; cases e3
              obtain rfl := keyOf_view qe ek
              obtain ⟨r', x'⟩ := hr.write (u := .dK (L2.putK kvs k v)) (o := .dic (Mi.putK k z kds)) q (fun _ _ w => by rw [e4] at w; cases w) rfl fun H2 eH x' => by
                subst eH
                exact .dic upd_same (putK_rel (KvR.ext hr x' t) (Rp.ext hr x' qz) sz)
              have hlen : kvs.length = kds.length := by have := congrArg List.length t.1; simpa using this
              exact set_dict hu pins s σ H _ _ v ov iv u Q I ro ri rv ⟨a, _, rfl, DPut.k e4 (by rw [hlen]; exact hl), fin _ r' x'⟩
        · cases eq
      · cases eq
    · cases eq
  · cases eq
theorem s_asgI (g : GoodS T Z W Γ G X) {o i e : Mi.E} {xo xi x : Expr} {Xs0 : Xs} {p p2 : Pos} (hok : okH xi = true) (ho : PE X xo (tE Z W (ev Γ G o))) (hi : PE X xi (tE Z W (ev Γ G i))) (he : PE X x (tE Z W (ev Γ G e))) : PS X (.Assign [.Subscript xo xi p2] x p) (tS Z W (ex Γ G Xs0 (.asgI o i e))) := by
  have hset : PSet X (rSet Z.K) := by rw [← g.k]; exact set_any (by have := g.un; omega)
  refine PS.of (ps_asg he (pg_sub (pos := p2) ho hi hset (by intro v; cases xi <;> first | rfl | simp [okH] at hok)) (by cases x <;> rfl) (by cases x <;> rfl)) fun E σ H ⟨m, ρ, h, s, q⟩ => ?_
  simp only [ex] at q
  exact tE_So s q fun v H1 m1 d h1 s1 x1 r1 st q1 => tE_S s1 q1 fun vo H2 m2 d2 h2 s2 x2 r2 n2 q2 => tE_S s2 (q2.rebase x2) fun vi H3 m3 d3 h3 s3 x3 r3 n3 q3 => by
    cases eq : setI h3 d2 d3 d with
    | bad => rw [eq] at q3; exact q3.elim
    | ex c fs h4 => exact absurd eq (by
        unfold setI
        repeat' split
        all_goals intro z; cases z)
    | ok a h4 =>
      rw [eq, bns_ok] at q3
      exact ⟨m3, h3, d2, d3, d, h4, s3.hr, Rp.ext s2.hr x3 r2, r3, Rp.ext s2.hr x3 (Rp.ext s1.hr x2 r1), st, eq, fun H4 r4 x4 => q3 σ H4 m3 (s3.go r4 x4) (x3.trans r4 x4)⟩
theorem s_asg2I (g : GoodS T Z W Γ G X) {o i o2 i2 e : Mi.E} {xo xi xo2 xi2 x : Expr} {Xs0 : Xs} {p p2 p3 p4 : Pos} {kt : Nat} (hok : okH xi = true) (hok2 : okH xi2 = true) (ho : PE X xo (tE Z W (ev Γ G o))) (hi : PE X xi (tE Z W (ev Γ G i))) (ho2 : PE X xo2 (tE Z W (ev Γ G o2))) (hi2 : PE X xi2 (tE Z W (ev Γ G i2))) (he : PE X x (tE Z W (ev Γ G e)))
    (hw : swappedStores [.Tuple [.Subscript xo xi p2, .Subscript xo2 xi2 p3] kt p4] x X.env = pure none) : PS X (.Assign [.Tuple [.Subscript xo xi p2, .Subscript xo2 xi2 p3] kt p4] x p) (tS Z W (ex Γ G Xs0 (.asg2I o i o2 i2 e))) := by
  have hset : PSet X (rSet Z.K) := by rw [← g.k]; exact set_any (by have := g.un; omega)
  have t1 := pg_sub (pos := p2) ho hi hset (by intro v; cases xi <;> first | rfl | simp [okH] at hok)
  have t2 := pg_sub (pos := p3) ho2 hi2 hset (by intro v; cases xi2 <;> first | rfl | simp [okH] at hok2)
  refine PS.of (ps_asg he (pg_tup (k := kt) (pos := p4) g.calm (pgs_cons t1 (pgs_cons t2 pgs_nil))) (by cases x <;> rfl) hw rfl) fun E σ H ⟨m, ρ, h, s, q⟩ => ?_
  simp only [ex] at q
  refine tE_So s q fun v H1 m1 d h1 s1 x1 r1 st q1 => ?_
  split at q1
  · rename_i d1 d2
    cases r1 with
    | tup sq sd t =>
      simp only [D.stL, Bool.and_eq_true] at sd
      cases t with
      | cons ra t =>
        obtain ⟨vb, rfl, rb⟩ := rp_one t
        refine ⟨_, _, rfl, by rw [g.k]; exact sq.sq, rfl, ?_⟩
        have step : ∀ {σ : L2.St} {H1 : Hp} {m1 : List Addr} {h1 : Hm} {o i : Mi.E} {d : D} {v : V} {k : Hm → Rs} {Q : L2.St → Hp → Prop}, StR Z.K m1 H1 h1 σ ρ → Rp Z.K m1 H1 v d → D.st d = true →
            PoS Z W m1 H1 (bns ρ (ev Γ G o ρ h1) fun o h => bns ρ (ev Γ G i ρ h) fun i h => bns ρ (setI h o i d) fun _ h => k h) E →
            (∀ H2 m2 h2, StR Z.K m2 H2 h2 σ ρ → Ext m1 H1 m2 H2 → PoS Z W m2 H2 (k h2) E → Q σ H2) → gSub (tE Z W (ev Γ G o)) (tE Z W (ev Γ G i)) (rSet Z.K) v σ H1 Q := by
          intro σ H1 m1 h1 o i d v k Q s1 rv sv q1 go
          refine tE_S s1 q1 fun vo H2 m2 d2 h2 s2 x2 r2 n2 q2 => tE_S s2 (q2.rebase x2) fun vi H3 m3 d3 h3 s3 x3 r3 n3 q3 => ?_
          cases eq : setI h3 d2 d3 d with
          | bad => rw [eq] at q3; exact q3.elim
          | ex c fs h4 => exact absurd eq (by
              unfold setI
              repeat' split
              all_goals intro z; cases z)
          | ok a h4 =>
            rw [eq, bns_ok] at q3
            exact ⟨m3, h3, d2, d3, d, h4, s3.hr, Rp.ext s2.hr x3 r2, r3, Rp.ext s2.hr x3 (Rp.ext s1.hr x2 rv), sv, eq, fun H4 r4 x4 => go H4 m3 h4 (s3.go r4 x4) (Ext.trans r4 (Ext.trans s3.hr x2 x3) x4) ((q3.rebase x3).rebase x4)⟩
        refine ⟨_, _, rfl, ?_⟩
        refine step s1 ra sd.1 q1 fun H2 m2 h2 s2 x2 q2 => ?_
        refine ⟨_, _, rfl, ?_⟩
        refine step s2 (Rp.ext s1.hr x2 rb) sd.2.1 q2 fun H3 m3 h3 s3 x3 q3 => ?_
        exact ⟨rfl, q3 _ _ _ s3 .refl⟩
  · exact q1.elim
theorem s_asgL (g : GoodS T Z W Γ G X) {N : List Str} {sc : Scope} (hN : X.N = N) (hsc : X.env.scope = sc) {ts : Ts} {e : Mi.E} {x : Expr} {xs : List Expr} {Xs0 : Xs} {p p2 : Pos} {k : Nat} (he : PE X x (tE Z W (ev Γ G e))) (ht : mTs N sc allT ts xs = true) (hw : swappedStores [.Tuple xs k p2] x X.env = pure none) :
    PS X (.Assign [.Tuple xs k p2] x p) (tS Z W (ex Γ G Xs0 (.asgL ts e))) := by
  refine PS.of (ps_asg he (pg_lst (k := k) (pos := p2) g.calm (sT_ts g.calm g.nod hN hsc (fun y _ _ => g.fn y) ts xs ht) (mTs_each ht).1 (mTs_each ht).2) (by cases x <;> rfl) hw rfl) fun E σ H ⟨m, ρ, h, s, q⟩ => ?_
  simp only [ex] at q
  refine tE_So s q fun v H1 m1 d h1 s1 x1 r1 st q1 => ?_
  obtain ⟨ρ', e1, q1⟩ := q1.optB
  rw [Option.bind_eq_some_iff] at e1
  obtain ⟨ds, e2, e3⟩ := e1
  obtain ⟨a, vs, rfl, sq, sd, t⟩ := lstOf_view (Z := Z) s1.hr r1 e2
  exact ⟨a, vs, rfl, by rw [g.k]; exact sq, by rw [t.length]; exact asgTs_len e3, m1, ρ, h1, ds, ρ', by rw [g.k]; exact s1, by rw [g.k]; exact t, sd, e3, fun σ' en sa => q1 σ' H1 m1 ⟨s1.hr, by rw [← g.k]; exact en⟩ .refl⟩
theorem s_stop {Xs0 : Xs} {x : Stmt} : PS X x (tS Z W (ex Γ G Xs0 .stop)) := ⟨fun pins s σ H E I ⟨m, ρ, h, st, q⟩ => by
  simp only [ex] at q
  exact q.elim⟩
theorem augD_int {op : Operator} {x y z : D} (e : augD op x y = some z) : ∃ a b, x = .int a ∧ y = .int b ∧ ((op = .Add ∧ z = .int (a + b)) ∨ (op = .Sub ∧ z = .int (a - b))) := by
  unfold augD at e
  split at e
  · cases e; exact ⟨_, _, rfl, rfl, .inl ⟨rfl, rfl⟩⟩
  · cases e; exact ⟨_, _, rfl, rfl, .inr ⟨rfl, rfl⟩⟩
  · cases e
/-- a op= b -/
def rAug (K : PySem.W.Frag) (op : Operator) : TIp := fun x y H Q => ∃ m d e z, Rp K m H x d ∧ Rp K m H y e ∧ augD op d e = some z ∧ ∀ w, Rp K m H w z → D.st z = true → Q w H
theorem aug_any (op : Operator) : PIp X op (rAug X.K op) := by
  intro pins s σ H x y v u Q I r1 r2 ⟨m, d, e, z, qd, qe, eq, fin⟩
  obtain ⟨a, b, rfl, rfl, ⟨rfl, rfl⟩ | ⟨rfl, rfl⟩⟩ := augD_int eq
  · cases qd; cases qe
    exact ip_add pins s σ H _ _ v u Q I r1 r2 ⟨a, b, rfl, rfl, fin _ (.int _) rfl⟩
  · cases qd; cases qe
    exact ip_sub pins s σ H _ _ v u Q I r1 r2 ⟨a, b, rfl, rfl, fin _ (.int _) rfl⟩
theorem s_aug (g : GoodS T Z W Γ G X) {i : Nat} {y : Str} {op : Operator} {e : Mi.E} {x : Expr} {Xs0 : Xs} {p p2 : Pos} (hi : X.N[i]? = some y) (hx : Loc X.env.scope y) (he : PE X x (tE Z W (ev Γ G e))) : PS X (.AugAssign (.Name y p2) op x p) (tS Z W (ex Γ G Xs0 (.aug op i e))) := by
  have hp : PIp X op (rAug Z.K op) := by rw [← g.k]; exact aug_any op
  refine PS.of (ps_aug g.nod hi hx he hp (.inl (g.fn y))) fun E σ H ⟨m, ρ, h, s, q⟩ => ?_
  simp only [ex, ev] at q
  split at q
  · rename_i d e0
    obtain ⟨st, v, ev0, rv⟩ := s.en.at_ i d e0
    rw [bns_ok] at q
    refine ⟨v, ev0, tE_S s q fun y H1 m1 d1 h1 s1 x1 r1 n1 q1 => ?_⟩
    obtain ⟨z, eq, q1⟩ := q1.optB
    exact ⟨m1, d, d1, z, Rp.ext s.hr x1 rv, r1, eq, fun w rw' sw => q1 _ H1 m1 ⟨s1.hr, s1.en.set sw rw'⟩ x1⟩
  · exact q.elim
/-- o[i], to be written -/
def rGet (K : PySem.W.Frag) : V → V → Hp → VK → Prop := fun o i H Q => ∃ m h d e z, HRp K m H h ∧ Rp K m H o d ∧ Rp K m H i e ∧ ixW h d e = some z ∧ ∀ w, Rp K m H w z → D.st z = true → Q w H
theorem get_any (hu : X.A.units + 1 < cLine) : PGet X (rGet X.K) := by
  intro pins s σ H o i ov iv Q I ro ri ⟨m, h, d, e, z, hr, qd, qe, eq, fin⟩
  unfold ixW at eq
  split at eq
  · rename_i n
    split at eq
    · rename_i es e1
      split at eq
      · rename_i k
        split at eq
        · rename_i hk
          obtain ⟨a, xs, e3, e4, s1, t1⟩ := lst_view (Z := ⟨X.K, fun _ => none⟩) hr e1
          cases qd with
          | ref q =>
            rw [q] at e3; cases e3
            cases qe
            cases ro
            obtain ⟨t, rfl⟩ := ri
            obtain ⟨w, ew, rw'⟩ := t1.get eq
            obtain ⟨its, r, pl, hz⟩ := I.list (.of e4)
            obtain ⟨u, eu, ru⟩ := r.get ew
            exact wpAny_getItem_list pl.isList hk.1 hk.2 (by simpa using eu) ⟨w, H, I, ru, fin w rw' (stL_get s1 eq)⟩
        · cases eq
      · cases eq
    · rename_i kds e1
      split at eq
      · rename_i k ek
        cases qd with
        | ref q =>
          obtain ⟨kv, rd, t⟩ := dic_view hr q (show dicOf h _ = some kds by simp only [dicOf, e1])
          obtain rfl := keyOf_view qe ek
          cases ro
          rcases kv_look k t.1 t.2.2 with ⟨h1, h2⟩ | ⟨v, d, h1, h2, h3⟩
          · rw [h2] at eq; cases eq
          · rw [h2] at eq; cases eq
            exact d_getItem hu I (.inl ⟨kv, k, rd, rfl, h1.symm⟩) ri fun w' s3 I3 rw' => ⟨v, H, I3, rw', fin v h3 (stL_look t.2.1 h2)⟩
      · cases eq
    · cases eq
  · cases eq
theorem setI_ex (h : Hm) (o i d : D) (c : Str) (fs : List (Str × D)) (h' : Hm) : setI h o i d ≠ .ex c fs h' := by
  unfold setI
  repeat' split
  all_goals intro z; cases z
theorem s_augI (g : GoodS T Z W Γ G X) {op : Operator} {o i e : Mi.E} {xo xi x : Expr} {Xs0 : Xs} {p p2 : Pos} (hok : okH xi = true) (ho : PE X xo (tE Z W (ev Γ G o))) (hi : PE X xi (tE Z W (ev Γ G i))) (he : PE X x (tE Z W (ev Γ G e))) : PS X (.AugAssign (.Subscript xo xi p2) op x p) (tS Z W (ex Γ G Xs0 (.augI op o i e))) := by
  have hu : X.A.units + 1 < cLine := by have := g.un; omega
  have hset : PSet X (rSet Z.K) := by rw [← g.k]; exact set_any hu
  have hget : PGet X (rGet Z.K) := by rw [← g.k]; exact get_any hu
  have hp : PIp X op (rAug Z.K op) := by rw [← g.k]; exact aug_any op
  refine PS.of (ps_augS ho hi hget he hp hset (by intros; cases xi <;> first | rfl | simp [okH] at hok)) fun E σ H ⟨m, ρ, h, s, q⟩ => ?_
  simp only [ex] at q
  exact tE_S s q fun vo H1 m1 d1 h1 s1 x1 r1 n1 q1 => tE_S s1 (q1.rebase x1) fun vi H2 m2 d2 h2 s2 x2 r2 n2 q2 => by
    obtain ⟨z, eq, q2⟩ := q2.optB
    refine ⟨m2, h2, d1, d2, z, s2.hr, Rp.ext s1.hr x2 r1, r2, eq, fun w rw' sw => tE_S s2 (q2.rebase x2) fun vy H3 m3 d3 h3 s3 x3 r3 n3 q3 => ?_⟩
    obtain ⟨z3, eq3, q3⟩ := q3.optB
    refine ⟨m3, z, d3, z3, Rp.ext s2.hr x3 rw', r3, eq3, fun w3 rw3 sw3 => ?_⟩
    cases eq4 : setI h3 d1 d2 z3 with
    | bad => rw [eq4] at q3; exact q3.elim
    | ex c fs h4 => exact absurd eq4 (setI_ex _ _ _ _ _ _ _)
    | ok a h4 =>
      rw [eq4, bns_ok] at q3
      exact ⟨m3, h3, d1, d2, z3, h4, s3.hr, Rp.ext s2.hr x3 (Rp.ext s1.hr x2 r1), Rp.ext s2.hr x3 r2, rw3, sw3, eq4, fun H4 r4 x4 => q3 σ H4 m3 (s3.go r4 x4) (x3.trans r4 x4)⟩
end
end Mi

set_option Elab.async false
set_option linter.all false
set_option maxRecDepth 100000
/-! Mini: swapped stores, comprehensions that are stored, loops. -/
namespace Mi
open PySem PySem.Spec PyProof.Rows L2
def swNames (sc : Scope) (ts : List Expr) : List Str := ts.filterMap fun
  | .Name id pos => if sc.names.lookup id == some .local && pos.line == (ts.head?.map (·.pos.line)).getD 0 then some id else none
  | _ => none
def isStar : Expr → Bool
  | .Starred _ _ => true
  | _ => false
def swR (sc : Scope) (ts vs : List Expr) : Option (Option (List Str)) :=
  if (!(ts.length == 2 || ts.length == 3) || vs.length != ts.length) = true then some none
  else if (vs.any isStar) = true then some none
  else if ((swNames sc ts).length != ts.length || (swNames sc ts).eraseDups.length != (swNames sc ts).length) = true then some none
  else if vs.all (foldedForSure 8) = true then some none
  else if vs.all (constantsAlone 8) = true then none
  else some (some (swNames sc ts))
theorem sw_of {ts vs : List Expr} {env : PySem.Env} {r : Option (List Str)} {k k2 : Nat} {p p2 : Pos} (fk : env.blockKind = .function) (h : swR env.scope ts vs = some r) : swappedStores [.Tuple ts k p] (.Tuple vs k2 p2) env = pure r := by
  have e : swappedStores [.Tuple ts k p] (.Tuple vs k2 p2) env = (if (!(ts.length == 2 || ts.length == 3) || vs.length != ts.length || env.blockKind != .function) = true then pure none
    else if (vs.any isStar) = true then pure none
    else if ((swNames env.scope ts).length != ts.length || (swNames env.scope ts).eraseDups.length != (swNames env.scope ts).length) = true then pure none
    else if vs.all (foldedForSure 8) = true then pure none
    else if vs.all (constantsAlone 8) = true then unsupported "assign.tuple-of-constant-expressions:order-of-the-stores"
    else pure (some (swNames env.scope ts))) := by
    unfold swappedStores
    rfl
  rw [e, fk]
  unfold swR at h
  simp only [bne_self_eq_false, Bool.or_false]
  split at h
  · rename_i c; rw [if_pos c]; cases h; rfl
  · rename_i c; rw [if_neg c]
    split at h
    · rename_i c; rw [if_pos c]; cases h; rfl
    · rename_i c; rw [if_neg c]
      split at h
      · rename_i c; rw [if_pos c]; cases h; rfl
      · rename_i c; rw [if_neg c]
        split at h
        · rename_i c; rw [if_pos c]; cases h; rfl
        · rename_i c; rw [if_neg c]
          split at h
          · cases h
          · rename_i c; rw [if_neg c]; cases h; rfl
section
variable {T : Tb} {Z : Wi} {W : WX} {Γ : Gm} {G : Nat → Option D} {X : Cx} {σ : L2.St} {m m' : List Addr} {H H' : Hp} {h : Hm} {ρ : Env} {E : Ends}
/-- .. of three -/
def tPar3 (i j l : Nat) (ta : TA) : TS := fun D σ H => ta σ H fun vs H1 => ∃ v w z, vs = [v, w, z] ∧ D.nx (((σ.set i (some v)).set j (some w)).set l (some z)) H1
theorem ps_par3 {i j l : Nat} {x y z : Str} {a b c : Expr} {ta : TA} {px py pz pt pos : Pos} {kt k2 pt2} (hc : X.calm = true) (hN : X.N.Nodup) (hi : X.N[i]? = some x) (hj : X.N[j]? = some y) (hl : X.N[l]? = some z) (hij : i ≠ j) (hil : i ≠ l) (hjl : j ≠ l)
    (hx : X.env.scope.names.lookup x = some .local) (hy : X.env.scope.names.lookup y = some .local) (hz : X.env.scope.names.lookup z = some .local) (ha : PA X [a, b, c] ta)
    (hw : swappedStores [.Tuple [.Name x px, .Name y py, .Name z pz] kt pt] (.Tuple [a, b, c] k2 pt2) X.env = pure (some [x, y, z]))
    (hs : swapsWithSole [.Tuple [.Name x px, .Name y py, .Name z pz] kt pt] (.Tuple [a, b, c] k2 pt2) pos.line X.env = pure false := by rfl) :
    PS X (.Assign [.Tuple [.Name x px, .Name y py, .Name z pz] kt pt] (.Tuple [a, b, c] k2 pt2) pos) (tPar3 i j l ta) := by
  refine ⟨fun pins s σ H D I h => ?_⟩
  rw [exec_Assign_arm]
  refine wpAny_bind (wpAny_standAt ?_)
  rw [hs]
  refine wpAny_bind (wpAny_pure ?_)
  rw [if_neg (by decide)]
  refine wpAny_bind (Tuple_ (thn (ha.run _ pins s σ H _ I h) fun us s1 ⟨vs, H1, I1, r1, q1⟩ => ?_))
  obtain ⟨v, w, t, e1, q1⟩ := q1
  subst e1
  obtain ⟨u1, u2, u3, rfl, rv, rw', rt⟩ : ∃ u1 u2 u3, us = [u1, u2, u3] ∧ RelV v u1 ∧ RelV w u2 ∧ RelV t u3 := by
    cases r1 with
    | cons p q =>
      cases q with
      | cons p' q' =>
        cases q' with
        | cons p'' q'' =>
          cases q''
          exact ⟨_, _, _, rfl, p, p', p''⟩
  refine wpAny_newObj_type ?_ (by show 3 ≤ sizeLine; decide)
  have I2 : Inv X pins σ H1 { s1 with heap := s1.heap.push { cls := .type "tuple", data := .seq [u1, u2, u3].toArray } } := I1.kept (t' := s1.toks) fun b o e => Heap.get?_push_of_some _ e
  rw [hw]
  refine wpAny_bind (wpAny_pure ?_)
  show wpAny (model X.prog X.w) X.A (do rule "assign.swapped-stores"; let items ← unpackItems (.ref s1.heap.objs.size) 3 none; assignInOrder [fun v => bindName X.env z v, fun v => bindName X.env y v, fun v => bindName X.env x v] items.reverse; pure Flow.next) _ _ _
  refine wpAny_bind (wpAny_rule (wpAny_bind (unpackItems_tuple (items := #[u1, u2, u3]) (I.ok.hd hc) (IsTup.new s1.heap _) fun h' hx' => ?_)))
  have I3 := I2.kept (h' := h') (t' := s1.toks) fun b o e => hx' b o (Nat.ne_of_lt (Heap.lt_size e)) e
  show wpAny _ _ (assignInOrder [fun v => bindName X.env z v, fun v => bindName X.env y v, fun v => bindName X.env x v] [u3, u2, u1] >>= fun _ => pure Flow.next) _ _ _
  refine wpAny_bind (assignInOrder_cons (wpAny_bindName (store_ok I3 hN hl (.inl hz) rt (fun s2 I4 => ?_) (.inr hz))))
  refine assignInOrder_cons (wpAny_bindName (store_ok I4 hN hj (.inl hy) rw' (fun s3 I5 => ?_) (.inr hy)))
  refine assignInOrder_cons (wpAny_bindName (store_ok I5 hN hi (.inl hx) rv (fun s4 I6 => assignInOrder_nil (wpAny_pure ?_)) (.inr hx)))
  rw [List.set_comm _ _ (Ne.symm hij), List.set_comm (l := σ) _ _ (Ne.symm hil), List.set_comm _ _ (Ne.symm hjl)] at I6
  exact ⟨_, H1, I6, q1⟩
theorem s_par (g : GoodS T Z W Γ G X) {i j : Nat} {x y : Str} {a b : Expr} {es : Es} {px py pt p : Pos} {kt k2 pt2} {Xs0 : Xs} (hi : X.N[i]? = some x) (hj : X.N[j]? = some y) (hij : i ≠ j)
    (hx : X.env.scope.names.lookup x = some .local) (hy : X.env.scope.names.lookup y = some .local) (ha : PA X [a, b] (tAs Z W (evs Γ G es)))
    (hw : swappedStores [.Tuple [.Name x px, .Name y py] kt pt] (.Tuple [a, b] k2 pt2) X.env = pure (some [x, y])) :
    PS X (.Assign [.Tuple [.Name x px, .Name y py] kt pt] (.Tuple [a, b] k2 pt2) p) (tS Z W (ex Γ G Xs0 (.asg (.t (.cons (.n i) (.cons (.n j) .nil))) (.tup es)))) := by
  refine PS.of (ps_par g.calm g.nod hi hj hij hx hy ha hw) fun E σ H ⟨m, ρ, h, s, q⟩ => ?_
  simp only [ex, ev, bns_assoc] at q
  refine ⟨m, ρ, h, s, Pst.mono (S_bnd s q) fun vs H1 ⟨m1, ds, h1, e1, s1, x1, c1, _, q1⟩ => ?_⟩
  have q1 : PoS Z W m H (bns ρ (gd (decide (ds.length ≤ sizeLine)) (.ok (.tup ds) h1)) fun a h => bns ρ (own a h) fun d h => bns ρ (opt (asgT (.t (.cons (.n i) (.cons (.n j) .nil))) d ρ) h) Rs.nx) E := q1
  cases hl : decide (ds.length ≤ sizeLine) with
  | false => rw [hl] at q1; exact q1.elim
  | true =>
    rw [hl, gd_t, bns_ok] at q1
    simp only [own, bns_ok] at q1
    obtain ⟨ρ', e, q9⟩ := q1.optB
    have l2 := asgTs_len (show asgTs _ ds ρ = some ρ' from e)
    match ds, l2, c1, e with
    | [d1, d2], _, c1, e =>
      obtain ⟨c1, st⟩ := c1
      simp only [D.stL, Bool.and_eq_true] at st
      cases c1 with
      | cons r1 c1 =>
        obtain ⟨w, rfl, r2⟩ := rp_one c1
        refine ⟨_, _, rfl, q9 _ H1 m1 ⟨s1.hr, ?_⟩ x1⟩
        simp only [asgT, asgTs] at e
        split at e
        · rename_i ρ1 e1
          split at e1
          · cases e1
            split at e
            · rename_i ρ2 e2
              split at e2
              · cases e2; cases e
                exact (s1.en.set st.1 r1).set st.2.1 r2
              · cases e2
            · cases e
          · cases e1
        · cases e
theorem s_par3 (g : GoodS T Z W Γ G X) {i j l : Nat} {x y z : Str} {a b c : Expr} {es : Es} {px py pz pt p : Pos} {kt k2 pt2} {Xs0 : Xs} (hi : X.N[i]? = some x) (hj : X.N[j]? = some y) (hl : X.N[l]? = some z) (hij : i ≠ j) (hil : i ≠ l) (hjl : j ≠ l)
    (hx : X.env.scope.names.lookup x = some .local) (hy : X.env.scope.names.lookup y = some .local) (hz : X.env.scope.names.lookup z = some .local) (ha : PA X [a, b, c] (tAs Z W (evs Γ G es)))
    (hw : swappedStores [.Tuple [.Name x px, .Name y py, .Name z pz] kt pt] (.Tuple [a, b, c] k2 pt2) X.env = pure (some [x, y, z])) :
    PS X (.Assign [.Tuple [.Name x px, .Name y py, .Name z pz] kt pt] (.Tuple [a, b, c] k2 pt2) p) (tS Z W (ex Γ G Xs0 (.asg (.t (.cons (.n i) (.cons (.n j) (.cons (.n l) .nil)))) (.tup es)))) := by
  refine PS.of (ps_par3 g.calm g.nod hi hj hl hij hil hjl hx hy hz ha hw) fun E σ H ⟨m, ρ, h, s, q⟩ => ?_
  simp only [ex, ev, bns_assoc] at q
  refine ⟨m, ρ, h, s, Pst.mono (S_bnd s q) fun vs H1 ⟨m1, ds, h1, e1, s1, x1, c1, _, q1⟩ => ?_⟩
  have q1 : PoS Z W m H (bns ρ (gd (decide (ds.length ≤ sizeLine)) (.ok (.tup ds) h1)) fun a h => bns ρ (own a h) fun d h => bns ρ (opt (asgT (.t (.cons (.n i) (.cons (.n j) (.cons (.n l) .nil)))) d ρ) h) Rs.nx) E := q1
  cases hl : decide (ds.length ≤ sizeLine) with
  | false => rw [hl] at q1; exact q1.elim
  | true =>
    rw [hl, gd_t, bns_ok] at q1
    simp only [own, bns_ok] at q1
    obtain ⟨ρ', e, q9⟩ := q1.optB
    have l2 := asgTs_len (show asgTs _ ds ρ = some ρ' from e)
    match ds, l2, c1, e with
    | [d1, d2, d3], _, c1, e =>
      obtain ⟨c1, st⟩ := c1
      simp only [D.stL, Bool.and_eq_true] at st
      cases c1 with
      | cons r1 c1 =>
        cases c1 with
        | cons r2 c1 =>
          obtain ⟨w, rfl, r3⟩ := rp_one c1
          refine ⟨_, _, _, rfl, q9 _ H1 m1 ⟨s1.hr, ?_⟩ x1⟩
          simp only [asgT, asgTs] at e
          split at e
          · rename_i ρ1 e1
            split at e1
            · cases e1
              split at e
              · rename_i ρ2 e2
                split at e2
                · cases e2
                  split at e
                  · rename_i ρ3 e3
                    split at e3
                    · cases e3; cases e
                      exact ((s1.en.set st.1 r1).set st.2.1 r2).set st.2.2.1 r3
                    · cases e3
                  · cases e
                · cases e2
              · cases e
            · cases e1
          · cases e
/-! ### a comprehension that is stored -/
theorem compF (g : Good T Z W Γ G X) {N : List Str} {sc : Scope} (hN : X.N = N) (hsc : X.env.scope = sc) {e : Mi.E} {t : Mi.T} {i : I} {fs : Es} {w : List (Str × Nat)} {xe : Expr} {gens : List Comprehension} {scope : Scope} {p : Pos} (hm : mE T N (.comp e t i fs w) sc (.ListComp xe gens scope p) = true) :
    ∃ tg iter ifs, gens = [⟨tg, iter, ifs, 0⟩] ∧ okH iter = true ∧ PI X tg iter (tI Z W (evI Γ G i)) ∧ BlkOk X.N X.env.scope scope w ∧ (∀ i ∈ t.slots, i ∈ w.map (·.2)) ∧
      (∀ (s : Shared) (H : Hp) (C : Addr) (cl : List (Str × Addr)) (fp : List Addr), PG (X.blk s H scope (compEnvC scope cl C X.env) fp) tg (tG Z.K t)) ∧ (∀ (s : Shared) (H : Hp) (C : Addr) (cl : List (Str × Addr)) (fp : List Addr), PTs (X.blk s H scope (compEnvC scope cl C X.env) fp) ifs (tT Z WF (evF Γ G fs))) ∧
      (∀ (s : Shared) (H : Hp) (C : Addr) (cl : List (Str × Addr)) (fp : List Addr), PE (X.blk s H scope (compEnvC scope cl C X.env) fp) xe (tE Z WF (ev Γ G e))) := by
  match gens, hm with
  | [⟨tg, iter, ifs, n⟩], hm =>
    simp only [mE, Bool.and_eq_true, decide_eq_true_eq] at hm
    obtain ⟨⟨⟨⟨⟨⟨⟨⟨⟨rfl, h1⟩, h2⟩, h3⟩, h4⟩, h5⟩, h6⟩, h7⟩, h8⟩, h9⟩ := hm
    exact ⟨tg, iter, ifs, rfl, h1, sI i g hN hsc tg iter h2, by rw [hN, hsc]; exact blkOk_by h3, fun i hi => by
            rw [List.all_eq_true] at h9
            simpa using h9 i hi, fun s H C cl fp => sT_t (X := X.blk s H scope (compEnvC scope cl C X.env) fp) g.calm g.nod hN (by show relS scope X.env.scope = _; rw [hsc]) (fun y z _ => z) t tg h5 |> PG.of <| fun v σ H Q q => by rw [← g.k] at q; exact q,
          fun s H C cl fp => sF fs (g.blk s H scope (compEnvC scope cl C X.env) fp) hN (by show relS scope X.env.scope = _; rw [hsc]) ifs h6 h7 h8,
          fun s H C cl fp => (sE e (g.blk s H scope (compEnvC scope cl C X.env) fp) hN (by show relS scope X.env.scope = _; rw [hsc]) xe h4).1⟩
  | [], hm => simp [mE] at hm
  | _ :: _ :: _, hm => simp [mE] at hm
/-- name = [..], stored by the comprehension's own frame -/
def swB (sc scope : Scope) (y : Str) (q p : Pos) : Bool := sc.names.lookup y == some .local && q.line == p.line && !(scope.names.any fun (n, k) => n == y && (k == .local || k == .cell))
theorem sw_lc (g : GoodS T Z W Γ G X) {y : Str} {q p : Pos} {n : Nat} {xe : Expr} {gens : List Comprehension} {scope : Scope} : swapsWith (.ListComp xe gens scope p) (some (.Name y q)) n X.env = pure (swB X.env.scope scope y q p) := by
  show (pure (X.env.blockKind == .function && X.env.kindOf y == some .local && q.line == p.line && !(scope.names.any fun (n, k) => n == y && (k == .local || k == .cell))) : Sem Bool) = _
  rw [g.fk]; rfl
theorem s_setLc (g : GoodS T Z W Γ G X) {N : List Str} {sc : Scope} (hN : X.N = N) (hsc : X.env.scope = sc) {e : Mi.E} {t : Mi.T} {i : I} {fs : Es} {w : List (Str × Nat)} {xe : Expr} {gens : List Comprehension} {scope : Scope} {q p sp : Pos} {k : Nat} {y : Str} {Xs0 : Xs} (hk : X.N[k]? = some y) (hsw : swB sc scope y q p = true) (hm : mE T N (.comp e t i fs w) sc (.ListComp xe gens scope p) = true) :
    PS X (.Assign [.Name y q] (.ListComp xe gens scope p) sp) (tS Z W (ex Γ G Xs0 (.asg (.n k) (.comp e t i fs w)))) := by
  obtain ⟨tg, iter, ifs, rfl, h1, h2, h3, h4, h5, h6, h7⟩ := compF g.toGood hN hsc hm
  have hl : X.env.scope.names.lookup y = some .local := by
    rw [hsc]
    simp only [swB, Bool.and_eq_true] at hsw
    simpa using hsw.1.1
  refine PS.of (ps_setLc g.calm g.nod hk hl (by rw [sw_lc g, hsc, hsw]) h2 h3 h5 h6 h7 (okH_set X.env h1)) fun E σ H ⟨m, ρ, h, s, qq⟩ => ?_
  simp only [ex] at qq
  have tr := tE_So (Q' := fun x H1 => gName k x σ H1 E.nx) s qq fun v H1 m1 d h1 s1 x1 r1 st q1 => by
    obtain ⟨ρ', e, q1⟩ := q1.optB
    simp only [asgT] at e
    split at e
    · cases e
      exact q1 _ H1 m1 ⟨s1.hr, s1.en.set st r1⟩ .refl
    · cases e
  exact lc_of h4 (by simp only [ev] at tr ⊢; exact tr)
end
end Mi

set_option Elab.async false
set_option linter.all false
set_option maxRecDepth 100000
/-! Mini: own errors whose __init__ says super().__init__() and no more -/
namespace Mi
open PySem PySem.W PySem.Calls PyProof.Rows
section
variable {prog : Program} {w : World} {A : Around} {s : Shared} {R : Result → Shared → Prop} {K : Frag} {mg mb : Str → Option Value}
  {name qual : Str} {params : Arguments} {body : List Stmt} {scope : Scope} {dV kV doc pm cdv ct oc : Value} {an od : Option Addr} {osl : Array (Option Value)} {f cc : Addr}
/-- what is known of such a class, beyond its making -/
structure SupC (P : Program) (K : Frag) (C f : Addr) : Prop where
  fn : ∃ (name qual : Str) (params : Arguments) (scope : Scope) (dV kV doc pm ct oc : Value) (an od : Option Addr) (osl : Array (Option Value)) (cc cda : Addr) (p0 p1 p2 p3 p4 : Pos) (ar : Arg) (ccl cl : Value) (cdd cld : Option Addr) (ccs csl : Array (Option Value)) (vs : Array Value) (file : Str) (tf : Tok) (pl : Sem Bool),
    K.lookup f = some ⟨oc, od, .func (ksFn name qual params [.Expr (.Call (.Attribute (.Call (.Name "super" p0) [] [] p1) "__init__" p2) [] [] p3) p4] scope dV kV doc pm an (.ref cda) ct cc), osl⟩ ∧ codeIn K (.ref cda) qual = true ∧
    (∀ (s : Shared) (a : Addr), BindsTo s (ksFn name qual params [.Expr (.Call (.Attribute (.Call (.Name "super" p0) [] [] p1) "__init__" p2) [] [] p3) p4] scope dV kV doc pm an (.ref cda) ct cc) ⟨[.ref a], []⟩ [(ar.arg, .ref a)]) ∧
    (params.posonlyargs ++ params.args).head? = some ar ∧ K.lookup cda = some ⟨ccl, cdd, .fields vs, ccs⟩ ∧ vs[2]? = some (.str file tf) ∧ ((P.main.file : Str) == file) = true ∧ K.lookup cc = some ⟨cl, cld, .cell (some (.ref C)), csl⟩ ∧
    scope.names.lookup ("super" : Str) = some .globalImplicit ∧ scope.names.lookup ("__class__" : Str) = some .free ∧ scope.names.lookup ar.arg = some .local ∧ scope.kind = .function ∧ scope.isCoroutine = false ∧ scope.isGenerator = false ∧ (∀ x ∈ scope.names, x.2 ≠ .cell) ∧
    (∀ env : PySem.Env, eval (.Call (.Attribute (.Call (.Name "super" p0) [] [] p1) "__init__" p2) [] [] p3) env = (do
      let ov ← attributeBase (.Call (.Name "super" p0) [] [] p1) "__init__" env (eval (.Call (.Name "super" p0) [] [] p1) env)
      standAt p2.atName
      let (f, first) ← holding [ov] (getMethod ov "__init__" pl)
      callWith p3 f first (backTo p3 (starEach [] env)) []))
  sub : mroIn K C (.ref C) = some true
  sup : ks_superIn K C C "__init__" = some (some (.builtin "ValueError.__init__"))
  ve : subIn K (.ref C) (.type "ValueError") = some true
  op : nsIn K cStatics "thirdparty.any" = some none
  gs : nsIn K mainGlobals "super" = some none
  top : (P.main.scope.names.lookup ("super" : Str)).isSome = false
theorem sinit_run {C a t0 : Addr} {nm q : Str} {N : Addr} {bs bm : List Value} {hdct : Bool} {sn : List Str} {sub : List Value} {ab : Bool} {col : Option Bool} {dd : Option Addr} {k0 k1 k2 k3 k5 : Option Value}
    (U : SupC prog K C f) (X : K.In s.heap) (hg : s.heap.Ns mainGlobals mg) (hb : s.heap.Ns builtinsNs mb) (hbb : mb "super" = some (.type "super")) (hlim : s.heap.NoLimit) (hroom : A.depth < recursionLimit)
    (hC : K.lookup C = some (excClassObj nm q C N bs bm hdct sn sub ab col dd k0 k1 k2 k3 k5 "ValueError.__new__"))
    (he : s.heap.get? a = some (excObj C t0 none .none))
    (hq : ∀ h' t1 tk, (∀ b o, b ≠ a → s.heap.get? b = some o → h'.get? b = some o) → h'.get? a = some (excObj C t1 none .none) → R (.ok (.ret .none)) ⟨h', s.gens, s.drawn, tk, s.os⟩) :
    codeAny (model prog w) A (.call (.ref f) ⟨[.ref a], []⟩) R s := by
  obtain ⟨name, qual, params, scope, dV, kV, doc, pm, ct, oc, an, od, osl, cc, cda, p0, p1, p2, p3, p4, ar, ccl, cl, cdd, cld, ccs, csl, vs, file, tf, pl, ho, hcd, hbind, hp, hcode, hvs, hfile, hcell, hks, hkc, hka, hk, hco, hgen, hncell, hev⟩ := U.fn
  obtain ⟨h0, g, dr, t, os⟩ := s
  refine ks_codeAny_call_defAt hroom (X _ _ ho) rfl hlim (codeRec_of X hcd) rfl (hbind _ a) hncell (fun x hx => by simp at hx; subst hx; exact hka) (fun h₁ hns hk₁ => ?_) hco hgen hk
  have X1 : K.In h₁ := X.keeps hk₁
  have e1 := hk₁ _ _ he
  refine ks_wpAt_execs_cons (ks_wpAt_Expr_any (hi := by simp [interactive, callEnv, newEnv, hk]) ?_)
  refine ks_wpAt_MethodCall (pl := pl) ?_ (hev _)
  cases hc : clsIn K C with
  | none =>
    have := U.sup
    unfold ks_superIn at this; rw [hc] at this; cases this
  | some cd =>
  obtain ⟨oD, hD1, hD2⟩ : ∃ oD, h₁.get? C = some oD ∧ oD.data = .cls cd := by
    have hc' := hc
    unfold clsIn at hc'
    split at hc'
    · rename_i c d cd' sl ho
      cases hc'
      exact ⟨_, X1 _ _ ho, rfl⟩
    · cases hc'
  have hm := U.sup
  unfold ks_superIn at hm
  rw [hc] at hm
  have hxC : a ≠ C := fun q => by
    subst q
    rw [e1] at hD1
    cases hD1
    cases hD2
  refine ks_wpAt_super_base hks hkc rfl rfl (X1 _ _ ho) rfl hp rfl (X1 _ _ hcode) rfl hvs hfile U.top ?_
  refine ks_loadName_global hk hks (loadGlobal_builtin (hg.keeps hk₁) (mg_none_of X hg U.gs) (hb.keeps hk₁) hbb ⟨rfl, ?_⟩)
  refine wpAny_loadName_free hk hkc rfl ⟨_, X1 _ _ hcell, rfl⟩ ?_
  refine wpAny_loadName_local hk hka hns (v := .ref a) (by simp) ?_
  refine ks_wpAny_isType_cls hD1 hD2 ⟨rfl, ?_⟩
  refine ks_wpAny_call_super hD1 hD2 e1 rfl (fun c e => by cases e) (looks_mroIn X1 U.sub) (fun h2 eso k2 => ?_)
  have X2 : K.In h2 := X1.keeps k2
  have e2 := k2 _ _ e1
  have I2 : InstAt h2 a (excObj C t0 none .none) C none := ⟨e2, rfl, rfl, trivial⟩
  refine kxs_getMethod kxs_ValueError eso (looks_opaque X2 U.op) (l₀ := cd.mro) (fun A Q E s k q => wpAny_bind ((looks_clsIn X2 hc) A _ E s k (wpAny_pure q))) rfl X2 hm (I2.type.andThen (looks_subIn X2 U.ve)) hxC rfl ?_
  refine kxs_callWith (i := "ValueError.__init__") (x := a) rfl (evalArgs_empty ⟨Heap.get?_push_at rfl rfl, ?_⟩)
  refine wpAny_call (codeAny_of_tree ?_)
  show wpAny _ _ (callAny (.ref h2.objs.size) ⟨[], []⟩) _ _ _
  have hu : (h2.push (kxs_mw "ValueError.__init__" a)).get? h2.objs.size = some (kxs_mw "ValueError.__init__" a) := Heap.get?_push_at rfl rfl
  have k3 : ∀ b o, h2.get? b = some o → (h2.push (kxs_mw "ValueError.__init__" a)).get? b = some o := fun b o e => Heap.get?_push_of_some _ e
  simp only [callAny]
  refine wpAny_bind (wpAny_load hu ?_)
  simp only [kxs_mw, show (Value.type "method-wrapper" == Value.type "method" || Value.type "method-wrapper" == Value.type "builtin_function_or_method" || Value.type "method-wrapper" == Value.type "method-wrapper") = true by decide, if_true]
  refine KFB.if_so (by decide) ?_
  refine wpAny_bind (check_bound_init PySem.F.excBase_ValueError.toExcCallFacts (k3 _ _ (X2 _ _ hC)) (k3 _ _ e2) rfl ?_)
  refine wpAny_bind (wpAny_pure (wpAny_pure ?_))
  refine ⟨plainId_quiet PySem.F.excBase_ValueError.init.plain _, codeAny_builtin PySem.F.excBase_ValueError.initEntry ?_⟩
  refine exc_init_tree (cls := .ref C) (t0 := t0) (dv := none) (c2 := .none) (c3 := .none) (b4 := .bool false) (k3 _ _ e2) (by simp) (fun h' kk e' _ => ?_)
  show PySem.wpAt _ _ _ (execs [] _) _ _ _
  rw [execs_nil]
  exact wpAt_of_wpAny (wpAny_pure (hq h' _ _ (fun b o hb e => kk b o hb (k3 _ _ (k2 _ _ (hk₁ _ _ e)))) e'))
end
section
open L2
variable {X : Cx} {C f : Addr} {x : Str} {p pos : Pos}
/-- C() of such a class -/
theorem pmk_sup (T : OexC X.K C) (U : SupC X.prog X.K C f) (iC : PySem.W.findIn X.K (.ref C) "__init__" = some (some (.ref f))) (tI : PySem.W.typeIn X.K (.ref f) = some (.type "function")) (hr : Room 0 X.A) (hg : Gl X x) (hm : X.mg x = some (.ref C)) (hdb : (x == ("__debug__" : Str)) = false := by decide) :
    PMk X (.Call (.Name x p) [] [] pos) (fun _ H Q => Q (.ref C) none H) := by
  intro pins s σ H Q I h
  obtain ⟨nm, q, N, bs, bm, sn, sub, ab, col, dd, k0, k1, k2, k3, k5, hC, hbm⟩ := T.cls
  refine wpAny_Call_Name_kw (ld_glob I hg hm ?_ hdb)
  refine PySem.W.callWith_K0 I.kIn T.kC ?_
  show wpAny _ _ (call (.ref C) []) _ _ _
  obtain ⟨hp, g, dr, tk, os⟩ := s
  have kk : ∀ b o, hp.get? b = some o → ((hp.push (PySem.W.kdv_tup [])).push (PySem.HandSPX.excO C hp.objs.size)).get? b = some o := fun b o e => Heap.get?_push_of_some _ (Heap.get?_push_of_some _ e)
  have hget : ((hp.push (PySem.W.kdv_tup [])).push (PySem.HandSPX.excO C hp.objs.size)).get? (hp.objs.size + 1) = some (PySem.HandSPX.excO C hp.objs.size) := by heap_get
  obtain ⟨mb, hmb, hbb⟩ := I.mod.blt
  have sup0 : bootBuiltins "super" = some (.type "super") := PyProof.Rows.Boot.«super»
  have hne : hp.get? (hp.objs.size + 1) = none := by
    cases e : hp.get? (hp.objs.size + 1) with
    | none => rfl
    | some o => exact absurd (Heap.lt_size e) (Nat.not_lt.mpr (Nat.le_succ _))
  refine wpAny_call (PySem.HandSPX.call_own PySem.F.excBase_ValueError (fun Y => PySem.HandSPX.refsVE_contains Y bm hbm) (I.kIn _ _ hC) (PySem.W.looks_findIn I.kIn iC) (fun self => PySem.W.bind_fn I.kIn self tI) (by simp)
    (sinit_run (mg := X.mg) (mb := mb) U (I.kIn.keeps kk) ((I.mod.glob.keeps I.bk).keeps kk) ((hmb.keeps I.bk).keeps kk) ((hbb _ (by decide +kernel)).trans sup0) (I.nolimit.keeps kk) (by rw [make_depth]; have := hr.dp; omega) hC hget (fun h' t1 tk' keep he => ?_)))
  refine ⟨rfl, ?_⟩
  exact ⟨hp.objs.size + 1, _, _, ⟨hp, g, dr, tk, os⟩, H, .ref C, none, rfl, I, fun b o e => keep b o (fun z => by subst z; rw [hne] at e; cases e) (kk b o e), hne, he, ⟨rfl, rfl⟩, rfl, rfl, I.hok.fresh (Nat.le_succ _), rfl, I.bare, raises_own T.exC T.tyC, h⟩
end
/-! ### raise and try in Mini -/
open PySem.Spec L2
/-- one of the own errors -/
def ErC (P : Program) (Z : Wi) (Xs0 : Xs) (mg : Str → Option Value) (c : Nat) (x : Str) : Prop := ∃ C f : Addr, mg x = some (.ref C) ∧ Z.xc x = some C ∧ Xs0.cls c = some (x, []) ∧ OexC Z.K C ∧ SupC P Z.K C f ∧
  PySem.W.findIn Z.K (.ref C) "__init__" = some (some (.ref f)) ∧ PySem.W.typeIn Z.K (.ref f) = some (.type "function") ∧ ∀ y D, Z.xc y = some D → PySem.W.exmOne Z.K (.ref D) (.ref C) = some (Xs0.sub y c)
def ErOk (P : Program) (Z : Wi) (Xs0 : Xs) (mg : Str → Option Value) (T : Tb) : Prop := ∀ c x, T.exs[c]? = some x → ErC P Z Xs0 mg c x
section
variable {T : Tb} {Z : Wi} {W : WX} {Γ : Gm} {G : Nat → Option D} {X : Cx} {Xs0 : Xs}
theorem s_raise (g : GoodS T Z W Γ G X) (er : ErOk X.prog Z Xs0 X.mg T) {c : Nat} {x : Str} {p pos pos' : Pos} (hc : T.exs[c]? = some x) (hg : Gl X x) (hdb : (x == ("__debug__" : Str)) = false) : PS X (.Raise (some (.Call (.Name x p) [] [] pos)) none pos') (tS Z W (ex Γ G Xs0 (.raise c .nil))) := by
  obtain ⟨C, f, hm, hz, hcl, T1, U, iC, tI, _⟩ := er c x hc
  rw [← g.k] at T1 U iC tI
  refine PS.of (ps_raise g.calm g.tk (pmk_sup T1 U iC tI g.rm hg hm hdb)) fun E σ H ⟨m, ρ, h, st, q⟩ => ?_
  simp only [ex, evs, bns, hcl] at q
  exact q (.ref C) none σ H m st .refl ⟨C, hz, rfl, rfl, fun n => absurd rfl n⟩
theorem PoS.noX {W' : WX} {m : List Addr} {H : Hp} {r : Rs} {E : Ends} (hx : ∀ c v ρ h, r ≠ .xx c v ρ h) (q : PoS Z W m H r E) : PoS Z W' m H r E := by
  cases r with
  | xx c v ρ h => exact absurd rfl (hx c v ρ h)
  | _ => exact q
/-- suites that only tell something -/
def suE : Mi.E → Expr → Bool
  | .c d, x => mC d x
  | .lst (.cons (.c d) .nil), .List [x] _ => okH x && mC d x
  | _, _ => false
def suOk : Ss → List Stmt → Bool
  | .cons (.ret e) .nil, [.Return (some x) _] => suE e x
  | .cons .pass .nil, [.Pass _] => true
  | _, _ => false
theorem l_lst0 {es : Es} {xs : List Expr} {p : Pos} (ha : PA X xs (tAs Z W (evs Γ G es))) : PE X (.List xs p) (tE Z W (ev Γ G (.lst es))) := by
  refine PE.of (pe_lst ha) fun σ H Q ⟨m, ρ, h, s, q⟩ => ?_
  simp only [ev] at q
  exact tAs_bnd nbV s q fun vs H1 m1 ds h1 s1 x1 r1 st q1 => by
    obtain ⟨c, q1⟩ := Pst.gd q1
    exact ⟨by rw [r1.length]; exact of_decide_eq_true c, fun p hp => (PV.fin q1).lst s1.hr st r1 hp⟩
theorem su_e {e : Mi.E} {x : Expr} (h : suE e x = true) : PE X x (tE Z W (ev Γ G e)) := by
  unfold suE at h
  split at h
  · exact l_c _ _ h
  · simp only [Bool.and_eq_true] at h
    exact l_lst0 (a_consL h.1 (l_c _ _ h.2) a_nilL)
  · cases h
theorem su_ss : ∀ {ss : Ss} {xs : List Stmt}, suOk ss xs = true → PSs X xs (tS Z W (exs Γ G Xs0 ss)) := fun {ss xs} h => by
  unfold suOk at h
  split at h
  · rename_i e x p
    exact ss_cons (s_ret (su_e h)) ss_nil
  · exact ss_cons (PS.of s_pass fun E σ H q => by simpa only [tS, ex] using q) ss_nil
  · cases h
theorem own_ex (d : D) (h : Hm) : ∃ d' h', own d h = .ok d' h' := by cases d <;> exact ⟨_, _, rfl⟩
theorem su_noX {ss : Ss} {xs : List Stmt} (h : suOk ss xs = true) (ρ : Env) (hh : Hm) : ∀ c v ρ' h', exs Γ G Xs0 ss ρ hh ≠ .xx c v ρ' h' := by
  unfold suOk at h
  split at h
  · rename_i e x p
    unfold suE at h
    split at h
    · rename_i d
      intro c v ρ' h' q
      obtain ⟨d2, h2, eo⟩ := own_ex d hh
      simp only [exs, ex, ev, bns, eo, sq] at q
      cases q
    · rename_i d x p
      intro c v ρ' h' q
      obtain ⟨d2, h2, eo⟩ := own_ex d hh
      obtain ⟨d3, h3, eo2⟩ := own_ex (.lv [d2]) h2
      have gdt : decide (1 ≤ sizeLine) = true := by rw [sizeLine_eq]; rfl
      simp only [exs, ex, ev, evs, bns, bnd, eo, List.length_cons, List.length_nil, Nat.zero_add, gdt, gd_t, eo2, sq] at q
      cases q
    · cases h
  · intro c v ρ' h' q
    simp only [exs, ex, sq] at q
    cases q
  · cases h
theorem s_try (g : GoodS T Z W Γ G X) (er : ErOk X.prog Z Xs0 X.mg T) {b s : Ss} {c : Nat} {x : Str} {body suite : List Stmt} {b0 : Stmt} {np pos pos' : Pos} (hc : T.exs[c]? = some x) (hg : Gl X x) (hdb : (x == ("__debug__" : Str)) = false)
    (hb : ∀ (W' : WX) (pn : List (Addr × Obj)) (xe : Value → Shared → Prop), GoodS T Z W' Γ G (X.tr pn xe) → PSs (X.tr pn xe) body (tS Z W' (exs Γ G Xs0 b))) (hs : suOk s (b0 :: suite) = true) :
    PS X (.Try body [.ExceptHandler (some (.Name x np)) none (b0 :: suite) pos'] [] [] pos) (tS Z W (ex Γ G Xs0 (.try_ b c s))) := by
  obtain ⟨C, f, hm, hz, hcl, T1, U, iC, tI, sub⟩ := er c x hc
  refine PS.of (ps_try_only (tb := fun W' => tS Z W' (exs Γ G Xs0 b)) (ts := fun _ _ _ => tS Z (fun _ _ _ _ => False) (exs Γ G Xs0 s)) g.hs g.hf ⟨hg, hdb, .inl hm⟩ g.tk (fun W' pn xe tk ow => hb W' pn xe ⟨⟨g.calm, g.nod, g.k, tk, g.gd, g.un, g.fns, g.cns, g.bts⟩, ow, g.fn, g.fk, g.hs, g.hf, g.rm⟩) (fun a oe cls d pn _ _ => su_ss hs)) fun E σ H ⟨m, ρ, h, st, q⟩ => ?_
  refine ⟨m, ρ, h, st, ?_⟩
  simp only [ex] at q
  cases e : exs Γ G Xs0 b ρ h with
  | xx n v ρ' h' =>
    rw [e] at q
    intro cls dx σ' H' m' a x2 xr
    obtain ⟨D, hD, rfl, _⟩ := id xr
    refine ⟨Xs0.sub n c, by rw [g.k]; exact sub n D hD, fun hy a' na => ?_, fun hn => ?_⟩
    · simp only [hy, if_true] at q
      exact ⟨m', ρ', h', a, PoS.noX (su_noX hs ρ' h') (PoS.rebase x2 q)⟩
    · simp only [hn, Bool.false_eq_true, if_false] at q
      exact q _ dx σ' H' m' a x2 xr
  | nx ρ' h' => rw [e] at q; exact q
  | bk ρ' h' => rw [e] at q; exact q
  | ct ρ' h' => rw [e] at q; exact q
  | rt d h' => rw [e] at q; exact q
  | bad => rw [e] at q; exact q.elim
end
end Mi

set_option Elab.async false
set_option linter.all false
set_option maxRecDepth 100000
/-! Mini: loops, every statement. -/
namespace Mi
open PySem PySem.Spec PyProof.Rows L2
section
variable {T : Tb} {Z : Wi} {W : WX} {Γ : Gm} {G : Nat → Option D} {X : Cx} {σ : L2.St} {m m' : List Addr} {H H' : Hp} {h : Hm} {ρ : Env} {E : Ends}
theorem PoS.turn {r : Rs} {k : Env → Hm → Rs} {N : L2.St → Hp → Prop} (p : PoS Z W m H (tn r k) E) (hN : ∀ ρ h σ' H' m', StR Z.K m' H' h σ' ρ → Ext m H m' H' → PoS Z W m' H' (k ρ h) E → N σ' H') : PoS Z W m H r { E with nx := N, ct := N, bk := E.nx } := by
  cases r with
  | nx ρ h => exact fun σ' H2 m2 a b => hN ρ h σ' H2 m2 a b (PoS.rebase b p)
  | bk ρ h => exact p
  | ct ρ h => exact fun σ' H2 m2 a b => hN ρ h σ' H2 m2 a b (PoS.rebase b p)
  | rt d h => exact p
  | xx c fs ρ h => exact p
  | bad => exact p
theorem s_while (g : GoodS T Z W Γ G X) {e : Mi.E} {b : Ss} {x : Expr} {xs : List Stmt} {Xs0 : Xs} {p : Pos} (ht : PT X x (tT Z W (truF (ev Γ G e)))) (hb : PSs X xs (tS Z W (exs Γ G Xs0 b))) : PS X (.While x xs [] p) (tS Z W (ex Γ G Xs0 (.while_ e b))) := by
  refine PS.of (ps_while g.own ht hb) fun E σ H ⟨m, ρ, h, s, q⟩ => ?_
  simp only [ex] at q
  refine ⟨fun k σ H => ∃ m ρ h, StR Z.K m H h σ ρ ∧ PoS Z W m H (whileL (truF (ev Γ G e)) (exs Γ G Xs0 b) k ρ h) E, ⟨Xs0.wf, m, ρ, h, s, q⟩, ?_⟩
  rintro k σ H ⟨m, ρ, h, s, q⟩
  cases k with
  | zero => exact q.elim
  | succ k =>
    rw [whileL] at q
    refine tT_S (f := truF (ev Γ G e)) s q fun b0 H1 m1 h1 s1 x1 q1 => ?_
    cases b0 with
    | false => exact q1 σ H1 m1 s1 .refl
    | true =>
      refine ⟨fun σ' H' => ∃ m ρ h, StR Z.K m H' h σ' ρ ∧ PoS Z W m H' (whileL (truF (ev Γ G e)) (exs Γ G Xs0 b) k ρ h) E, fun σ' H' hh => ⟨k, Nat.lt_succ_self k, hh⟩, ?_⟩
      exact ⟨m1, ρ, h1, s1, PoS.turn q1 fun ρ2 h2 σ' H' m' a b c => ⟨m', ρ2, h2, a, c⟩⟩
theorem s_for (g : GoodS T Z W Γ G X) {t : Mi.T} {i : I} {b : Ss} {tg iter : Expr} {xs : List Stmt} {Xs0 : Xs} {p : Pos} (hok : okH iter = true) (hi : PI X tg iter (tI Z W (evI Γ G i))) (hg : PG X tg (tG Z.K t)) (hb : PSs X xs (tS Z W (exs Γ G Xs0 b))) : PS X (.For tg iter xs [] p) (tS Z W (ex Γ G Xs0 (.for_ t i b))) := by
  refine PS.of (ps_for g.own g.calm hi hg hb (okH_set X.env hok)) fun E σ H ⟨m, ρ, h, s, q⟩ => ?_
  simp only [ex] at q
  refine ⟨m, ρ, h, s, ?_⟩
  cases eI : evI Γ G i ρ h with
  | bad => rw [eI] at q; exact q
  | ex c fs h1 => rw [eI] at q; exact fun cls dx H' m' a b c => q cls dx σ H' m' (s.go a b) b c
  | ok a h1 =>
    obtain ⟨ds, src⟩ := a
    rw [eI, bns_ok] at q
    simp only at q
    intro J H1 m1 hr1 x1 wd so1
    generalize hstep : forS (exs Γ G Xs0 b) t = step at q
    refine ⟨fun i k σ H => k = ds.length - i ∧ i ≤ ds.length ∧ ∃ m ρ h, StR Z.K m H h σ ρ ∧ Ext m1 H1 m H ∧ srcOk src h = true ∧ PoS Z W m H (forL step src (ds.drop i) ρ h) E, ⟨_, rfl, Nat.zero_le _, m1, ρ, h1, s.go hr1 x1, .refl, so1, PoS.rebase x1 q⟩, ?_⟩
    rintro i k σ H ⟨rfl, hi, m, ρ, h, s, x, so, q⟩
    by_cases hlt : i < ds.length
    · refine .inr ⟨wd.go i m H h hlt s.hr x so, fun σ' H' => i + 1 ≤ ds.length ∧ ∃ m ρ h, StR Z.K m H' h σ' ρ ∧ Ext m1 H1 m H' ∧ srcOk src h = true ∧ PoS Z W m H' (forL step src (ds.drop (i + 1)) ρ h) E, fun σ' H' hh => ⟨ds.length - (i + 1), by omega, rfl, hh⟩, fun y H2 yl => ?_⟩
      obtain ⟨d, ed, hr2, x2, rd⟩ := wd.yld i m H h y H2 hlt s.hr x so yl
      have std := stL_get wd.st ed
      rw [List.drop_eq_getElem_cons hlt, show ds[i] = d from Option.some.inj ((List.getElem?_eq_getElem hlt).symm.trans ed), forL] at q
      have q := PoS.rebase x2 q
      cases ea : asgT t d ρ with
      | none =>
        have e : step d ρ h = .bad := by rw [← hstep]; simp only [forS, ea]
        rw [e] at q; exact q.elim
      | some ρ' =>
        have e : step d ρ h = exs Γ G Xs0 b ρ' h := by rw [← hstep]; simp only [forS, ea]
        rw [e] at q
        refine ⟨m, ρ, h, d, ρ', s.go hr2 x2, rd, std, ea, fun σ2 en2 _ => ⟨m, ρ', h, ⟨hr2, en2⟩, PoS.turn q fun ρ3 h3 σ3 H3 m3 s3 x3 q3 => ?_⟩⟩
        cases so3 : srcOk src h3 with
        | false => rw [so3] at q3; exact q3.elim
        | true =>
          rw [so3, gs_t] at q3
          exact ⟨hlt, m3, ρ3, h3, s3, Ext.trans s3.hr (Ext.trans hr2 x x2) x3, so3, q3⟩
    · have e : i = ds.length := by omega
      subst e
      rw [List.drop_length, forL] at q
      exact .inl ⟨wd.stop m H h s.hr x so, q σ H m s .refl⟩
end
/-! ### a dict that is walked -/
theorem HRp.unlk {K : PySem.W.Frag} {n : Nat} {a : Addr} {od : Obj} {kvs : List (L2.Key × V)} {kds : List (L2.Key × D)} (r : HRp K m H h) (hn : m[n]? = some a) (e : H a = some (.frz od (.dK kvs))) (e2 : h[n]? = some (.frd kds)) : HRp K m (upd H a (.dK kvs)) (h.set n (.dic kds)) := by
  refine ⟨by simp [r.len], r.nd, fun k o b e1 q2 => ?_⟩
  by_cases hk : k = n
  · subst hk
    rw [hn] at q2; cases q2
    have hl : k < h.length := (List.getElem?_eq_some_iff.mp e2).1
    rw [List.getElem?_set_self hl] at e1
    cases e1
    obtain ⟨a', e3, oa⟩ := r.get e2
    rw [hn] at e3; cases e3
    cases oa with
    | frd e4 t =>
      rw [e] at e4; cases e4
      exact .dic upd_same ⟨t.1, t.2.1, RpL.upU e rfl t.2.1 t.2.2⟩
  · rw [List.getElem?_set_ne (Ne.symm hk)] at e1
    have ne : b ≠ a := fun z => by
      subst z
      obtain ⟨h1, q1⟩ := List.getElem?_eq_some_iff.mp q2
      obtain ⟨h2, q3⟩ := List.getElem?_eq_some_iff.mp hn
      exact hk ((List.getElem_inj r.nd).mp (q1.trans q3.symm))
    cases r.at_ k o b e1 q2 with
    | lst q s t => exact .lst (by rw [upd_ne ne]; exact q) s (RpL.upU e rfl s t)
    | dic q t => exact .dic (by rw [upd_ne ne]; exact q) ⟨t.1, t.2.1, RpL.upU e rfl t.2.1 t.2.2⟩
    | frd q t => exact .frd (by rw [upd_ne ne]; exact q) ⟨t.1, t.2.1, RpL.upU e rfl t.2.1 t.2.2⟩
theorem s_lock {s0 : Mi.St} {v : Nat} {x : Stmt} {Xs0 : Xs} (hs : PS X x (tS Z W (ex Γ G Xs0 s0))) : PS X x (tS Z W (ex Γ G Xs0 (.lock v s0))) := by
  refine PS.of (ps_lock hs) fun E σ H ⟨m, ρ, h, s, q⟩ => ?_
  simp only [ex] at q
  split at q
  · rename_i n ev
    split at q
    · rename_i kds e1
      obtain ⟨a, hn, oa⟩ := s.hr.get e1
      cases oa with
      | dic e4 t =>
        rename_i kvs
        refine ⟨a, .dK kvs, e4, trivial, fun od => ?_⟩
        obtain ⟨r', x'⟩ := s.hr.write (u := .frz od (.dK kvs)) (o := .frd kds) hn (fun _ _ w => by rw [e4] at w; cases w) rfl fun H2 eH x' => by
          subst eH
          exact .frd upd_same (KvR.ext s.hr x' t)
        have ha : a ∈ m := List.mem_of_getElem? hn
        have xB : ∀ {m' H'}, Ext m (upd H a (.frz od (.dK kvs))) m' H' → H' a = some (.frz od (.dK kvs)) ∧ Ext m H m' (upd H' a (.dK kvs)) := fun {m' H'} x => by
          have ez := x.fz a od (.dK kvs) upd_same
          refine ⟨ez, ?_, fun b o eb nb => ?_, fun b o u eb => ?_⟩
          · obtain ⟨l, el, f⟩ := x.pre
            refine ⟨l, el, fun b hb => ?_⟩
            have := f b hb
            rwa [upd_ne (fun z => by rw [z, upd_same] at this; cases this)] at this
          · have ne : b ≠ a := fun z => nb (by rw [z]; exact ha)
            rw [upd_ne ne]
            exact x.fr b o (by rw [upd_ne ne]; exact eb) nb
          · have ne : b ≠ a := fun z => by rw [z, e4] at eb; cases eb
            rw [upd_ne ne]
            exact x.fz b o u (by rw [upd_ne ne]; exact eb)
        refine ⟨m, ρ, h.set n (.frd kds), s.go r' x', ?_⟩
        cases er : ex Γ G Xs0 s0 ρ (h.set n (.frd kds)) with
        | nx ρ2 h2 =>
          rw [er, rlk] at q
          split at q
          · rename_i e2
            intro σ' H' m' s' x
            obtain ⟨ez, xe⟩ := xB x
            have hn' := x.get hn
            refine ⟨ez, q σ' _ m' ⟨s'.hr.unlk hn' ez e2, s'.en.len, fun j d' ej => ?_⟩ xe⟩
            obtain ⟨sd, w, ew, rw'⟩ := s'.en.at_ j d' ej
            exact ⟨sd, w, ew, Rp.upU ez rfl sd rw'⟩
          · exact q.elim
        | rt d h2 =>
          rw [er, rlk] at q
          split at q
          · rename_i e2
            intro w H' m' r2 x rv sd
            obtain ⟨ez, xe⟩ := xB x
            exact ⟨ez, q w _ m' (r2.unlk (x.get hn) ez e2) xe (Rp.upU ez rfl sd rv) sd⟩
          · exact q.elim
        | bk ρ2 h2 => rw [er] at q; exact q.elim
        | ct ρ2 h2 => rw [er] at q; exact q.elim
        | xx c fs ρ2 h2 => rw [er] at q; exact q.elim
        | bad => rw [er] at q; exact q.elim
    · exact q.elim
  · exact q.elim
/-! ### the checker -/
def asgK (sc : Scope) (tg x : Expr) (t : Mi.T) (e : Mi.E) (N : List Str) : Bool := match tg with
  | .Name y q => match x with
    | .ListComp _ _ scope p => (swB sc scope y q p && (match t with
      | .n _ => true
      | _ => false) && (match e with
      | .comp _ _ _ _ _ => true
      | _ => false)) || !(swB sc scope y q p)
    | _ => true
  | .Tuple ts _ _ => match x with
    | .Tuple vs _ _ => match swR sc ts vs with
      | none => false
      | some none => true
      | some (some ns) => match ts, vs, t, e with
        | [.Name a _, .Name b _], [_, _], .t (.cons (.n i) (.cons (.n j) .nil)), .tup _ => decide (ns = [a, b]) && decide (i ≠ j) && decide (sc.names.lookup a = some .local) && decide (sc.names.lookup b = some .local)
        | [.Name a _, .Name b _, .Name c _], [_, _, _], .t (.cons (.n i) (.cons (.n j) (.cons (.n l) .nil))), .tup _ => decide (ns = [a, b, c]) && decide (i ≠ j) && decide (i ≠ l) && decide (j ≠ l) && decide (sc.names.lookup a = some .local) && decide (sc.names.lookup b = some .local) && decide (sc.names.lookup c = some .local)
        | _, _, _, _ => false
    | _ => true
  | _ => false
mutual
def mS (T : Tb) (N : List Str) (sc : Scope) : Mi.St → Stmt → Bool
  | .asg t e, s => match s with
    | .Assign [tg] x _ => okH x && mE T N e sc x && mT N sc allT t tg && asgK sc tg x t e N
    | _ => false
  | .asgI o i e, s => match s with
    | .Assign [.Subscript xo xi _] x _ => okH xi && mE T N o sc xo && mE T N i sc xi && mE T N e sc x
    | _ => false
  | .asg2I o i o2 i2 e, s => match s with
    | .Assign [.Tuple [.Subscript xo xi _, .Subscript xo2 xi2 _] _ _] x _ => okH xi && okH xi2 && mE T N o sc xo && mE T N i sc xi && mE T N o2 sc xo2 && mE T N i2 sc xi2 && mE T N e sc x && (match x with
      | .Tuple vs _ _ => decide (vs.length = 2)
      | .Name _ _ => true
      | _ => false)
    | _ => false
  | .stop, s => match s with
    | .Raise _ _ _ => true
    | _ => false
  | .asgL ts e, s => match s with
    | .Assign [.Tuple xs _ _] x _ => mTs N sc allT ts xs && mE T N e sc x && (match x with
      | .ListComp _ _ _ _ => true
      | .Name _ _ => true
      | .Call _ _ _ _ => true
      | _ => false)
    | _ => false
  | .aug op i e, s => match s with
    | .AugAssign (.Name y _) op' x _ => decide (op' = op) && decide (N[i]? = some y) && stoB sc allT y && mE T N e sc x
    | _ => false
  | .augI op o i e, s => match s with
    | .AugAssign (.Subscript xo xi _) op' x _ => decide (op' = op) && okH xi && mE T N o sc xo && mE T N i sc xi && mE T N e sc x
    | _ => false
  | .ex e, s => match s with
    | .Expr x _ => okH x && !(isLC x) && mE T N e sc x
    | _ => false
  | .ret e, s => match s with
    | .Return (some x) _ => mE T N e sc x
    | _ => false
  | .ret0, s => match s with
    | .Return none _ => true
    | _ => false
  | .ifs t a b, s => match s with
    | .If x xa xb _ => tst t && mE T N t sc x && mSs T N sc a xa && mSs T N sc b xb
    | _ => false
  | .for_ t i b, s => match s with
    | .For tg iter xs [] _ => okH iter && mI T N i sc tg iter && mT N sc allT t tg && mSs T N sc b xs
    | _ => false
  | .lock _ s0, s => mS T N sc s0 s
  | .while_ t b, s => match s with
    | .While x xs [] _ => tst t && mE T N t sc x && mSs T N sc b xs
    | _ => false
  | .raise c es, s => match s with
    | .Raise (some (.Call (.Name x _) [] [] _)) none _ => (match es with
      | .nil => true
      | _ => false) && decide (T.exs[c]? = some x) && glB sc x && !(dbg x)
    | _ => false
  | .try_ b c sx, s => match s with
    | .Try body [.ExceptHandler (some (.Name x _)) none (b0 :: suite) _] [] [] _ => decide (T.exs[c]? = some x) && glB sc x && !(dbg x) && mSs T N sc b body && suOk sx (b0 :: suite)
    | _ => false
  | .pass, s => match s with
    | .Pass _ => true
    | _ => false
  | .brk, s => match s with
    | .Break _ => true
    | _ => false
  | .cnt, s => match s with
    | .Continue _ => true
    | _ => false
def mSs (T : Tb) (N : List Str) (sc : Scope) : Ss → List Stmt → Bool
  | .nil, [] => true
  | .cons s ss, x :: xs => mS T N sc s x && mSs T N sc ss xs
  | .nil, _ :: _ => false
  | .cons _ _, [] => false
end
section
variable {T : Tb} {Z : Wi} {Γ : Gm} {G : Nat → Option D} {Xs0 : Xs}
theorem s_asgA {W : WX} {X : Cx} {sc : Scope} {N : List Str} (g : GoodS T Z W Γ G X) (hN : X.N = N) (hsc : X.env.scope = sc) (t : Mi.T) (e : Mi.E) (tg x : Expr) (p : Pos) (h0 : okH x = true) (h1 : mE T N e sc x = true) (h2 : mT N sc allT t tg = true) (h3 : asgK sc tg x t e N = true) : PS X (.Assign [tg] x p) (tS Z W (ex Γ G Xs0 (.asg t e))) := by
  have he := (sE e g.toGood hN hsc x h1).1
  have hg : PG X tg (tG Z.K t) := by rw [← g.k]; exact sT_t g.calm g.nod hN hsc (fun y _ _ => g.fn y) t tg h2
  cases tg with
  | Name y q =>
    have plain : swapsWith x (some (.Name y q)) p.line X.env = pure false → PS X (.Assign [.Name y q] x p) (tS Z W (ex Γ G Xs0 (.asg t e))) := fun hs => s_asg he hg hs (by cases x <;> rfl) rfl
    cases x with
    | ListComp xe gens scope p2 =>
      simp only [asgK] at h3
      cases hsw : swB sc scope y q p2 with
      | false => exact plain (by rw [sw_lc g, hsc, hsw])
      | true =>
        rw [hsw] at h3
        simp only [Bool.true_and, Bool.not_true, Bool.or_false, Bool.and_eq_true] at h3
        cases t with
        | t ts => simp at h3
        | n k =>
          cases e with
          | comp e t i fs w =>
            have hk : X.N[k]? = some y := by
              simp only [mT, Bool.and_eq_true, decide_eq_true_eq] at h2
              rw [hN]; exact h2.1
            exact s_setLc g hN hsc hk hsw h1
          | _ => simp at h3
    | _ => exact plain (sw_no h0 rfl)
  | Tuple ts k q =>
    have plain : swappedStores [.Tuple ts k q] x X.env = pure none → PS X (.Assign [.Tuple ts k q] x p) (tS Z W (ex Γ G Xs0 (.asg t e))) := fun hw => s_asg he hg (by cases x <;> rfl) hw rfl
    cases x with
    | Tuple vs k2 q2 =>
      simp only [asgK] at h3
      split at h3
      · cases h3
      · rename_i hr
        exact plain (sw_of g.fk (by rw [hsc]; exact hr))
      · rename_i ns hr
        split at h3
        · rename_i a pa b pb v1 v2 i j es
          simp only [Bool.and_eq_true, decide_eq_true_eq] at h3
          obtain ⟨⟨⟨rfl, h4⟩, h5⟩, h6⟩ := h3
          simp only [mT, mTs, Bool.and_eq_true, decide_eq_true_eq] at h2
          have hes : mEs T N es sc [v1, v2] = true := h1
          exact s_par g (by rw [hN]; exact h2.1.1) (by rw [hN]; exact h2.2.1.1) h4 (by rw [hsc]; exact h5) (by rw [hsc]; exact h6) (sL es g.toGood hN hsc _ hes) (sw_of g.fk (by rw [hsc]; exact hr))
        · rename_i a pa b pb c pc v1 v2 v3 i j l es
          simp only [Bool.and_eq_true, decide_eq_true_eq] at h3
          obtain ⟨⟨⟨⟨⟨⟨rfl, h4⟩, h5⟩, h6⟩, h7⟩, h8⟩, h9⟩ := h3
          simp only [mT, mTs, Bool.and_eq_true, decide_eq_true_eq] at h2
          have hes : mEs T N es sc [v1, v2, v3] = true := h1
          exact s_par3 g (by rw [hN]; exact h2.1.1) (by rw [hN]; exact h2.2.1.1) (by rw [hN]; exact h2.2.2.1.1) h4 h5 h6 (by rw [hsc]; exact h7) (by rw [hsc]; exact h8) (by rw [hsc]; exact h9) (sL es g.toGood hN hsc _ hes) (sw_of g.fk (by rw [hsc]; exact hr))
        · cases h3
    | _ => exact plain rfl
  | _ => simp [asgK] at h3
mutual
theorem sS : ∀ (s : Mi.St) {W : WX} {X : Cx} {sc : Scope} {N : List Str} (g : GoodS T Z W Γ G X) (er : ErOk X.prog Z Xs0 X.mg T) (hN : X.N = N) (hsc : X.env.scope = sc) (x : Stmt), mS T N sc s x = true → PS X x (tS Z W (ex Γ G Xs0 s))
  | .asg t e, W, X, sc, N, g, er, hN, hsc, x, hm => by
    unfold mS at hm
    split at hm
    · rename_i tg x p
      simp only [Bool.and_eq_true] at hm
      exact s_asgA g hN hsc t e tg x p hm.1.1.1 hm.1.1.2 hm.1.2 hm.2
    · cases hm
  | .asgI o i e, W, X, sc, N, g, er, hN, hsc, x, hm => by
    unfold mS at hm
    split at hm
    · rename_i xo xi p2 x p
      simp only [Bool.and_eq_true] at hm
      exact s_asgI g hm.1.1.1 (sE o g.toGood hN hsc xo hm.1.1.2).1 (sE i g.toGood hN hsc xi hm.1.2).1 (sE e g.toGood hN hsc x hm.2).1
    · cases hm
  | .asg2I o i o2 i2 e, W, X, sc, N, g, er, hN, hsc, x, hm => by
    unfold mS at hm
    split at hm
    · rename_i xo xi p2 xo2 xi2 p3 kt p4 x p
      simp only [Bool.and_eq_true] at hm
      obtain ⟨⟨⟨⟨⟨⟨⟨h1, h2⟩, h3⟩, h4⟩, h5⟩, h6⟩, h7⟩, h8⟩ := hm
      refine s_asg2I g h1 h2 (sE o g.toGood hN hsc xo h3).1 (sE i g.toGood hN hsc xi h4).1 (sE o2 g.toGood hN hsc xo2 h5).1 (sE i2 g.toGood hN hsc xi2 h6).1 (sE e g.toGood hN hsc x h7).1 ?_
      cases x with
      | Tuple vs k q =>
        refine sw_of g.fk ?_
        have := of_decide_eq_true h8
        unfold swR
        split
        · rfl
        · split
          · rfl
          · rw [if_pos (by rfl)]
      | Name _ _ => rfl
      | _ => simp at h8
    · cases hm
  | .stop, W, X, sc, N, g, er, hN, hsc, x, hm => s_stop
  | .asgL ts e, W, X, sc, N, g, er, hN, hsc, x, hm => by
    unfold mS at hm
    split at hm
    · rename_i xs k p2 x p
      simp only [Bool.and_eq_true] at hm
      exact s_asgL g hN hsc (sE e g.toGood hN hsc x hm.1.2).1 hm.1.1 (by cases x <;> first | rfl | (simp at hm))
    · cases hm
  | .aug op i e, W, X, sc, N, g, er, hN, hsc, x, hm => by
    unfold mS at hm
    split at hm
    · rename_i y p2 op' x p
      simp only [Bool.and_eq_true, decide_eq_true_eq] at hm
      obtain ⟨⟨⟨rfl, h1⟩, h2⟩, h3⟩ := hm
      exact s_aug g (by rw [hN]; exact h1) (sto_of hsc (fun y _ _ => g.fn y) h2).1 (sE e g.toGood hN hsc x h3).1
    · cases hm
  | .augI op o i e, W, X, sc, N, g, er, hN, hsc, x, hm => by
    unfold mS at hm
    split at hm
    · rename_i xo xi p2 op' x p
      simp only [Bool.and_eq_true, decide_eq_true_eq] at hm
      obtain ⟨⟨⟨⟨rfl, h1⟩, h2⟩, h3⟩, h4⟩ := hm
      exact s_augI g h1 (sE o g.toGood hN hsc xo h2).1 (sE i g.toGood hN hsc xi h3).1 (sE e g.toGood hN hsc x h4).1
    · cases hm
  | .ex e, W, X, sc, N, g, er, hN, hsc, x, hm => by
    unfold mS at hm
    split at hm
    · rename_i x p
      simp only [Bool.and_eq_true] at hm
      exact s_ex hm.1.1 (nb hm.1.2) (sE e g.toGood hN hsc x hm.2).1
    · cases hm
  | .ret e, W, X, sc, N, g, er, hN, hsc, x, hm => by
    unfold mS at hm
    split at hm
    · rename_i x p
      exact s_ret (sE e g.toGood hN hsc x hm).1
    · cases hm
  | .ret0, W, X, sc, N, g, er, hN, hsc, x, hm => by
    unfold mS at hm
    split at hm
    · exact PS.of s_retN fun E σ H q => by simpa only [tS, ex] using q
    · cases hm
  | .ifs t a b, W, X, sc, N, g, er, hN, hsc, x, hm => by
    unfold mS at hm
    split at hm
    · rename_i x xa xb p
      simp only [Bool.and_eq_true] at hm
      obtain ⟨⟨⟨h1, h2⟩, h3⟩, h4⟩ := hm
      exact s_if ((sE t g.toGood hN hsc x h2).2 h1) (sSs a g er hN hsc xa h3) (sSs b g er hN hsc xb h4)
    · cases hm
  | .for_ t i b, W, X, sc, N, g, er, hN, hsc, x, hm => by
    unfold mS at hm
    split at hm
    · rename_i tg iter xs p
      simp only [Bool.and_eq_true] at hm
      obtain ⟨⟨⟨h1, h2⟩, h3⟩, h4⟩ := hm
      exact s_for g h1 (sI i g.toGood hN hsc tg iter h2) (by rw [← g.k]; exact sT_t g.calm g.nod hN hsc (fun y _ _ => g.fn y) t tg h3) (sSs b g er hN hsc xs h4)
    · cases hm
  | .lock v s0, W, X, sc, N, g, er, hN, hsc, x, hm => s_lock (sS s0 g er hN hsc x (by simpa only [mS] using hm))
  | .while_ t b, W, X, sc, N, g, er, hN, hsc, x, hm => by
    unfold mS at hm
    split at hm
    · rename_i x xs p
      simp only [Bool.and_eq_true] at hm
      obtain ⟨⟨h1, h2⟩, h3⟩ := hm
      exact s_while g ((sE t g.toGood hN hsc x h2).2 h1) (sSs b g er hN hsc xs h3)
    · cases hm
  | .raise c es, W, X, sc, N, g, er, hN, hsc, x, hm => by
    unfold mS at hm
    split at hm
    · rename_i y p1 p2 p3
      simp only [Bool.and_eq_true, decide_eq_true_eq] at hm
      obtain ⟨⟨⟨h0, h1⟩, h2⟩, h3⟩ := hm
      cases es with
      | nil => exact s_raise g er h1 (gl_of hsc h2) (nb h3)
      | cons _ _ => simp at h0
    · cases hm
  | .try_ b c sx, W, X, sc, N, g, er, hN, hsc, x, hm => by
    unfold mS at hm
    split at hm
    · rename_i body y p1 b0 suite p2 p3
      simp only [Bool.and_eq_true, decide_eq_true_eq] at hm
      obtain ⟨⟨⟨⟨h1, h2⟩, h3⟩, h4⟩, h5⟩ := hm
      exact s_try g er h1 (gl_of hsc h2) (nb h3) (fun W' pn xe g' => sSs b g' er hN hsc body h4) h5
    · cases hm
  | .pass, W, X, sc, N, g, er, hN, hsc, x, hm => by
    unfold mS at hm
    split at hm
    · exact PS.of s_pass fun E σ H q => by simpa only [tS, ex] using q
    · cases hm
  | .brk, W, X, sc, N, g, er, hN, hsc, x, hm => by
    unfold mS at hm
    split at hm
    · exact PS.of s_break fun E σ H q => by simpa only [tS, ex] using q
    · cases hm
  | .cnt, W, X, sc, N, g, er, hN, hsc, x, hm => by
    unfold mS at hm
    split at hm
    · exact PS.of s_continue fun E σ H q => by simpa only [tS, ex] using q
    · cases hm
theorem sSs : ∀ (ss : Ss) {W : WX} {X : Cx} {sc : Scope} {N : List Str} (g : GoodS T Z W Γ G X) (er : ErOk X.prog Z Xs0 X.mg T) (hN : X.N = N) (hsc : X.env.scope = sc) (xs : List Stmt), mSs T N sc ss xs = true → PSs X xs (tS Z W (exs Γ G Xs0 ss))
  | .nil, W, X, sc, N, g, er, hN, hsc, [], hm => ss_nil
  | .cons s ss, W, X, sc, N, g, er, hN, hsc, x :: xs, hm => by
    simp only [mSs, Bool.and_eq_true] at hm
    exact ss_cons (sS s g er hN hsc x hm.1) (sSs ss g er hN hsc xs hm.2)
  | .nil, W, X, sc, N, g, er, hN, hsc, _ :: _, hm => by simp [mSs] at hm
  | .cons _ _, W, X, sc, N, g, er, hN, hsc, [], hm => by simp [mSs] at hm
end
end
end Mi

set_option Elab.async false
set_option linter.all false
set_option maxRecDepth 100000
/-! Mini: calls see a part of the heap; what nothing holds goes. -/
namespace Mi
open PySem PySem.Spec PyProof.Rows L2
theorem ixOf_get : ∀ {rs : List Nat} {n : Nat}, n ∈ rs → rs[ixOf rs n]? = some n
  | a :: t, n, h => by
    unfold ixOf
    by_cases e : n = a
    · rw [if_pos e]; subst e; rfl
    · rw [if_neg e]
      rcases List.mem_cons.mp h with z | z
      · exact absurd z e
      · simpa using ixOf_get z
theorem ixOf_at : ∀ {rs : List Nat} {j n : Nat}, rs.Nodup → rs[j]? = some n → ixOf rs n = j
  | a :: t, 0, n, _, h => by simp at h; subst h; simp [ixOf]
  | a :: t, j + 1, n, nd, h => by
    simp only [List.getElem?_cons_succ] at h
    have hn : n ∈ t := List.mem_of_getElem? h
    unfold ixOf
    have ne : n ≠ a := fun z => (List.nodup_cons.mp nd).1 (by rw [← z]; exact hn)
    rw [if_neg ne, ixOf_at (List.nodup_cons.mp nd).2 h]
theorem ixOf_lt {rs : List Nat} {n : Nat} (h : n ∈ rs) : ixOf rs n < rs.length := (List.getElem?_eq_some_iff.mp (ixOf_get h)).1
theorem refsL_mem {ds : List D} {d : D} {n : Nat} (h : d ∈ ds) (hn : n ∈ d.refs) : n ∈ D.refsL ds := by
  induction ds with
  | nil => simp at h
  | cons x r ih =>
    rw [D.refsL, List.mem_append]
    rcases List.mem_cons.mp h with h | h
    · exact .inl (h ▸ hn)
    · exact .inr (ih h)
theorem kvMap_fst {κ : Type} (f : D → D) : ∀ l : List (κ × D), (kvMap f l).map (·.1) = l.map (·.1)
  | [] => rfl
  | (k, d) :: r => by simp [kvMap, kvMap_fst f r]
theorem kvMap_snd {κ : Type} (f : Nat → Nat) : ∀ l : List (κ × D), (kvMap (D.map f) l).map (·.2) = D.mapL f (l.map (·.2))
  | [] => rfl
  | (k, d) :: r => by simp [kvMap, D.mapL, kvMap_snd f r]
theorem kvRefs_snd {κ : Type} : ∀ l : List (κ × D), kvRefs l = D.refsL (l.map (·.2))
  | [] => rfl
  | (k, d) :: r => by simp [kvRefs, D.refsL, kvRefs_snd r]
mutual
theorem st_map (f : Nat → Nat) : ∀ d : D, (d.map f).st = d.st
  | .non => by simp [D.map, D.st]
  | .bl _ => by simp [D.map, D.st]
  | .int _ => by simp [D.map, D.st]
  | .str _ => by simp [D.map, D.st]
  | .ref _ => by simp [D.map, D.st]
  | .tup ds => by simp [D.map, D.st, stL_map f ds]
  | .lv ds => by simp [D.map, D.st]
  | .fl ds => by simp [D.map, D.st, stL_map f ds]
theorem stL_map (f : Nat → Nat) : ∀ ds : List D, D.stL (D.mapL f ds) = D.stL ds
  | [] => rfl
  | d :: ds => by simp [D.mapL, D.stL, st_map f d, stL_map f ds]
end
section
variable {K : PySem.W.Frag} {m m2 : List Addr} {H : Hp} {f : Nat → Nat}
mutual
/-- under other numbers -/
theorem Rp.ren {l : List Nat} (hf : ∀ n a, n ∈ l → m[n]? = some a → m2[f n]? = some a) : ∀ {v : V} {d : D}, D.st d = true → (∀ n ∈ d.refs, n ∈ l) → Rp K m H v d → Rp K m2 H v (d.map f)
  | _, _, _, _, .non => by rw [D.map]; exact .non
  | _, _, _, _, .bl b => by rw [D.map]; exact .bl b
  | _, _, _, _, .int i => by rw [D.map]; exact .int i
  | _, _, _, _, .str y => by rw [D.map]; exact .str y
  | _, _, _, hr, .tup q s t => by rw [D.map]; exact .tup q (by rw [stL_map]; exact s) (RpL.ren hf s (fun n h => hr n (by rw [D.refs]; exact h)) t)
  | _, _, _, hr, .ref q => by rw [D.map]; exact .ref (hf _ _ (hr _ (by simp [D.refs])) q)
  | _, _, z, _, .lv _ _ _ _ => by simp [D.st] at z
  | _, _, _, hr, .fl q s t => by rw [D.map]; exact .fl q (by rw [stL_map]; exact s) (RpL.ren hf s (fun n h => hr n (by rw [D.refs]; exact h)) t)
theorem RpL.ren {l : List Nat} (hf : ∀ n a, n ∈ l → m[n]? = some a → m2[f n]? = some a) : ∀ {v : List V} {d : List D}, D.stL d = true → (∀ n ∈ D.refsL d, n ∈ l) → RpL K m H v d → RpL K m2 H v (D.mapL f d)
  | _, _, _, _, .nil => .nil
  | _, _, z, hr, .cons a t => by
    simp only [D.stL, Bool.and_eq_true] at z
    rw [D.mapL]
    exact .cons (Rp.ren hf z.1 (fun n h => hr n (by rw [D.refsL, List.mem_append]; exact .inl h)) a) (RpL.ren hf z.2 (fun n h => hr n (by rw [D.refsL, List.mem_append]; exact .inr h)) t)
end
theorem KvR.ren {l : List Nat} (hf : ∀ n a, n ∈ l → m[n]? = some a → m2[f n]? = some a) {kvs : List (L2.Key × V)} {kds : List (L2.Key × D)} (hr : ∀ n ∈ kvRefs kds, n ∈ l) (q : KvR K m H kvs kds) : KvR K m2 H kvs (kvMap (D.map f) kds) := by
  refine ⟨by rw [kvMap_fst]; exact q.1, by rw [kvMap_snd, stL_map]; exact q.2.1, ?_⟩
  rw [kvMap_snd]
  exact RpL.ren hf q.2.1 (by rw [← kvRefs_snd]; exact hr) q.2.2
theorem OAt.ren {l : List Nat} (hf : ∀ n a, n ∈ l → m[n]? = some a → m2[f n]? = some a) {a : Addr} {o : O} (hr : ∀ n ∈ o.refs, n ∈ l) (q : OAt K m H a o) : OAt K m2 H a (o.map f) := by
  cases q with
  | lst e s t => exact .lst e (by rw [stL_map]; exact s) (RpL.ren hf s hr t)
  | dic e t => exact .dic e (KvR.ren hf hr t)
  | frd e t => exact .frd e (KvR.ren hf hr t)
end
structure Cl (h : Hm) (rs ns : List Nat) : Prop where
  nd : rs.Nodup
  sub : ∀ n ∈ ns, n ∈ rs
  clo : ∀ n ∈ rs, ∃ o, h[n]? = some o ∧ ∀ k ∈ o.refs, k ∈ rs
theorem closed_of {h : Hm} {rs ns : List Nat} (e : closedB h rs ns = true) : Cl h rs ns := by
  simp only [closedB, Bool.and_eq_true, decide_eq_true_eq, List.all_eq_true, List.contains_iff_mem] at e
  refine ⟨e.1.1, e.1.2, fun n hn => ?_⟩
  have q := e.2 n hn
  split at q
  · rename_i o eo
    simp only [List.all_eq_true, List.contains_iff_mem] at q
    exact ⟨o, eo, q⟩
  · cases q
/-- the part of the numbers -/
def subM (m : List Addr) (rs : List Nat) : List Addr := rs.map fun n => m.getD n 0
section
variable {K : PySem.W.Frag} {m : List Addr} {H : Hp} {h : Hm} {rs ns : List Nat}
theorem subM_get {j n : Nat} (e : rs[j]? = some n) : (subM m rs)[j]? = some (m.getD n 0) := by simp [subM, e]
theorem Cl.lt (c : Cl h rs ns) {n : Nat} (hn : n ∈ rs) : n < h.length := by
  obtain ⟨o, eo, _⟩ := c.clo n hn
  exact (List.getElem?_eq_some_iff.mp eo).1
theorem sub_hf (r : HRp K m H h) (c : Cl h rs ns) : ∀ n a, n ∈ rs → m[n]? = some a → (subM m rs)[ixOf rs n]? = some a := fun n a hn e => by
  rw [subM_get (ixOf_get hn), List.getD_eq_getElem?_getD, e]; rfl
theorem HRp.sub (r : HRp K m H h) (c : Cl h rs ns) : HRp K (subM m rs) H (subH h rs) := by
  refine ⟨by simp [subM, subH], ?_, fun j o a e1 e2 => ?_⟩
  · unfold subM
    refine List.nodup_iff_pairwise_ne.mpr (List.Pairwise.map _ ?_ ?_ (R := fun a b => a ≠ b ∧ a ∈ rs ∧ b ∈ rs))
    · rintro a b ⟨ne, ha, hb⟩ e
      have la : a < m.length := by rw [r.len]; exact c.lt ha
      have lb : b < m.length := by rw [r.len]; exact c.lt hb
      rw [List.getD_eq_getElem?_getD, List.getD_eq_getElem?_getD, List.getElem?_eq_getElem la, List.getElem?_eq_getElem lb] at e
      exact ne ((List.getElem_inj r.nd).mp e)
    · exact (List.Pairwise.imp_of_mem (fun ha hb ne => ⟨ne, ha, hb⟩) c.nd)
  · cases en : rs[j]? with
    | none => simp [subH, en] at e1
    | some n =>
      have hn := List.mem_of_getElem? en
      obtain ⟨o0, eo, ho⟩ := c.clo n hn
      have e1' : o = (h.getD n default).map (ixOf rs) := by simp [subH, en] at e1; rw [← e1]; simp
      rw [List.getD_eq_getElem?_getD, eo] at e1'
      subst e1'
      have lm : n < m.length := by rw [r.len]; exact c.lt hn
      rw [subM_get en, List.getD_eq_getElem?_getD, List.getElem?_eq_getElem lm] at e2
      cases e2
      exact OAt.ren (sub_hf r c) ho (r.at_ n o0 _ eo (List.getElem?_eq_getElem lm))
theorem setAll_len : ∀ (h : Hm) (rs : List Nat) (os : List O), (setAll h rs os).length = h.length
  | h, [], _ => by simp [setAll]
  | h, _ :: _, [] => by simp [setAll]
  | h, n :: ns, o :: os => by rw [setAll, setAll_len]; simp
theorem setAll_other : ∀ (h : Hm) (rs : List Nat) (os : List O) (n : Nat), n ∉ rs → (setAll h rs os)[n]? = h[n]?
  | h, [], _, n, _ => by simp [setAll]
  | h, _ :: _, [], n, _ => by simp [setAll]
  | h, k :: ns, o :: os, n, hn => by
    simp only [List.mem_cons, not_or] at hn
    rw [setAll, setAll_other _ ns os n hn.2, List.getElem?_set_ne (Ne.symm hn.1)]
theorem setAll_at : ∀ (h : Hm) (rs : List Nat) (os : List O) (j n : Nat), rs.Nodup → rs[j]? = some n → n < h.length → j < os.length → (setAll h rs os)[n]? = os[j]?
  | h, k :: ns, o :: os, 0, n, nd, e, hl, hj => by
    simp at e; subst e
    rw [setAll, setAll_other _ ns os k (List.nodup_cons.mp nd).1, List.getElem?_set_self hl]; rfl
  | h, k :: ns, o :: os, j + 1, n, nd, e, hl, hj => by
    simp only [List.getElem?_cons_succ] at e
    rw [setAll, setAll_at (h.set k o) ns os j n (List.nodup_cons.mp nd).2 e (by simpa using hl) (by simpa using hj)]; simp
  | h, _ :: _, [], j, n, _, _, _, hj => by simp at hj
  | h, [], _, j, n, _, e, _, _ => by simp at e
/-- behind a call: the caller's numbers -/
theorem back {m2' : List Addr} {H2 : Hp} {h2 : Hm} (r : HRp K m H h) (c : Cl h rs ns) (r2 : HRp K m2' H2 h2) (x : Ext (subM m rs) H m2' H2) :
    ∃ m2, HRp K m2 H2 (putH h rs h2) ∧ Ext m H m2 H2 ∧ ∀ n a, m2'[n]? = some a → m2[bk rs h.length n]? = some a := by
  obtain ⟨l, el, fl⟩ := x.pre
  have lm : (subM m rs).length = rs.length := by simp [subM]
  have l2 : rs.length ≤ h2.length := by rw [← r2.len, el, List.length_append, lm]; omega
  have mget : ∀ n ∈ rs, ∃ a, m[n]? = some a ∧ (subM m rs)[ixOf rs n]? = some a := fun n hn => by
    have hl : n < m.length := by rw [r.len]; exact c.lt hn
    exact ⟨m[n], List.getElem?_eq_getElem hl, sub_hf r c n _ hn (List.getElem?_eq_getElem hl)⟩
  have xx : Ext m H (m ++ l) H2 := ⟨⟨l, rfl, fl⟩, fun a o e na => x.fr a o e fun hm => by
    obtain ⟨n, hn, e2⟩ := List.mem_map.mp hm
    have hl : n < m.length := by rw [r.len]; exact c.lt hn
    rw [List.getD_eq_getElem?_getD, List.getElem?_eq_getElem hl] at e2
    exact na (e2 ▸ List.getElem_mem hl), x.fz⟩
  have num : ∀ n a, m2'[n]? = some a → (m ++ l)[bk rs h.length n]? = some a := fun n a e => by
    unfold bk
    by_cases hn : n < rs.length
    · rw [if_pos hn]
      rw [el, List.getElem?_append_left (by rw [lm]; exact hn)] at e
      have er := List.getElem?_eq_getElem hn
      rw [List.getD_eq_getElem?_getD, er]
      rw [subM_get er] at e
      have hl : rs[n] < m.length := by rw [r.len]; exact c.lt (List.getElem_mem hn)
      simp only [Option.getD_some]
      rw [List.getElem?_append_left hl, List.getElem?_eq_getElem hl]
      rw [List.getD_eq_getElem?_getD, List.getElem?_eq_getElem hl] at e
      exact e
    · rw [if_neg hn]
      rw [el, List.getElem?_append_right (by rw [lm]; omega), lm] at e
      rw [List.getElem?_append_right (by rw [r.len]; omega), r.len, Nat.add_sub_cancel_left]
      exact e
  have nd : (m ++ l).Nodup := by
    rw [List.nodup_append]
    refine ⟨r.nd, ?_, fun a ha b hb e => ?_⟩
    · have := r2.nd
      rw [el] at this
      exact (List.nodup_append.mp this).2.1
    · subst e
      obtain ⟨u, e, _⟩ := r.reg ha
      rw [fl a hb] at e; cases e
  have ll : (m ++ l).length = (putH h rs h2).length := by
    have e1 : h2.length = rs.length + l.length := by rw [← r2.len, el, List.length_append, lm]
    unfold putH
    rw [List.length_append, List.length_append, setAll_len, r.len, List.length_map, List.length_drop]
    omega
  refine ⟨m ++ l, ⟨ll, nd, fun n o a e1 e2 => ?_⟩, xx, num⟩
  have ren : ∀ {a : Addr} {o : O}, OAt K m2' H2 a o → OAt K (m ++ l) H2 a (o.map (bk rs h.length)) := fun {a o} q => OAt.ren (l := o.refs) (fun n a _ e => num n a e) (fun _ h => h) q
  unfold putH at e1
  by_cases hn : n < h.length
  · rw [List.getElem?_append_left (by rw [setAll_len]; exact hn)] at e1
    rw [List.getElem?_append_left (by rw [r.len]; exact hn)] at e2
    by_cases hr : n ∈ rs
    · have hj := ixOf_lt hr
      rw [setAll_at h rs _ (ixOf rs n) n c.nd (ixOf_get hr) hn (by rw [List.length_map, List.length_take]; omega)] at e1
      rw [List.getElem?_map, List.getElem?_take_of_lt hj] at e1
      cases e3 : h2[ixOf rs n]? with
      | none => rw [e3] at e1; cases e1
      | some o2 =>
        rw [e3] at e1; cases e1
        obtain ⟨a', e4, e5⟩ := mget n hr
        rw [e2] at e4; cases e4
        exact ren (r2.at_ _ o2 a e3 (by rw [el, List.getElem?_append_left (by rw [lm]; exact hj)]; exact e5))
    · rw [setAll_other h rs _ n hr] at e1
      have q := r.at_ n o a e1 e2
      obtain ⟨u, eu, _⟩ := q.reg
      refine q.ext r xx ?_
      rw [eu]
      refine x.fr a u eu fun hm => ?_
      obtain ⟨k, hk, e3⟩ := List.mem_map.mp hm
      have hl : k < m.length := by rw [r.len]; exact c.lt hk
      rw [List.getD_eq_getElem?_getD, List.getElem?_eq_getElem hl] at e3
      obtain ⟨h1, e4⟩ := List.getElem?_eq_some_iff.mp e2
      have : k = n := (List.getElem_inj r.nd).mp (show m[k] = m[n] from (show m[k] = a from e3).trans e4.symm)
      exact hr (this ▸ hk)
  · rw [List.getElem?_append_right (by rw [setAll_len]; omega), setAll_len, List.getElem?_map, List.getElem?_drop] at e1
    rw [List.getElem?_append_right (by rw [r.len]; omega), r.len] at e2
    cases e3 : h2[rs.length + (n - h.length)]? with
    | none => rw [e3] at e1; cases e1
    | some o2 =>
      rw [e3] at e1; cases e1
      exact ren (r2.at_ _ o2 a e3 (by rw [el, List.getElem?_append_right (by rw [lm]; omega), lm, Nat.add_sub_cancel_left]; exact e2))
end
section
variable {Z : Wi} {m : List Addr} {H : Hp} {h : Hm}
theorem XRp.ren {m2 : List Addr} {f : Nat → Nat} {cls : Value} {dx : Option Addr} {c : Str} {fs : List (Str × D)} (hf : ∀ n a, m[n]? = some a → n ∈ kvRefs fs → m2[f n]? = some a) (q : XRp Z m H cls dx c fs) : XRp Z m2 H cls dx c (kvMap (D.map f) fs) := by
  obtain ⟨C, e1, e2, s, k⟩ := q
  refine ⟨C, e1, e2, by rw [kvMap_snd, stL_map]; exact s, fun ne => ?_⟩
  obtain ⟨d, vs, e3, e4, e5, e6⟩ := k (fun z => ne (by rw [z]; rfl))
  refine ⟨d, vs, e3, e4, by rw [kvMap_fst]; exact e5, ?_⟩
  rw [kvMap_snd]
  exact RpL.ren (l := kvRefs fs) (fun n a hn e => hf n a e hn) s (by rw [kvRefs_snd]; exact fun _ h => h) e6
/-- a call that sees a part is a call -/
theorem spF_callM {Γ : Gm} {f n : Nat} (vs : List V) (H : Hp) (Q : VK) (E : XK) (p : spF Z (callM Γ f) n vs H Q E) : spF Z (Γ f) n vs H Q E := by
  obtain ⟨hn, m, h, args, r, q, s, p⟩ := p
  unfold callM at p
  simp only at p
  generalize hrs : reach 100000 h (D.refsL args) [] = rs at p
  cases ec : closedB h rs (D.refsL args) with
  | false => rw [ec, gd_f] at p; exact p.elim
  | true =>
    rw [ec, gd_t] at p
    have c := closed_of ec
    refine ⟨hn, subM m rs, subH h rs, D.mapL (ixOf rs) args, r.sub c, RpL.ren (sub_hf r c) s c.sub q, by rw [stL_map]; exact s, ?_⟩
    cases e : Γ f (D.mapL (ixOf rs) args) (subH h rs) with
    | bad => rw [e] at p; exact p
    | ex cx fs h2 =>
      rw [e] at p
      intro cls dx H2 m2' r2 x xr
      obtain ⟨m2, a1, a2, a3⟩ := back r c r2 x
      exact p cls dx H2 m2 a1 a2 (xr.ren fun n a e _ => a3 n a e)
    | ok d h2 =>
      rw [e] at p
      intro v H2 m2' r2 x rv sd
      obtain ⟨m2, a1, a2, a3⟩ := back r c r2 x
      exact p v H2 m2 a1 a2 (Rp.ren (l := d.refs) (fun n a _ e => a3 n a e) sd (fun _ h => h) rv) (by rw [st_map]; exact sd)
theorem nums_get : ∀ (s k i : Nat), i < k → (nums s k)[i]? = some (s + i)
  | s, k + 1, 0, _ => by simp [nums]
  | s, k + 1, i + 1, h => by
    simp only [nums, List.getElem?_cons_succ]
    rw [nums_get (s + 1) k i (by omega), show s + 1 + i = s + (i + 1) by omega]
theorem nums_len : ∀ (s k : Nat), (nums s k).length = k
  | _, 0 => rfl
  | s, k + 1 => by simp [nums, nums_len (s + 1) k]
/-- the kept part: the numbers that were there stand first -/
theorem gc_ext {m2 : List Addr} {H2 : Hp} {h2 : Hm} {rs ns : List Nat} (x : Ext m H m2 H2) (r2 : HRp Z.K m2 H2 h2) (c : Cl h2 rs ns) (hk : rs.take m.length = nums 0 m.length) : Ext m H (subM m2 rs) H2 := by
  obtain ⟨l, el, fl⟩ := x.pre
  have hlen : m.length ≤ rs.length := by
    have := congrArg List.length hk
    rw [List.length_take, nums_len] at this
    omega
  have first : ∀ i, i < m.length → rs[i]? = some i := fun i hi => by
    have := congrArg (·[i]?) hk
    simp only [List.getElem?_take_of_lt hi, nums_get 0 _ i hi, Nat.zero_add] at this
    exact this
  refine ⟨⟨(subM m2 rs).drop m.length, ?_, fun a ha => ?_⟩, x.fr, x.fz⟩
  · have e : (subM m2 rs).take m.length = m := by
      refine List.ext_getElem? fun i => ?_
      by_cases hi : i < m.length
      · rw [List.getElem?_take_of_lt hi, subM_get (first i hi), List.getD_eq_getElem?_getD, el, List.getElem?_append_left hi, List.getElem?_eq_getElem hi]; rfl
      · rw [List.getElem?_eq_none (by simp; omega), List.getElem?_eq_none (by omega)]
    conv => lhs; rw [← List.take_append_drop m.length (subM m2 rs), e]
  · obtain ⟨i, hi, e⟩ := List.getElem_of_mem ha
    rw [List.getElem_drop] at e
    have hi2 : m.length + i < rs.length := by simp [subM] at hi; omega
    have er := List.getElem?_eq_getElem hi2
    have es := subM_get (m := m2) er
    have e2 : (subM m2 rs)[m.length + i]? = some a := by rw [List.getElem?_eq_getElem (by simp [subM]; omega), e]
    rw [es] at e2
    have hn : rs[m.length + i] < m2.length := by rw [r2.len]; exact c.lt (List.getElem_mem hi2)
    have ge : m.length ≤ rs[m.length + i] := by
      refine Nat.le_of_not_lt fun lt => ?_
      have h1 := first _ lt
      have := ixOf_at c.nd h1
      have := ixOf_at c.nd er
      omega
    rw [List.getD_eq_getElem?_getD, List.getElem?_eq_getElem hn, Option.getD_some] at e2
    cases e2
    refine fl _ ?_
    have : m2[rs[m.length + i]]? = l[rs[m.length + i] - m.length]? := by rw [el, List.getElem?_append_right ge]
    rw [List.getElem?_eq_getElem hn] at this
    exact List.mem_of_getElem? this.symm
/-- what a body leaves is what the call answers -/
theorem PostF.gc {k : Nat} {r : R D} {Q : VK} {E : XK} (hk : k = m.length) (p : PostF Z m H (gcR k r) Q E) : PostF Z m H r Q E := by
  subst hk
  cases r with
  | bad => exact p
  | ok d h2 =>
    unfold gcR at p
    simp only at p
    generalize hrs : gcH m.length h2 d.refs = rs at p
    cases ec : closedB h2 rs (nums 0 m.length ++ d.refs) with
    | false => rw [ec, Bool.false_and, gd_f] at p; exact p.elim
    | true =>
      cases et : decide (rs.take m.length = nums 0 m.length) with
      | false => rw [et, Bool.and_false, gd_f] at p; exact p.elim
      | true =>
        rw [ec, et, Bool.and_true, gd_t] at p
        have c := closed_of ec
        intro v H2 m2 r2 x rv sd
        exact p v H2 (subM m2 rs) (r2.sub c) (gc_ext x r2 c (of_decide_eq_true et)) (Rp.ren (sub_hf r2 c) sd (fun n hn => c.sub n (List.mem_append_right _ hn)) rv) (by rw [st_map]; exact sd)
  | ex cx fs h2 =>
    unfold gcR at p
    simp only at p
    generalize hrs : gcH m.length h2 (kvRefs fs) = rs at p
    cases ec : closedB h2 rs (nums 0 m.length ++ kvRefs fs) with
    | false => rw [ec, Bool.false_and, gd_f] at p; exact p.elim
    | true =>
      cases et : decide (rs.take m.length = nums 0 m.length) with
      | false => rw [et, Bool.and_false, gd_f] at p; exact p.elim
      | true =>
        rw [ec, et, Bool.and_true, gd_t] at p
        have c := closed_of ec
        intro cls dx H2 m2 r2 x xr
        exact p cls dx H2 (subM m2 rs) (r2.sub c) (gc_ext x r2 c (of_decide_eq_true et)) (xr.ren fun n a e hn => sub_hf r2 c n a (c.sub n (List.mem_append_right _ hn)) e)
end
end Mi

set_option Elab.async false
set_option linter.all false
set_option maxRecDepth 100000
/-! Mini: a program's defs, all at once; the law's row. -/
namespace Mi
open PySem PySem.Spec PyProof.Rows L2
/-- the written def and its tree -/
structure TxtOk (T : Tb) (ps : List Str) (st : Stmt) (N : List Str) (fd : FD) : Prop where
  sc : FnScope N ps (defScope st)
  n : fd.n = ps.length
  m : fd.m = N.length
  ok : mSs T N (defScope st) fd.b (defBody st) = true
structure DefOk (K : PySem.W.Frag) (mg : Str → Option Value) (T : Tb) (tab : Nat → Option FD) (i : Nat) (x : Str) (ps : List Str) (f : Addr) (fdt : FuncData) : Prop where
  hm : mg x = some (.ref f)
  fn : ∃ qual st N fd, Fun K x qual st f fdt ∧ tab i = some fd ∧ TxtOk T ps st N fd
  bd : ∀ (s : Shared) (us : List Value), us.length = ps.length → BindsTo s fdt ⟨us, []⟩ (ps.zip us)
  kw : ∀ n ks pm, (i, n, ks, pm) ∈ T.kws → pm.length = ps.length ∧ (∀ j ∈ pm, j < n + ks.length) ∧ ∀ (s : Shared) (us ws : List Value), us.length = n → ws.length = ks.length → BindsTo s fdt ⟨us, ks.zip ws⟩ (ps.zip (pm.map fun j => (us ++ ws).getD j .none))
structure ProgOk (P : Program) (Xs0 : Xs) (Z : Wi) (mg : Str → Option Value) (T : Tb) (G : Nat → Option D) (tab : Nat → Option FD) : Prop where
  defs : ∀ i x ps, T.fns[i]? = some (x, ps) → ∃ f fdt, DefOk Z.K mg T tab i x ps f fdt
  cns : ∀ i x d, T.cns[i]? = some (x, d) → G i = some d ∧ D.st d = true ∧ ∃ u v, mg x = some u ∧ RelV v u ∧ ∀ m H, Rp Z.K m H v d
  bts : ∀ x ∈ T.bts, mg x = none
  ers : ErOk P Z Xs0 mg T
/-- where the own errors lie -/
def xcOf (K : PySem.W.Frag) (l : List Str) : Str → Option Addr := fun x => if l.contains x = true then (match PySem.W.nsIn K mainGlobals x with
  | some (some (.ref C)) => some C
  | _ => none) else none
theorem start_env {K : PySem.W.Frag} {m : List Addr} {H : Hp} {N : List Str} {vs : List V} {ds : List D} (r : RpL K m H vs ds) (s : D.stL ds = true) (hl : vs.length ≤ N.length) : EnvR K m H (start N vs) (ds.map some ++ List.replicate (N.length - ds.length) none) := by
  refine ⟨by simp [L2.start, r.length], fun i d e => ?_⟩
  by_cases hi : i < ds.length
  · rw [List.getElem?_append_left (by simpa using hi), List.getElem?_map, List.getElem?_eq_getElem hi] at e
    cases e
    obtain ⟨v, h1, h2⟩ := r.get (List.getElem?_eq_getElem hi)
    refine ⟨stL_get s (List.getElem?_eq_getElem hi), v, ?_, h2⟩
    unfold L2.start
    rw [List.getElem?_append_left (by rw [List.length_map, r.length]; exact hi), List.getElem?_map, h1]; rfl
  · rw [List.getElem?_append_right (by simp; omega)] at e
    have := List.mem_of_getElem? e
    simp at this
theorem prog_ok {P : Program} {w : World} {Z : Wi} {mg : Str → Option Value} {base : Heap} {T : Tb} {G : Nat → Option D} {Xs0 : Xs} {tab : Nat → Option FD} (ok : ProgOk P Xs0 Z mg T G tab) :
    ∀ n i x ps, T.fns[i]? = some (x, ps) → ∀ f fdt, DefOk Z.K mg T tab i x ps f fdt → FnG P w Z.K mg base n f fdt ps (spF Z (callF G Xs0 tab n i) ps.length)
  | 0, i, x, ps, e, f, fdt, d => by
    refine ⟨fun vs H Q E h => h.1, fun A outer s H args us vs Q E _ _ _ _ _ h => ?_⟩
    obtain ⟨_, m, h, args, _, _, _, z⟩ := h
    exact z.elim
  | n + 1, i, x, ps, e, f, fdt, d => by
    obtain ⟨qual, st, N, fd, F, et, tx⟩ := d.fn
    refine Mi.Fun.okG F tx.sc (fun vs H Q E h => h.1) fun cdv A outer s H vs Q E hr hg hsp => ?_
    have tk : Takes (cxOf (L2.CX P w) P w Z.K mg base N qual (defScope st) f cdv A outer s H E) (fun cls d _ H' => E cls d H') := takes_of rfl rfl rfl rfl
    have own : PassesOwn (model P w) (cxOf (L2.CX P w) P w Z.K mg base N qual (defScope st) f cdv A outer s H E).A (cxOf (L2.CX P w) P w Z.K mg base N qual (defScope st) f cdv A outer s H E).env (cxOf (L2.CX P w) P w Z.K mg base N qual (defScope st) f cdv A outer s H E).xe := passes_of rfl
    have g : GoodS T Z (fun cls d _ H' => E cls d H') (callM (callF G Xs0 tab n)) G (cxOf (L2.CX P w) P w Z.K mg base N qual (defScope st) f cdv A outer s H E) := by
      refine ⟨⟨rfl, tx.sc.nd, rfl, tk, hg, ?_, fun j y qs ej => ?_, ok.cns, ok.bts⟩, own, fun _ => rfl, ?_, rfl, rfl, hr.mono (Nat.zero_le n)⟩
      · have := hr.un
        show (A.deeper (envOfC qual (defScope st) s.heap.objs.size f cdv)).units + 65 < cLine
        omega
      · obtain ⟨f2, fdt2, d2⟩ := ok.defs j y qs ej
        have F2 := prog_ok (P := P) (w := w) (base := base) (Xs0 := Xs0) ok n j y qs ej f2 fdt2 d2
        obtain ⟨_, _, _, _, FF, _⟩ := d2.fn
        exact ⟨f2, fdt2, n, d2.hm, FF.kp, hr, F2.imp fun vs H Q E h => spF_callM vs H Q E h, d2.bd, d2.kw⟩
      · show (if (defScope st).kind.isAnnotationScope then ScopeKind.function else (defScope st).kind) = .function
        rw [tx.sc.kind]; rfl
    refine ⟨_, sSs (Xs0 := Xs0) fd.b g ok.ers rfl rfl (defBody st) tx.ok, ?_⟩
    obtain ⟨hn, m, h, args, r, q, sa, p⟩ := hsp
    have hl : args.length = ps.length := by rw [← q.length, hn]
    have p : PostF Z m H (runB (callM (callF G Xs0 tab n)) G Xs0 fd args h) Q E := by
      simp only [callF, et] at p
      exact p
    unfold runB at p
    rw [decide_eq_true (by rw [hl, tx.n]), gd_t] at p
    have p := PostF.gc r.len.symm p
    rw [tx.n, tx.m] at p
    have hN : vs.length ≤ N.length := by
      have := congrArg List.length tx.sc.pre
      rw [List.length_take] at this
      omega
    refine ⟨m, args.map some ++ List.replicate (N.length - args.length) none, h, ⟨r, start_env q sa hN⟩, ?_⟩
    rw [hl]
    cases er : exs (callM (callF G Xs0 tab n)) G Xs0 fd.b (args.map some ++ List.replicate (N.length - ps.length) none) h with
    | nx ρ h1 => rw [er] at p; exact fun σ' H' m' a b => p .non H' m' a.hr b .non rfl
    | rt v h1 => rw [er] at p; exact fun v H' m' a b c d => p v H' m' a b c d
    | xx c fs ρ h1 => rw [er] at p; exact fun cls dx σ' H' m' a b c => p cls dx H' m' a.hr b c
    | bk ρ h1 => rw [er] at p; exact p.elim
    | ct ρ h1 => rw [er] at p; exact p.elim
    | bad => rw [er] at p; exact p.elim
/-- the law answers True -/
theorem law_sp {Z : Wi} {g : List D → Hm → R D} {ns : List Int} {H : Hp} {a : Addr} (hS : SqF Z.K H a (ns.map V.int)) (e : ∃ h, g [.fl (ns.map D.int)] [] = .ok (.bl true) h) : spF Z g 1 [.ref a] H (fun v _ => v = .bl true) fun _ _ _ => False := by
  obtain ⟨h, e⟩ := e
  have rl : ∀ ns : List Int, RpL Z.K [] H (ns.map V.int) (ns.map D.int) := fun ns => by
    induction ns with
    | nil => exact .nil
    | cons n r ih => exact .cons (.int n) ih
  have sl : ∀ ns : List Int, D.stL (ns.map D.int) = true := fun ns => by
    induction ns with
    | nil => rfl
    | cons n r ih => simp [D.stL, D.st, ih]
  refine ⟨rfl, [], [], [.fl (ns.map D.int)], ⟨rfl, List.nodup_nil, fun n o a e => by simp at e⟩, .one (.fl hS (sl ns) (rl ns)), by simp [D.stL, D.st, sl ns], ?_⟩
  rw [e]
  intro v H' m' a b c d
  cases c
  rfl
/-- the law's def, for walk_ofG -/
theorem law_F {P : Program} {w : World} {Z : Wi} {mg : Str → Option Value} {T : Tb} {G : Nat → Option D} {Xs0 : Xs} {tab : Nat → Option FD} {n i : Nat} {x y : Str} {fa : Addr} (ok : ProgOk P Xs0 Z mg T G tab) (e : T.fns[i]? = some (x, [y])) (hmg : mg x = some (.ref fa)) :
    ∃ fd : FuncData, (∀ (s : Shared) (u : Value), BindsTo s fd ⟨[u], []⟩ [(y, u)]) ∧ ∀ base : Heap, Z.K.In base → base.Ns mainGlobals mg → FnG P w Z.K mg base n fa fd [y] (spF Z (callF G Xs0 tab n i) 1) := by
  obtain ⟨f, fdt, d⟩ := ok.defs i x [y] e
  have := d.hm.symm.trans hmg
  cases this
  exact ⟨fdt, fun s u => d.bd s [u] rfl, fun base _ _ => prog_ok ok n i x [y] e _ fdt d⟩
/-- THE END of a law's row -/
theorem walk_ofM {l : PySem.W.OpenLaw} {n k : Nat} {q : Program} {loose : List Str} {XP : (Str → Option Value) → Heap → Prop} {YP : World → Heap → Prop} {d : DefRec} {K : Params → PySem.W.Frag} {T : Tb} {G : Nat → Option D} {Xs0 : Xs} {tab : Nat → Option FD} {i : Nat} {x y : Str} {xc : Params → Str → Option Addr}
    (hn : l.most = some n) (hn2 : n ≤ sizeLine) (hdf : d.params.defaults = []) (hr : Room k callerA)
    (hY : ∀ (w : World) (h : Heap), YP w h → (K w.params).In h)
    (hx : d.name = x) (hT : T.fns[i]? = some (x, [y]))
    (F : ∀ (w : World) (mg : Str → Option Value) (h : Heap), (K w.params).In h → h.Ns mainGlobals mg → ProgOk l.prog Xs0 ⟨K w.params, xc w.params⟩ mg T G tab)
    (law : ∀ ns : List Int, ns.length ≤ n → ∃ h, callF G Xs0 tab k i [.fl (ns.map D.int)] [] = .ok (.bl true) h) :
    PySem.W.WalkO q loose XP YP l.row.toRowW d [] (fun f vs => PySem.call f vs) :=
  walk_ofG (K := K) (sp := fun w => spF ⟨K w.params, xc w.params⟩ (callF G Xs0 tab k i) 1) hn hn2 hdf hr hY (fun w mg fa h KX Gn hmg => law_F (Z := ⟨K w.params, xc w.params⟩) (F w mg h KX Gn) hT (by rw [← hx]; exact hmg)) fun w H a ns hl hS => law_sp (Z := ⟨K w.params, xc w.params⟩) hS (law ns hl)
/-- the same, the own errors where the written part has them -/
theorem walk_ofE (l2 : List Str) {l : PySem.W.OpenLaw} {n k : Nat} {q : Program} {loose : List Str} {XP : (Str → Option Value) → Heap → Prop} {YP : World → Heap → Prop} {d : DefRec} {K : Params → PySem.W.Frag} {T : Tb} {G : Nat → Option D} {Xs0 : Xs} {tab : Nat → Option FD} {i : Nat} {x y : Str}
    (hn : l.most = some n) (hn2 : n ≤ sizeLine) (hdf : d.params.defaults = []) (hr : Room k callerA)
    (hY : ∀ (w : World) (h : Heap), YP w h → (K w.params).In h)
    (hx : d.name = x) (hT : T.fns[i]? = some (x, [y]))
    (F : ∀ (w : World) (mg : Str → Option Value) (h : Heap), (K w.params).In h → h.Ns mainGlobals mg → ProgOk l.prog Xs0 ⟨K w.params, xcOf (K w.params) l2⟩ mg T G tab)
    (law : ∀ ns : List Int, ns.length ≤ n → ∃ h, callF G Xs0 tab k i [.fl (ns.map D.int)] [] = .ok (.bl true) h) :
    PySem.W.WalkO q loose XP YP l.row.toRowW d [] (fun f vs => PySem.call f vs) :=
  walk_ofM (xc := fun p => xcOf (K p) l2) hn hn2 hdf hr hY hx hT F law
/-- the __init__ of a class -/
def initS (s : Stmt) : Stmt := match s with
  | .ClassDef _ _ _ b _ _ _ _ _ _ _ => (b.find? fun t => match t with
    | .FunctionDef n _ _ _ _ _ _ _ _ _ => n == ("__init__" : Str)
    | _ => false).getD (.Pass ⟨0, 0, 0, 0⟩)
  | s => s
end Mi

set_option Elab.async false
set_option linter.all false
set_option maxRecDepth 100000
/-! Mini: rules to run the interpreter by hand. -/
namespace Mi
open PySem
mutual
theorem map_norefs (f : Nat → Nat) : ∀ d : D, d.refs = [] → d.map f = d
  | .non, _ => by simp [D.map]
  | .bl _, _ => by simp [D.map]
  | .int _, _ => by simp [D.map]
  | .str _, _ => by simp [D.map]
  | .ref _, h => by simp [D.refs] at h
  | .tup ds, h => by rw [D.map, mapL_norefs f ds (by rw [D.refs] at h; exact h)]
  | .lv ds, h => by rw [D.map, mapL_norefs f ds (by rw [D.refs] at h; exact h)]
  | .fl ds, h => by rw [D.map, mapL_norefs f ds (by rw [D.refs] at h; exact h)]
theorem mapL_norefs (f : Nat → Nat) : ∀ ds : List D, D.refsL ds = [] → D.mapL f ds = ds
  | [], _ => rfl
  | d :: ds, h => by
    rw [D.refsL, List.append_eq_nil_iff] at h
    rw [D.mapL, map_norefs f d h.1, mapL_norefs f ds h.2]
end
/-! ### texts -/
@[simp] theorem ofString_inj (a b : String) : (Str.ofString a = Str.ofString b) = (a = b) := by
  refine propext ⟨fun h => ?_, fun h => by rw [h]⟩
  rw [Str.ofString_eq_toList, Str.ofString_eq_toList] at h
  have h2 : a.toList.map Char.toNat = b.toList.map Char.toNat := by
    have := congrArg (fun s : Str => s.cps.toList) h
    simpa using this
  have h3 : a.toList = b.toList := by
    refine List.map_inj_right (f := Char.toNat) (fun x y e => ?_) |>.mp h2
    exact Char.toNat_inj.mp e
  exact String.toList_inj.mp h3
/-! ### lists of ints as data -/
theorem py_int (h : Hm) (n : Nat) (i : Int) : pyOf n h (.int i) = some (.int i) := by cases n <;> rfl
theorem py_ints (h : Hm) (n : Nat) : ∀ ns : List Int, allSome (pyOf n h) (ns.map .int) = some (ns.map .int)
  | [] => by simp [allSome]
  | i :: r => by simp [allSome, py_int, py_ints h n r]
theorem lay_ints : ∀ ns : List Int, PyData.canLayAll0 (ns.map .int) = true
  | [] => by simp [PyData.canLayAll0]
  | i :: r => by simp [PyData.canLayAll0, PyData.canLay0, lay_ints r]
theorem dep_ints : ∀ ns : List Int, PyData.depthAll (ns.map .int) = 0
  | [] => by simp [PyData.depthAll]
  | i :: r => by simp [PyData.depthAll, PyData.depth, dep_ints r]
theorem shaped_lints (ns : List Int) : SeqAt.shaped (.list (ns.map .int)) = true := by simp [SeqAt.shaped, PyData.canLay0, PyData.depth, lay_ints, dep_ints]
theorem shaped_tints (ns : List Int) : SeqAt.shaped (.tuple (ns.map .int)) = true := by simp [SeqAt.shaped, PyData.canLay0, PyData.depth, lay_ints, dep_ints]
theorem eqv_ints : ∀ ns ms : List Int, PyData.eqvAll (ns.map .int) (ms.map .int) = decide (ns = ms)
  | [], [] => by simp [PyData.eqvAll]
  | [], _ :: _ => by simp [PyData.eqvAll]
  | _ :: _, [] => by simp [PyData.eqvAll]
  | n :: ns, m :: ms => by
    simp only [List.map_cons, PyData.eqvAll, PyData.eqv, eqv_ints ns ms, List.cons.injEq, Bool.decide_and]
    rfl
/-- a numbered list of ints == [..] -/
theorem eq_lints {h : Hm} {n : Nat} {ns ms : List Int} (e : h[n]? = some (.lst (ns.map .int))) : eqD h (.ref n) (.lv (ms.map .int)) = some (decide (ns = ms)) := by
  have h1 : pyOf deepN h (.ref n) = some (.list (ns.map .int)) := by
    show pyOf (38 + 1 + 1) h (.ref n) = _
    rw [pyOf]; simp only [e]
    rw [py_ints]; rfl
  have h2 : pyOf deepN h (.lv (ms.map .int)) = some (.list (ms.map .int)) := by
    show pyOf (38 + 1 + 1) h (.lv (ms.map .int)) = _
    rw [pyOf, py_ints]; rfl
  simp only [eqD, h1, h2, shp_eq, eqQ_eq, shaped_lints, and_self, if_true, PyData.eqv, eqv_ints]
theorem eq_lnil {h : Hm} {n : Nat} {ns : List Int} (e : h[n]? = some (.lst (ns.map .int))) : eqD h (.ref n) (.lv []) = some (decide (ns = [])) := eq_lints (ms := []) e
theorem eq_tints {h : Hm} {ns ms : List Int} : eqD h (.tup (ns.map .int)) (.tup (ms.map .int)) = some (decide (ns = ms)) := by
  have h2 : ∀ ms : List Int, pyOf deepN h (.tup (ms.map .int)) = some (.tuple (ms.map .int)) := fun ms => by
    show pyOf (38 + 1 + 1) h (.tup (ms.map .int)) = _
    rw [pyOf, py_ints]; rfl
  simp only [eqD, h2, shp_eq, eqQ_eq, shaped_tints, and_self, if_true, PyData.eqv, eqv_ints]
/-! ### one step each -/
section
variable {Γ : Gm} {G : Nat → Option D} {X : Xs} {ρ : Env} {h : Hm}
@[simp] theorem ev_c (d) : ev Γ G (.c d) ρ h = .ok d h := by rw [ev]
/-- what stands in a slot -/
def slot (o : Option (Option D)) (h : Hm) : R D := match o with
  | some (some d) => .ok d h
  | _ => .bad
@[simp] theorem slot_some (d : D) : slot (some (some d)) h = .ok d h := rfl
@[simp] theorem ev_v (i) : ev Γ G (.v i) ρ h = slot (ρ[i]?) h := by rw [ev]; rfl
@[simp] theorem ev_g (i) : ev Γ G (.g i) ρ h = opt (G i) h := by rw [ev]
@[simp] theorem ev_bin (o a b) : ev Γ G (.bin o a b) ρ h = bnd (ev Γ G a ρ h) fun x h => bnd (ev Γ G b ρ h) fun y h => opt (binD h o x y) h := by rw [ev]
def negD : D → Option D
  | .int i => some (.int (-i))
  | _ => none
@[simp] theorem negD_int (i : Int) : negD (.int i) = some (.int (-i)) := rfl
@[simp] theorem ev_neg (a) : ev Γ G (.neg a) ρ h = bnd (ev Γ G a ρ h) fun x h => opt (negD x) h := by
  rw [ev]; congr; funext x h; cases x <;> rfl
@[simp] theorem ev_not (a) : ev Γ G (.not a) ρ h = bnd (ev Γ G a ρ h) fun x h => opt ((truth h x).map fun b => .bl (!b)) h := by rw [ev]
@[simp] theorem ev_cmp (o a b) : ev Γ G (.cmp o a b) ρ h = bnd (ev Γ G a ρ h) fun x h => bnd (ev Γ G b ρ h) fun y h => opt ((cmpD h o x y).map .bl) h := by rw [ev]
@[simp] theorem ev_chain (o p a b c) : ev Γ G (.chain o p a b c) ρ h = bnd (ev Γ G a ρ h) fun x h => bnd (ev Γ G b ρ h) fun y h => bnd (opt (cmpD h o x y) h) fun k h =>
      if k = true then bnd (ev Γ G c ρ h) fun z h => opt ((cmpD h p y z).map .bl) h else .ok (.bl false) h := by rw [ev]
def andD (x : D) (h : Hm) (r : R D) : R D := match x with
  | .bl k => if k = true then r else .ok (.bl false) h
  | _ => .bad
def orD (x : D) (h : Hm) (r : R D) : R D := match x with
  | .bl k => if k = true then .ok (.bl true) h else r
  | _ => .bad
@[simp] theorem andD_bl (k : Bool) (r : R D) : andD (.bl k) h r = if k = true then r else .ok (.bl false) h := rfl
@[simp] theorem orD_bl (k : Bool) (r : R D) : orD (.bl k) h r = if k = true then .ok (.bl true) h else r := rfl
@[simp] theorem ev_and (a b) : ev Γ G (.and a b) ρ h = bnd (ev Γ G a ρ h) fun x h => andD x h (ev Γ G b ρ h) := by
  rw [ev]; rfl
@[simp] theorem ev_or (a b) : ev Γ G (.or a b) ρ h = bnd (ev Γ G a ρ h) fun x h => orD x h (ev Γ G b ρ h) := by
  rw [ev]; rfl
@[simp] theorem ev_ife (t a b) : ev Γ G (.ife t a b) ρ h = bnd (ev Γ G t ρ h) fun x h => bnd (opt (truth h x) h) fun k h => if k = true then ev Γ G a ρ h else ev Γ G b ρ h := by rw [ev]
@[simp] theorem ev_tup (es) : ev Γ G (.tup es) ρ h = bnd (evs Γ G es ρ h) fun ds h => gd (decide (ds.length ≤ sizeLine)) (.ok (.tup ds) h) := by rw [ev]
@[simp] theorem ev_lst (es) : ev Γ G (.lst es) ρ h = bnd (evs Γ G es ρ h) fun ds h => gd (decide (ds.length ≤ sizeLine)) (.ok (.lv ds) h) := by rw [ev]
@[simp] theorem ev_dic (ks es) : ev Γ G (.dic ks es) ρ h = bnd (evs Γ G es ρ h) fun ds h => gd (decide (ks.length = ds.length ∧ ks.Nodup ∧ ks.length ≤ 15)) (.ok (.ref h.length) (h ++ [.dic (ks.zip ds)])) := by rw [ev]
/-- a comprehension behind its source -/
def compR (step : D → Hm → R (Option D)) (p : List D × Src) (h : Hm) : R D := bnd (compL step p.2 p.1 h) fun rs h => gd (decide (rs.length < sizeLine)) (.ok (.lv rs) h)
@[simp] theorem ev_comp (e t i fs w) : ev Γ G (.comp e t i fs w) ρ h = bnd (evI Γ G i ρ h) fun p h => compR (stepC (evF Γ G fs) (ev Γ G e) t ρ (w.map (·.2))) p h := by rw [ev]; rfl
@[simp] theorem ev_ix (a i) : ev Γ G (.ix a i) ρ h = bnd (ev Γ G a ρ h) fun x h => bnd (ev Γ G i ρ h) fun y h => opt (ixD h x y) h := by rw [ev]
@[simp] theorem ev_sl (a lo hi) : ev Γ G (.sl a lo hi) ρ h = bnd (ev Γ G a ρ h) fun x h => bnd (evO Γ G lo ρ h) fun l h => bnd (evO Γ G hi ρ h) fun u h => opt (slD h x l u) h := by rw [ev]
@[simp] theorem ev_rev (a) : ev Γ G (.rev a) ρ h = bnd (ev Γ G a ρ h) fun x h => opt (revD h x) h := by rw [ev]
def newD (o : Option (List (L2.Key × D))) (h : Hm) : R D := match o with
  | some kvs => .ok (.ref h.length) (h ++ [.dic kvs])
  | none => .bad
@[simp] theorem newD_some (kvs) : newD (some kvs) h = .ok (.ref h.length) (h ++ [.dic kvs]) := rfl
@[simp] theorem dic1K_int (i d) : dic1K [.int i, d] h = some [(.inl i, d)] := rfl
@[simp] theorem dic1K_str (i d) : dic1K [.str i, d] h = some [(.inr i, d)] := rfl
@[simp] theorem ev_dic1 (es) : ev Γ G (.dic1 es) ρ h = bnd (evs Γ G es ρ h) fun ds h => newD (dic1K ds h) h := by rw [ev]; rfl
@[simp] theorem ev_call (f es) : ev Γ G (.call f es) ρ h = bnd (evs Γ G es ρ h) fun ds h => Γ f ds h := by rw [ev]
@[simp] theorem ev_callk (f es kes pm) : ev Γ G (.callk f es kes pm) ρ h = bnd (evs Γ G es ρ h) fun ds h => bnd (evs Γ G kes ρ h) fun es h => Γ f (pm.map fun i => (ds ++ es).getD i default) h := by rw [ev]
@[simp] theorem ev_bi (f es) : ev Γ G (.bi f es) ρ h = bnd (evp Γ G es ρ h) fun ds h => opt (biD h f ds) h := by rw [ev]
@[simp] theorem ev_me (f o es) : ev Γ G (.me f o es) ρ h = bnd (ev Γ G o ρ h) fun x h => gd (meOk h f x) <| bnd (if f.owns = true then evs Γ G es ρ h else evp Γ G es ρ h) fun ds h => meD h f x ds := by rw [ev]
@[simp] theorem owns_count : Me.count.owns = false := rfl
@[simp] theorem owns_index : Me.index.owns = false := rfl
@[simp] theorem owns_tindex : Me.tindex.owns = false := rfl
@[simp] theorem owns_sindex : Me.sindex.owns = false := rfl
@[simp] theorem owns_join : Me.join.owns = false := rfl
@[simp] theorem owns_split : Me.split.owns = false := rfl
@[simp] theorem owns_append : Me.append.owns = true := rfl
@[simp] theorem owns_insert : Me.insert.owns = true := rfl
@[simp] theorem owns_get : Me.get.owns = true := rfl
@[simp] theorem owns_pop : Me.pop.owns = false := rfl
@[simp] theorem owns_extend : Me.extend.owns = false := rfl
@[simp] theorem evs_nil : evs Γ G .nil ρ h = .ok [] h := by rw [evs]
@[simp] theorem evs_cons (e es) : evs Γ G (.cons e es) ρ h = bnd (ev Γ G e ρ h) fun d h => bnd (own d h) fun d h => bnd (evs Γ G es ρ h) fun ds h => .ok (d :: ds) h := by rw [evs]
@[simp] theorem evp_nil : evp Γ G .nil ρ h = .ok [] h := by rw [evp]
@[simp] theorem evp_cons (e es) : evp Γ G (.cons e es) ρ h = bnd (ev Γ G e ρ h) fun d h => bnd (evp Γ G es ρ h) fun ds h => .ok (d :: ds) h := by rw [evp]
@[simp] theorem evO_no : evO Γ G .no ρ h = .ok none h := by rw [evO]
def intO' : D → Option (Option D)
  | .int i => some (some (.int i))
  | _ => none
@[simp] theorem intO_int (i : Int) : intO' (.int i) = some (some (.int i)) := rfl
@[simp] theorem evO_so (e) : evO Γ G (.so e) ρ h = bnd (ev Γ G e ρ h) fun d h => opt (intO' d) h := by
  rw [evO]; congr; funext x h; cases x <;> rfl
@[simp] theorem evF_nil : evF Γ G .nil ρ h = .ok true h := by rw [evF]
@[simp] theorem evF_cons (e es) : evF Γ G (.cons e es) ρ h = bnd (ev Γ G e ρ h) fun d h => bnd (opt (truth h d) h) fun k h => if k = true then evF Γ G es ρ h else .ok false h := by rw [evF]
@[simp] theorem evI_of (e) : evI Γ G (.of e) ρ h = bnd (ev Γ G e ρ h) fun d h => opt ((seqOf h d).map fun ds => (ds, srcOf h d)) h := by rw [evI]
@[simp] theorem evI_keys (e) : evI Γ G (.keys e) ρ h = bnd (ev Γ G e ρ h) fun d h => opt ((frdOf h d).map fun kvs => (kvs.map fun p => ofKey p.1, none)) h := by rw [evI]
@[simp] theorem evI_rng (es) : evI Γ G (.rng es) ρ h = bnd (evp Γ G es ρ h) fun ds h => opt ((rngD ds).map fun ds => (ds, none)) h := by rw [evI]
@[simp] theorem evI_enum (e) : evI Γ G (.enum e) ρ h = bnd (ev Γ G e ρ h) fun d h => opt ((seqOf h d).map fun ds => (pairs 0 ds, srcOf h d)) h := by rw [evI]
@[simp] theorem evI_zip (a b) : evI Γ G (.zip a b) ρ h = bnd (ev Γ G a ρ h) fun x h => bnd (ev Γ G b ρ h) fun y h => opt (zipD h x y) h := by rw [evI]
@[simp] theorem own_int (i : Int) : own (.int i) h = .ok (.int i) h := rfl
@[simp] theorem own_bl (i : Bool) : own (.bl i) h = .ok (.bl i) h := rfl
@[simp] theorem own_str (i : Str) : own (.str i) h = .ok (.str i) h := rfl
@[simp] theorem own_non : own .non h = .ok .non h := rfl
@[simp] theorem own_tup (i : List D) : own (.tup i) h = .ok (.tup i) h := rfl
@[simp] theorem own_ref (i : Nat) : own (.ref i) h = .ok (.ref i) h := rfl
@[simp] theorem own_fl (i : List D) : own (.fl i) h = .ok (.fl i) h := rfl
@[simp] theorem own_lv (i : List D) : own (.lv i) h = .ok (.ref h.length) (h ++ [.lst i]) := rfl
/-! statements -/
@[simp] theorem exs_nil : exs Γ G X .nil ρ h = .nx ρ h := by rw [exs]
@[simp] theorem exs_cons (s ss) : exs Γ G X (.cons s ss) ρ h = sq (ex Γ G X s ρ h) (exs Γ G X ss) := by rw [exs]
@[simp] theorem ex_asg (t e) : ex Γ G X (.asg t e) ρ h = bns ρ (ev Γ G e ρ h) fun d h => bns ρ (own d h) fun d h => bns ρ (opt (asgT t d ρ) h) .nx := by rw [ex]
@[simp] theorem ex_asgI (o i e) : ex Γ G X (.asgI o i e) ρ h = bns ρ (ev Γ G e ρ h) fun d h => bns ρ (own d h) fun d h => bns ρ (ev Γ G o ρ h) fun o h => bns ρ (ev Γ G i ρ h) fun i h => bns ρ (setI h o i d) fun _ h => .nx ρ h := by rw [ex]
@[simp] theorem ex_aug (op i e) : ex Γ G X (.aug op i e) ρ h = bns ρ (slot (ρ[i]?) h) fun x h => bns ρ (ev Γ G e ρ h) fun y h => bns ρ (opt (augD op x y) h) fun z h => .nx (ρ.set i (some z)) h := by rw [ex, ev_v]
@[simp] theorem ex_augI (op o i e) : ex Γ G X (.augI op o i e) ρ h = bns ρ (ev Γ G o ρ h) fun o h => bns ρ (ev Γ G i ρ h) fun i h => bns ρ (opt (ixW h o i) h) fun x h => bns ρ (ev Γ G e ρ h) fun y h => bns ρ (opt (augD op x y) h) fun z h => bns ρ (setI h o i z) fun _ h => .nx ρ h := by rw [ex]
@[simp] theorem ex_asgL (ts e) : ex Γ G X (.asgL ts e) ρ h = bns ρ (ev Γ G e ρ h) fun d h => bns ρ (own d h) fun d h => bns ρ (opt ((lstOf h d).bind fun ds => asgTs ts ds ρ) h) .nx := by rw [ex]
def pairD : D → Option (D × D)
  | .tup [a, b] => some (a, b)
  | _ => none
@[simp] theorem pairD_tup (a b : D) : pairD (.tup [a, b]) = some (a, b) := rfl
@[simp] theorem ex_asg2I (o i o2 i2 e) : ex Γ G X (.asg2I o i o2 i2 e) ρ h = bns ρ (ev Γ G e ρ h) fun d h => bns ρ (own d h) fun d h => bns ρ (opt (pairD d) h) fun dd h => bns ρ (ev Γ G o ρ h) fun o h => bns ρ (ev Γ G i ρ h) fun i h => bns ρ (setI h o i dd.1) fun _ h => bns ρ (ev Γ G o2 ρ h) fun o h => bns ρ (ev Γ G i2 ρ h) fun i h => bns ρ (setI h o i dd.2) fun _ h => .nx ρ h := by
  rw [ex]
  congr 1; funext d h; congr 1; funext d h
  unfold pairD
  split
  · rfl
  · rename_i hn
    first
    | rfl
    | (split
       · exact (hn _ _ rfl).elim
       · rfl)
@[simp] theorem ex_ex (e) : ex Γ G X (.ex e) ρ h = bns ρ (ev Γ G e ρ h) fun _ h => .nx ρ h := by rw [ex]
@[simp] theorem ex_ret (e) : ex Γ G X (.ret e) ρ h = bns ρ (ev Γ G e ρ h) fun d h => bns ρ (own d h) .rt := by rw [ex]
@[simp] theorem ex_ret0 : ex Γ G X .ret0 ρ h = .rt .non h := by rw [ex]
@[simp] theorem ex_ifs (t a b) : ex Γ G X (.ifs t a b) ρ h = bns ρ (ev Γ G t ρ h) fun d h => bns ρ (opt (truth h d) h) fun k h => if k = true then exs Γ G X a ρ h else exs Γ G X b ρ h := by rw [ex]
/-- a for behind its source -/
def forR (step : D → Env → Hm → Rs) (p : List D × Src) (ρ : Env) (h : Hm) : Rs := forL step p.2 p.1 ρ h
@[simp] theorem ex_for (t i b) : ex Γ G X (.for_ t i b) ρ h = bns ρ (evI Γ G i ρ h) fun p h => forR (forS (exs Γ G X b) t) p ρ h := by rw [ex]; rfl
def lkR (v : Option (Option D)) (h : Hm) (f : Hm → Rs) : Rs := match v with
  | some (some (.ref n)) => match h[n]? with
    | some (.dic kvs) => rlk n kvs (f (h.set n (.frd kvs)))
    | _ => .bad
  | _ => .bad
@[simp] theorem ex_lock (v s) : ex Γ G X (.lock v s) ρ h = lkR ρ[v]? h fun h => ex Γ G X s ρ h := by rw [ex]; rfl
theorem lkR_ref {n : Nat} {kvs} {f : Hm → Rs} (e : h[n]? = some (.dic kvs)) : lkR (some (some (.ref n))) h f = rlk n kvs (f (h.set n (.frd kvs))) := by simp [lkR, e]
theorem rlk_nx {n : Nat} {kvs} {ρ : Env} (e : h[n]? = some (.frd kvs)) : rlk n kvs (.nx ρ h) = .nx ρ (h.set n (.dic kvs)) := by simp [rlk, e]
theorem rlk_rt {n : Nat} {kvs} {d : D} (e : h[n]? = some (.frd kvs)) : rlk n kvs (.rt d h) = .rt d (h.set n (.dic kvs)) := by simp [rlk, e]
@[simp] theorem ex_while (t b) : ex Γ G X (.while_ t b) ρ h = whileL (truF (ev Γ G t)) (exs Γ G X b) X.wf ρ h := by rw [ex]
@[simp] theorem ex_pass : ex Γ G X .pass ρ h = .nx ρ h := by rw [ex]
@[simp] theorem ex_brk : ex Γ G X .brk ρ h = .bk ρ h := by rw [ex]
@[simp] theorem ex_cnt : ex Γ G X .cnt ρ h = .ct ρ h := by rw [ex]
@[simp] theorem asgT_n (i d) : asgT (.n i) d ρ = if i < ρ.length then some (ρ.set i (some d)) else none := by rw [asgT]
@[simp] theorem asgT_t (ts ds) : asgT (.t ts) (.tup ds) ρ = asgTs ts ds ρ := by rw [asgT]
def thenE (o : Option Env) (f : Env → Option Env) : Option Env := o.bind f
@[simp] theorem asgTs_nil : asgTs .nil [] ρ = some ρ := by rw [asgTs]
@[simp] theorem asgTs_cons (t ts d ds) : asgTs (.cons t ts) (d :: ds) ρ = (asgT t d ρ).bind fun ρ' => asgTs ts ds ρ' := by
  rw [asgTs]; cases asgT t d ρ <;> rfl
end
/-! ### operators -/
section
variable {h : Hm}
@[simp] theorem size_le (n : Nat) : (n ≤ sizeLine) = (n ≤ 16777216) := by rw [sizeLine_eq]
@[simp] theorem size_lt (n : Nat) : (n < sizeLine) = (n < 16777216) := by rw [sizeLine_eq]
@[simp] theorem add_int (i j : Int) : binD h .Add (.int i) (.int j) = some (.int (i + j)) := rfl
@[simp] theorem sub_int (i j : Int) : binD h .Sub (.int i) (.int j) = some (.int (i - j)) := rfl
@[simp] theorem mod_int (i j : Int) : binD h .Mod (.int i) (.int j) = if 0 < j then some (.int (i % j)) else none := rfl
theorem mul_ok {i j : Int} (e : mulOk i j = true) : binD h .Mult (.int i) (.int j) = some (.int (i * j)) := by simp [binD, e]
theorem mul_left {i j : Int} (e : i.natAbs < 2 ^ 64) : binD h .Mult (.int i) (.int j) = some (.int (i * j)) := mul_ok (by simp [mulOk, e])
theorem mul_right {i j : Int} (e : j.natAbs < 2 ^ 64) : binD h .Mult (.int i) (.int j) = some (.int (i * j)) := mul_ok (by simp [mulOk, e])
theorem div_ok {i j : Int} (e : divOk j = true) : binD h .FloorDiv (.int i) (.int j) = some (.int (i / j)) := by simp [binD, e]
@[simp] theorem gt_int (i j : Int) : cmpD h .Gt (.int i) (.int j) = some (decide (j < i)) := rfl
@[simp] theorem lt_int (i j : Int) : cmpD h .Lt (.int i) (.int j) = some (decide (i < j)) := rfl
@[simp] theorem ge_int (i j : Int) : cmpD h .GtE (.int i) (.int j) = some (decide (j ≤ i)) := rfl
@[simp] theorem le_int (i j : Int) : cmpD h .LtE (.int i) (.int j) = some (decide (i ≤ j)) := rfl
@[simp] theorem cmp_eqD (x y : D) : cmpD h .Eq x y = eqD h x y := rfl
@[simp] theorem cmp_neD (x y : D) : cmpD h .NotEq x y = (eqD h x y).map (!·) := rfl
@[simp] theorem eqD_int (i j : Int) : eqD h (.int i) (.int j) = some (decide (i = j)) := rfl
@[simp] theorem eqD_str (x y : Str) : eqD h (.str x) (.str y) = some (x == y) := rfl
theorem eq_int' (i j : Int) : cmpD h .Eq (.int i) (.int j) = some (decide (i = j)) := rfl
theorem ne_int' (i j : Int) : cmpD h .NotEq (.int i) (.int j) = some (!decide (i = j)) := rfl
@[simp] theorem tru_bl (b : Bool) : truth h (.bl b) = some b := rfl
@[simp] theorem bi_abs (i : Int) : biD h .abs [.int i] = some (.int i.natAbs) := by
  show some (D.int (if i < 0 then -i else i)) = _
  congr 2
  split <;> omega
@[simp] theorem bi_int (i : Int) : biD h .int [.int i] = some (.int i) := rfl
@[simp] theorem bi_intb (b : Bool) : biD h .int [.bl b] = some (.int (if b = true then 1 else 0)) := by cases b <;> rfl
@[simp] theorem len_tup (ds : List D) : biD h .len [.tup ds] = some (.int ds.length) := rfl
@[simp] theorem len_fl (ds : List D) : biD h .len [.fl ds] = some (.int ds.length) := rfl
@[simp] theorem len_lv (ds : List D) : biD h .len [.lv ds] = some (.int ds.length) := rfl
theorem len_ref {n : Nat} {ds : List D} (e : h[n]? = some (.lst ds)) : biD h .len [.ref n] = some (.int ds.length) := by
  show ((seqOf h (.ref n)).map (·.length)).map _ = _
  simp [seqOf, e]
@[simp] theorem rng1 (n : Int) : rngD [.int n] = if rngOk n = true then some (upto 0 n.toNat) else none := rfl
@[simp] theorem rng2 (a b : Int) : rngD [.int a, .int b] = if rngOk a = true ∧ rngOk b = true then some (upto a (b - a).toNat) else none := rfl
theorem rngOk_of {n : Int} (h1 : -1000000 ≤ n) (h2 : n ≤ 1000000) : rngOk n = true := by
  simp [rngOk]; omega
@[simp] theorem seq_tup (ds : List D) : seqOf h (.tup ds) = some ds := rfl
@[simp] theorem seq_fl (ds : List D) : seqOf h (.fl ds) = some ds := rfl
@[simp] theorem seq_lv (ds : List D) : seqOf h (.lv ds) = some ds := rfl
theorem seq_ref {n : Nat} {ds : List D} (e : h[n]? = some (.lst ds)) : seqOf h (.ref n) = some ds := by simp [seqOf, e]
@[simp] theorem src_tup (ds : List D) : srcOf h (.tup ds) = none := rfl
@[simp] theorem src_fl (ds : List D) : srcOf h (.fl ds) = none := rfl
@[simp] theorem src_lv (ds : List D) : srcOf h (.lv ds) = none := rfl
theorem src_ref {n : Nat} {o : O} (e : h[n]? = some o) : srcOf h (.ref n) = some (n, o) := by simp [srcOf, e]
@[simp] theorem src_no : srcOk none h = true := rfl
theorem src_so {n : Nat} {o : O} (e : h[n]? = some o) : srcOk (some (n, o)) h = true := by simp [srcOk, e]
@[simp] theorem rev_tup (ds : List D) : revD h (.tup ds) = some (.tup ds.reverse) := rfl
@[simp] theorem rev_lv (ds : List D) : revD h (.lv ds) = some (.lv ds.reverse) := rfl
@[simp] theorem rev_fl (ds : List D) : revD h (.fl ds) = some (.lv ds.reverse) := rfl
@[simp] theorem ix_tup' (ds : List D) (i : Int) : ixD h (.tup ds) (.int i) = L2.atI ds i := rfl
@[simp] theorem ix_lv' (ds : List D) (i : Int) : ixD h (.lv ds) (.int i) = L2.atI ds i := rfl
@[simp] theorem ix_fl' (ds : List D) (i : Int) : ixD h (.fl ds) (.int i) = L2.atI ds i := rfl
theorem ix_ref' {n : Nat} {ds : List D} (e : h[n]? = some (.lst ds)) (i : Int) : ixD h (.ref n) (.int i) = L2.atI ds i := by simp [ixD, e]
theorem atI_lt {α : Type} {ds : List α} {i : Int} {j : Nat} (e : i = j) (hj : j < ds.length) : L2.atI ds i = ds[j]? := by
  subst e
  simp [L2.atI, L2.ixN, hj]
@[simp] theorem truF_eq (f : Env → Hm → R D) (ρ : Env) : truF f ρ h = bnd (f ρ h) fun d h => opt (truth h d) h := rfl
end
/-- a call of values without places -/
theorem callM_pure {Γ : Gm} {f : Nat} {args : List D} {h : Hm} {v : D} (ha : D.refsL args = []) (hv : v.refs = []) (e : Γ f args [] = .ok v []) : callM Γ f args h = .ok v h := by
  unfold callM
  simp only [ha]
  have hr : reach 100000 h [] [] = [] := rfl
  rw [hr]
  simp only [closedB, subH, List.map_nil, mapL_norefs _ args ha]
  rw [e]
  simp [putH, setAll, map_norefs _ v hv]
theorem reach_seen (h : Hm) : ∀ (f : Nat) (work seen : List Nat), (∀ n ∈ work, n ∈ seen) → reach f h work seen = seen
  | 0, _, _, _ => rfl
  | f + 1, [], _, _ => rfl
  | f + 1, n :: t, seen, hs => by
    rw [reach, if_pos (by simpa using hs n List.mem_cons_self)]
    exact reach_seen h f t seen fun m hm => hs m (List.mem_cons_of_mem _ hm)
theorem mem_nums : ∀ (k s n : Nat), n ∈ nums s k ↔ s ≤ n ∧ n < s + k
  | 0, s, n => by simp [nums]
  | k + 1, s, n => by
    rw [nums, List.mem_cons, mem_nums k (s + 1) n]; omega
theorem ixOf_nums : ∀ (k s n : Nat), s ≤ n → n < s + k → ixOf (nums s k) n = n - s
  | 0, s, n, h1, h2 => by omega
  | k + 1, s, n, h1, h2 => by
    rw [nums, ixOf]
    split
    · omega
    · rw [ixOf_nums k (s + 1) n (by omega) (by omega)]; omega
mutual
theorem map_id' (f : Nat → Nat) : ∀ d : D, (∀ n ∈ d.refs, f n = n) → d.map f = d
  | .non, _ => by simp [D.map]
  | .bl _, _ => by simp [D.map]
  | .int _, _ => by simp [D.map]
  | .str _, _ => by simp [D.map]
  | .ref n, h => by rw [D.map, h n (by simp [D.refs])]
  | .tup ds, h => by rw [D.map, mapL_id' f ds (by rw [D.refs] at h; exact h)]
  | .lv ds, h => by rw [D.map, mapL_id' f ds (by rw [D.refs] at h; exact h)]
  | .fl ds, h => by rw [D.map, mapL_id' f ds (by rw [D.refs] at h; exact h)]
theorem mapL_id' (f : Nat → Nat) : ∀ ds : List D, (∀ n ∈ D.refsL ds, f n = n) → D.mapL f ds = ds
  | [], _ => rfl
  | d :: ds, h => by
    rw [D.mapL, map_id' f d fun n hn => h n (by rw [D.refsL, List.mem_append]; exact .inl hn), mapL_id' f ds fun n hn => h n (by rw [D.refsL, List.mem_append]; exact .inr hn)]
end
theorem kvMap_id {κ : Type} (f : Nat → Nat) : ∀ l : List (κ × D), (∀ n ∈ kvRefs l, f n = n) → kvMap (D.map f) l = l
  | [], _ => rfl
  | (k, d) :: r, h => by
    rw [kvMap, map_id' f d fun n hn => h n (by rw [kvRefs, List.mem_append]; exact .inl hn), kvMap_id f r fun n hn => h n (by rw [kvRefs, List.mem_append]; exact .inr hn)]
theorem omap_id (f : Nat → Nat) (o : O) (h : ∀ n ∈ o.refs, f n = n) : o.map f = o := by
  cases o with
  | lst ds => rw [O.map, mapL_id' f ds h]
  | dic ds => rw [O.map, kvMap_id f ds h]
  | frd ds => rw [O.map, kvMap_id f ds h]
  | ins c ds => rw [O.map, kvMap_id f ds h]
theorem nums_at : ∀ (k s i : Nat), i < k → (nums s k)[i]? = some (s + i)
  | k + 1, s, 0, _ => by simp [nums]
  | k + 1, s, i + 1, h => by
    rw [nums, List.getElem?_cons_succ, nums_at k (s + 1) i (by omega)]; congr 1; omega
theorem nums_nd : ∀ (k s : Nat), (nums s k).Nodup
  | 0, s => List.nodup_nil
  | k + 1, s => by
    rw [nums, List.nodup_cons]
    exact ⟨fun z => by have := (mem_nums k (s + 1) s).mp z; omega, nums_nd k (s + 1)⟩
theorem subH_first (h0 rest : Hm) (hc : ∀ o ∈ h0, ∀ n ∈ o.refs, n < h0.length) : subH (h0 ++ rest) (nums 0 h0.length) = h0 := by
  refine List.ext_getElem? fun i => ?_
  unfold subH
  by_cases hi : i < h0.length
  · rw [List.getElem?_map, nums_at _ 0 i hi, Option.map_some, Nat.zero_add, List.getD_eq_getElem?_getD, List.getElem?_append_left hi, List.getElem?_eq_getElem hi]
    simp only [Option.getD_some]
    rw [omap_id _ _ fun n hn => by
      have := hc h0[i] (List.getElem_mem hi) n hn
      rw [ixOf_nums _ 0 n (Nat.zero_le _) (by omega)]; omega]
  · rw [List.getElem?_eq_none (by simp [nums_len]; omega), List.getElem?_eq_none (by omega)]
/-- what was there stays, what the body made goes -/
theorem gcR_keep {v : D} {h0 rest : Hm} {k : Nat} (hk : k = h0.length) (hc : ∀ o ∈ h0, ∀ n ∈ o.refs, n < h0.length) (hv : ∀ n ∈ v.refs, n < h0.length) : gcR k (.ok v (h0 ++ rest)) = .ok v h0 := by
  subst hk
  have hr : gcH h0.length (h0 ++ rest) v.refs = nums 0 h0.length := by
    unfold gcH
    refine reach_seen _ _ _ _ fun n hn => ?_
    rw [mem_nums]
    refine ⟨Nat.zero_le _, ?_⟩
    rw [Nat.zero_add]
    rcases List.mem_append.mp hn with hn | hn
    · obtain ⟨m, hm, hn⟩ := List.mem_flatMap.mp hn
      have hm := (mem_nums _ _ _).mp hm
      rw [List.getElem?_append_left (by omega), List.getElem?_eq_getElem (by omega)] at hn
      exact hc _ (List.getElem_mem _) n hn
    · exact hv n hn
  unfold gcR
  simp only [hr]
  have hcl : closedB (h0 ++ rest) (nums 0 h0.length) (nums 0 h0.length ++ v.refs) = true := by
    simp only [closedB, Bool.and_eq_true, decide_eq_true_eq, List.all_eq_true, List.contains_iff_mem]
    refine ⟨⟨nums_nd _ _, fun n hn => ?_⟩, fun n hn => ?_⟩
    · rcases List.mem_append.mp hn with hn | hn
      · exact hn
      · rw [mem_nums]; have := hv n hn; omega
    · have hn := (mem_nums _ _ _).mp hn
      rw [List.getElem?_append_left (by omega), List.getElem?_eq_getElem (by omega)]
      simp only [List.all_eq_true, List.contains_iff_mem]
      intro m hm
      rw [mem_nums]
      have := hc _ (List.getElem_mem _) m hm
      omega
  have ht : (nums 0 h0.length).take h0.length = nums 0 h0.length := List.take_of_length_le (by rw [nums_len]; exact Nat.le_refl _)
  rw [hcl, ht, decide_eq_true rfl, Bool.and_true, gd_t, subH_first h0 rest hc, map_id' _ v fun n hn => by
    have := hv n hn
    rw [ixOf_nums _ 0 n (Nat.zero_le _) (by omega)]; omega]
theorem gcR_pure {v : D} {h : Hm} (hv : v.refs = []) : gcR 0 (.ok v h) = .ok v [] := by
  have := gcR_keep (v := v) (h0 := []) (rest := h) rfl (by simp) (by simp [hv])
  simpa using this
@[simp] theorem gcR_int (i : Int) (h : Hm) : gcR 0 (.ok (.int i) h) = .ok (.int i) [] := gcR_pure (by simp [D.refs])
@[simp] theorem gcR_bl (i : Bool) (h : Hm) : gcR 0 (.ok (.bl i) h) = .ok (.bl i) [] := gcR_pure (by simp [D.refs])
theorem ints_refs (ns : List Int) : D.refsL (ns.map D.int) = [] := by
  induction ns with
  | nil => rfl
  | cons n r ih => simp [D.refsL, D.refs, ih]
theorem callF_tab {G : Nat → Option D} {X : Xs} {tab : Nat → Option FD} {n f : Nat} {args : List D} {h : Hm} {d : FD} (e : tab f = some d) : callF G X tab (n + 1) f args h = runB (callM (callF G X tab n)) G X d args h := by
  simp only [callF, e]
/-- room for the turns of a while -/
def Big (K : Nat) : Prop := 2 ^ 255 * (2 ^ 255 * (2 ^ 255 * (2 ^ 255 * (2 ^ 255 * (2 ^ 255 * 2 ^ 255))))) ≤ K
theorem big_ex : ∃ K, Big K := ⟨_, Nat.le_refl _⟩
/-- a while whose test leaves the heap as it is -/
theorem while_rule {test : Env → Hm → R Bool} {body : Env → Hm → Rs} (I : Nat → Env → Hm → Prop) (Fin : Env → Hm → Prop)
    (step : ∀ m ρ h, I m ρ h → (test ρ h = .ok false h ∧ Fin ρ h) ∨ (test ρ h = .ok true h ∧ ∃ m' ρ' h', m' < m ∧ body ρ h = .nx ρ' h' ∧ I m' ρ' h')) :
    ∀ n m ρ h, m < n → I m ρ h → ∃ ρ' h', whileL test body n ρ h = .nx ρ' h' ∧ Fin ρ' h'
  | 0, m, ρ, h, hm, _ => absurd hm (Nat.not_lt_zero _)
  | n + 1, m, ρ, h, hm, i => by
    rw [whileL]
    rcases step m ρ h i with ⟨e, f⟩ | ⟨e, m', ρ', h', lt, eb, i'⟩
    · rw [e]; exact ⟨ρ, h, rfl, f⟩
    · rw [e, bns_ok, if_pos rfl, eb, tn_nx]
      exact while_rule I Fin step n m' ρ' h' (by omega) i'
/-- a for whose turns go on -/
theorem for_rule {step : D → Env → Hm → Rs} {src : Src} (I : List D → Env → Hm → Prop)
    (hs : ∀ d ds ρ h, I (d :: ds) ρ h → ∃ ρ' h', (step d ρ h = .nx ρ' h' ∨ step d ρ h = .ct ρ' h') ∧ srcOk src h' = true ∧ I ds ρ' h') :
    ∀ ds ρ h, I ds ρ h → ∃ ρ' h', forL step src ds ρ h = .nx ρ' h' ∧ I [] ρ' h'
  | [], ρ, h, i => ⟨ρ, h, rfl, i⟩
  | d :: ds, ρ, h, i => by
    obtain ⟨ρ', h', e, so, i'⟩ := hs d ds ρ h i
    rw [forL]
    rcases e with e | e
    · rw [e, tn_nx, so, gs_t]; exact for_rule I hs ds ρ' h' i'
    · rw [e, tn_ct, so, gs_t]; exact for_rule I hs ds ρ' h' i'
/-- a for over a range whose turns go on: k turns are done -/
theorem range_rule {step : D → Env → Hm → Rs} (I : Nat → Env → Hm → Prop) (lo : Int) (n : Nat)
    (hs : ∀ k ρ h, k < n → I k ρ h → ∃ ρ' h', (step (.int (lo + k)) ρ h = .nx ρ' h' ∨ step (.int (lo + k)) ρ h = .ct ρ' h') ∧ I (k + 1) ρ' h') (ρ : Env) (h : Hm) (i : I 0 ρ h) :
    ∃ ρ' h', forR step (upto lo n, none) ρ h = .nx ρ' h' ∧ I n ρ' h' := by
  obtain ⟨ρ', h', e, k, hk, j, q⟩ := for_rule (step := step) (src := none) (fun ds ρ h => ∃ k, k + ds.length = n ∧ ds = upto (lo + k) (n - k) ∧ I k ρ h) (by
    rintro d ds ρ h ⟨k, hk, e, i⟩
    simp only [List.length_cons] at hk
    obtain ⟨m, em⟩ : ∃ m, n - k = m + 1 := ⟨n - k - 1, by omega⟩
    rw [em] at e
    simp only [upto, List.cons.injEq] at e
    obtain ⟨rfl, rfl⟩ := e
    obtain ⟨ρ', h', e2, i2⟩ := hs k ρ h (by omega) i
    exact ⟨ρ', h', e2, rfl, k + 1, by omega, by
      rw [show n - (k + 1) = m by omega, show lo + (k : Int) + 1 = lo + ((k + 1 : Nat) : Int) by omega], i2⟩) (upto lo n) ρ h ⟨0, by simp [upto_len], by simp, i⟩
  simp only [List.length_nil] at hk
  exact ⟨ρ', h', e, by rw [show n = k by omega]; exact q⟩
/-! ### sizes -/
/-- below 2^e -/
def Bt (e : Nat) (x : Int) : Prop := x.natAbs < 2 ^ e
theorem Bt.mono {e f : Nat} {x : Int} (h : Bt e x) (l : e ≤ f) : Bt f x := Nat.lt_of_lt_of_le h (Nat.pow_le_pow_right (by omega) l)
theorem Bt.mul {e f : Nat} {x y : Int} (h : Bt e x) (k : Bt f y) : Bt (e + f) (x * y) := by
  unfold Bt at *
  rw [Int.natAbs_mul, Nat.pow_add]
  exact Nat.mul_lt_mul'' h k
theorem Bt.add {e : Nat} {x y : Int} (h : Bt e x) (k : Bt e y) : Bt (e + 1) (x + y) := by
  unfold Bt at *
  rw [Nat.pow_succ]
  omega
theorem Bt.sub {e : Nat} {x y : Int} (h : Bt e x) (k : Bt e y) : Bt (e + 1) (x - y) := by
  unfold Bt at *
  rw [Nat.pow_succ]
  omega
theorem Bt.neg {e : Nat} {x : Int} (h : Bt e x) : Bt e (-x) := by
  unfold Bt at *; omega
theorem Bt.abs {e : Nat} {x : Int} (h : Bt e x) : Bt e (x.natAbs : Int) := by
  unfold Bt at *; omega
theorem Bt.log {e : Nat} {x : Int} (h : Bt e x) : x.natAbs.log2 ≤ e := by
  by_cases h0 : x.natAbs = 0
  · rw [h0]; simp
  · have := (Nat.log2_lt h0).mpr h
    omega
theorem Bt.ediv {e : Nat} {x y : Int} (h : Bt e x) : Bt e (x / y) := by
  unfold Bt at *
  exact Nat.lt_of_le_of_lt (Int.natAbs_ediv_le_natAbs x y) h
theorem bt_lit {e : Nat} {x : Int} (h : decide (x.natAbs < 2 ^ e) = true) : Bt e x := show x.natAbs < 2 ^ e from of_decide_eq_true h
theorem mulOk_bt {e f : Nat} {x y : Int} (h : Bt e x) (k : Bt f y) (l : e + f < 100000000) : mulOk x y = true := by
  have := h.log
  have := k.log
  simp [mulOk]
  right
  omega
theorem mul_bt {h : Hm} {e f : Nat} {x y : Int} (hx : Bt e x) (k : Bt f y) (l : e + f < 100000000) : binD h .Mult (.int x) (.int y) = some (.int (x * y)) := mul_ok (mulOk_bt hx k l)
theorem div_bt {h : Hm} {e : Nat} {x y : Int} (hy : 0 < y) (k : Bt e y) (l : e < 9000) : binD h .FloorDiv (.int x) (.int y) = some (.int (x / y)) := by
  have := k.log
  refine div_ok ?_
  simp [divOk]
  omega
/-! ### literals and remainders -/
section
variable {h : Hm}
theorem mul_lit {i j : Int} (e : i.natAbs < 2 ^ 64) : binD h .Mult (.int i) (.int j) = some (.int (i * j)) := mul_left e
theorem mul_emod {x c y : Int} (h0 : 0 < c) (h1 : c ≤ 2 ^ 64) : binD h .Mult (.int (x % c)) (.int y) = some (.int (x % c * y)) := by
  refine mul_left ?_
  have := Int.emod_lt_of_pos x h0
  have := Int.emod_nonneg x (show c ≠ 0 by omega)
  omega
theorem div_lit {i j : Int} (e : 0 < j) (e2 : j.natAbs < 2 ^ 64) : binD h .FloorDiv (.int i) (.int j) = some (.int (i / j)) := div_bt e (show Bt 64 j from e2) (by omega)
theorem pow_lit {i j : Int} (h0 : 0 ≤ j) (h1 : j ≤ 1000000) (h2 : i.natAbs < 2 ^ 64) : binD h .Pow (.int i) (.int j) = some (.int (i ^ j.toNat)) := by
  simp [binD, powOk, h0, h1, h2]
theorem pop_snoc {n : Nat} {g : List Int} {c : Int} (e : h[n]? = some (.lst ((g ++ [c]).map .int))) : meD h .pop (.ref n) [] = .ok (.int c) (h.set n (.lst (g.map .int))) := by
  simp [meD, e, meL]
theorem app_ref {n : Nat} {ds : List D} {d : D} (e : h[n]? = some (.lst ds)) (hl : ds.length < 16777216) : meD h .append (.ref n) [d] = .ok .non (h.set n (.lst (ds ++ [d]))) := by
  simp [meD, e, meL, hl]
theorem ok_ref {n : Nat} {ds : List D} {f : Me} (e : h[n]? = some (.lst ds)) (hf : f.onL = true := by rfl) : meOk h f (.ref n) = true := by
  cases f <;> first | exact absurd hf (by decide) | simp [meOk, e]
end
end Mi

set_option Elab.async false
set_option linter.all false
set_option maxRecDepth 100000
namespace Mi
open PySem PySem.Spec PyProof.Rows L2
/-! ### the text -/
abbrev topS (i : Nat) : Stmt := PySem.Challenge.pw_drawnturns_k60_whole_main_just_one_has_a.main.body.getD i (.Pass ⟨0, 0, 0, 0⟩)
abbrev i_number_at_triangles : Nat := 0
abbrev i_row_place : Nat := 1
abbrev i_near : Nat := 2
abbrev i_touches : Nat := 3
abbrev i_reduced : Nat := 4
abbrev i_last_owner : Nat := 5
abbrev i_hanging : Nat := 6
abbrev i_untouched : Nat := 7
abbrev i_whole_piece : Nat := 8
abbrev i_owner : Nat := 9
abbrev i_L_deck25 : Nat := 10
abbrev i_L_draw7 : Nat := 11
abbrev i_L_board2 : Nat := 12
abbrev i_L_spots : Nat := 13
abbrev i_L_web : Nat := 14
abbrev i_L_edges : Nat := 15
abbrev i_L_lots2 : Nat := 16
abbrev i_L_is_chain : Nat := 17
abbrev i_L_whose : Nat := 18
abbrev i_L_lesser : Nat := 19
abbrev i_L_is_unfit : Nat := 20
abbrev i_L_is_one : Nat := 21
abbrev i_L_bits : Nat := 22
abbrev i_L_is_one_below : Nat := 23
abbrev i_Llaw : Nat := 24
abbrev st_number_at_triangles : Stmt := topS 4
abbrev ps_number_at_triangles : List Str := ["row", "place"]
abbrev nn_number_at_triangles : List Str := ["row", "place"]
/-- number_at -/
def b_number_at_triangles : Ss :=
  (.cons (.ret (.bin .Add (.bin .FloorDiv (.bin .Mult (.v 0) (.bin .Add (.v 0) (.c (.int 1)))) (.c (.int 2))) (.v 1))) .nil)
def fd_number_at_triangles : FD := ⟨2, 2, b_number_at_triangles⟩
abbrev st_row_place : Stmt := topS 5
abbrev ps_row_place : List Str := ["cell"]
abbrev nn_row_place : List Str := ["cell", "row"]
def b_row_place_0 : Mi.E :=
  (.cmp .LtE (.call i_number_at_triangles (.cons (.bin .Add (.v 1) (.c (.int 1))) (.cons (.c (.int 0)) .nil))) (.v 0))
def b_row_place_1 : Ss :=
  (.cons (.asg (.n 1) (.bin .Add (.v 1) (.c (.int 1)))) .nil)
/-- row_place -/
def b_row_place : Ss :=
  (.cons (.asg (.n 1) (.c (.int 0)))
  (.cons (.while_ b_row_place_0 b_row_place_1)
  (.cons (.ret (.tup (.cons (.v 1) (.cons (.bin .Sub (.v 0) (.call i_number_at_triangles (.cons (.v 1) (.cons (.c (.int 0)) .nil)))) .nil)))) .nil)))
def fd_row_place : FD := ⟨1, 2, b_row_place⟩
abbrev st_near : Stmt := topS 6
abbrev ps_near : List Str := ["side", "cell"]
abbrev nn_near : List Str := ["side", "cell", "around", "row", "place", "up", "at"]
def b_near_0 : Mi.E :=
  (.call i_number_at_triangles (.cons (.v 5) (.cons (.v 6) .nil)))
def b_near_1 : Es :=
  (.cons (.and (.cmp .Lt (.v 5) (.v 0)) (.chain .LtE .LtE (.c (.int 0)) (.v 6) (.v 5))) .nil)
/-- near -/
def b_near : Ss :=
  (.cons (.asg (.t (.cons (.n 3) (.cons (.n 4) .nil))) (.call i_row_place (.cons (.v 1) .nil)))
  (.cons (.asg (.n 2) (.lst (.cons (.tup (.cons (.bin .Sub (.v 3) (.c (.int 1))) (.cons (.bin .Sub (.v 4) (.c (.int 1))) .nil))) (.cons (.tup (.cons (.bin .Sub (.v 3) (.c (.int 1))) (.cons (.v 4) .nil))) (.cons (.tup (.cons (.v 3) (.cons (.bin .Sub (.v 4) (.c (.int 1))) .nil))) (.cons (.tup (.cons (.v 3) (.cons (.bin .Add (.v 4) (.c (.int 1))) .nil))) .nil))))))
  (.cons (.asg (.n 2) (.bin .Add (.v 2) (.lst (.cons (.tup (.cons (.bin .Add (.v 3) (.c (.int 1))) (.cons (.v 4) .nil))) (.cons (.tup (.cons (.bin .Add (.v 3) (.c (.int 1))) (.cons (.bin .Add (.v 4) (.c (.int 1))) .nil))) .nil)))))
  (.cons (.ret (.bi .tuple (.cons (.comp b_near_0 (.t (.cons (.n 5) (.cons (.n 6) .nil))) (.of (.v 2)) b_near_1 [("up", 5), ("at", 6)]) .nil))) .nil))))
def fd_near : FD := ⟨2, 7, b_near⟩
abbrev st_touches : Stmt := topS 7
abbrev ps_touches : List Str := ["side", "cell"]
abbrev nn_touches : List Str := ["side", "cell", "found", "row", "place"]
/-- touches -/
def b_touches : Ss :=
  (.cons (.asg (.t (.cons (.n 3) (.cons (.n 4) .nil))) (.call i_row_place (.cons (.v 1) .nil)))
  (.cons (.asg (.n 2) (.lst .nil))
  (.cons (.ifs (.cmp .Eq (.v 4) (.c (.int 0)))
    (.cons (.ex (.me .append (.v 2) (.cons (.c (.int 0)) .nil))) .nil)
    .nil)
  (.cons (.ifs (.cmp .Eq (.v 4) (.v 3))
    (.cons (.ex (.me .append (.v 2) (.cons (.c (.int 1)) .nil))) .nil)
    .nil)
  (.cons (.ifs (.cmp .Eq (.v 3) (.bin .Sub (.v 0) (.c (.int 1))))
    (.cons (.ex (.me .append (.v 2) (.cons (.c (.int 2)) .nil))) .nil)
    .nil)
  (.cons (.ret (.bi .tuple (.cons (.v 2) .nil))) .nil))))))
def fd_touches : FD := ⟨2, 5, b_touches⟩
abbrev st_reduced : Stmt := topS 8
abbrev ps_reduced : List Str := ["side", "board"]
abbrev nn_reduced : List Str := ["side", "board", "found", "row", "place", "three"]
def b_reduced_0 : Ss :=
  (.cons (.asg (.n 5) (.bin .Add (.ix (.v 1) (.call i_number_at_triangles (.cons (.v 3) (.cons (.v 4) .nil)))) (.ix (.v 1) (.call i_number_at_triangles (.cons (.bin .Add (.v 3) (.c (.int 1))) (.cons (.v 4) .nil))))))
  (.cons (.ex (.me .append (.v 2) (.cons (.bi .int (.cons (.cmp .Gt (.bin .Add (.v 5) (.ix (.v 1) (.call i_number_at_triangles (.cons (.bin .Add (.v 3) (.c (.int 1))) (.cons (.bin .Add (.v 4) (.c (.int 1))) .nil))))) (.c (.int 1))) .nil)) .nil))) .nil))
def b_reduced_1 : Ss :=
  (.cons (.for_ (.n 4) (.rng (.cons (.bin .Add (.v 3) (.c (.int 1))) .nil)) b_reduced_0) .nil)
/-- reduced -/
def b_reduced : Ss :=
  (.cons (.ifs (.cmp .Eq (.v 0) (.c (.int 1)))
    (.cons (.raise 0 .nil) .nil)
    .nil)
  (.cons (.asg (.n 2) (.lst .nil))
  (.cons (.for_ (.n 3) (.rng (.cons (.bin .Sub (.v 0) (.c (.int 1))) .nil)) b_reduced_1)
  (.cons (.ret (.bi .tuple (.cons (.v 2) .nil))) .nil))))
def fd_reduced : FD := ⟨2, 6, b_reduced⟩
abbrev st_last_owner : Stmt := topS 9
abbrev ps_last_owner : List Str := ["side", "board"]
abbrev nn_last_owner : List Str := ["side", "board", "here", "size"]
def b_last_owner_0 : Ss :=
  (.cons (.asg (.n 2) (.call i_reduced (.cons (.v 3) (.cons (.v 2) .nil)))) .nil)
/-- last_owner -/
def b_last_owner : Ss :=
  (.cons (.asg (.n 2) (.v 1))
  (.cons (.for_ (.n 3) (.rng (.cons (.v 0) (.cons (.c (.int 1)) (.cons (.neg (.c (.int 1))) .nil)))) b_last_owner_0)
  (.cons (.ret (.ix (.v 2) (.c (.int 0)))) .nil)))
def fd_last_owner : FD := ⟨2, 4, b_last_owner⟩
abbrev st_hanging : Stmt := topS 11
abbrev ps_hanging : List Str := ["side", "cells", "begin"]
abbrev nn_hanging : List Str := ["side", "cells", "begin", "found", "waiting", "other"]
def b_hanging_0 : Mi.E :=
  (.cmp .NotEq (.v 4) (.lst .nil))
def b_hanging_1 : Ss :=
  (.cons (.ifs (.and (.cmp .In (.v 5) (.v 1)) (.cmp .NotIn (.v 5) (.v 3)))
    (.cons (.asgI (.v 3) (.v 5) (.c (.bl true)))
    (.cons (.ex (.me .append (.v 4) (.cons (.v 5) .nil))) .nil))
    .nil) .nil)
def b_hanging_2 : Ss :=
  (.cons (.for_ (.n 5) (.of (.call i_near (.cons (.v 0) (.cons (.me .pop (.v 4) .nil) .nil)))) b_hanging_1) .nil)
/-- hanging -/
def b_hanging : Ss :=
  (.cons (.asg (.t (.cons (.n 3) (.cons (.n 4) .nil))) (.tup (.cons (.dic1 (.cons (.v 2) (.cons (.c (.bl true)) .nil))) (.cons (.lst (.cons (.v 2) .nil)) .nil))))
  (.cons (.while_ b_hanging_0 b_hanging_2)
  (.cons (.ret (.bi .tuple (.cons (.bi .sorted (.cons (.v 3) .nil)) .nil))) .nil)))
def fd_hanging : FD := ⟨3, 6, b_hanging⟩
abbrev st_untouched : Stmt := topS 12
abbrev ps_untouched : List Str := ["side", "cells"]
abbrev nn_untouched : List Str := ["side", "cells", "seen", "cell", "own"]
def b_untouched_0 : Ss :=
  (.cons (.asgI (.v 2) (.v 4) (.c (.bl true))) .nil)
def b_untouched_1 : Ss :=
  (.cons (.for_ (.n 4) (.of (.call i_touches (.cons (.v 0) (.cons (.v 3) .nil)))) b_untouched_0) .nil)
def b_untouched_2 : Mi.E :=
  (.v 4)
def b_untouched_3 : Es :=
  (.cons (.cmp .NotIn (.v 4) (.v 2)) .nil)
/-- untouched -/
def b_untouched : Ss :=
  (.cons (.asg (.n 2) (.dic [] .nil))
  (.cons (.for_ (.n 3) (.of (.v 1)) b_untouched_1)
  (.cons (.ret (.comp b_untouched_2 (.n 4) (.rng (.cons (.c (.int 3)) .nil)) b_untouched_3 [("own", 4)])) .nil)))
def fd_untouched : FD := ⟨2, 5, b_untouched⟩
abbrev st_whole_piece : Stmt := topS 13
abbrev ps_whole_piece : List Str := ["side", "board", "hand"]
abbrev nn_whole_piece : List Str := ["side", "board", "hand", "cells", "done", "cell", "own", "piece"]
def b_whole_piece_0 : Ss :=
  (.cons (.ifs (.cmp .Eq (.v 6) (.v 2))
    (.cons (.asgI (.v 3) (.v 5) (.c (.bl true))) .nil)
    .nil) .nil)
def b_whole_piece_1 : Ss :=
  (.cons (.asgI (.v 4) (.v 6) (.c (.bl true))) .nil)
def b_whole_piece_2 : Ss :=
  (.cons (.ifs (.cmp .NotIn (.v 5) (.v 4))
    (.cons (.asg (.n 7) (.call i_hanging (.cons (.v 0) (.cons (.v 3) (.cons (.v 5) .nil)))))
    (.cons (.ifs (.cmp .Eq (.call i_untouched (.cons (.v 0) (.cons (.v 7) .nil))) (.lst .nil))
      (.cons (.ret (.v 7)) .nil)
      .nil)
    (.cons (.for_ (.n 6) (.of (.v 7)) b_whole_piece_1) .nil)))
    .nil) .nil)
/-- whole_piece -/
def b_whole_piece : Ss :=
  (.cons (.asg (.n 3) (.dic [] .nil))
  (.cons (.for_ (.t (.cons (.n 5) (.cons (.n 6) .nil))) (.enum (.v 1)) b_whole_piece_0)
  (.cons (.asg (.n 4) (.dic [] .nil))
  (.cons (.lock 3 (.for_ (.n 5) (.keys (.v 3)) b_whole_piece_2))
  (.cons (.ret (.tup .nil)) .nil)))))
def fd_whole_piece : FD := ⟨3, 8, b_whole_piece⟩
abbrev st_owner : Stmt := topS 14
abbrev ps_owner : List Str := ["side", "board"]
abbrev nn_owner : List Str := ["side", "board"]
/-- owner -/
def b_owner : Ss :=
  (.cons (.ret (.bi .int (.cons (.cmp .NotEq (.call i_whole_piece (.cons (.v 0) (.cons (.v 1) (.cons (.c (.int 1)) .nil)))) (.tup .nil)) .nil))) .nil)
def fd_owner : FD := ⟨2, 2, b_owner⟩
abbrev st_L_deck25 : Stmt := topS 16
abbrev ps_L_deck25 : List Str := ["script"]
abbrev nn_L_deck25 : List Str := ["script", "own", "seed", "big"]
def b_L_deck25_0 : Ss :=
  (.cons (.asg (.n 2) (.bin .Mod (.bin .Add (.bin .Add (.bin .Add (.bin .Mult (.v 2) (.c (.int 48271))) (.bin .Mult (.c (.int 5)) (.bi .abs (.cons (.v 1) .nil)))) (.bi .int (.cons (.cmp .Lt (.v 1) (.c (.int 0))) .nil))) (.c (.int 11))) (.c (.int 2147483647))))
  (.cons (.ifs (.cmp .GtE (.bi .abs (.cons (.v 1) .nil)) (.bin .Pow (.c (.int 10)) (.c (.int 12))))
    (.cons (.ex (.me .append (.v 3) (.cons (.bin .Add (.bi .abs (.cons (.v 1) .nil)) (.bi .int (.cons (.cmp .Lt (.v 1) (.c (.int 0))) .nil))) .nil))) .nil)
    .nil) .nil))
/-- _law_deck -/
def b_L_deck25 : Ss :=
  (.cons (.asg (.t (.cons (.n 2) (.cons (.n 3) .nil))) (.tup (.cons (.bin .Add (.c (.int 15724)) (.bin .Mult (.c (.int 13)) (.bi .len (.cons (.v 0) .nil)))) (.cons (.lst .nil) .nil))))
  (.cons (.for_ (.n 1) (.of (.sl (.v 0) .no (.so (.c (.int 60))))) b_L_deck25_0)
  (.cons (.ret (.dic [.inr "seed", .inr "turn", .inr "big"] (.cons (.v 2) (.cons (.c (.int 0)) (.cons (.v 3) .nil))))) .nil)))
def fd_L_deck25 : FD := ⟨1, 4, b_L_deck25⟩
abbrev st_L_draw7 : Stmt := topS 17
abbrev ps_L_draw7 : List Str := ["deck", "many"]
abbrev nn_L_draw7 : List Str := ["deck", "many", "mix", "own"]
/-- _law_draw -/
def b_L_draw7 : Ss :=
  (.cons (.ifs (.cmp .NotEq (.ix (.v 0) (.c (.str "big"))) (.lst .nil))
    (.cons (.asg (.n 3) (.me .pop (.ix (.v 0) (.c (.str "big"))) .nil))
    (.cons (.ifs (.cmp .GtE (.v 3) (.v 1))
      (.cons (.ex (.me .append (.ix (.v 0) (.c (.str "big"))) (.cons (.bin .FloorDiv (.v 3) (.v 1)) .nil))) .nil)
      .nil)
    (.cons (.ret (.bin .Mod (.v 3) (.v 1))) .nil)))
    .nil)
  (.cons (.asgI (.v 0) (.c (.str "turn")) (.bin .Add (.ix (.v 0) (.c (.str "turn"))) (.c (.int 1))))
  (.cons (.asg (.n 2) (.bin .Mod (.bin .Add (.ix (.v 0) (.c (.str "seed"))) (.bin .Mult (.c (.int 69621)) (.ix (.v 0) (.c (.str "turn"))))) (.c (.int 2147483629))))
  (.cons (.asg (.n 2) (.bin .Mod (.bin .Add (.bin .Add (.bin .Mult (.v 2) (.v 2)) (.bin .Mult (.c (.int 40692)) (.ix (.v 0) (.c (.str "turn"))))) (.c (.int 7))) (.c (.int 2147483587))))
  (.cons (.asg (.n 2) (.bin .Mod (.bin .Add (.bin .Mult (.v 2) (.c (.int 16807))) (.ix (.v 0) (.c (.str "seed")))) (.c (.int 2147483563))))
  (.cons (.ret (.bin .Mod (.bin .FloorDiv (.v 2) (.c (.int 32))) (.v 1))) .nil))))))
def fd_L_draw7 : FD := ⟨2, 4, b_L_draw7⟩
abbrev st_L_board2 : Stmt := topS 18
abbrev ps_L_board2 : List Str := ["deck", "many"]
abbrev nn_L_board2 : List Str := ["deck", "many", "way", "cell"]
def b_L_board2_0 : Mi.E :=
  (.call i_L_draw7 (.cons (.v 0) (.cons (.c (.int 2)) .nil)))
def b_L_board2_1 : Mi.E :=
  (.bi .int (.cons (.cmp .Lt (.call i_L_draw7 (.cons (.v 0) (.cons (.c (.int 5)) .nil))) (.c (.int 3))) .nil))
def b_L_board2_2 : Mi.E :=
  (.bi .int (.cons (.cmp .Lt (.call i_L_draw7 (.cons (.v 0) (.cons (.c (.int 9)) .nil))) (.bin .Add (.c (.int 3)) (.v 2))) .nil))
/-- _law_board -/
def b_L_board2 : Ss :=
  (.cons (.asg (.n 2) (.call i_L_draw7 (.cons (.v 0) (.cons (.c (.int 4)) .nil))))
  (.cons (.ifs (.cmp .Eq (.v 2) (.c (.int 0)))
    (.cons (.ret (.bi .tuple (.cons (.comp b_L_board2_0 (.n 3) (.rng (.cons (.v 1) .nil)) .nil [("cell", 3)]) .nil))) .nil)
    .nil)
  (.cons (.ifs (.cmp .Eq (.v 2) (.c (.int 1)))
    (.cons (.ret (.bi .tuple (.cons (.comp b_L_board2_1 (.n 3) (.rng (.cons (.v 1) .nil)) .nil [("cell", 3)]) .nil))) .nil)
    .nil)
  (.cons (.ret (.bi .tuple (.cons (.comp b_L_board2_2 (.n 3) (.rng (.cons (.v 1) .nil)) .nil [("cell", 3)]) .nil))) .nil))))
def fd_L_board2 : FD := ⟨2, 4, b_L_board2⟩
abbrev st_L_spots : Stmt := topS 19
abbrev ps_L_spots : List Str := ["side"]
abbrev nn_L_spots : List Str := ["side", "found", "row", "place"]
def b_L_spots_0 : Mi.E :=
  (.tup (.cons (.v 2) (.cons (.v 3) .nil)))
def b_L_spots_1 : Ss :=
  (.cons (.ex (.me .extend (.v 1) (.cons (.comp b_L_spots_0 (.n 3) (.rng (.cons (.bin .Add (.v 2) (.c (.int 1))) .nil)) .nil [("place", 3)]) .nil))) .nil)
/-- _law_spots -/
def b_L_spots : Ss :=
  (.cons (.asg (.n 1) (.lst .nil))
  (.cons (.for_ (.n 2) (.rng (.cons (.v 0) .nil)) b_L_spots_1)
  (.cons (.ret (.v 1)) .nil)))
def fd_L_spots : FD := ⟨1, 4, b_L_spots⟩
abbrev st_L_web : Stmt := topS 20
abbrev ps_L_web : List Str := ["side"]
abbrev nn_L_web : List Str := ["side", "spots", "found", "row", "place", "around", "number", "spot"]
def b_L_web_0 : Mi.E :=
  (.v 6)
def b_L_web_1 : Es :=
  (.cons (.cmp .In (.v 7) (.v 5)) .nil)
def b_L_web_2 : Ss :=
  (.cons (.asg (.n 5) (.lst (.cons (.tup (.cons (.v 3) (.cons (.bin .Sub (.v 4) (.c (.int 1))) .nil))) (.cons (.tup (.cons (.v 3) (.cons (.bin .Add (.v 4) (.c (.int 1))) .nil))) (.cons (.tup (.cons (.bin .Sub (.v 3) (.c (.int 1))) (.cons (.bin .Sub (.v 4) (.c (.int 1))) .nil))) (.cons (.tup (.cons (.bin .Sub (.v 3) (.c (.int 1))) (.cons (.v 4) .nil))) .nil))))))
  (.cons (.asg (.n 5) (.bin .Add (.v 5) (.lst (.cons (.tup (.cons (.bin .Add (.v 3) (.c (.int 1))) (.cons (.v 4) .nil))) (.cons (.tup (.cons (.bin .Add (.v 3) (.c (.int 1))) (.cons (.bin .Add (.v 4) (.c (.int 1))) .nil))) .nil)))))
  (.cons (.ex (.me .append (.v 2) (.cons (.bi .tuple (.cons (.comp b_L_web_0 (.t (.cons (.n 6) (.cons (.n 7) .nil))) (.enum (.v 1)) b_L_web_1 [("number", 6), ("spot", 7)]) .nil)) .nil))) .nil)))
/-- _law_web -/
def b_L_web : Ss :=
  (.cons (.asg (.t (.cons (.n 1) (.cons (.n 2) .nil))) (.tup (.cons (.call i_L_spots (.cons (.v 0) .nil)) (.cons (.lst .nil) .nil))))
  (.cons (.for_ (.t (.cons (.n 3) (.cons (.n 4) .nil))) (.of (.v 1)) b_L_web_2)
  (.cons (.ret (.v 2)) .nil)))
def fd_L_web : FD := ⟨1, 8, b_L_web⟩
abbrev st_L_edges : Stmt := topS 21
abbrev ps_L_edges : List Str := ["side"]
abbrev nn_L_edges : List Str := ["side", "found", "row", "place", "is_at", "number"]
def b_L_edges_0 : Mi.E :=
  (.v 5)
def b_L_edges_1 : Es :=
  (.cons (.ix (.v 4) (.v 5)) .nil)
def b_L_edges_2 : Ss :=
  (.cons (.asg (.n 4) (.lst (.cons (.cmp .Eq (.v 3) (.c (.int 0))) (.cons (.cmp .Eq (.v 3) (.v 2)) (.cons (.cmp .Eq (.v 2) (.bin .Sub (.v 0) (.c (.int 1)))) .nil)))))
  (.cons (.ex (.me .append (.v 1) (.cons (.bi .tuple (.cons (.comp b_L_edges_0 (.n 5) (.rng (.cons (.c (.int 3)) .nil)) b_L_edges_1 [("number", 5)]) .nil)) .nil))) .nil))
/-- _law_edges -/
def b_L_edges : Ss :=
  (.cons (.asg (.n 1) (.lst .nil))
  (.cons (.for_ (.t (.cons (.n 2) (.cons (.n 3) .nil))) (.of (.call i_L_spots (.cons (.v 0) .nil))) b_L_edges_2)
  (.cons (.ret (.v 1)) .nil)))
def fd_L_edges : FD := ⟨1, 6, b_L_edges⟩
abbrev st_L_lots2 : Stmt := topS 22
abbrev ps_L_lots2 : List Str := ["web", "board", "hand"]
abbrev nn_L_lots2 : List Str := ["web", "board", "hand", "first", "found", "seen", "lot", "at", "other"]
def b_L_lots2_0 : Mi.E :=
  (.cmp .Lt (.v 7) (.bi .len (.cons (.v 6) .nil)))
def b_L_lots2_1 : Ss :=
  (.cons (.ifs (.and (.cmp .Eq (.ix (.v 1) (.v 8)) (.v 2)) (.cmp .NotIn (.v 8) (.v 5)))
    (.cons (.asgI (.v 5) (.v 8) (.c (.bl true)))
    (.cons (.ex (.me .append (.v 6) (.cons (.v 8) .nil))) .nil))
    .nil) .nil)
def b_L_lots2_2 : Ss :=
  (.cons (.for_ (.n 8) (.of (.ix (.v 0) (.ix (.v 6) (.v 7)))) b_L_lots2_1)
  (.cons (.asg (.n 7) (.bin .Add (.v 7) (.c (.int 1)))) .nil))
def b_L_lots2_3 : Ss :=
  (.cons (.ifs (.or (.cmp .NotEq (.ix (.v 1) (.v 3)) (.v 2)) (.cmp .In (.v 3) (.v 5)))
    (.cons .cnt .nil)
    .nil)
  (.cons (.asg (.t (.cons (.n 6) (.cons (.n 7) .nil))) (.tup (.cons (.lst (.cons (.v 3) .nil)) (.cons (.c (.int 0)) .nil))))
  (.cons (.asgI (.v 5) (.v 3) (.c (.bl true)))
  (.cons (.while_ b_L_lots2_0 b_L_lots2_2)
  (.cons (.ex (.me .append (.v 4) (.cons (.bi .sorted (.cons (.v 6) .nil)) .nil))) .nil)))))
/-- _law_lots -/
def b_L_lots2 : Ss :=
  (.cons (.asg (.t (.cons (.n 4) (.cons (.n 5) .nil))) (.tup (.cons (.lst .nil) (.cons (.dic [] .nil) .nil))))
  (.cons (.for_ (.n 3) (.rng (.cons (.bi .len (.cons (.v 1) .nil)) .nil)) b_L_lots2_3)
  (.cons (.ret (.v 4)) .nil)))
def fd_L_lots2 : FD := ⟨3, 9, b_L_lots2⟩
abbrev st_L_is_chain : Stmt := topS 23
abbrev ps_L_is_chain : List Str := ["edges", "lot"]
abbrev nn_L_is_chain : List Str := ["edges", "lot", "side", "cell"]
def b_L_is_chain_0 : Mi.E :=
  (.c (.int 1))
def b_L_is_chain_1 : Es :=
  (.cons (.cmp .In (.v 2) (.ix (.v 0) (.v 3))) .nil)
def b_L_is_chain_2 : Es :=
  (.cons (.cmp .Eq (.comp b_L_is_chain_0 (.n 3) (.of (.v 1)) b_L_is_chain_1 [("cell", 3)]) (.lst .nil)) .nil)
/-- _law_is_chain -/
def b_L_is_chain : Ss :=
  (.cons (.ret (.cmp .Eq (.comp b_L_is_chain_0 (.n 2) (.rng (.cons (.c (.int 3)) .nil)) b_L_is_chain_2 [("side", 2)]) (.lst .nil))) .nil)
def fd_L_is_chain : FD := ⟨2, 4, b_L_is_chain⟩
abbrev st_L_whose : Stmt := topS 24
abbrev ps_L_whose : List Str := ["web", "edges", "board"]
abbrev nn_L_whose : List Str := ["web", "edges", "board", "found", "hand", "lot"]
def b_L_whose_0 : Mi.E :=
  (.c (.int 1))
def b_L_whose_1 : Es :=
  (.cons (.call i_L_is_chain (.cons (.v 1) (.cons (.v 5) .nil))) .nil)
def b_L_whose_2 : Ss :=
  (.cons (.ifs (.cmp .NotEq (.comp b_L_whose_0 (.n 5) (.of (.call i_L_lots2 (.cons (.v 0) (.cons (.v 2) (.cons (.v 4) .nil))))) b_L_whose_1 [("lot", 5)]) (.lst .nil))
    (.cons (.ex (.me .append (.v 3) (.cons (.v 4) .nil))) .nil)
    .nil) .nil)
/-- _law_whose -/
def b_L_whose : Ss :=
  (.cons (.asg (.n 3) (.lst .nil))
  (.cons (.for_ (.n 4) (.of (.tup (.cons (.c (.int 0)) (.cons (.c (.int 1)) .nil)))) b_L_whose_2)
  (.cons (.ret (.v 3)) .nil)))
def fd_L_whose : FD := ⟨3, 6, b_L_whose⟩
abbrev st_L_lesser : Stmt := topS 25
abbrev ps_L_lesser : List Str := ["side", "board"]
abbrev nn_L_lesser : List Str := ["side", "board", "found", "row", "place", "first", "second"]
def b_L_lesser_0 : Ss :=
  (.cons (.asg (.t (.cons (.n 5) (.cons (.n 6) .nil))) (.tup (.cons (.bin .Add (.bin .FloorDiv (.bin .Mult (.v 3) (.bin .Add (.v 3) (.c (.int 1)))) (.c (.int 2))) (.v 4)) (.cons (.bin .Add (.bin .FloorDiv (.bin .Mult (.bin .Add (.v 3) (.c (.int 1))) (.bin .Add (.v 3) (.c (.int 2)))) (.c (.int 2))) (.v 4)) .nil))))
  (.cons (.ex (.me .append (.v 2) (.cons (.bi .int (.cons (.cmp .Gt (.bin .Add (.bin .Add (.ix (.v 1) (.v 5)) (.ix (.v 1) (.v 6))) (.ix (.v 1) (.bin .Add (.v 6) (.c (.int 1))))) (.c (.int 1))) .nil)) .nil))) .nil))
/-- _law_lesser -/
def b_L_lesser : Ss :=
  (.cons (.asg (.n 2) (.lst .nil))
  (.cons (.for_ (.t (.cons (.n 3) (.cons (.n 4) .nil))) (.of (.call i_L_spots (.cons (.bin .Sub (.v 0) (.c (.int 1))) .nil))) b_L_lesser_0)
  (.cons (.ret (.bi .tuple (.cons (.v 2) .nil))) .nil)))
def fd_L_lesser : FD := ⟨2, 7, b_L_lesser⟩
abbrev st_L_is_unfit : Stmt := topS 26
abbrev ps_L_is_unfit : List Str := ["board"]
abbrev nn_L_is_unfit : List Str := ["board"]
/-- _law_is_unfit -/
def b_L_is_unfit : Ss :=
  (.cons (.try_
    (.cons (.ex (.call i_reduced (.cons (.c (.int 1)) (.cons (.v 0) .nil)))) .nil)
   0
    (.cons (.ret (.c (.bl true))) .nil))
  (.cons (.ret (.c (.bl false))) .nil))
def fd_L_is_unfit : FD := ⟨1, 1, b_L_is_unfit⟩
abbrev st_L_is_one : Stmt := topS 27
abbrev ps_L_is_one : List Str := ["side", "web", "edges", "board", "is_more"]
abbrev nn_L_is_one : List Str := ["side", "web", "edges", "board", "is_more", "due", "hands", "stood"]
/-- _law_is_one -/
def b_L_is_one : Ss :=
  (.cons (.asg (.t (.cons (.n 6) (.cons (.n 7) .nil))) (.tup (.cons (.call i_L_whose (.cons (.v 1) (.cons (.v 2) (.cons (.v 3) .nil)))) (.cons (.bi .repr (.cons (.v 3) .nil)) .nil))))
  (.cons (.ifs (.or (.cmp .NotEq (.bi .len (.cons (.v 6) .nil)) (.c (.int 1))) (.cmp .NotEq (.bi .repr (.cons (.lst (.cons (.call i_owner (.cons (.v 0) (.cons (.v 3) .nil))) (.cons (.call i_last_owner (.cons (.v 0) (.cons (.v 3) .nil))) .nil))) .nil)) (.bi .repr (.cons (.lst (.cons (.ix (.v 6) (.c (.int 0))) (.cons (.ix (.v 6) (.c (.int 0))) .nil))) .nil))))
    (.cons (.ret (.c (.bl false))) .nil)
    .nil)
  (.cons (.ifs (.cmp .Eq (.v 0) (.c (.int 1)))
    (.cons (.ret (.and (.call i_L_is_unfit (.cons (.v 3) .nil)) (.cmp .Eq (.bi .repr (.cons (.v 3) .nil)) (.v 7)))) .nil)
    .nil)
  (.cons (.ifs (.not (.v 4))
    (.cons (.ret (.cmp .Eq (.bi .repr (.cons (.v 3) .nil)) (.v 7))) .nil)
    .nil)
  (.cons (.asg (.n 5) (.call i_L_lesser (.cons (.v 0) (.cons (.v 3) .nil))))
  (.cons (.ifs (.or (.cmp .NotEq (.bi .repr (.cons (.call i_reduced (.cons (.v 0) (.cons (.v 3) .nil))) .nil)) (.bi .repr (.cons (.v 5) .nil))) (.cmp .NotEq (.bi .repr (.cons (.v 3) .nil)) (.v 7)))
    (.cons (.ret (.c (.bl false))) .nil)
    .nil)
  (.cons (.ret (.and (.cmp .Eq (.call i_owner (.cons (.bin .Sub (.v 0) (.c (.int 1))) (.cons (.v 5) .nil))) (.ix (.v 6) (.c (.int 0)))) (.cmp .Eq (.call i_last_owner (.cons (.bin .Sub (.v 0) (.c (.int 1))) (.cons (.v 5) .nil))) (.ix (.v 6) (.c (.int 0)))))) .nil)))))))
def fd_L_is_one : FD := ⟨5, 8, b_L_is_one⟩
abbrev st_L_bits : Stmt := topS 28
abbrev ps_L_bits : List Str := ["number", "many"]
abbrev nn_L_bits : List Str := ["number", "many", "cell"]
def b_L_bits_0 : Mi.E :=
  (.bin .BitAnd (.bin .RShift (.v 0) (.v 2)) (.c (.int 1)))
/-- _law_bits -/
def b_L_bits : Ss :=
  (.cons (.ret (.bi .tuple (.cons (.comp b_L_bits_0 (.n 2) (.rng (.cons (.v 1) .nil)) .nil [("cell", 2)]) .nil))) .nil)
def fd_L_bits : FD := ⟨2, 3, b_L_bits⟩
abbrev st_L_is_one_below : Stmt := topS 29
abbrev ps_L_is_one_below : List Str := ["deck", "side"]
abbrev nn_L_is_one_below : List Str := ["deck", "side", "board", "hand", "due"]
def b_L_is_one_below_0 : Mi.E :=
  (.cmp .Gt (.v 1) (.c (.int 1)))
def b_L_is_one_below_1 : Ss :=
  (.cons (.asg (.n 4) (.call i_L_lesser (.cons (.v 1) (.cons (.v 2) .nil))))
  (.cons (.ifs (.cmp .NotEq (.bi .repr (.cons (.call i_reduced (.cons (.v 1) (.cons (.v 2) .nil))) .nil)) (.bi .repr (.cons (.v 4) .nil)))
    (.cons (.ret (.c (.bl false))) .nil)
    .nil)
  (.cons (.asg (.t (.cons (.n 1) (.cons (.n 2) .nil))) (.tup (.cons (.bin .Sub (.v 1) (.c (.int 1))) (.cons (.v 4) .nil)))) .nil)))
/-- _law_is_one_below -/
def b_L_is_one_below : Ss :=
  (.cons (.asg (.n 2) (.call i_L_board2 (.cons (.v 0) (.cons (.bin .FloorDiv (.bin .Mult (.v 1) (.bin .Add (.v 1) (.c (.int 1)))) (.c (.int 2))) .nil))))
  (.cons (.asg (.n 3) (.call i_L_whose (.cons (.call i_L_web (.cons (.v 1) .nil)) (.cons (.call i_L_edges (.cons (.v 1) .nil)) (.cons (.v 2) .nil)))))
  (.cons (.ifs (.cmp .NotEq (.bi .repr (.cons (.lst (.cons (.call i_owner (.cons (.v 1) (.cons (.v 2) .nil))) (.cons (.call i_last_owner (.cons (.v 1) (.cons (.v 2) .nil))) .nil))) .nil)) (.bi .repr (.cons (.bin .Mult (.v 3) (.c (.int 2))) .nil)))
    (.cons (.ret (.c (.bl false))) .nil)
    .nil)
  (.cons (.while_ b_L_is_one_below_0 b_L_is_one_below_1)
  (.cons (.ret (.cmp .Eq (.lst (.cons (.ix (.v 2) (.c (.int 0))) .nil)) (.v 3))) .nil)))))
def fd_L_is_one_below : FD := ⟨2, 5, b_L_is_one_below⟩
abbrev st_Llaw : Stmt := topS 30
abbrev ps_Llaw : List Str := ["script"]
abbrev nn_Llaw : List Str := ["script", "deck", "turn", "side", "many", "number", "first", "web", "edges"]
def b_Llaw_0 : Ss :=
  (.cons (.ifs (.not (.call i_L_is_one (.cons (.v 3) (.cons (.v 7) (.cons (.v 8) (.cons (.call i_L_bits (.cons (.v 5) (.cons (.v 4) .nil))) (.cons (.cmp .Eq (.bin .Mod (.v 5) (.c (.int 4))) (.bin .Mod (.v 3) (.c (.int 4)))) .nil)))))))
    (.cons (.ret (.c (.bl false))) .nil)
    .nil) .nil)
def b_Llaw_1 : Ss :=
  (.cons (.asg (.t (.cons (.n 7) (.cons (.n 8) .nil))) (.tup (.cons (.call i_L_web (.cons (.v 3) .nil)) (.cons (.call i_L_edges (.cons (.v 3) .nil)) .nil))))
  (.cons (.for_ (.n 5) (.rng (.cons (.bin .LShift (.c (.int 1)) (.v 4)) .nil)) b_Llaw_0) .nil))
def b_Llaw_2 : Ss :=
  (.cons (.ifs (.not (.call i_L_is_one (.cons (.c (.int 4)) (.cons (.v 7) (.cons (.v 8) (.cons (.call i_L_bits (.cons (.bin .Mod (.bin .Add (.v 6) (.v 2)) (.c (.int 1024))) (.cons (.c (.int 10)) .nil))) (.cons (.cmp .Eq (.v 2) (.c (.int 3))) .nil)))))))
    (.cons (.ret (.c (.bl false))) .nil)
    .nil) .nil)
/-- law -/
def b_Llaw : Ss :=
  (.cons (.asg (.n 1) (.call i_L_deck25 (.cons (.v 0) .nil)))
  (.cons (.for_ (.t (.cons (.n 3) (.cons (.n 4) .nil))) (.of (.tup (.cons (.tup (.cons (.c (.int 1)) (.cons (.c (.int 1)) .nil))) (.cons (.tup (.cons (.c (.int 2)) (.cons (.c (.int 3)) .nil))) (.cons (.tup (.cons (.c (.int 3)) (.cons (.c (.int 6)) .nil))) .nil))))) b_Llaw_1)
  (.cons (.asg (.t (.cons (.n 6) (.cons (.n 7) (.cons (.n 8) .nil)))) (.tup (.cons (.call i_L_draw7 (.cons (.v 1) (.cons (.c (.int 1024)) .nil))) (.cons (.call i_L_web (.cons (.c (.int 4)) .nil)) (.cons (.call i_L_edges (.cons (.c (.int 4)) .nil)) .nil)))))
  (.cons (.for_ (.n 2) (.rng (.cons (.c (.int 8)) .nil)) b_Llaw_2)
  (.cons (.ret (.and (.call i_L_is_one_below (.cons (.v 1) (.cons (.bin .Add (.c (.int 5)) (.call i_L_draw7 (.cons (.v 1) (.cons (.c (.int 4)) .nil)))) .nil))) (.call i_L_is_one_below (.cons (.v 1) (.cons (.bin .Add (.c (.int 9)) (.call i_L_draw7 (.cons (.v 1) (.cons (.c (.int 4)) .nil)))) .nil))))) .nil)))))
def fd_Llaw : FD := ⟨1, 9, b_Llaw⟩
def tabL : List FD := [fd_number_at_triangles, fd_row_place, fd_near, fd_touches, fd_reduced, fd_last_owner, fd_hanging, fd_untouched, fd_whole_piece, fd_owner, fd_L_deck25, fd_L_draw7, fd_L_board2, fd_L_spots, fd_L_web, fd_L_edges, fd_L_lots2, fd_L_is_chain, fd_L_whose, fd_L_lesser, fd_L_is_unfit, fd_L_is_one, fd_L_bits, fd_L_is_one_below, fd_Llaw]
def tab : Nat → Option FD := fun i => tabL[i]?
def fnsL : List (Str × List Str) := [("number_at", ps_number_at_triangles), ("row_place", ps_row_place), ("near", ps_near), ("touches", ps_touches), ("reduced", ps_reduced), ("last_owner", ps_last_owner), ("hanging", ps_hanging), ("untouched", ps_untouched), ("whole_piece", ps_whole_piece), ("owner", ps_owner), ("_law_deck", ps_L_deck25), ("_law_draw", ps_L_draw7), ("_law_board", ps_L_board2), ("_law_spots", ps_L_spots), ("_law_web", ps_L_web), ("_law_edges", ps_L_edges), ("_law_lots", ps_L_lots2), ("_law_is_chain", ps_L_is_chain), ("_law_whose", ps_L_whose), ("_law_lesser", ps_L_lesser), ("_law_is_unfit", ps_L_is_unfit), ("_law_is_one", ps_L_is_one), ("_law_bits", ps_L_bits), ("_law_is_one_below", ps_L_is_one_below), ("law", ps_Llaw)]
def cnsL : List (Str × D) := []
def exsL : List Str := ["Unfit"]
/-- which errors are under which -/
def subT : List (Str × Nat) := [("Unfit", 0)]
def xs0 (K : Nat) : Xs := ⟨fun c => (exsL[c]?).map fun x => (x, []), fun y c => subT.contains (y, c), K⟩
@[simp] theorem xs0_wf (K : Nat) : (xs0 K).wf = K := rfl
def tb : Tb := ⟨fnsL, cnsL, ["tuple", "range", "int", "sorted", "enumerate", "len", "abs", "repr"], [], exsL⟩
def gg : Nat → Option D := fun i => (cnsL[i]?).map (·.2)
theorem tx_number_at_triangles : TxtOk tb ps_number_at_triangles st_number_at_triangles nn_number_at_triangles fd_number_at_triangles := ⟨⟨rfl, rfl, rfl, by decide +kernel, rfl, by decide +kernel, by decide +kernel⟩, rfl, rfl, by decide +kernel⟩
theorem tx_row_place : TxtOk tb ps_row_place st_row_place nn_row_place fd_row_place := ⟨⟨rfl, rfl, rfl, by decide +kernel, rfl, by decide +kernel, by decide +kernel⟩, rfl, rfl, by decide +kernel⟩
theorem tx_near : TxtOk tb ps_near st_near nn_near fd_near := ⟨⟨rfl, rfl, rfl, by decide +kernel, rfl, by decide +kernel, by decide +kernel⟩, rfl, rfl, by decide +kernel⟩
theorem tx_touches : TxtOk tb ps_touches st_touches nn_touches fd_touches := ⟨⟨rfl, rfl, rfl, by decide +kernel, rfl, by decide +kernel, by decide +kernel⟩, rfl, rfl, by decide +kernel⟩
theorem tx_reduced : TxtOk tb ps_reduced st_reduced nn_reduced fd_reduced := ⟨⟨rfl, rfl, rfl, by decide +kernel, rfl, by decide +kernel, by decide +kernel⟩, rfl, rfl, by decide +kernel⟩
theorem tx_last_owner : TxtOk tb ps_last_owner st_last_owner nn_last_owner fd_last_owner := ⟨⟨rfl, rfl, rfl, by decide +kernel, rfl, by decide +kernel, by decide +kernel⟩, rfl, rfl, by decide +kernel⟩
theorem tx_hanging : TxtOk tb ps_hanging st_hanging nn_hanging fd_hanging := ⟨⟨rfl, rfl, rfl, by decide +kernel, rfl, by decide +kernel, by decide +kernel⟩, rfl, rfl, by decide +kernel⟩
theorem tx_untouched : TxtOk tb ps_untouched st_untouched nn_untouched fd_untouched := ⟨⟨rfl, rfl, rfl, by decide +kernel, rfl, by decide +kernel, by decide +kernel⟩, rfl, rfl, by decide +kernel⟩
theorem tx_whole_piece : TxtOk tb ps_whole_piece st_whole_piece nn_whole_piece fd_whole_piece := ⟨⟨rfl, rfl, rfl, by decide +kernel, rfl, by decide +kernel, by decide +kernel⟩, rfl, rfl, by decide +kernel⟩
theorem tx_owner : TxtOk tb ps_owner st_owner nn_owner fd_owner := ⟨⟨rfl, rfl, rfl, by decide +kernel, rfl, by decide +kernel, by decide +kernel⟩, rfl, rfl, by decide +kernel⟩
theorem tx_L_deck25 : TxtOk tb ps_L_deck25 st_L_deck25 nn_L_deck25 fd_L_deck25 := ⟨⟨rfl, rfl, rfl, by decide +kernel, rfl, by decide +kernel, by decide +kernel⟩, rfl, rfl, by decide +kernel⟩
theorem tx_L_draw7 : TxtOk tb ps_L_draw7 st_L_draw7 nn_L_draw7 fd_L_draw7 := ⟨⟨rfl, rfl, rfl, by decide +kernel, rfl, by decide +kernel, by decide +kernel⟩, rfl, rfl, by decide +kernel⟩
theorem tx_L_board2 : TxtOk tb ps_L_board2 st_L_board2 nn_L_board2 fd_L_board2 := ⟨⟨rfl, rfl, rfl, by decide +kernel, rfl, by decide +kernel, by decide +kernel⟩, rfl, rfl, by decide +kernel⟩
theorem tx_L_spots : TxtOk tb ps_L_spots st_L_spots nn_L_spots fd_L_spots := ⟨⟨rfl, rfl, rfl, by decide +kernel, rfl, by decide +kernel, by decide +kernel⟩, rfl, rfl, by decide +kernel⟩
theorem tx_L_web : TxtOk tb ps_L_web st_L_web nn_L_web fd_L_web := ⟨⟨rfl, rfl, rfl, by decide +kernel, rfl, by decide +kernel, by decide +kernel⟩, rfl, rfl, by decide +kernel⟩
theorem tx_L_edges : TxtOk tb ps_L_edges st_L_edges nn_L_edges fd_L_edges := ⟨⟨rfl, rfl, rfl, by decide +kernel, rfl, by decide +kernel, by decide +kernel⟩, rfl, rfl, by decide +kernel⟩
theorem tx_L_lots2 : TxtOk tb ps_L_lots2 st_L_lots2 nn_L_lots2 fd_L_lots2 := ⟨⟨rfl, rfl, rfl, by decide +kernel, rfl, by decide +kernel, by decide +kernel⟩, rfl, rfl, by decide +kernel⟩
theorem tx_L_is_chain : TxtOk tb ps_L_is_chain st_L_is_chain nn_L_is_chain fd_L_is_chain := ⟨⟨rfl, rfl, rfl, by decide +kernel, rfl, by decide +kernel, by decide +kernel⟩, rfl, rfl, by decide +kernel⟩
theorem tx_L_whose : TxtOk tb ps_L_whose st_L_whose nn_L_whose fd_L_whose := ⟨⟨rfl, rfl, rfl, by decide +kernel, rfl, by decide +kernel, by decide +kernel⟩, rfl, rfl, by decide +kernel⟩
theorem tx_L_lesser : TxtOk tb ps_L_lesser st_L_lesser nn_L_lesser fd_L_lesser := ⟨⟨rfl, rfl, rfl, by decide +kernel, rfl, by decide +kernel, by decide +kernel⟩, rfl, rfl, by decide +kernel⟩
theorem tx_L_is_unfit : TxtOk tb ps_L_is_unfit st_L_is_unfit nn_L_is_unfit fd_L_is_unfit := ⟨⟨rfl, rfl, rfl, by decide +kernel, rfl, by decide +kernel, by decide +kernel⟩, rfl, rfl, by decide +kernel⟩
theorem tx_L_is_one : TxtOk tb ps_L_is_one st_L_is_one nn_L_is_one fd_L_is_one := ⟨⟨rfl, rfl, rfl, by decide +kernel, rfl, by decide +kernel, by decide +kernel⟩, rfl, rfl, by decide +kernel⟩
theorem tx_L_bits : TxtOk tb ps_L_bits st_L_bits nn_L_bits fd_L_bits := ⟨⟨rfl, rfl, rfl, by decide +kernel, rfl, by decide +kernel, by decide +kernel⟩, rfl, rfl, by decide +kernel⟩
theorem tx_L_is_one_below : TxtOk tb ps_L_is_one_below st_L_is_one_below nn_L_is_one_below fd_L_is_one_below := ⟨⟨rfl, rfl, rfl, by decide +kernel, rfl, by decide +kernel, by decide +kernel⟩, rfl, rfl, by decide +kernel⟩
theorem tx_Llaw : TxtOk tb ps_Llaw st_Llaw nn_Llaw fd_Llaw := ⟨⟨rfl, rfl, rfl, by decide +kernel, rfl, by decide +kernel, by decide +kernel⟩, rfl, rfl, by decide +kernel⟩
abbrev xi_Unfit : Stmt := initS (topS 2)
/-! ### what the top has written -/
set_option maxHeartbeats 0 in
theorem prog_mk (Kw : Nat) {K : PySem.W.Frag} {h : Heap} {mg : Str → Option Value} (X : K.In h) (G : h.Ns mainGlobals mg)
    {od0 an0 : Option Addr} {sl0 : Array (Option Value)} {oc0 kV0 dc0 pm0 cd0 ct0 : Value} {f0 : Addr}
    {od1 an1 : Option Addr} {sl1 : Array (Option Value)} {oc1 kV1 dc1 pm1 cd1 ct1 : Value} {f1 : Addr}
    {od2 an2 : Option Addr} {sl2 : Array (Option Value)} {oc2 kV2 dc2 pm2 cd2 ct2 : Value} {f2 : Addr}
    {od3 an3 : Option Addr} {sl3 : Array (Option Value)} {oc3 kV3 dc3 pm3 cd3 ct3 : Value} {f3 : Addr}
    {od4 an4 : Option Addr} {sl4 : Array (Option Value)} {oc4 kV4 dc4 pm4 cd4 ct4 : Value} {f4 : Addr}
    {od5 an5 : Option Addr} {sl5 : Array (Option Value)} {oc5 kV5 dc5 pm5 cd5 ct5 : Value} {f5 : Addr}
    {od6 an6 : Option Addr} {sl6 : Array (Option Value)} {oc6 kV6 dc6 pm6 cd6 ct6 : Value} {f6 : Addr}
    {od7 an7 : Option Addr} {sl7 : Array (Option Value)} {oc7 kV7 dc7 pm7 cd7 ct7 : Value} {f7 : Addr}
    {od8 an8 : Option Addr} {sl8 : Array (Option Value)} {oc8 kV8 dc8 pm8 cd8 ct8 : Value} {f8 : Addr}
    {od9 an9 : Option Addr} {sl9 : Array (Option Value)} {oc9 kV9 dc9 pm9 cd9 ct9 : Value} {f9 : Addr}
    {od10 an10 : Option Addr} {sl10 : Array (Option Value)} {oc10 kV10 dc10 pm10 cd10 ct10 : Value} {f10 : Addr}
    {od11 an11 : Option Addr} {sl11 : Array (Option Value)} {oc11 kV11 dc11 pm11 cd11 ct11 : Value} {f11 : Addr}
    {od12 an12 : Option Addr} {sl12 : Array (Option Value)} {oc12 kV12 dc12 pm12 cd12 ct12 : Value} {f12 : Addr}
    {od13 an13 : Option Addr} {sl13 : Array (Option Value)} {oc13 kV13 dc13 pm13 cd13 ct13 : Value} {f13 : Addr}
    {od14 an14 : Option Addr} {sl14 : Array (Option Value)} {oc14 kV14 dc14 pm14 cd14 ct14 : Value} {f14 : Addr}
    {od15 an15 : Option Addr} {sl15 : Array (Option Value)} {oc15 kV15 dc15 pm15 cd15 ct15 : Value} {f15 : Addr}
    {od16 an16 : Option Addr} {sl16 : Array (Option Value)} {oc16 kV16 dc16 pm16 cd16 ct16 : Value} {f16 : Addr}
    {od17 an17 : Option Addr} {sl17 : Array (Option Value)} {oc17 kV17 dc17 pm17 cd17 ct17 : Value} {f17 : Addr}
    {od18 an18 : Option Addr} {sl18 : Array (Option Value)} {oc18 kV18 dc18 pm18 cd18 ct18 : Value} {f18 : Addr}
    {od19 an19 : Option Addr} {sl19 : Array (Option Value)} {oc19 kV19 dc19 pm19 cd19 ct19 : Value} {f19 : Addr}
    {od20 an20 : Option Addr} {sl20 : Array (Option Value)} {oc20 kV20 dc20 pm20 cd20 ct20 : Value} {f20 : Addr}
    {od21 an21 : Option Addr} {sl21 : Array (Option Value)} {oc21 kV21 dc21 pm21 cd21 ct21 : Value} {f21 : Addr}
    {od22 an22 : Option Addr} {sl22 : Array (Option Value)} {oc22 kV22 dc22 pm22 cd22 ct22 : Value} {f22 : Addr}
    {od23 an23 : Option Addr} {sl23 : Array (Option Value)} {oc23 kV23 dc23 pm23 cd23 ct23 : Value} {f23 : Addr}
    {od24 an24 : Option Addr} {sl24 : Array (Option Value)} {oc24 kV24 dc24 pm24 cd24 ct24 : Value} {f24 : Addr}
    (a0 : PySem.W.nsIn K mainGlobals "number_at" = some (some (.ref f0))) (l0 : K.lookup f0 = some ⟨oc0, od0, .func (PySem.W.fnOf "number_at" "number_at" (defArgs st_number_at_triangles) (defBody st_number_at_triangles) (defScope st_number_at_triangles) .none kV0 dc0 pm0 an0 cd0 ct0), sl0⟩) (c0 : PySem.W.codeIn K cd0 "number_at" = true) (k0 : PySem.W.keepIn K (.ref f0) = true)
    (a1 : PySem.W.nsIn K mainGlobals "row_place" = some (some (.ref f1))) (l1 : K.lookup f1 = some ⟨oc1, od1, .func (PySem.W.fnOf "row_place" "row_place" (defArgs st_row_place) (defBody st_row_place) (defScope st_row_place) .none kV1 dc1 pm1 an1 cd1 ct1), sl1⟩) (c1 : PySem.W.codeIn K cd1 "row_place" = true) (k1 : PySem.W.keepIn K (.ref f1) = true)
    (a2 : PySem.W.nsIn K mainGlobals "near" = some (some (.ref f2))) (l2 : K.lookup f2 = some ⟨oc2, od2, .func (PySem.W.fnOf "near" "near" (defArgs st_near) (defBody st_near) (defScope st_near) .none kV2 dc2 pm2 an2 cd2 ct2), sl2⟩) (c2 : PySem.W.codeIn K cd2 "near" = true) (k2 : PySem.W.keepIn K (.ref f2) = true)
    (a3 : PySem.W.nsIn K mainGlobals "touches" = some (some (.ref f3))) (l3 : K.lookup f3 = some ⟨oc3, od3, .func (PySem.W.fnOf "touches" "touches" (defArgs st_touches) (defBody st_touches) (defScope st_touches) .none kV3 dc3 pm3 an3 cd3 ct3), sl3⟩) (c3 : PySem.W.codeIn K cd3 "touches" = true) (k3 : PySem.W.keepIn K (.ref f3) = true)
    (a4 : PySem.W.nsIn K mainGlobals "reduced" = some (some (.ref f4))) (l4 : K.lookup f4 = some ⟨oc4, od4, .func (PySem.W.fnOf "reduced" "reduced" (defArgs st_reduced) (defBody st_reduced) (defScope st_reduced) .none kV4 dc4 pm4 an4 cd4 ct4), sl4⟩) (c4 : PySem.W.codeIn K cd4 "reduced" = true) (k4 : PySem.W.keepIn K (.ref f4) = true)
    (a5 : PySem.W.nsIn K mainGlobals "last_owner" = some (some (.ref f5))) (l5 : K.lookup f5 = some ⟨oc5, od5, .func (PySem.W.fnOf "last_owner" "last_owner" (defArgs st_last_owner) (defBody st_last_owner) (defScope st_last_owner) .none kV5 dc5 pm5 an5 cd5 ct5), sl5⟩) (c5 : PySem.W.codeIn K cd5 "last_owner" = true) (k5 : PySem.W.keepIn K (.ref f5) = true)
    (a6 : PySem.W.nsIn K mainGlobals "hanging" = some (some (.ref f6))) (l6 : K.lookup f6 = some ⟨oc6, od6, .func (PySem.W.fnOf "hanging" "hanging" (defArgs st_hanging) (defBody st_hanging) (defScope st_hanging) .none kV6 dc6 pm6 an6 cd6 ct6), sl6⟩) (c6 : PySem.W.codeIn K cd6 "hanging" = true) (k6 : PySem.W.keepIn K (.ref f6) = true)
    (a7 : PySem.W.nsIn K mainGlobals "untouched" = some (some (.ref f7))) (l7 : K.lookup f7 = some ⟨oc7, od7, .func (PySem.W.fnOf "untouched" "untouched" (defArgs st_untouched) (defBody st_untouched) (defScope st_untouched) .none kV7 dc7 pm7 an7 cd7 ct7), sl7⟩) (c7 : PySem.W.codeIn K cd7 "untouched" = true) (k7 : PySem.W.keepIn K (.ref f7) = true)
    (a8 : PySem.W.nsIn K mainGlobals "whole_piece" = some (some (.ref f8))) (l8 : K.lookup f8 = some ⟨oc8, od8, .func (PySem.W.fnOf "whole_piece" "whole_piece" (defArgs st_whole_piece) (defBody st_whole_piece) (defScope st_whole_piece) .none kV8 dc8 pm8 an8 cd8 ct8), sl8⟩) (c8 : PySem.W.codeIn K cd8 "whole_piece" = true) (k8 : PySem.W.keepIn K (.ref f8) = true)
    (a9 : PySem.W.nsIn K mainGlobals "owner" = some (some (.ref f9))) (l9 : K.lookup f9 = some ⟨oc9, od9, .func (PySem.W.fnOf "owner" "owner" (defArgs st_owner) (defBody st_owner) (defScope st_owner) .none kV9 dc9 pm9 an9 cd9 ct9), sl9⟩) (c9 : PySem.W.codeIn K cd9 "owner" = true) (k9 : PySem.W.keepIn K (.ref f9) = true)
    (a10 : PySem.W.nsIn K mainGlobals "_law_deck" = some (some (.ref f10))) (l10 : K.lookup f10 = some ⟨oc10, od10, .func (PySem.W.fnOf "_law_deck" "_law_deck" (defArgs st_L_deck25) (defBody st_L_deck25) (defScope st_L_deck25) .none kV10 dc10 pm10 an10 cd10 ct10), sl10⟩) (c10 : PySem.W.codeIn K cd10 "_law_deck" = true) (k10 : PySem.W.keepIn K (.ref f10) = true)
    (a11 : PySem.W.nsIn K mainGlobals "_law_draw" = some (some (.ref f11))) (l11 : K.lookup f11 = some ⟨oc11, od11, .func (PySem.W.fnOf "_law_draw" "_law_draw" (defArgs st_L_draw7) (defBody st_L_draw7) (defScope st_L_draw7) .none kV11 dc11 pm11 an11 cd11 ct11), sl11⟩) (c11 : PySem.W.codeIn K cd11 "_law_draw" = true) (k11 : PySem.W.keepIn K (.ref f11) = true)
    (a12 : PySem.W.nsIn K mainGlobals "_law_board" = some (some (.ref f12))) (l12 : K.lookup f12 = some ⟨oc12, od12, .func (PySem.W.fnOf "_law_board" "_law_board" (defArgs st_L_board2) (defBody st_L_board2) (defScope st_L_board2) .none kV12 dc12 pm12 an12 cd12 ct12), sl12⟩) (c12 : PySem.W.codeIn K cd12 "_law_board" = true) (k12 : PySem.W.keepIn K (.ref f12) = true)
    (a13 : PySem.W.nsIn K mainGlobals "_law_spots" = some (some (.ref f13))) (l13 : K.lookup f13 = some ⟨oc13, od13, .func (PySem.W.fnOf "_law_spots" "_law_spots" (defArgs st_L_spots) (defBody st_L_spots) (defScope st_L_spots) .none kV13 dc13 pm13 an13 cd13 ct13), sl13⟩) (c13 : PySem.W.codeIn K cd13 "_law_spots" = true) (k13 : PySem.W.keepIn K (.ref f13) = true)
    (a14 : PySem.W.nsIn K mainGlobals "_law_web" = some (some (.ref f14))) (l14 : K.lookup f14 = some ⟨oc14, od14, .func (PySem.W.fnOf "_law_web" "_law_web" (defArgs st_L_web) (defBody st_L_web) (defScope st_L_web) .none kV14 dc14 pm14 an14 cd14 ct14), sl14⟩) (c14 : PySem.W.codeIn K cd14 "_law_web" = true) (k14 : PySem.W.keepIn K (.ref f14) = true)
    (a15 : PySem.W.nsIn K mainGlobals "_law_edges" = some (some (.ref f15))) (l15 : K.lookup f15 = some ⟨oc15, od15, .func (PySem.W.fnOf "_law_edges" "_law_edges" (defArgs st_L_edges) (defBody st_L_edges) (defScope st_L_edges) .none kV15 dc15 pm15 an15 cd15 ct15), sl15⟩) (c15 : PySem.W.codeIn K cd15 "_law_edges" = true) (k15 : PySem.W.keepIn K (.ref f15) = true)
    (a16 : PySem.W.nsIn K mainGlobals "_law_lots" = some (some (.ref f16))) (l16 : K.lookup f16 = some ⟨oc16, od16, .func (PySem.W.fnOf "_law_lots" "_law_lots" (defArgs st_L_lots2) (defBody st_L_lots2) (defScope st_L_lots2) .none kV16 dc16 pm16 an16 cd16 ct16), sl16⟩) (c16 : PySem.W.codeIn K cd16 "_law_lots" = true) (k16 : PySem.W.keepIn K (.ref f16) = true)
    (a17 : PySem.W.nsIn K mainGlobals "_law_is_chain" = some (some (.ref f17))) (l17 : K.lookup f17 = some ⟨oc17, od17, .func (PySem.W.fnOf "_law_is_chain" "_law_is_chain" (defArgs st_L_is_chain) (defBody st_L_is_chain) (defScope st_L_is_chain) .none kV17 dc17 pm17 an17 cd17 ct17), sl17⟩) (c17 : PySem.W.codeIn K cd17 "_law_is_chain" = true) (k17 : PySem.W.keepIn K (.ref f17) = true)
    (a18 : PySem.W.nsIn K mainGlobals "_law_whose" = some (some (.ref f18))) (l18 : K.lookup f18 = some ⟨oc18, od18, .func (PySem.W.fnOf "_law_whose" "_law_whose" (defArgs st_L_whose) (defBody st_L_whose) (defScope st_L_whose) .none kV18 dc18 pm18 an18 cd18 ct18), sl18⟩) (c18 : PySem.W.codeIn K cd18 "_law_whose" = true) (k18 : PySem.W.keepIn K (.ref f18) = true)
    (a19 : PySem.W.nsIn K mainGlobals "_law_lesser" = some (some (.ref f19))) (l19 : K.lookup f19 = some ⟨oc19, od19, .func (PySem.W.fnOf "_law_lesser" "_law_lesser" (defArgs st_L_lesser) (defBody st_L_lesser) (defScope st_L_lesser) .none kV19 dc19 pm19 an19 cd19 ct19), sl19⟩) (c19 : PySem.W.codeIn K cd19 "_law_lesser" = true) (k19 : PySem.W.keepIn K (.ref f19) = true)
    (a20 : PySem.W.nsIn K mainGlobals "_law_is_unfit" = some (some (.ref f20))) (l20 : K.lookup f20 = some ⟨oc20, od20, .func (PySem.W.fnOf "_law_is_unfit" "_law_is_unfit" (defArgs st_L_is_unfit) (defBody st_L_is_unfit) (defScope st_L_is_unfit) .none kV20 dc20 pm20 an20 cd20 ct20), sl20⟩) (c20 : PySem.W.codeIn K cd20 "_law_is_unfit" = true) (k20 : PySem.W.keepIn K (.ref f20) = true)
    (a21 : PySem.W.nsIn K mainGlobals "_law_is_one" = some (some (.ref f21))) (l21 : K.lookup f21 = some ⟨oc21, od21, .func (PySem.W.fnOf "_law_is_one" "_law_is_one" (defArgs st_L_is_one) (defBody st_L_is_one) (defScope st_L_is_one) .none kV21 dc21 pm21 an21 cd21 ct21), sl21⟩) (c21 : PySem.W.codeIn K cd21 "_law_is_one" = true) (k21 : PySem.W.keepIn K (.ref f21) = true)
    (a22 : PySem.W.nsIn K mainGlobals "_law_bits" = some (some (.ref f22))) (l22 : K.lookup f22 = some ⟨oc22, od22, .func (PySem.W.fnOf "_law_bits" "_law_bits" (defArgs st_L_bits) (defBody st_L_bits) (defScope st_L_bits) .none kV22 dc22 pm22 an22 cd22 ct22), sl22⟩) (c22 : PySem.W.codeIn K cd22 "_law_bits" = true) (k22 : PySem.W.keepIn K (.ref f22) = true)
    (a23 : PySem.W.nsIn K mainGlobals "_law_is_one_below" = some (some (.ref f23))) (l23 : K.lookup f23 = some ⟨oc23, od23, .func (PySem.W.fnOf "_law_is_one_below" "_law_is_one_below" (defArgs st_L_is_one_below) (defBody st_L_is_one_below) (defScope st_L_is_one_below) .none kV23 dc23 pm23 an23 cd23 ct23), sl23⟩) (c23 : PySem.W.codeIn K cd23 "_law_is_one_below" = true) (k23 : PySem.W.keepIn K (.ref f23) = true)
    (a24 : PySem.W.nsIn K mainGlobals "law" = some (some (.ref f24))) (l24 : K.lookup f24 = some ⟨oc24, od24, .func (PySem.W.fnOf "law" "law" (defArgs st_Llaw) (defBody st_Llaw) (defScope st_Llaw) .none kV24 dc24 pm24 an24 cd24 ct24), sl24⟩) (c24 : PySem.W.codeIn K cd24 "law" = true) (k24 : PySem.W.keepIn K (.ref f24) = true)
    (z0 : PySem.W.nsIn K mainGlobals "tuple" = some none)
    (z1 : PySem.W.nsIn K mainGlobals "range" = some none)
    (z2 : PySem.W.nsIn K mainGlobals "int" = some none)
    (z3 : PySem.W.nsIn K mainGlobals "sorted" = some none)
    (z4 : PySem.W.nsIn K mainGlobals "enumerate" = some none)
    (z5 : PySem.W.nsIn K mainGlobals "len" = some none)
    (z6 : PySem.W.nsIn K mainGlobals "abs" = some none)
    (z7 : PySem.W.nsIn K mainGlobals "repr" = some none)
    {XC0 XF0 Xcc0 Xcda0 XN0 : Addr} {Xnm0 Xq0 Xfile0 : Str} {Xbs0 Xbm0 Xsub0 : List Value} {Xsn0 : List Str} {Xab0 : Bool} {Xcol0 : Option Bool} {Xdd0 Xod0 Xan0 Xcdd0 Xcld0 : Option Addr} {Xk00 Xk10 Xk20 Xk30 Xk50 : Option Value} {XkV0 Xdoc0 Xpm0 Xct0 Xoc0 Xccl0 Xcl0 : Value} {Xsl0 Xccs0 Xcsl0 : Array (Option Value)} {Xvs0 : Array Value} {Xtf0 : Tok}
    (xa0 : PySem.W.nsIn K mainGlobals "Unfit" = some (some (.ref XC0))) (xo0 : K.lookup XC0 = some (excClassObj Xnm0 Xq0 XC0 XN0 Xbs0 Xbm0 true Xsn0 Xsub0 Xab0 Xcol0 Xdd0 Xk00 Xk10 Xk20 Xk30 Xk50 "ValueError.__new__")) (xr0 : PySem.HandSPX.refsVE Xbm0 = true)
    (xb0 : PySem.W.findIn K (.ref XC0) "__setattr__" = some (some (.builtin "object.__setattr__"))) (xe0 : PySem.W.subIn K (.ref XC0) (.type "BaseException") = some true) (xt0 : PySem.W.typeIn K (.ref XC0) = some (.type "type")) (xk0 : PySem.W.keepIn K (.ref XC0) = true)
    (xi0 : PySem.W.findIn K (.ref XC0) "__init__" = some (some (.ref XF0))) (xu0 : PySem.W.typeIn K (.ref XF0) = some (.type "function"))
    (xl0 : K.lookup XF0 = some ⟨Xoc0, Xod0, .func (PySem.W.ksFn "__init__" "Unfit.__init__" (defArgs xi_Unfit) (defBody xi_Unfit) (defScope xi_Unfit) .none XkV0 Xdoc0 Xpm0 Xan0 (.ref Xcda0) Xct0 Xcc0), Xsl0⟩) (xd0 : PySem.W.codeIn K (.ref Xcda0) "Unfit.__init__" = true)
    (xj0 : K.lookup Xcda0 = some ⟨Xccl0, Xcdd0, .fields Xvs0, Xccs0⟩) (xv0 : Xvs0[2]? = some (.str Xfile0 Xtf0)) (xf0 : ((PySem.Challenge.rw_drawnturns_k60_whole_main_just_one_has_a.prog.main.file : Str) == Xfile0) = true) (xw0 : K.lookup Xcc0 = some ⟨Xcl0, Xcld0, .cell (some (.ref XC0)), Xcsl0⟩)
    (xm0 : PySem.W.mroIn K XC0 (.ref XC0) = some true) (xp0 : PySem.W.ks_superIn K XC0 XC0 "__init__" = some (some (.builtin "ValueError.__init__"))) (xy0 : PySem.W.subIn K (.ref XC0) (.type "ValueError") = some true) (xz0 : PySem.W.nsIn K cStatics "thirdparty.any" = some none) (xg0 : PySem.W.nsIn K mainGlobals "super" = some none)
    (xx0_0 : PySem.W.exmOne K (.ref XC0) (.ref XC0) = some true) :
    ProgOk PySem.Challenge.rw_drawnturns_k60_whole_main_just_one_has_a.prog (xs0 Kw) ⟨K, xcOf K exsL⟩ mg tb gg tab := by
  refine ⟨fun i x ps e => ?_, fun i x d e => ?_, fun x hx => ?_, fun c x e => ?_⟩
  · match i, e with
    | 0, e =>
      cases e
      exact ⟨f0, _, PySem.W.mg_of X G a0, ⟨"number_at", st_number_at_triangles, nn_number_at_triangles, fd_number_at_triangles, fun_mk (st := st_number_at_triangles) l0 c0 k0, rfl, tx_number_at_triangles⟩, fun s us hl => match us, hl with | [_, _], _ => .of_eq rfl, fun n ks pm hk => absurd hk (by simp [tb])⟩
    | 1, e =>
      cases e
      exact ⟨f1, _, PySem.W.mg_of X G a1, ⟨"row_place", st_row_place, nn_row_place, fd_row_place, fun_mk (st := st_row_place) l1 c1 k1, rfl, tx_row_place⟩, fun s us hl => match us, hl with | [_], _ => .of_eq rfl, fun n ks pm hk => absurd hk (by simp [tb])⟩
    | 2, e =>
      cases e
      exact ⟨f2, _, PySem.W.mg_of X G a2, ⟨"near", st_near, nn_near, fd_near, fun_mk (st := st_near) l2 c2 k2, rfl, tx_near⟩, fun s us hl => match us, hl with | [_, _], _ => .of_eq rfl, fun n ks pm hk => absurd hk (by simp [tb])⟩
    | 3, e =>
      cases e
      exact ⟨f3, _, PySem.W.mg_of X G a3, ⟨"touches", st_touches, nn_touches, fd_touches, fun_mk (st := st_touches) l3 c3 k3, rfl, tx_touches⟩, fun s us hl => match us, hl with | [_, _], _ => .of_eq rfl, fun n ks pm hk => absurd hk (by simp [tb])⟩
    | 4, e =>
      cases e
      exact ⟨f4, _, PySem.W.mg_of X G a4, ⟨"reduced", st_reduced, nn_reduced, fd_reduced, fun_mk (st := st_reduced) l4 c4 k4, rfl, tx_reduced⟩, fun s us hl => match us, hl with | [_, _], _ => .of_eq rfl, fun n ks pm hk => absurd hk (by simp [tb])⟩
    | 5, e =>
      cases e
      exact ⟨f5, _, PySem.W.mg_of X G a5, ⟨"last_owner", st_last_owner, nn_last_owner, fd_last_owner, fun_mk (st := st_last_owner) l5 c5 k5, rfl, tx_last_owner⟩, fun s us hl => match us, hl with | [_, _], _ => .of_eq rfl, fun n ks pm hk => absurd hk (by simp [tb])⟩
    | 6, e =>
      cases e
      exact ⟨f6, _, PySem.W.mg_of X G a6, ⟨"hanging", st_hanging, nn_hanging, fd_hanging, fun_mk (st := st_hanging) l6 c6 k6, rfl, tx_hanging⟩, fun s us hl => match us, hl with | [_, _, _], _ => .of_eq rfl, fun n ks pm hk => absurd hk (by simp [tb])⟩
    | 7, e =>
      cases e
      exact ⟨f7, _, PySem.W.mg_of X G a7, ⟨"untouched", st_untouched, nn_untouched, fd_untouched, fun_mk (st := st_untouched) l7 c7 k7, rfl, tx_untouched⟩, fun s us hl => match us, hl with | [_, _], _ => .of_eq rfl, fun n ks pm hk => absurd hk (by simp [tb])⟩
    | 8, e =>
      cases e
      exact ⟨f8, _, PySem.W.mg_of X G a8, ⟨"whole_piece", st_whole_piece, nn_whole_piece, fd_whole_piece, fun_mk (st := st_whole_piece) l8 c8 k8, rfl, tx_whole_piece⟩, fun s us hl => match us, hl with | [_, _, _], _ => .of_eq rfl, fun n ks pm hk => absurd hk (by simp [tb])⟩
    | 9, e =>
      cases e
      exact ⟨f9, _, PySem.W.mg_of X G a9, ⟨"owner", st_owner, nn_owner, fd_owner, fun_mk (st := st_owner) l9 c9 k9, rfl, tx_owner⟩, fun s us hl => match us, hl with | [_, _], _ => .of_eq rfl, fun n ks pm hk => absurd hk (by simp [tb])⟩
    | 10, e =>
      cases e
      exact ⟨f10, _, PySem.W.mg_of X G a10, ⟨"_law_deck", st_L_deck25, nn_L_deck25, fd_L_deck25, fun_mk (st := st_L_deck25) l10 c10 k10, rfl, tx_L_deck25⟩, fun s us hl => match us, hl with | [_], _ => .of_eq rfl, fun n ks pm hk => absurd hk (by simp [tb])⟩
    | 11, e =>
      cases e
      exact ⟨f11, _, PySem.W.mg_of X G a11, ⟨"_law_draw", st_L_draw7, nn_L_draw7, fd_L_draw7, fun_mk (st := st_L_draw7) l11 c11 k11, rfl, tx_L_draw7⟩, fun s us hl => match us, hl with | [_, _], _ => .of_eq rfl, fun n ks pm hk => absurd hk (by simp [tb])⟩
    | 12, e =>
      cases e
      exact ⟨f12, _, PySem.W.mg_of X G a12, ⟨"_law_board", st_L_board2, nn_L_board2, fd_L_board2, fun_mk (st := st_L_board2) l12 c12 k12, rfl, tx_L_board2⟩, fun s us hl => match us, hl with | [_, _], _ => .of_eq rfl, fun n ks pm hk => absurd hk (by simp [tb])⟩
    | 13, e =>
      cases e
      exact ⟨f13, _, PySem.W.mg_of X G a13, ⟨"_law_spots", st_L_spots, nn_L_spots, fd_L_spots, fun_mk (st := st_L_spots) l13 c13 k13, rfl, tx_L_spots⟩, fun s us hl => match us, hl with | [_], _ => .of_eq rfl, fun n ks pm hk => absurd hk (by simp [tb])⟩
    | 14, e =>
      cases e
      exact ⟨f14, _, PySem.W.mg_of X G a14, ⟨"_law_web", st_L_web, nn_L_web, fd_L_web, fun_mk (st := st_L_web) l14 c14 k14, rfl, tx_L_web⟩, fun s us hl => match us, hl with | [_], _ => .of_eq rfl, fun n ks pm hk => absurd hk (by simp [tb])⟩
    | 15, e =>
      cases e
      exact ⟨f15, _, PySem.W.mg_of X G a15, ⟨"_law_edges", st_L_edges, nn_L_edges, fd_L_edges, fun_mk (st := st_L_edges) l15 c15 k15, rfl, tx_L_edges⟩, fun s us hl => match us, hl with | [_], _ => .of_eq rfl, fun n ks pm hk => absurd hk (by simp [tb])⟩
    | 16, e =>
      cases e
      exact ⟨f16, _, PySem.W.mg_of X G a16, ⟨"_law_lots", st_L_lots2, nn_L_lots2, fd_L_lots2, fun_mk (st := st_L_lots2) l16 c16 k16, rfl, tx_L_lots2⟩, fun s us hl => match us, hl with | [_, _, _], _ => .of_eq rfl, fun n ks pm hk => absurd hk (by simp [tb])⟩
    | 17, e =>
      cases e
      exact ⟨f17, _, PySem.W.mg_of X G a17, ⟨"_law_is_chain", st_L_is_chain, nn_L_is_chain, fd_L_is_chain, fun_mk (st := st_L_is_chain) l17 c17 k17, rfl, tx_L_is_chain⟩, fun s us hl => match us, hl with | [_, _], _ => .of_eq rfl, fun n ks pm hk => absurd hk (by simp [tb])⟩
    | 18, e =>
      cases e
      exact ⟨f18, _, PySem.W.mg_of X G a18, ⟨"_law_whose", st_L_whose, nn_L_whose, fd_L_whose, fun_mk (st := st_L_whose) l18 c18 k18, rfl, tx_L_whose⟩, fun s us hl => match us, hl with | [_, _, _], _ => .of_eq rfl, fun n ks pm hk => absurd hk (by simp [tb])⟩
    | 19, e =>
      cases e
      exact ⟨f19, _, PySem.W.mg_of X G a19, ⟨"_law_lesser", st_L_lesser, nn_L_lesser, fd_L_lesser, fun_mk (st := st_L_lesser) l19 c19 k19, rfl, tx_L_lesser⟩, fun s us hl => match us, hl with | [_, _], _ => .of_eq rfl, fun n ks pm hk => absurd hk (by simp [tb])⟩
    | 20, e =>
      cases e
      exact ⟨f20, _, PySem.W.mg_of X G a20, ⟨"_law_is_unfit", st_L_is_unfit, nn_L_is_unfit, fd_L_is_unfit, fun_mk (st := st_L_is_unfit) l20 c20 k20, rfl, tx_L_is_unfit⟩, fun s us hl => match us, hl with | [_], _ => .of_eq rfl, fun n ks pm hk => absurd hk (by simp [tb])⟩
    | 21, e =>
      cases e
      exact ⟨f21, _, PySem.W.mg_of X G a21, ⟨"_law_is_one", st_L_is_one, nn_L_is_one, fd_L_is_one, fun_mk (st := st_L_is_one) l21 c21 k21, rfl, tx_L_is_one⟩, fun s us hl => match us, hl with | [_, _, _, _, _], _ => .of_eq rfl, fun n ks pm hk => absurd hk (by simp [tb])⟩
    | 22, e =>
      cases e
      exact ⟨f22, _, PySem.W.mg_of X G a22, ⟨"_law_bits", st_L_bits, nn_L_bits, fd_L_bits, fun_mk (st := st_L_bits) l22 c22 k22, rfl, tx_L_bits⟩, fun s us hl => match us, hl with | [_, _], _ => .of_eq rfl, fun n ks pm hk => absurd hk (by simp [tb])⟩
    | 23, e =>
      cases e
      exact ⟨f23, _, PySem.W.mg_of X G a23, ⟨"_law_is_one_below", st_L_is_one_below, nn_L_is_one_below, fd_L_is_one_below, fun_mk (st := st_L_is_one_below) l23 c23 k23, rfl, tx_L_is_one_below⟩, fun s us hl => match us, hl with | [_, _], _ => .of_eq rfl, fun n ks pm hk => absurd hk (by simp [tb])⟩
    | 24, e =>
      cases e
      exact ⟨f24, _, PySem.W.mg_of X G a24, ⟨"law", st_Llaw, nn_Llaw, fd_Llaw, fun_mk (st := st_Llaw) l24 c24 k24, rfl, tx_Llaw⟩, fun s us hl => match us, hl with | [_], _ => .of_eq rfl, fun n ks pm hk => absurd hk (by simp [tb])⟩
    | i + 25, e => exact absurd e (by simp [tb, fnsL])
  · exact absurd e (by simp [tb, cnsL])
  · simp [tb] at hx
    rcases hx with rfl | rfl | rfl | rfl | rfl | rfl | rfl | rfl
    · exact PySem.W.mg_none_of X G z0
    · exact PySem.W.mg_none_of X G z1
    · exact PySem.W.mg_none_of X G z2
    · exact PySem.W.mg_none_of X G z3
    · exact PySem.W.mg_none_of X G z4
    · exact PySem.W.mg_none_of X G z5
    · exact PySem.W.mg_none_of X G z6
    · exact PySem.W.mg_none_of X G z7
  have xq0 : xcOf K exsL "Unfit" = some XC0 := by simp [xcOf, exsL, xa0]
  · match c, e with
    | 0, e =>
      cases e
      refine ⟨XC0, XF0, PySem.W.mg_of X G xa0, xq0, rfl, ⟨⟨_, _, _, _, _, _, _, _, _, _, _, _, _, _, _, xo0, xr0⟩, xb0, xe0, xt0, xk0⟩, ⟨⟨_, _, _, _, _, _, _, _, _, _, _, _, _, _, _, _, _, _, _, _, _, _, _, _, _, _, _, _, _, _, _, xl0, xd0, fun s a => .of_eq rfl, rfl, xj0, xv0, xf0, xw0, by decide +kernel, by decide +kernel, by decide +kernel, rfl, rfl, rfl, by decide +kernel, fun env => rfl⟩, xm0, xp0, xy0, xz0, xg0, by decide +kernel⟩, xi0, xu0, fun y D hy => ?_⟩
      have hy : xcOf K exsL y = some D := hy
      unfold xcOf at hy
      split at hy
      · rename_i hc
        simp only [exsL, List.contains_cons, List.contains_nil, Bool.or_false, Bool.or_eq_true, beq_iff_eq] at hc
        rcases hc with rfl
        · simp only [xa0] at hy; cases hy; exact xx0_0
      · cases hy
    | i + 1, e => exact absurd e (by simp [tb, exsL])
/-- the law's program -/
def run (K n : Nat) : Gm := callF gg (xs0 K) tab n
theorem run_number_at_triangles (K n : Nat) {h : Hm} (a0 a1 : D) : run K (n + 1) i_number_at_triangles [a0, a1] h = gcR h.length (outR (exs (callM (run K n)) gg (xs0 K) b_number_at_triangles [some a0, some a1] h)) := callF_tab (d := fd_number_at_triangles) rfl
theorem run_row_place (K n : Nat) {h : Hm} (a0 : D) : run K (n + 1) i_row_place [a0] h = gcR h.length (outR (exs (callM (run K n)) gg (xs0 K) b_row_place [some a0, none] h)) := callF_tab (d := fd_row_place) rfl
theorem run_near (K n : Nat) {h : Hm} (a0 a1 : D) : run K (n + 1) i_near [a0, a1] h = gcR h.length (outR (exs (callM (run K n)) gg (xs0 K) b_near [some a0, some a1, none, none, none, none, none] h)) := callF_tab (d := fd_near) rfl
theorem run_touches (K n : Nat) {h : Hm} (a0 a1 : D) : run K (n + 1) i_touches [a0, a1] h = gcR h.length (outR (exs (callM (run K n)) gg (xs0 K) b_touches [some a0, some a1, none, none, none] h)) := callF_tab (d := fd_touches) rfl
theorem run_reduced (K n : Nat) {h : Hm} (a0 a1 : D) : run K (n + 1) i_reduced [a0, a1] h = gcR h.length (outR (exs (callM (run K n)) gg (xs0 K) b_reduced [some a0, some a1, none, none, none, none] h)) := callF_tab (d := fd_reduced) rfl
theorem run_last_owner (K n : Nat) {h : Hm} (a0 a1 : D) : run K (n + 1) i_last_owner [a0, a1] h = gcR h.length (outR (exs (callM (run K n)) gg (xs0 K) b_last_owner [some a0, some a1, none, none] h)) := callF_tab (d := fd_last_owner) rfl
theorem run_hanging (K n : Nat) {h : Hm} (a0 a1 a2 : D) : run K (n + 1) i_hanging [a0, a1, a2] h = gcR h.length (outR (exs (callM (run K n)) gg (xs0 K) b_hanging [some a0, some a1, some a2, none, none, none] h)) := callF_tab (d := fd_hanging) rfl
theorem run_untouched (K n : Nat) {h : Hm} (a0 a1 : D) : run K (n + 1) i_untouched [a0, a1] h = gcR h.length (outR (exs (callM (run K n)) gg (xs0 K) b_untouched [some a0, some a1, none, none, none] h)) := callF_tab (d := fd_untouched) rfl
theorem run_whole_piece (K n : Nat) {h : Hm} (a0 a1 a2 : D) : run K (n + 1) i_whole_piece [a0, a1, a2] h = gcR h.length (outR (exs (callM (run K n)) gg (xs0 K) b_whole_piece [some a0, some a1, some a2, none, none, none, none, none] h)) := callF_tab (d := fd_whole_piece) rfl
theorem run_owner (K n : Nat) {h : Hm} (a0 a1 : D) : run K (n + 1) i_owner [a0, a1] h = gcR h.length (outR (exs (callM (run K n)) gg (xs0 K) b_owner [some a0, some a1] h)) := callF_tab (d := fd_owner) rfl
theorem run_L_deck25 (K n : Nat) {h : Hm} (a0 : D) : run K (n + 1) i_L_deck25 [a0] h = gcR h.length (outR (exs (callM (run K n)) gg (xs0 K) b_L_deck25 [some a0, none, none, none] h)) := callF_tab (d := fd_L_deck25) rfl
theorem run_L_draw7 (K n : Nat) {h : Hm} (a0 a1 : D) : run K (n + 1) i_L_draw7 [a0, a1] h = gcR h.length (outR (exs (callM (run K n)) gg (xs0 K) b_L_draw7 [some a0, some a1, none, none] h)) := callF_tab (d := fd_L_draw7) rfl
theorem run_L_board2 (K n : Nat) {h : Hm} (a0 a1 : D) : run K (n + 1) i_L_board2 [a0, a1] h = gcR h.length (outR (exs (callM (run K n)) gg (xs0 K) b_L_board2 [some a0, some a1, none, none] h)) := callF_tab (d := fd_L_board2) rfl
theorem run_L_spots (K n : Nat) {h : Hm} (a0 : D) : run K (n + 1) i_L_spots [a0] h = gcR h.length (outR (exs (callM (run K n)) gg (xs0 K) b_L_spots [some a0, none, none, none] h)) := callF_tab (d := fd_L_spots) rfl
theorem run_L_web (K n : Nat) {h : Hm} (a0 : D) : run K (n + 1) i_L_web [a0] h = gcR h.length (outR (exs (callM (run K n)) gg (xs0 K) b_L_web [some a0, none, none, none, none, none, none, none] h)) := callF_tab (d := fd_L_web) rfl
theorem run_L_edges (K n : Nat) {h : Hm} (a0 : D) : run K (n + 1) i_L_edges [a0] h = gcR h.length (outR (exs (callM (run K n)) gg (xs0 K) b_L_edges [some a0, none, none, none, none, none] h)) := callF_tab (d := fd_L_edges) rfl
theorem run_L_lots2 (K n : Nat) {h : Hm} (a0 a1 a2 : D) : run K (n + 1) i_L_lots2 [a0, a1, a2] h = gcR h.length (outR (exs (callM (run K n)) gg (xs0 K) b_L_lots2 [some a0, some a1, some a2, none, none, none, none, none, none] h)) := callF_tab (d := fd_L_lots2) rfl
theorem run_L_is_chain (K n : Nat) {h : Hm} (a0 a1 : D) : run K (n + 1) i_L_is_chain [a0, a1] h = gcR h.length (outR (exs (callM (run K n)) gg (xs0 K) b_L_is_chain [some a0, some a1, none, none] h)) := callF_tab (d := fd_L_is_chain) rfl
theorem run_L_whose (K n : Nat) {h : Hm} (a0 a1 a2 : D) : run K (n + 1) i_L_whose [a0, a1, a2] h = gcR h.length (outR (exs (callM (run K n)) gg (xs0 K) b_L_whose [some a0, some a1, some a2, none, none, none] h)) := callF_tab (d := fd_L_whose) rfl
theorem run_L_lesser (K n : Nat) {h : Hm} (a0 a1 : D) : run K (n + 1) i_L_lesser [a0, a1] h = gcR h.length (outR (exs (callM (run K n)) gg (xs0 K) b_L_lesser [some a0, some a1, none, none, none, none, none] h)) := callF_tab (d := fd_L_lesser) rfl
theorem run_L_is_unfit (K n : Nat) {h : Hm} (a0 : D) : run K (n + 1) i_L_is_unfit [a0] h = gcR h.length (outR (exs (callM (run K n)) gg (xs0 K) b_L_is_unfit [some a0] h)) := callF_tab (d := fd_L_is_unfit) rfl
theorem run_L_is_one (K n : Nat) {h : Hm} (a0 a1 a2 a3 a4 : D) : run K (n + 1) i_L_is_one [a0, a1, a2, a3, a4] h = gcR h.length (outR (exs (callM (run K n)) gg (xs0 K) b_L_is_one [some a0, some a1, some a2, some a3, some a4, none, none, none] h)) := callF_tab (d := fd_L_is_one) rfl
theorem run_L_bits (K n : Nat) {h : Hm} (a0 a1 : D) : run K (n + 1) i_L_bits [a0, a1] h = gcR h.length (outR (exs (callM (run K n)) gg (xs0 K) b_L_bits [some a0, some a1, none] h)) := callF_tab (d := fd_L_bits) rfl
theorem run_L_is_one_below (K n : Nat) {h : Hm} (a0 a1 : D) : run K (n + 1) i_L_is_one_below [a0, a1] h = gcR h.length (outR (exs (callM (run K n)) gg (xs0 K) b_L_is_one_below [some a0, some a1, none, none, none] h)) := callF_tab (d := fd_L_is_one_below) rfl
theorem run_Llaw (K n : Nat) {h : Hm} (a0 : D) : run K (n + 1) i_Llaw [a0] h = gcR h.length (outR (exs (callM (run K n)) gg (xs0 K) b_Llaw [some a0, none, none, none, none, none, none, none, none] h)) := callF_tab (d := fd_Llaw) rfl
end Mi

set_option Elab.async false
set_option linter.all false
set_option maxRecDepth 100000
/-! Mini: what many laws' proofs share: calls on parts of the heap, comprehensions over ints, repr of tuples. -/
namespace Mi
open PySem
theorem own_st {d : D} {h : Hm} (s : d.st = true) : own d h = .ok d h := by
  cases d <;> first | rfl | simp [D.st] at s
theorem refs_of_mem {l : List D} (h : D.refsL l = []) {d : D} (hd : d ∈ l) : d.refs = [] := by
  induction l with
  | nil => cases hd
  | cons x r ih =>
    rw [D.refsL, List.append_eq_nil_iff] at h
    rcases List.mem_cons.mp hd with rfl | hd
    · exact h.1
    · exact ih h.2 hd
theorem set_same {h : Hm} {p : Nat} {o : O} (hp : h[p]? = some o) : h.set p o = h := by
  have hl : p < h.length := (List.getElem?_eq_some_iff.mp hp).1
  refine List.ext_getElem? fun i => ?_
  by_cases hi : i = p
  · subst hi; rw [List.getElem?_set_self hl, hp]
  · rw [List.getElem?_set_ne (Ne.symm hi)]
mutual
theorem map_map' (f g : Nat → Nat) : ∀ d : D, (d.map g).map f = d.map fun n => f (g n)
  | .non => by simp [D.map]
  | .bl _ => by simp [D.map]
  | .int _ => by simp [D.map]
  | .str _ => by simp [D.map]
  | .ref _ => by simp [D.map]
  | .tup ds => by simp [D.map, mapL_map' f g ds]
  | .lv ds => by simp [D.map, mapL_map' f g ds]
  | .fl ds => by simp [D.map, mapL_map' f g ds]
theorem mapL_map' (f g : Nat → Nat) : ∀ ds : List D, D.mapL f (D.mapL g ds) = D.mapL (fun n => f (g n)) ds
  | [] => rfl
  | d :: ds => by simp [D.mapL, map_map' f g d, mapL_map' f g ds]
end
theorem kvMap_map' {κ : Type} (f g : Nat → Nat) : ∀ l : List (κ × D), kvMap (D.map f) (kvMap (D.map g) l) = kvMap (D.map fun n => f (g n)) l
  | [] => rfl
  | (k, d) :: r => by simp [kvMap, map_map', kvMap_map' f g r]
theorem omap_map' (f g : Nat → Nat) (o : O) : (o.map g).map f = o.map fun n => f (g n) := by
  cases o <;> simp [O.map, mapL_map', kvMap_map']
theorem bk_ixOf {rs : List Nat} {len n : Nat} (h : n ∈ rs) : bk rs len (ixOf rs n) = n := by
  unfold bk
  rw [if_pos (ixOf_lt h), List.getD_eq_getElem?_getD, ixOf_get h]; rfl
theorem setAll_same {h : Hm} : ∀ (rs : List Nat) (os : List O), os.length = rs.length → (∀ (i n : Nat), rs[i]? = some n → h[n]? = os[i]?) → setAll h rs os = h
  | [], [], _, _ => rfl
  | [], _ :: _, e, _ => by simp at e
  | _ :: _, [], e, _ => by simp at e
  | n :: rs, o :: os, e, hh => by
    have h0 := hh 0 n rfl
    rw [setAll, set_same (o := o) (by simpa using h0)]
    exact setAll_same rs os (by simpa using e) fun i m hm => by simpa using hh (i + 1) m (by simpa using hm)
/-- a call that leaves what it sees as it is -/
theorem callM_ro {Γ : Gm} {f : Nat} {args : List D} {h : Hm} {v : D} (rs : List Nat) (hr : reach 100000 h (D.refsL args) [] = rs) (hc : closedB h rs (D.refsL args) = true) (hv : v.refs = [])
    (e : Γ f (D.mapL (ixOf rs) args) (subH h rs) = .ok v (subH h rs)) : callM Γ f args h = .ok v h := by
  unfold callM
  simp only [hr, hc, gd_t, e]
  rw [map_norefs _ v hv]
  have hl : (subH h rs).length = rs.length := by simp [subH]
  have c := closed_of hc
  have hs : putH h rs (subH h rs) = h := by
    unfold putH
    rw [List.take_of_length_le (by omega), List.drop_eq_nil_of_le (by omega), List.map_nil, List.append_nil]
    refine setAll_same _ _ (by simp [subH]) fun i n hn => ?_
    have hmem : n ∈ rs := List.mem_of_getElem? hn
    have hlt : n < h.length := c.lt hmem
    simp only [subH, List.getElem?_map, hn, Option.map_some]
    rw [List.getElem?_eq_getElem hlt, List.getD_eq_getElem?_getD, List.getElem?_eq_getElem hlt]
    congr 1
    simp only [Option.getD_some]
    rw [omap_map', omap_id]
    intro m hm
    refine bk_ixOf ?_
    simp only [closedB, Bool.and_eq_true, List.all_eq_true] at hc
    have := hc.2 n hmem
    rw [List.getElem?_eq_getElem hlt] at this
    simp only [List.all_eq_true, List.contains_iff_mem] at this
    exact this m hm
  rw [hs]
theorem setAll_nums : ∀ (k s : Nat) (pre h0 h0' rest : Hm), pre.length = s → h0.length = k → h0'.length = k → setAll (pre ++ (h0 ++ rest)) (nums s k) h0' = pre ++ (h0' ++ rest)
  | 0, s, pre, h0, h0', rest, e1, e2, e3 => by
    rw [List.length_eq_zero_iff] at e2 e3
    subst e2 e3; rfl
  | k + 1, s, pre, [], h0', rest, e1, e2, e3 => by simp at e2
  | k + 1, s, pre, a :: h0, [], rest, e1, e2, e3 => by simp at e3
  | k + 1, s, pre, a :: h0, b :: h0', rest, e1, e2, e3 => by
    rw [nums, setAll]
    have e4 : (pre ++ (a :: h0 ++ rest)).set s b = (pre ++ [b]) ++ (h0 ++ rest) := by
      subst e1
      rw [List.set_append_right _ _ (Nat.le_refl _), Nat.sub_self]
      simp
    rw [e4, setAll_nums k (s + 1) (pre ++ [b]) h0 h0' rest (by simp [e1]) (by simpa using e2) (by simpa using e3)]
    simp
theorem bk_nums {k len i : Nat} : bk (nums 0 k) len i = if i < k then i else len + (i - k) := by
  unfold bk
  rw [nums_len]
  split
  · rename_i hi
    rw [List.getD_eq_getElem?_getD, nums_at _ _ _ hi]; simp
  · rfl
/-- a call that sees the first objects of the heap, and makes new ones -/
theorem callM_first {Γ : Gm} {f : Nat} {args : List D} {h0 h0' new rest : Hm} {v : D} (hc : ∀ o ∈ h0, ∀ n ∈ o.refs, n < h0.length) (hr : reach 100000 (h0 ++ rest) (D.refsL args) [] = nums 0 h0.length) (ha : ∀ n ∈ D.refsL args, n < h0.length)
    (hl : h0'.length = h0.length) (hk : ∀ o ∈ h0', ∀ n ∈ o.refs, n < h0.length) (e : Γ f args h0 = .ok v (h0' ++ new)) :
    callM Γ f args (h0 ++ rest) = .ok (v.map fun i => if i < h0.length then i else (h0 ++ rest).length + (i - h0.length)) (h0' ++ rest ++ new.map (O.map fun i => if i < h0.length then i else (h0 ++ rest).length + (i - h0.length))) := by
  have hcl : closedB (h0 ++ rest) (nums 0 h0.length) (D.refsL args) = true := by
    simp only [closedB, Bool.and_eq_true, decide_eq_true_eq, List.all_eq_true, List.contains_iff_mem]
    refine ⟨⟨nums_nd _ _, fun n hn => by rw [mem_nums]; have := ha n hn; omega⟩, fun n hn => ?_⟩
    have hn := (mem_nums _ _ _).mp hn
    rw [List.getElem?_append_left (by omega), List.getElem?_eq_getElem (by omega)]
    simp only [List.all_eq_true, List.contains_iff_mem]
    intro m hm
    rw [mem_nums]
    have := hc _ (List.getElem_mem _) m hm
    omega
  have hm : D.mapL (ixOf (nums 0 h0.length)) args = args := mapL_id' _ _ fun n hn => by
    have := ha n hn
    rw [ixOf_nums _ 0 n (Nat.zero_le _) (by omega)]; omega
  unfold callM
  simp only [hr, hcl, gd_t, hm, subH_first h0 rest hc, e]
  have eb : bk (nums 0 h0.length) (h0 ++ rest).length = fun i => if i < h0.length then i else (h0 ++ rest).length + (i - h0.length) := by
    funext i; exact bk_nums
  rw [eb]
  congr 1
  unfold putH
  rw [eb, nums_len, List.take_append_of_le_length (by omega), List.take_of_length_le (by omega), show h0.length = h0'.length from hl.symm, List.drop_left]
  congr 1
  rw [← hl] at hk
  have e2 : h0'.map (O.map fun i => if i < h0'.length then i else (h0 ++ rest).length + (i - h0'.length)) = h0' := by
    rw [List.map_congr_left (g := id) fun o ho => omap_id _ o fun n hn => by rw [if_pos (hk o ho n hn)]]; simp
  rw [e2]
  have := setAll_nums h0'.length 0 [] h0 h0' rest rfl hl.symm rfl
  simpa using this
/-- .. and none that stays -/
theorem callM_keep {Γ : Gm} {f : Nat} {args : List D} {h0 h0' rest : Hm} {v : D} (hc : ∀ o ∈ h0, ∀ n ∈ o.refs, n < h0.length) (hr : reach 100000 (h0 ++ rest) (D.refsL args) [] = nums 0 h0.length) (ha : ∀ n ∈ D.refsL args, n < h0.length)
    (hl : h0'.length = h0.length) (hk : ∀ o ∈ h0', ∀ n ∈ o.refs, n < h0.length) (hv : v.refs = []) (e : Γ f args h0 = .ok v h0') :
    callM Γ f args (h0 ++ rest) = .ok v (h0' ++ rest) := by
  have := callM_first (new := []) (rest := rest) hc hr ha hl hk (by simpa using e)
  rw [this, map_norefs _ v hv]; simp
/-- a call of values without places that makes new ones -/
theorem callM_make {Γ : Gm} {f : Nat} {args : List D} {h new : Hm} {v : D} (ha : D.refsL args = []) (e : Γ f args [] = .ok v new) :
    callM Γ f args h = .ok (v.map fun i => h.length + i) (h ++ new.map (O.map fun i => h.length + i)) := by
  have := callM_first (h0 := []) (h0' := []) (new := new) (rest := h) (by simp) (by rw [ha]; rfl) (by simp [ha]) rfl (by simp) (by simpa using e)
  simpa using this
theorem callM_list {Γ : Gm} {f p : Nat} {h : Hm} {ds : List D} {v : D} (hp : h[p]? = some (.lst ds)) (hi : D.refsL ds = []) (hv : v.refs = []) (e : Γ f [.ref 0] [.lst ds] = .ok v [.lst ds]) : callM Γ f [.ref p] h = .ok v h := by
  have hr : reach 100000 h [p] [] = [p] := by
    show reach (99998 + 1 + 1) _ [p] [] = _
    simp [reach, O.refs, hp, hi]
  have hc : closedB h [p] [p] = true := by simp [closedB, hp, O.refs, hi]
  have hs : subH h [p] = [.lst ds] := by
    simp [subH, O.map, hp, mapL_norefs _ _ hi]
  refine callM_ro [p] (by simpa [D.refsL, D.refs] using hr) (by simpa [D.refsL, D.refs] using hc) hv ?_
  rw [hs]
  simpa [D.mapL, D.map, ixOf] using e
theorem callM_new {Γ : Gm} {f : Nat} {args : List D} {v : D} {h' : Hm} (ha : D.refsL args = []) (e : Γ f args [] = .ok v h') : callM Γ f args [] = .ok v h' := by
  have := callM_make (h := []) ha e
  rw [this]
  have h1 : v.map (fun i => ([] : Hm).length + i) = v := map_id' _ v fun n _ => by simp
  have h2 : h'.map (O.map fun i => ([] : Hm).length + i) = h' := by
    rw [List.map_congr_left (g := id) fun o _ => omap_id _ o fun n _ => by simp]; simp
  rw [h1, h2]; simp
theorem list_ref {h : Hm} {n : Nat} {ds : List D} (e : h[n]? = some (.lst ds)) : biD h .list [.ref n] = some (.lv ds) := by
  show (seqOf h (.ref n)).map D.lv = _
  rw [seq_ref e]; rfl
theorem tuple_ref {h : Hm} {n : Nat} {ds : List D} (e : h[n]? = some (.lst ds)) : biD h .tuple [.ref n] = some (.tup ds) := by
  show (seqOf h (.ref n)).map D.tup = _
  rw [seq_ref e]; rfl
@[simp] theorem tuple_lv {h : Hm} {ds : List D} : biD h .tuple [.lv ds] = some (.tup ds) := rfl
@[simp] theorem list_lv {h : Hm} {ds : List D} : biD h .list [.lv ds] = some (.lv ds) := rfl
@[simp] theorem tuple_tup {h : Hm} {ds : List D} : biD h .tuple [.tup ds] = some (.tup ds) := rfl
@[simp] theorem list_tup {h : Hm} {ds : List D} : biD h .list [.tup ds] = some (.lv ds) := rfl
@[simp] theorem add_tup {h : Hm} (a b : List D) : binD h .Add (.tup a) (.tup b) = if a.length + b.length ≤ sizeLine then some (.tup (a ++ b)) else none := rfl
/-! ### comprehensions over ints -/
theorem comp_ints {step : D → Hm → R (Option D)} {src : Src} {h : Hm} (f : Int → Option Int) (so : srcOk src h = true) (hs : ∀ i, step (.int i) h = .ok ((f i).map .int) h) : ∀ ns : List Int, compL step src (ns.map .int) h = .ok ((ns.filterMap f).map .int) h
  | [] => rfl
  | n :: r => by
    rw [List.map_cons, compL, hs, bnd_ok, so, gd_t, comp_ints f so hs r, bnd_ok, List.filterMap_cons]
    cases f n <;> rfl
/-- a comprehension that leaves the heap as it is -/
theorem comp_pure {step : D → Hm → R (Option D)} {src : Src} {h : Hm} (f : D → Option D) (so : srcOk src h = true) : ∀ ds : List D, (∀ d ∈ ds, step d h = .ok (f d) h) → compL step src ds h = .ok (ds.filterMap f) h
  | [], _ => rfl
  | n :: r, hs => by
    rw [compL, hs n List.mem_cons_self, bnd_ok, so, gd_t, comp_pure f so r fun d hd => hs d (List.mem_cons_of_mem _ hd), bnd_ok, List.filterMap_cons]
    cases f n <;> rfl
theorem upto_map : ∀ (n : Nat) (s : Int), upto s n = ((List.range n).map fun i : Nat => s + (i : Int)).map .int
  | 0, s => rfl
  | n + 1, s => by
    rw [upto, upto_map n (s + 1), List.range_succ_eq_map]
    simp only [List.map_cons, List.map_map]
    congr 1
    · simp
    · refine List.map_congr_left fun i _ => ?_
      simp only [Function.comp]
      congr 1; push_cast; omega
theorem cut_map {α β : Type} (f : α → β) (xs : List α) (lo hi : Option Int) : cutL (xs.map f) lo hi = (cutL xs lo hi).map f := by
  simp [cutL, List.map_take, List.map_drop]
theorem cut60 (ns : List Int) : (cutL ns none (some 60)).length ≤ 60 := by
  unfold cutL
  rw [HT.sIx_none, show HT.sIx ns.length ns.length (some 60) = min 60 ns.length from HT.sIx_nat ns.length ns.length 60]
  simp
  omega
/-! ### repr -/
theorem ofString_len (s : String) : (Str.ofString s).length = s.length := by
  rw [Str.ofString_eq_toList]
  show (s.toList.map Char.toNat).toArray.size = _
  rw [List.size_toArray, List.length_map]
  exact String.length_toList
theorem leaf_int {i : Int} (h : Bt 1919 i) : (PyData.shown (.int i)).length ≤ 2000 := by
  have h2 := h.log
  show (Str.ofString (toString i)).length ≤ 2000
  rw [ofString_len]
  have := int_text_length_le (a := i) (k := 1920) (by decide) (by omega)
  omega
theorem show_int {i : Int} (h : Bt 1919 i) : PyData.showable (.int i) = true := by
  have h2 := h.log
  simp [PyData.showable]; omega
section
variable {ts : List Int}
theorem show_ints : ∀ {ts : List Int}, (∀ c ∈ ts, Bt 1919 c) → PyData.showableAll (ts.map .int) = true
  | [], _ => by simp [PyData.showableAll]
  | c :: r, h => by
    rw [List.map_cons, PyData.showableAll, show_int (h c List.mem_cons_self), show_ints fun d hd => h d (List.mem_cons_of_mem _ hd)]; rfl
theorem short_ints : ∀ {ts : List Int}, (∀ c ∈ ts, Bt 1919 c) → PyData.leavesShortAll 2000 (ts.map .int) = true
  | [], _ => by simp [PyData.leavesShortAll]
  | c :: r, h => by
    rw [List.map_cons, PyData.leavesShortAll, short_ints fun d hd => h d (List.mem_cons_of_mem _ hd)]
    simp [PyData.leavesShort, leaf_int (h c List.mem_cons_self)]
theorem bulk_ints : ∀ ts : List Int, PyData.bulkAll (ts.map .int) = ts.length
  | [] => by simp [PyData.bulkAll]
  | c :: r => by simp [PyData.bulkAll, PyData.bulk, bulk_ints r]; omega
end
abbrev tupsD (tss : List (List Int)) : List D := tss.map fun ts => .tup (ts.map .int)
abbrev tupsP (tss : List (List Int)) : List PyData := tss.map fun ts => .tuple (ts.map .int)
theorem tups_refs : ∀ tss : List (List Int), D.refsL (tupsD tss) = []
  | [] => rfl
  | ts :: r => by
    have := tups_refs r
    simp only [tupsD, List.map_cons] at this ⊢
    simp [D.refsL, D.refs, ints_refs, this]
theorem py_tups (h : Hm) (n : Nat) : ∀ tss : List (List Int), allSome (pyOf (n + 1) h) (tupsD tss) = some (tupsP tss)
  | [] => by simp [allSome]
  | ts :: r => by
    have := py_tups h n r
    simp only [tupsD, tupsP, List.map_cons] at this ⊢
    rw [allSome, this, pyOf, py_ints]; rfl
theorem lay_tups : ∀ tss : List (List Int), PyData.canLayAll0 (tupsP tss) = true
  | [] => by simp [PyData.canLayAll0]
  | ts :: r => by
    have := lay_tups r
    simp only [tupsP, List.map_cons] at this ⊢
    simp [PyData.canLayAll0, PyData.canLay0, lay_ints, this]
theorem dep_tups : ∀ tss : List (List Int), PyData.depthAll (tupsP tss) ≤ 1
  | [] => by simp [PyData.depthAll]
  | ts :: r => by
    have := dep_tups r
    simp only [tupsP, List.map_cons] at this ⊢
    simp [PyData.depthAll, PyData.depth, dep_ints]
    omega
theorem show_tups : ∀ tss : List (List Int), (∀ ts ∈ tss, ∀ c ∈ ts, Bt 1919 c) → PyData.showableAll (tupsP tss) = true ∧ PyData.leavesShortAll 2000 (tupsP tss) = true
  | [], _ => by simp [PyData.showableAll, PyData.leavesShortAll]
  | ts :: r, h => by
    have := show_tups r fun ts hts => h ts (List.mem_cons_of_mem _ hts)
    simp only [tupsP, List.map_cons] at this ⊢
    simp [PyData.showableAll, PyData.showable, PyData.leavesShortAll, PyData.leavesShort, show_ints (h ts List.mem_cons_self), short_ints (h ts List.mem_cons_self), this]
theorem bulk_tups : ∀ (tss : List (List Int)), (∀ ts ∈ tss, ts.length ≤ 100) → PyData.bulkAll (tupsP tss) ≤ 101 * tss.length
  | [], _ => by simp [PyData.bulkAll]
  | ts :: r, h => by
    have := bulk_tups r fun ts hts => h ts (List.mem_cons_of_mem _ hts)
    have h2 := h ts List.mem_cons_self
    simp only [tupsP, List.map_cons] at this ⊢
    simp [PyData.bulkAll, PyData.bulk, bulk_ints]
    omega
/-- repr of a list of tuples of ints -/
theorem repr_tups {h : Hm} (tss : List (List Int)) (h1 : ∀ ts ∈ tss, ∀ c ∈ ts, Bt 1919 c) (h2 : ∀ ts ∈ tss, ts.length ≤ 100) (h3 : tss.length ≤ 50) : biD h .repr [.lv (tupsD tss)] = some (.str (PyData.shown (.list (tupsP tss)))) := by
  have e : pyOf deepN h (.lv (tupsD tss)) = some (.list (tupsP tss)) := by
    show pyOf (38 + 1 + 1) h _ = _
    rw [pyOf, py_tups]; rfl
  obtain ⟨a, b⟩ := show_tups tss h1
  have sh : shp (.list (tupsP tss)) = true := by
    have := dep_tups tss
    have : PyData.depth (.list (tupsP tss)) ≤ 64 := by rw [PyData.depth]; omega
    rw [shp_eq]
    simp [SeqAt.shaped, PyData.canLay0, lay_tups, this]
  have ln : (PyData.shown (.list (tupsP tss))).length ≤ sizeLine := by
    have q := PyData.shown_le_bulk 2000 (by omega) (.list (tupsP tss)) (by simp [PyData.leavesShort, b])
    have q2 := bulk_tups tss h2
    simp only [PyData.bulk] at q
    rw [sizeLine_eq]
    omega
  show reprOf h _ = _
  unfold reprOf
  rw [e]
  simp only [PyData.showable, a, sh, ln, and_self, if_true]
end Mi
namespace Mi
open PySem
theorem comp_map {α : Type} {step : D → Hm → R (Option D)} {src : Src} {h : Hm} (g : α → D) (f : α → Option D) (so : srcOk src h = true) : ∀ l : List α, (∀ a ∈ l, step (g a) h = .ok (f a) h) → compL step src (l.map g) h = .ok (l.filterMap f) h
  | [], _ => rfl
  | n :: r, hs => by
    rw [List.map_cons, compL, hs n List.mem_cons_self, bnd_ok, so, gd_t, comp_map g f so r fun d hd => hs d (List.mem_cons_of_mem _ hd), bnd_ok, List.filterMap_cons]
    cases f n <;> rfl
/-- a comprehension over a range that keeps all -/
theorem comp_up {step : D → Hm → R (Option D)} {h : Hm} (g : Int → D) (s : Int) (n : Nat) (hs : ∀ i, s ≤ i → i < s + n → step (.int i) h = .ok (some (g i)) h) : compL step none (upto s n) h = .ok ((List.range n).map fun i : Nat => g (s + (i : Int))) h := by
  rw [upto_map, comp_map (src := none) .int (fun i => some (g i)) rfl _ fun a ha => ?_]
  · congr 1
    rw [List.filterMap_map, ← List.filterMap_eq_map]; rfl
  · obtain ⟨i, hi, rfl⟩ := List.mem_map.mp ha
    have := List.mem_range.mp hi
    exact hs _ (by omega) (by omega)
/-- an own list is longer by a fresh one -/
theorem ext_lv {h : Hm} {n : Nat} {xs ys : List D} (e : h[n]? = some (.lst xs)) (hl : xs.length + ys.length ≤ 16777216) : meD h .extend (.ref n) [.lv ys] = .ok .non (h.set n (.lst (xs ++ ys))) := by
  simp [meD, e, meL, wlsOf, hl]
end Mi

set_option Elab.async false
set_option linter.all false
set_option maxRecDepth 100000
/-! own spots, web, edges of a triangle -/
namespace Mi
namespace Wb
open PySem
abbrev PI := Int × Int
/-- the cells of a triangle -/
def spots : Nat → List PI
  | 0 => []
  | s + 1 => spots s ++ (List.range (s + 1)).map fun p : Nat => ((s : Int), (p : Int))
def pl (a : PI) : List Int := [a.1, a.2]
def aroundL (a : PI) : List (List Int) := [[a.1, a.2 - 1], [a.1, a.2 + 1], [a.1 - 1, a.2 - 1], [a.1 - 1, a.2], [a.1 + 1, a.2], [a.1 + 1, a.2 + 1]]
def near1 (a b : PI) : Bool := (aroundL a).any fun z => decide (z = pl b)
def enumF {α : Type} (f : Int → α → Option Int) : Nat → List α → List Int
  | _, [] => []
  | k, b :: r => match f k b with
    | some x => x :: enumF f (k + 1) r
    | none => enumF f (k + 1) r
def webW (s : Nat) : List (List Int) := (spots s).map fun a => enumF (fun k b => if near1 a b = true then some k else none) 0 (spots s)
def edge1 (s : Nat) (a : PI) : List Int := (if a.2 = 0 then [0] else []) ++ ((if a.2 = a.1 then [1] else []) ++ (if a.1 = (s : Int) - 1 then [2] else []))
def edgeW (s : Nat) : List (List Int) := (spots s).map (edge1 s)
abbrev pD (a : PI) : D := .tup [.int a.1, .int a.2]
abbrev prs (l : List PI) : List D := l.map pD
theorem spots_len : ∀ s : Nat, (spots s).length ≤ s * s + s
  | 0 => by simp [spots]
  | s + 1 => by
    have := spots_len s
    have e : (s + 1) * (s + 1) = s * s + s + s + 1 := by rw [Nat.add_mul, Nat.mul_add]; omega
    simp [spots]; omega
theorem spots_le {s : Nat} (hs : s ≤ 12) : (spots s).length ≤ 200 := by
  have := spots_len s
  have : s * s ≤ 12 * 12 := Nat.mul_le_mul (by omega) (by omega)
  omega
theorem prs_refs : ∀ l : List PI, D.refsL (prs l) = []
  | [] => rfl
  | a :: r => by
    have := prs_refs r
    simp only [prs, List.map_cons] at this ⊢
    simp [D.refsL, D.refs, this]
theorem gc_one {l : List D} {rest : Hm} (hl : D.refsL l = []) : gcR 0 (.ok (.ref 0) (.lst l :: rest)) = .ok (.ref 0) [.lst l] := by
  have hr : gcH 0 (.lst l :: rest) [0] = [0] := by
    show reach (99998 + 1 + 1) _ [0] [] = _
    simp [reach, O.refs, hl]
  unfold gcR
  simp only [D.refs, hr]
  simp [closedB, nums, O.refs, hl, subH, O.map, D.map, ixOf, mapL_norefs _ _ hl]
theorem r_spots (K n : Nat) (s : Nat) (hs : s ≤ 12) : run K (n + 1) i_L_spots [.int s] [] = .ok (.ref 0) [.lst (prs (spots s))] := by
  have hr : rngOk (s : Int) = true := rngOk_of (by omega) (by omega)
  have et : (s : Int).toNat = s := by omega
  skip
  rw [run_L_spots]
  obtain ⟨ρ', h', e, o, o', rfl, rfl⟩ := range_rule (step := forS (exs (callM (run K n)) gg (xs0 K) b_L_spots_1) (T.n 2)) (fun k ρ h => ∃ o o' : Option D, ρ = [some (.int s), some (.ref 0), o, o'] ∧ h = [.lst (prs (spots k))]) 0 s (by
    rintro k ρ h hk ⟨o, o', rfl, rfl⟩
    have hr : rngOk ((k : Int) + 1) = true := rngOk_of (by omega) (by omega)
    have hl := spots_le (s := k) (by omega)
    have c : compL (stepC (evF (callM (run K n)) gg .nil) (ev (callM (run K n)) gg b_L_spots_0) (.n 3) [some (D.int s), some (D.ref 0), some (D.int k), o'] [3]) none (upto 0 (k + 1)) [.lst (prs (spots k))] = .ok ((List.range (k + 1)).map fun i : Nat => pD ((k : Int), (0 : Int) + i)) [.lst (prs (spots k))] := by
      refine comp_up (fun i => pD ((k : Int), i)) 0 (k + 1) fun i _ _ => ?_
      simp [stepC, wipeD, b_L_spots_0, nox]
    refine ⟨[some (.int s), some (.ref 0), some (.int (0 + k)), o'], [.lst (prs (spots (k + 1)))], .inl ?_, _, _, rfl, rfl⟩
    have e1 : ((k : Int) + 1).toNat = k + 1 := by omega
    have e2 := ok_ref (h := [.lst (prs (spots k))]) (n := 0) (f := .extend) rfl
    have e3 := ext_lv (h := [.lst (prs (spots k))]) (n := 0) (xs := prs (spots k)) (ys := (List.range (k + 1)).map fun i : Nat => pD ((k : Int), (i : Int))) rfl (by simp; omega)
    have e4 : k + 1 < 16777216 := by omega
    simp only [Int.zero_add] at c
    simp [forS, b_L_spots_1, hr, e1, compR, c, e2, e3, e4]
    simp [spots]) [some (.int s), some (.ref 0), none, none] [.lst (prs (spots 0))] ⟨none, none, rfl, rfl⟩
  simp only [spots, prs, List.map_nil] at e
  simp [b_L_spots, hr, et, e]
  exact gc_one (prs_refs _)
theorem py_tup_ints (h : Hm) (n : Nat) (y : List Int) : pyOf (n + 1) h (.tup (y.map .int)) = some (.tuple (y.map .int)) := by
  rw [pyOf, py_ints]; rfl
theorem shp_tups (tss : List (List Int)) : shp (.list (tupsP tss)) = true := by
  have := dep_tups tss
  have : PyData.depth (.list (tupsP tss)) ≤ 64 := by rw [PyData.depth]; omega
  rw [shp_eq]
  simp [SeqAt.shaped, PyData.canLay0, lay_tups, this]
theorem py_ref_tups {h : Hm} {p : Nat} {tss : List (List Int)} (e : h[p]? = some (.lst (tupsD tss))) : pyOf deepN h (.ref p) = some (.list (tupsP tss)) := by
  show pyOf (38 + 1 + 1) h (.ref p) = _
  rw [pyOf]; simp only [e]
  rw [py_tups]; rfl
theorem any_tups (y : List Int) : ∀ tss : List (List Int), ((tupsP tss).any fun z => eqQ z (.tuple (y.map .int))) = tss.any fun z => decide (z = y)
  | [] => rfl
  | t :: r => by
    have := any_tups y r
    simp only [tupsP, List.map_cons, List.any_cons] at this ⊢
    rw [this, eqQ_eq]
    simp only [PyData.eqv, eqv_ints]
/-- t in a list of tuples of ints -/
theorem in_tups {h : Hm} {p : Nat} {tss : List (List Int)} {y : List Int} (e : h[p]? = some (.lst (tupsD tss))) : inD h (.tup (y.map .int)) (.ref p) = some (tss.any fun z => decide (z = y)) := by
  have h1 := py_ref_tups e
  have h2 := py_tup_ints h 39 y
  have h3 : dicOf h (.ref p) = none := by simp [dicOf, e]
  have h4 : shp (.tuple (y.map .int)) = true := by rw [shp_eq]; exact shaped_tints y
  unfold inD
  simp only [h3]
  rw [h1, show pyOf deepN h (.tup (y.map .int)) = _ from h2]
  simp only [h4, shp_tups, and_self, if_true, any_tups]
/-- i in a tuple of ints -/
theorem in_ints {h : Hm} {ns : List Int} {i : Int} : inD h (.int i) (.tup (ns.map .int)) = some (ns.any fun z => decide (z = i)) := by
  have h1 := py_tup_ints h 39 ns
  have h3 : dicOf h (.tup (ns.map .int)) = none := rfl
  have h4 : shp (.tuple (ns.map .int)) = true := by rw [shp_eq]; exact shaped_tints ns
  unfold inD
  simp only [h3]
  rw [show pyOf deepN h (.int i) = some (.int i) from py_int h _ i, show pyOf deepN h (.tup (ns.map .int)) = _ from h1]
  simp only [h4, and_true]
  rw [if_pos (by rfl)]
  congr 1
  induction ns with
  | nil => rfl
  | cons n r ih =>
    simp only [List.map_cons, List.any_cons]
    rw [ih (py_tup_ints h 39 r) rfl (by rw [shp_eq]; exact shaped_tints r)]
    simp [eqQ]
theorem comp_enum {α : Type} {step : D → Hm → R (Option D)} {src : Src} {h : Hm} (g : α → D) (f : Int → α → Option Int) (so : srcOk src h = true) (hs : ∀ (k : Nat) a, step (.tup [.int k, g a]) h = .ok ((f k a).map .int) h) : ∀ (n : Nat) (l : List α), compL step src (pairs n (l.map g)) h = .ok ((enumF f n l).map .int) h
  | n, [] => rfl
  | n, a :: r => by
    rw [List.map_cons, pairs, compL, hs, bnd_ok, so, gd_t, comp_enum g f so hs (n + 1) r, bnd_ok, enumF]
    cases f n a <;> rfl
theorem enumF_len {α : Type} (f : Int → α → Option Int) : ∀ (n : Nat) (l : List α), (enumF f n l).length ≤ l.length
  | _, [] => by simp [enumF]
  | n, a :: r => by
    have := enumF_len f (n + 1) r
    rw [enumF]
    split <;> simp <;> omega
theorem add_refl {h : Hm} {n : Nat} {xs ys : List D} (e : h[n]? = some (.lst xs)) (hl : xs.length + ys.length ≤ 16777216) : binD h .Add (.ref n) (.lv ys) = some (.lv (xs ++ ys)) := by
  simp [binD, addL, wlsOf, e, hl]
theorem gc_two {x : O} {l : List D} {rest : Hm} (hl : D.refsL l = []) : gcR 0 (.ok (.ref 1) (x :: .lst l :: rest)) = .ok (.ref 0) [.lst l] := by
  have hr : gcH 0 (x :: .lst l :: rest) [1] = [1] := by
    show reach (99998 + 1 + 1) _ [1] [] = _
    simp [reach, O.refs, hl]
  unfold gcR
  simp only [D.refs, hr]
  simp [closedB, nums, O.refs, hl, subH, O.map, D.map, ixOf, mapL_norefs _ _ hl]
abbrev webRow (s : Nat) (a : PI) : List Int := enumF (fun k b => if near1 a b = true then some k else none) 0 (spots s)
theorem r_web (K n : Nat) (s : Nat) (hs : s ≤ 12) : run K (n + 2) i_L_web [.int s] [] = .ok (.ref 0) [.lst (tupsD (webW s))] := by
  rw [run_L_web]
  have c6 := callM_new (Γ := run K (n + 1)) (f := i_L_spots) (args := [.int s]) (by simp [D.refsL, D.refs]) (r_spots K n s hs)
  have hl := spots_le hs
  obtain ⟨ρ', h', e, done, o3, o4, o5, o6, o7, fs, g, ⟨rest, hd, hd2⟩, rfl, rfl, rfl⟩ := for_rule (step := forS (exs (callM (run K (n + 1))) gg (xs0 K) b_L_web_2) (.t (.cons (.n 3) (.cons (.n 4) .nil)))) (src := some (0, .lst (prs (spots s))))
    (fun ds ρ h => ∃ (done : List PI) (o3 o4 o5 o6 o7 : Option D) (fs : List (List Int)) (g : Hm), (∃ rest, ds = prs rest ∧ done ++ rest = spots s) ∧ fs = done.map (webRow s) ∧ ρ = [some (.int s), some (.ref 0), some (.ref 1), o3, o4, o5, o6, o7] ∧ h = .lst (prs (spots s)) :: .lst (tupsD fs) :: g) (by
    rintro d ds ρ h ⟨done, o3, o4, o5, o6, o7, fs, g, ⟨rest, e1, e2⟩, hf, rfl, rfl⟩
    cases rest with
    | nil => cases e1
    | cons a rest =>
      simp only [prs, List.map_cons, List.cons.injEq] at e1
      obtain ⟨rfl, rfl⟩ := e1
      have hfl : fs.length < 16777216 := by
        have : (done ++ a :: rest).length = (spots s).length := by rw [e2]
        simp at this
        rw [hf, List.length_map]; omega
      refine ⟨[some (.int s), some (.ref 0), some (.ref 1), some (.int a.1), some (.int a.2), some (.ref (g.length + 1 + 1 + 1)), o6, o7], .lst (prs (spots s)) :: .lst (tupsD (fs ++ [webRow s a])) :: (g ++ [.lst (tupsD ((aroundL a).take 4)), .lst (tupsD (aroundL a))]), .inl ?_, by simp [srcOk], done ++ [a], _, _, _, _, _, _, _, ⟨rest, rfl, by rw [← e2]; simp⟩, by rw [hf]; simp, rfl, rfl⟩
      have a1 : ∀ (x y : O) (zs : List D) (ys : List D), zs.length + ys.length ≤ 100 → binD (x :: y :: (g ++ [.lst zs])) .Add (.ref (g.length + 1 + 1)) (.lv ys) = some (.lv (zs ++ ys)) := fun x y zs ys hz => add_refl (by simp) (by omega)
      have a2 : ∀ (x y z w : O), (x :: y :: (g ++ [z, w]))[g.length + 1 + 1 + 1]? = some w := fun x y z w => by simp
      have a3 : ∀ (x y : O), meOk (x :: .lst (tupsD fs) :: (g ++ [y, .lst (tupsD (aroundL a))])) .append (.ref 1) = true := fun x y => ok_ref (ds := tupsD fs) rfl
      have a4 : ∀ (x y z : O) (d : D), meD (x :: .lst (tupsD fs) :: (g ++ [y, z])) .append (.ref 1) [d] = .ok .non (x :: .lst (tupsD fs ++ [d]) :: (g ++ [y, z])) := fun x y z d => app_ref (ds := tupsD fs) rfl (by simpa using hfl)
      have a5 : ∀ (y : O) (b : PI), inD (.lst (prs (spots s)) :: .lst (tupsD fs) :: (g ++ [y, .lst (tupsD (aroundL a))])) (pD b) (.ref (g.length + 1 + 1 + 1)) = some (near1 a b) := fun y b => in_tups (y := pl b) (a2 _ _ _ _)
      have c : ∀ (y : O), compL (stepC (evF (callM (run K (n + 1))) gg b_L_web_1) (ev (callM (run K (n + 1))) gg b_L_web_0) (.t (.cons (.n 6) (.cons (.n 7) .nil))) [some (.int s), some (.ref 0), some (.ref 1), some (.int a.1), some (.int a.2), some (.ref (g.length + 1 + 1 + 1)), o6, o7] [6, 7]) (some (0, .lst (prs (spots s)))) (pairs 0 (prs (spots s))) (.lst (prs (spots s)) :: .lst (tupsD fs) :: (g ++ [y, .lst (tupsD (aroundL a))])) = .ok ((webRow s a).map .int) (.lst (prs (spots s)) :: .lst (tupsD fs) :: (g ++ [y, .lst (tupsD (aroundL a))])) := by
        intro y
        refine comp_enum pD (fun k b => if near1 a b = true then some k else none) (by simp [srcOk]) (fun k b => ?_) 0 (spots s)
        have := a5 y b
        by_cases hn : near1 a b = true
        · simp [stepC, wipeD, b_L_web_0, b_L_web_1, nox, cmpD, this, hn]
        · simp [stepC, wipeD, b_L_web_0, b_L_web_1, nox, cmpD, this, hn]
      have hw := enumF_len (fun k b => if near1 a b = true then some k else none) 0 (spots s)
      have hw2 : (webRow s a).length < 16777216 := by show (enumF _ 0 (spots s)).length < _; omega
      simp only [aroundL, tupsD, List.map_cons, List.map_nil, List.take] at *
      simp [forS, b_L_web_2, a1, a2, a3, a4, lstOf, seqOf, compR, c, srcOf, hw2]) (prs (spots s)) [some (.int s), some (.ref 0), some (.ref 1), none, none, none, none, none] [.lst (prs (spots s)), .lst []] ⟨[], _, _, _, _, _, [], [], ⟨spots s, rfl, rfl⟩, rfl, rfl, rfl⟩
  have hr : rest = [] := by
    cases rest with
    | nil => rfl
    | cons a r => cases hd
  subst hr
  rw [List.append_nil] at hd2
  subst hd2
  have s1 : ∀ x, seqOf (.lst (prs (spots s)) :: x) (.ref 0) = some (prs (spots s)) := fun x => seq_ref rfl
  have s2 : ∀ x, srcOf (.lst (prs (spots s)) :: x) (.ref 0) = some (0, .lst (prs (spots s))) := fun x => src_ref rfl
  simp [b_L_web, c6, s1, s2, forR, e]
  rw [← List.map_map]
  exact gc_two (tups_refs _)
/-! ### the sides -/
theorem comp_three {step : D → Hm → R (Option D)} {h : Hm} (a b c : Bool) (h0 : step (.int 0) h = .ok (if a = true then some (.int 0) else none) h) (h1 : step (.int 1) h = .ok (if b = true then some (.int 1) else none) h) (h2 : step (.int 2) h = .ok (if c = true then some (.int 2) else none) h) :
    compL step none (upto 0 3) h = .ok (((if a = true then [(0:Int)] else []) ++ ((if b = true then [1] else []) ++ (if c = true then [2] else []))).map .int) h := by
  show compL step none [.int 0, .int (0 + 1), .int (0 + 1 + 1)] h = _
  simp only [compL, h0, bnd_ok, srcOk, gd_t, show (0:Int) + 1 = 1 from rfl, show (1:Int) + 1 = 2 from rfl, h1, h2]
  cases a <;> cases b <;> cases c <;> rfl
theorem r_edges (K n : Nat) (s : Nat) (hs : s ≤ 12) : run K (n + 2) i_L_edges [.int s] [] = .ok (.ref 0) [.lst (tupsD (edgeW s))] := by
  rw [run_L_edges]
  have c6 := fun (h : Hm) => callM_make (Γ := run K (n + 1)) (f := i_L_spots) (args := [.int s]) (h := h) (by simp [D.refsL, D.refs]) (r_spots K n s hs)
  have hl := spots_le hs
  obtain ⟨ρ', h', e, done, o3, o4, o5, o6, fs, g, ⟨rest, hd, hd2⟩, rfl, rfl, rfl⟩ := for_rule (step := forS (exs (callM (run K (n + 1))) gg (xs0 K) b_L_edges_2) (.t (.cons (.n 2) (.cons (.n 3) .nil)))) (src := some (1, .lst (prs (spots s))))
    (fun ds ρ h => ∃ (done : List PI) (o3 o4 o5 o6 : Option D) (fs : List (List Int)) (g : Hm), (∃ rest, ds = prs rest ∧ done ++ rest = spots s) ∧ fs = done.map (edge1 s) ∧ ρ = [some (.int s), some (.ref 0), o3, o4, o5, o6] ∧ h = .lst (tupsD fs) :: .lst (prs (spots s)) :: g) (by
    rintro d ds ρ h ⟨done, o3, o4, o5, o6, fs, g, ⟨rest, e1, e2⟩, hf, rfl, rfl⟩
    cases rest with
    | nil => cases e1
    | cons a rest =>
      simp only [prs, List.map_cons, List.cons.injEq] at e1
      obtain ⟨rfl, rfl⟩ := e1
      have hfl : fs.length < 16777216 := by
        have : (done ++ a :: rest).length = (spots s).length := by rw [e2]
        simp at this
        rw [hf, List.length_map]; omega
      refine ⟨[some (.int s), some (.ref 0), some (.int a.1), some (.int a.2), some (.ref (g.length + 1 + 1)), o6], .lst (tupsD (fs ++ [edge1 s a])) :: .lst (prs (spots s)) :: (g ++ [.lst [.bl (decide (a.2 = 0)), .bl (decide (a.2 = a.1)), .bl (decide (a.1 = (s : Int) - 1))]]), .inl ?_, by simp [srcOk], done ++ [a], _, _, _, _, _, _, ⟨rest, rfl, by rw [← e2]; simp⟩, by rw [hf]; simp, rfl, rfl⟩
      have a2 : ∀ (x y w : O), (x :: y :: (g ++ [w]))[g.length + 1 + 1]? = some w := fun x y w => by simp
      have a3 : ∀ (x y : O), meOk (.lst (tupsD fs) :: x :: (g ++ [y])) .append (.ref 0) = true := fun x y => ok_ref (ds := tupsD fs) rfl
      have a4 : ∀ (x y : O) (d : D), meD (.lst (tupsD fs) :: x :: (g ++ [y])) .append (.ref 0) [d] = .ok .non (.lst (tupsD fs ++ [d]) :: x :: (g ++ [y])) := fun x y d => app_ref (ds := tupsD fs) rfl (by simpa using hfl)
      have hw2 : (edge1 s a).length < 16777216 := by
        unfold edge1
        have : ∀ (c : Prop) [Decidable c] (x : Int), (if c then [x] else []).length ≤ 1 := fun c _ x => by split <;> simp
        have h0 := this (a.2 = 0) 0
        have h1 := this (a.2 = a.1) 1
        have h2 := this (a.1 = (s : Int) - 1) 2
        simp only [List.length_append]; omega
      have c : compL (stepC (evF (callM (run K (n + 1))) gg b_L_edges_1) (ev (callM (run K (n + 1))) gg b_L_edges_0) (.n 5) [some (.int s), some (.ref 0), some (.int a.1), some (.int a.2), some (.ref (g.length + 1 + 1)), o6] [5]) none (upto 0 3) (.lst (tupsD fs) :: .lst (prs (spots s)) :: (g ++ [.lst [.bl (decide (a.2 = 0)), .bl (decide (a.2 = a.1)), .bl (decide (a.1 = (s : Int) - 1))]])) = .ok ((edge1 s a).map .int) (.lst (tupsD fs) :: .lst (prs (spots s)) :: (g ++ [.lst [.bl (decide (a.2 = 0)), .bl (decide (a.2 = a.1)), .bl (decide (a.1 = (s : Int) - 1))]])) := by
        have := fun q => comp_three (step := stepC (evF (callM (run K (n + 1))) gg b_L_edges_1) (ev (callM (run K (n + 1))) gg b_L_edges_0) (.n 5) [some (.int s), some (.ref 0), some (.int a.1), some (.int a.2), some (.ref (g.length + 1 + 1)), o6] [5]) (h := (.lst (tupsD fs) :: .lst (prs (spots s)) :: (g ++ [.lst [.bl (decide (a.2 = 0)), .bl (decide (a.2 = a.1)), .bl (decide (a.1 = (s : Int) - 1))]]))) (decide (a.2 = 0)) (decide (a.2 = a.1)) (decide (a.1 = (s : Int) - 1)) q
        simp only [decide_eq_true_eq] at this
        have i0 : ∀ (x y : O) (b0 b1 b2 : Bool), ixD (x :: y :: (g ++ [.lst [.bl b0, .bl b1, .bl b2]])) (.ref (g.length + 1 + 1)) (.int 0) = some (.bl b0) := fun x y b0 b1 b2 => by rw [ix_ref' (a2 _ _ _)]; rfl
        have i1 : ∀ (x y : O) (b0 b1 b2 : Bool), ixD (x :: y :: (g ++ [.lst [.bl b0, .bl b1, .bl b2]])) (.ref (g.length + 1 + 1)) (.int 1) = some (.bl b1) := fun x y b0 b1 b2 => by rw [ix_ref' (a2 _ _ _)]; rfl
        have i2 : ∀ (x y : O) (b0 b1 b2 : Bool), ixD (x :: y :: (g ++ [.lst [.bl b0, .bl b1, .bl b2]])) (.ref (g.length + 1 + 1)) (.int 2) = some (.bl b2) := fun x y b0 b1 b2 => by rw [ix_ref' (a2 _ _ _)]; rfl
        refine this ?_ ?_ ?_
        · by_cases hc : a.2 = 0 <;> simp [stepC, wipeD, b_L_edges_0, b_L_edges_1, nox, i0, hc]
        · by_cases hc : a.2 = a.1 <;> simp [stepC, wipeD, b_L_edges_0, b_L_edges_1, nox, i1, hc]
        · by_cases hc : a.1 = (s : Int) - 1 <;> simp [stepC, wipeD, b_L_edges_0, b_L_edges_1, nox, i2, hc]
      have hr : rngOk 3 = true := by decide
      simp only [tupsD] at *
      simp [forS, b_L_edges_2, a3, a4, compR, c, hr, hw2]) (prs (spots s)) [some (.int s), some (.ref 0), none, none, none, none] [.lst [], .lst (prs (spots s))] ⟨[], _, _, _, _, [], [], ⟨spots s, rfl, rfl⟩, rfl, rfl, rfl⟩
  have hr : rest = [] := by
    cases rest with
    | nil => rfl
    | cons a r => cases hd
  subst hr
  rw [List.append_nil] at hd2
  subst hd2
  have m1 : O.map (fun i => 1 + i) (.lst (prs (spots s))) = .lst (prs (spots s)) := omap_id _ _ (by simp [O.refs, prs_refs])
  simp only [D.map, List.length_cons, List.length_nil, Nat.zero_add, Nat.add_zero, List.map_cons, List.map_nil] at c6
  have c7 := c6 [.lst []]
  simp only [List.length_cons, List.length_nil, Nat.zero_add, m1] at c7
  have s1 : ∀ x y, seqOf (x :: .lst (prs (spots s)) :: y) (.ref 1) = some (prs (spots s)) := fun x y => seq_ref rfl
  have s2 : ∀ x y, srcOf (x :: .lst (prs (spots s)) :: y) (.ref 1) = some (1, .lst (prs (spots s))) := fun x y => src_ref rfl
  simp [b_L_edges, c7, s1, s2, forR, e]
  rw [← List.map_map]
  exact gc_one (tups_refs _)
theorem spots_mem : ∀ {s : Nat} (a : PI), a ∈ spots s → 0 ≤ a.2 ∧ a.2 ≤ a.1 ∧ a.1 < s
  | 0, a, h => by simp [spots] at h
  | s + 1, a, h => by
    simp only [spots, List.mem_append, List.mem_map, List.mem_range] at h
    rcases h with h | ⟨p, hp, rfl⟩
    · have := spots_mem a h
      omega
    · simp; omega
end Wb
end Mi

set_option Elab.async false
set_option linter.all false
set_option maxRecDepth 100000
/-! triangles: majorities keep who has a chain -/
namespace Mi
abbrev Ce := Nat × Nat
def inT (n : Nat) (f : Nat → Nat → Bool) (z : Ce) : Prop := z.2 ≤ z.1 ∧ z.1 < n ∧ f z.1 z.2 = true
def yadj (a b : Ce) : Prop := (b.1 = a.1 ∧ b.2 = a.2 + 1) ∨ (a.1 = b.1 ∧ a.2 = b.2 + 1) ∨ (b.1 = a.1 + 1 ∧ b.2 = a.2) ∨ (a.1 = b.1 + 1 ∧ a.2 = b.2) ∨ (b.1 = a.1 + 1 ∧ b.2 = a.2 + 1) ∨ (a.1 = b.1 + 1 ∧ a.2 = b.2 + 1)
def ysame (a b : Ce) : Prop := a.1 = b.1 ∧ a.2 = b.2
theorem ysame_eq {a b : Ce} (h : ysame a b) : a = b := Prod.ext h.1 h.2
theorem yadj_symm {a b : Ce} (h : yadj a b) : yadj b a := by unfold yadj at *; omega
inductive Rc (n : Nat) (f : Nat → Nat → Bool) : Ce → Ce → Prop
  | here {x : Ce} : inT n f x → Rc n f x x
  | step {x y z : Ce} : Rc n f x y → yadj y z → inT n f z → Rc n f x z
section
variable {n : Nat} {f : Nat → Nat → Bool} {x y z : Ce}
theorem Rc.right (h : Rc n f x y) : inT n f y := by cases h <;> assumption
theorem Rc.left (h : Rc n f x y) : inT n f x := by
  induction h with
  | here h => exact h
  | step _ _ _ ih => exact ih
theorem Rc.trans (h : Rc n f x y) (g : Rc n f y z) : Rc n f x z := by
  induction g with
  | here _ => exact h
  | step _ a b ih => exact .step ih a b
theorem Rc.symm (h : Rc n f x y) : Rc n f y x := by
  induction h with
  | here h => exact .here h
  | step g a b ih => exact Rc.trans (.step (.here b) (yadj_symm a) g.right) ih
theorem Rc.near (h : inT n f y) (g : inT n f z) (a : ysame y z ∨ yadj y z) : Rc n f y z := by
  rcases a with a | a
  · rw [← ysame_eq a]; exact .here h
  · exact .step (.here h) a g
theorem Rc.first (h : Rc n f x y) : ysame x y ∨ ∃ z, inT n f z ∧ yadj x z := by
  induction h with
  | here _ => exact .inl ⟨rfl, rfl⟩
  | step g a b ih =>
    rcases ih with ih | ih
    · rw [← ysame_eq ih] at a; exact .inr ⟨_, b, a⟩
    · exact .inr ih
end
def ytch (n : Nat) : Nat → Ce → Prop
  | 0, z => z.2 = 0
  | 1, z => z.2 = z.1
  | _, z => z.1 + 1 = n
def Full (n : Nat) (f : Nat → Nat → Bool) (x : Ce) : Prop := ∀ k, k < 3 → ∃ a, Rc n f x a ∧ ytch n k a
def YY (n : Nat) (f : Nat → Nat → Bool) : Prop := ∃ x, inT n f x ∧ Full n f x
def maj (a b c : Bool) : Bool := (a && b) || (a && c) || (b && c)
def yred (f : Nat → Nat → Bool) : Nat → Nat → Bool := fun r p => maj (f r p) (f (r + 1) p) (f (r + 1) (p + 1))
def yin (t y : Ce) : Prop := (y.1 = t.1 ∧ y.2 = t.2) ∨ (y.1 = t.1 + 1 ∧ y.2 = t.2) ∨ (y.1 = t.1 + 1 ∧ y.2 = t.2 + 1)
section
variable {n : Nat} {f : Nat → Nat → Bool} {x y z t t' : Ce}
theorem up_edge0 (hy : inT (n + 1) f y) (hz : inT (n + 1) f z) (a : (z.1 = y.1 ∧ z.2 = y.2 + 1) ∨ (z.1 = y.1 + 1 ∧ z.2 = y.2) ∨ (z.1 = y.1 + 1 ∧ z.2 = y.2 + 1)) : ∃ t, inT n (yred f) t ∧ yin t y ∧ yin t z := by
  obtain ⟨r, p⟩ := y
  obtain ⟨r', p'⟩ := z
  obtain ⟨h1, h2, h3⟩ := hy
  obtain ⟨g1, g2, g3⟩ := hz
  simp only at *
  rcases a with ⟨rfl, rfl⟩ | ⟨rfl, rfl⟩ | ⟨rfl, rfl⟩
  · obtain ⟨q, rfl⟩ : ∃ q, r' = q + 1 := ⟨r' - 1, by omega⟩
    exact ⟨(q, p), ⟨by simp; omega, by simp; omega, by simp [yred, maj, h3, g3]⟩, by simp [yin], by simp [yin]⟩
  · exact ⟨(r, p'), ⟨by simp; omega, by simp; omega, by simp [yred, maj, h3, g3]⟩, by simp [yin], by simp [yin]⟩
  · exact ⟨(r, p), ⟨by simp; omega, by simp; omega, by simp [yred, maj, h3, g3]⟩, by simp [yin], by simp [yin]⟩
theorem up_edge (hy : inT (n + 1) f y) (hz : inT (n + 1) f z) (a : yadj y z) : ∃ t, inT n (yred f) t ∧ yin t y ∧ yin t z := by
  rcases a with a | a | a | a | a | a
  · exact up_edge0 hy hz (.inl a)
  · obtain ⟨t, h, h1, h2⟩ := up_edge0 hz hy (.inl a); exact ⟨t, h, h2, h1⟩
  · exact up_edge0 hy hz (.inr (.inl a))
  · obtain ⟨t, h, h1, h2⟩ := up_edge0 hz hy (.inr (.inl a)); exact ⟨t, h, h2, h1⟩
  · exact up_edge0 hy hz (.inr (.inr a))
  · obtain ⟨t, h, h1, h2⟩ := up_edge0 hz hy (.inr (.inr a)); exact ⟨t, h, h2, h1⟩
theorem up_share (h : yin t y) (h' : yin t' y) : ysame t t' ∨ yadj t t' := by
  unfold yin at h h'; unfold ysame yadj
  omega
theorem rc_up (h : Rc (n + 1) f x y) : ∀ t0 t, inT n (yred f) t0 → inT n (yred f) t → yin t0 x → yin t y → Rc n (yred f) t0 t := by
  induction h with
  | here _ => exact fun t0 t h0 h1 i0 i1 => .near h0 h1 (up_share i0 i1)
  | step g a b ih =>
    intro t0 t h0 h1 i0 i1
    obtain ⟨t1, k1, k2, k3⟩ := up_edge g.right b a
    exact (ih t0 t1 h0 k1 i0 k2).trans (.near k1 h1 (up_share k3 i1))
theorem up_side {k : Nat} (ht : inT n (yred f) t) (i : yin t y) (h : ytch (n + 1) k y) : ytch n k t := by
  obtain ⟨h1, h2, _⟩ := ht
  unfold yin at i
  match k with
  | 0 => simp only [ytch] at *; omega
  | 1 => simp only [ytch] at *; omega
  | k + 2 => simp only [ytch] at *; omega
theorem YY.up (h : YY (n + 2) f) : YY (n + 1) (yred f) := by
  obtain ⟨x, hx, hf⟩ := h
  obtain ⟨z0, hz0, az0⟩ : ∃ z, inT (n + 2) f z ∧ yadj x z := by
    obtain ⟨a, ra, ta⟩ := hf 0 (by omega)
    obtain ⟨b, rb, tb⟩ := hf 1 (by omega)
    obtain ⟨c, rc, tc⟩ := hf 2 (by omega)
    rcases ra.first with qa | q
    · rcases rb.first with qb | q
      · rcases rc.first with qc | q
        · exfalso
          simp only [ytch] at ta tb tc
          unfold ysame at qa qb qc
          omega
        · exact q
      · exact q
    · exact q
  obtain ⟨t0, h0, i0, _⟩ := up_edge hx hz0 az0
  refine ⟨t0, h0, fun k hk => ?_⟩
  obtain ⟨a, ra, ta⟩ := hf k hk
  obtain ⟨t, ht, it⟩ : ∃ t, inT (n + 1) (yred f) t ∧ yin t a := by
    rcases ra.symm.first with q | ⟨z, hz, az⟩
    · rw [ysame_eq q]; exact ⟨t0, h0, i0⟩
    · obtain ⟨t, h, i, _⟩ := up_edge ra.right hz az
      exact ⟨t, h, i⟩
  exact ⟨t, rc_up ra t0 t h0 ht i0 it, up_side ht it ta⟩
theorem dn_same (h : inT n f y) (g : inT n f z) (i : yin t y) (j : yin t z) : Rc n f y z := .near h g (by
  unfold yin at i j; unfold ysame yadj; omega)
theorem maj_two {a b c : Bool} (h : maj a b c = true) : (a = true ∧ b = true) ∨ (a = true ∧ c = true) ∨ (b = true ∧ c = true) := by
  revert h; cases a <;> cases b <;> cases c <;> simp [maj]
theorem dn_pick {k : Nat} (h : inT n (yred f) t) (s : ytch n k t) : ∃ y, inT (n + 1) f y ∧ yin t y ∧ ytch (n + 1) k y := by
  obtain ⟨r, p⟩ := t
  obtain ⟨h1, h2, h3⟩ := h
  simp only at *
  have m := maj_two h3
  have A : f r p = true → inT (n + 1) f (r, p) := fun e => ⟨h1, by simp; omega, e⟩
  have B : f (r + 1) p = true → inT (n + 1) f (r + 1, p) := fun e => ⟨by simp; omega, by simp; omega, e⟩
  have C : f (r + 1) (p + 1) = true → inT (n + 1) f (r + 1, p + 1) := fun e => ⟨by simp; omega, by simp; omega, e⟩
  have iA : yin (r, p) (r, p) := by simp [yin]
  have iB : yin (r, p) (r + 1, p) := by simp [yin]
  have iC : yin (r, p) (r + 1, p + 1) := by simp [yin]
  match k with
  | 0 =>
    simp only [ytch] at s
    rcases m with ⟨a, b⟩ | ⟨a, b⟩ | ⟨a, b⟩
    · exact ⟨_, A a, iA, by simp [ytch, s]⟩
    · exact ⟨_, A a, iA, by simp [ytch, s]⟩
    · exact ⟨_, B a, iB, by simp [ytch, s]⟩
  | 1 =>
    simp only [ytch] at s
    rcases m with ⟨a, b⟩ | ⟨a, b⟩ | ⟨a, b⟩
    · exact ⟨_, A a, iA, by simp [ytch, s]⟩
    · exact ⟨_, A a, iA, by simp [ytch, s]⟩
    · exact ⟨_, C b, iC, by simp [ytch, s]⟩
  | k + 2 =>
    simp only [ytch] at s
    rcases m with ⟨a, b⟩ | ⟨a, b⟩ | ⟨a, b⟩
    · exact ⟨_, B b, iB, by simp [ytch, s]⟩
    · exact ⟨_, C b, iC, by simp [ytch, s]⟩
    · exact ⟨_, B a, iB, by simp [ytch, s]⟩
theorem dn_adj0 (h : inT n (yred f) t) (h' : inT n (yred f) t') (a : (t'.1 = t.1 ∧ t'.2 = t.2 + 1) ∨ (t'.1 = t.1 + 1 ∧ t'.2 = t.2) ∨ (t'.1 = t.1 + 1 ∧ t'.2 = t.2 + 1)) : ∃ y y', inT (n + 1) f y ∧ inT (n + 1) f y' ∧ yin t y ∧ yin t' y' ∧ (ysame y y' ∨ yadj y y') := by
  obtain ⟨r, p⟩ := t
  obtain ⟨r', p'⟩ := t'
  obtain ⟨h1, h2, h3⟩ := h
  obtain ⟨g1, g2, g3⟩ := h'
  simp only at *
  have m := maj_two h3
  have m' := maj_two g3
  have I : ∀ (r p : Nat), p ≤ r → r < n + 1 → f r p = true → inT (n + 1) f (r, p) := fun r p h1 h2 h3 => ⟨h1, h2, h3⟩
  rcases a with ⟨rfl, rfl⟩ | ⟨rfl, rfl⟩ | ⟨rfl, rfl⟩
  · cases e : f (r' + 1) (p + 1) with
    | true => exact ⟨_, _, I _ _ (by omega) (by omega) e, I _ _ (by omega) (by omega) e, by simp [yin], by simp [yin], .inl ⟨rfl, rfl⟩⟩
    | false =>
      simp only [e] at m m'
      have a1 : f r' p = true := by rcases m with ⟨a, b⟩ | ⟨a, b⟩ | ⟨a, b⟩ <;> simp_all
      have a2 : f r' (p + 1) = true := by rcases m' with ⟨a, b⟩ | ⟨a, b⟩ | ⟨a, b⟩ <;> simp_all
      exact ⟨_, _, I _ _ (by omega) (by omega) a1, I _ _ (by omega) (by omega) a2, by simp [yin], by simp [yin], .inr (by simp [yadj])⟩
  · cases e : f (r + 1) p' with
    | true => exact ⟨_, _, I _ _ (by omega) (by omega) e, I _ _ (by omega) (by omega) e, by simp [yin], by simp [yin], .inl ⟨rfl, rfl⟩⟩
    | false =>
      simp only [e] at m m'
      have a1 : f (r + 1) (p' + 1) = true := by rcases m with ⟨a, b⟩ | ⟨a, b⟩ | ⟨a, b⟩ <;> simp_all
      have a2 : f (r + 1 + 1) (p' + 1) = true := by rcases m' with ⟨a, b⟩ | ⟨a, b⟩ | ⟨a, b⟩ <;> simp_all
      exact ⟨_, _, I _ _ (by omega) (by omega) a1, I _ _ (by omega) (by omega) a2, by simp [yin], by simp [yin], .inr (by simp [yadj])⟩
  · cases e : f (r + 1) (p + 1) with
    | true => exact ⟨_, _, I _ _ (by omega) (by omega) e, I _ _ (by omega) (by omega) e, by simp [yin], by simp [yin], .inl ⟨rfl, rfl⟩⟩
    | false =>
      simp only [e] at m m'
      have a1 : f (r + 1) p = true := by rcases m with ⟨a, b⟩ | ⟨a, b⟩ | ⟨a, b⟩ <;> simp_all
      have a2 : f (r + 1 + 1) (p + 1) = true := by rcases m' with ⟨a, b⟩ | ⟨a, b⟩ | ⟨a, b⟩ <;> simp_all
      exact ⟨_, _, I _ _ (by omega) (by omega) a1, I _ _ (by omega) (by omega) a2, by simp [yin], by simp [yin], .inr (by simp [yadj])⟩
theorem dn_adj (h : inT n (yred f) t) (h' : inT n (yred f) t') (a : yadj t t') : ∃ y y', inT (n + 1) f y ∧ inT (n + 1) f y' ∧ yin t y ∧ yin t' y' ∧ (ysame y y' ∨ yadj y y') := by
  have fl : (∃ y y', inT (n + 1) f y ∧ inT (n + 1) f y' ∧ yin t' y ∧ yin t y' ∧ (ysame y y' ∨ yadj y y')) → ∃ y y', inT (n + 1) f y ∧ inT (n + 1) f y' ∧ yin t y ∧ yin t' y' ∧ (ysame y y' ∨ yadj y y') := fun ⟨y, y', a, b, c, d, e⟩ => ⟨y', y, b, a, d, c, e.elim (fun q => .inl ⟨q.1.symm, q.2.symm⟩) fun q => .inr (yadj_symm q)⟩
  rcases a with a | a | a | a | a | a
  · exact dn_adj0 h h' (.inl a)
  · exact fl (dn_adj0 h' h (.inl a))
  · exact dn_adj0 h h' (.inr (.inl a))
  · exact fl (dn_adj0 h' h (.inr (.inl a)))
  · exact dn_adj0 h h' (.inr (.inr a))
  · exact fl (dn_adj0 h' h (.inr (.inr a)))
theorem rc_dn (h : Rc n (yred f) t t') : ∀ y y', inT (n + 1) f y → inT (n + 1) f y' → yin t y → yin t' y' → Rc (n + 1) f y y' := by
  induction h with
  | here _ => exact fun y y' h h' i i' => dn_same h h' i i'
  | step g a b ih =>
    intro y y' h h' i i'
    obtain ⟨z, z', k1, k2, k3, k4, k5⟩ := dn_adj g.right b a
    exact ((ih y z h k1 i k3).trans (.near k1 k2 k5)).trans (dn_same k2 h' k4 i')
theorem YY.dn (h : YY n (yred f)) : YY (n + 1) f := by
  obtain ⟨t, ht, hf⟩ := h
  obtain ⟨a0, ra0, ta0⟩ := hf 0 (by omega)
  obtain ⟨x, hx, ix⟩ : ∃ x, inT (n + 1) f x ∧ yin t x := by
    obtain ⟨r, p⟩ := t
    obtain ⟨h1, h2, h3⟩ := ht
    simp only at *
    rcases maj_two h3 with ⟨a, b⟩ | ⟨a, b⟩ | ⟨a, b⟩
    · exact ⟨(r, p), ⟨h1, by simp; omega, a⟩, by simp [yin]⟩
    · exact ⟨(r, p), ⟨h1, by simp; omega, a⟩, by simp [yin]⟩
    · exact ⟨(r + 1, p), ⟨by simp; omega, by simp; omega, a⟩, by simp [yin]⟩
  refine ⟨x, hx, fun k hk => ?_⟩
  obtain ⟨a, ra, ta⟩ := hf k hk
  obtain ⟨y, hy, iy, ty⟩ := dn_pick ra.right ta
  exact ⟨y, rc_dn ra x y hx hy ix iy, ty⟩
end
def ylo : Nat → (Nat → Nat → Bool) → Bool
  | 0, f => f 0 0
  | n + 1, f => ylo n (yred f)
/-- the Y theorem -/
theorem YY_iff : ∀ (n : Nat) (f : Nat → Nat → Bool), YY (n + 1) f ↔ ylo n f = true
  | 0, f => by
    constructor
    · rintro ⟨⟨r, p⟩, ⟨h1, h2, h3⟩, _⟩
      simp only at *
      obtain rfl : r = 0 := by omega
      obtain rfl : p = 0 := by omega
      exact h3
    · intro h
      have h0 : inT 1 f (0, 0) := ⟨Nat.le_refl _, by simp, h⟩
      refine ⟨(0, 0), h0, fun k hk => ⟨(0, 0), .here h0, ?_⟩⟩
      match k with
      | 0 => rfl
      | 1 => rfl
      | k + 2 => rfl
  | n + 1, f => by
    rw [ylo, ← YY_iff n (yred f)]
    exact ⟨YY.up, YY.dn⟩
theorem maj_mono {a b c a' b' c' : Bool} (h1 : a = true → a' = true) (h2 : b = true → b' = true) (h3 : c = true → c' = true) : maj a b c = true → maj a' b' c' = true := by
  cases a <;> cases b <;> cases c <;> simp_all [maj]
theorem ylo_mono : ∀ (n : Nat) (f g : Nat → Nat → Bool), (∀ r p, p ≤ r → r ≤ n → f r p = true → g r p = true) → ylo n f = true → ylo n g = true
  | 0, f, g, h => h 0 0 (Nat.le_refl _) (Nat.le_refl _)
  | n + 1, f, g, h => ylo_mono n _ _ fun r p h1 h2 => maj_mono (h r p h1 (by omega)) (h (r + 1) p (by omega) (by omega)) (h (r + 1) (p + 1) (by omega) (by omega))
theorem ylo_congr (n : Nat) (f g : Nat → Nat → Bool) (h : ∀ r p, p ≤ r → r ≤ n → f r p = g r p) : ylo n f = ylo n g := by
  rw [Bool.eq_iff_iff]
  exact ⟨ylo_mono n f g fun r p a b c => by rw [← h r p a b]; exact c, ylo_mono n g f fun r p a b c => by rw [h r p a b]; exact c⟩
theorem ylo_not : ∀ (n : Nat) (f : Nat → Nat → Bool), ylo n (fun r p => !f r p) = !ylo n f
  | 0, f => rfl
  | n + 1, f => by
    rw [ylo, ylo, ← ylo_not n (yred f)]
    congr 1
    funext r p
    simp only [yred]
    cases f r p <;> cases f (r + 1) p <;> cases f (r + 1) (p + 1) <;> rfl
theorem ylo_const (b : Bool) : ∀ (n : Nat), ylo n (fun _ _ => b) = b
  | 0 => rfl
  | n + 1 => by
    have e : yred (fun _ _ => b) = fun _ _ => b := by
      funext r p
      simp only [yred]
      cases b <;> rfl
    rw [ylo, e, ylo_const b n]
end Mi

set_option Elab.async false
set_option linter.all false
set_option maxRecDepth 100000
namespace Mi
open PySem
def tri : Nat → Nat
  | 0 => 0
  | n + 1 => tri n + (n + 1)
theorem tri_two : ∀ n : Nat, (n : Int) * (n + 1) = 2 * (tri n : Int)
  | 0 => rfl
  | n + 1 => by
    have := tri_two n
    have e : ((n + 1 : Nat) : Int) * (((n + 1 : Nat) : Int) + 1) = (n : Int) * (n + 1) + 2 * ((n : Int) + 1) := by
      push_cast; simp only [Int.mul_add, Int.add_mul]; omega
    rw [e, this, tri]; push_cast; omega
theorem tri_div (n : Nat) : (n : Int) * (n + 1) / 2 = tri n := by rw [tri_two]; omega
theorem tri_le {a b : Nat} (h : a ≤ b) : tri a ≤ tri b := by
  induction b with
  | zero => obtain rfl : a = 0 := by omega
            exact Nat.le_refl _
  | succ b ih =>
    rcases Nat.lt_or_ge a (b + 1) with h1 | h1
    · have := ih (by omega); simp only [tri]; omega
    · obtain rfl : a = b + 1 := by omega
      exact Nat.le_refl _
theorem tri_lt {a b : Nat} (h : a < b) : tri a + a < tri b := by
  have := tri_le (show a + 1 ≤ b from h)
  simp only [tri] at this; omega
theorem tri_12 {n : Nat} (h : n ≤ 12) : tri n ≤ 78 := tri_le (b := 12) h
abbrev nm (z : Ce) : Nat := tri z.1 + z.2
theorem nm_inj {a b : Ce} (ha : a.2 ≤ a.1) (hb : b.2 ≤ b.1) (h : nm a = nm b) : a = b := by
  simp only [nm] at h
  have e : a.1 = b.1 := by
    rcases Nat.lt_trichotomy a.1 b.1 with q | q | q
    · have := tri_lt q; omega
    · exact q
    · have := tri_lt q; omega
  exact Prod.ext e (by rw [e] at h; omega)
theorem r_num (K n : Nat) (r : Nat) (p : Int) (hr : r ≤ 1000) : run K (n + 1) i_number_at_triangles [.int r, .int p] [] = .ok (.int ((tri r : Int) + p)) [] := by
  have e := tri_div r
  have m : ∀ h, binD h .Mult (.int r) (.int (r + 1)) = some (.int (r * (r + 1))) := fun h => mul_left (by omega)
  have d2 : ∀ (x : Int) h, binD h .FloorDiv (.int x) (.int 2) = some (.int (x / 2)) := fun x h => div_lit (by decide) (by decide)
  rw [run_number_at_triangles]
  simp [b_number_at_triangles, m, e, d2]
theorem c_num (K n : Nat) (r : Nat) (p : Int) (hr : r ≤ 1000) (h : Hm) : callM (run K (n + 1)) i_number_at_triangles [.int r, .int p] h = .ok (.int ((tri r : Int) + p)) h := callM_pure (by simp [D.refsL, D.refs]) (by simp [D.refs]) (r_num K n r p hr)
/-- cells as numbers -/
abbrev nmD (l : List Ce) : List D := l.map fun z => .int (nm z)
def keepIf {α : Type} (b : Bool) (x : α) (l : List α) : List α := if b = true then x :: l else l
def nbrs (s : Nat) (z : Ce) : List Ce :=
  keepIf (decide (1 ≤ z.1 ∧ 1 ≤ z.2 ∧ z.2 ≤ z.1)) (z.1 - 1, z.2 - 1) <| keepIf (decide (1 ≤ z.1 ∧ z.2 + 1 ≤ z.1)) (z.1 - 1, z.2) <| keepIf (decide (1 ≤ z.2)) (z.1, z.2 - 1) <|
  keepIf (decide (z.2 + 1 ≤ z.1)) (z.1, z.2 + 1) <| keepIf (decide (z.1 + 1 < s)) (z.1 + 1, z.2) <| keepIf (decide (z.1 + 1 < s)) (z.1 + 1, z.2 + 1) []
theorem mem_keepIf {α : Type} {b : Bool} {x y : α} {l : List α} : y ∈ keepIf b x l ↔ (b = true ∧ y = x) ∨ y ∈ l := by
  unfold keepIf; split <;> simp_all
theorem mem_nbrs {s : Nat} {z y : Ce} (hz : z.2 ≤ z.1) (hs : z.1 < s) : y ∈ nbrs s z ↔ y.2 ≤ y.1 ∧ y.1 < s ∧ yadj z y := by
  obtain ⟨a, b⟩ := y
  simp only [nbrs, mem_keepIf, decide_eq_true_eq, Prod.mk.injEq, List.not_mem_nil, or_false, yadj]
  omega
end Mi

set_option Elab.async false
set_option linter.all false
set_option maxRecDepth 100000
namespace Mi
open PySem
theorem r_row (K n : Nat) (hK : 1000 ≤ K) (z : Ce) (hz : z.2 ≤ z.1) (h12 : z.1 ≤ 100) : run K (n + 2) i_row_place [.int (nm z)] [] = .ok (.tup [.int z.1, .int z.2]) [] := by
  have cn := c_num K n
  obtain ⟨ρ', h', e, rfl, rfl⟩ := while_rule (test := truF (ev (callM (run K (n + 1))) gg b_row_place_0)) (body := exs (callM (run K (n + 1))) gg (xs0 K) b_row_place_1)
    (fun m ρ h => ∃ i : Nat, i ≤ z.1 ∧ m = z.1 - i ∧ ρ = [some (.int (nm z)), some (.int i)] ∧ h = [])
    (fun ρ h => ρ = [some (.int (nm z)), some (.int z.1)] ∧ h = []) (by
      rintro m ρ h ⟨i, hi, rfl, rfl, rfl⟩
      have c := c_num K n (i + 1) 0 (by omega) []
      push_cast at c
      by_cases hl : i < z.1
      · right
        have t1 := tri_le (show i + 1 ≤ z.1 from hl)
        have h1 : ((tri (i + 1) : Nat) : Int) ≤ (tri z.1 : Int) + z.2 := by omega
        refine ⟨by simp [b_row_place_0, c, h1], z.1 - (i + 1), _, _, by omega, by simp [b_row_place_1]; rfl, i + 1, by omega, rfl, by push_cast; rfl, rfl⟩
      · left
        obtain rfl : i = z.1 := by omega
        have t1 := tri_lt (show z.1 < z.1 + 1 by omega)
        have h1 : ¬ ((tri (z.1 + 1) : Nat) : Int) ≤ (tri z.1 : Int) + z.2 := by omega
        exact ⟨by simp [b_row_place_0, c, h1], rfl, rfl⟩) K z.1 [some (.int (nm z)), some (.int (0 : Nat))] [] (by omega) ⟨0, by omega, rfl, rfl, rfl⟩
  have c := c_num K n z.1 0 (by omega) []
  have e' : (tri z.1 : Int) + z.2 - tri z.1 = z.2 := by omega
  simp only [nm, Int.natCast_add, Int.natCast_zero] at e
  rw [run_row_place]
  simp [b_row_place, e, c, e']
  exact gcR_pure (by simp [D.refsL, D.refs])
theorem c_row (K n : Nat) (hK : 1000 ≤ K) (z : Ce) (hz : z.2 ≤ z.1) (h12 : z.1 ≤ 100) (h : Hm) : callM (run K (n + 2)) i_row_place [.int (nm z)] h = .ok (.tup [.int z.1, .int z.2]) h := callM_pure (by simp [D.refsL, D.refs]) (by simp [D.refsL, D.refs]) (r_row K n hK z hz h12)
end Mi

set_option Elab.async false
set_option linter.all false
set_option maxRecDepth 100000
namespace Mi
open PySem
abbrev I2 := Int × Int
abbrev pD (a : I2) : D := .tup [.int a.1, .int a.2]
def nearF (s : Nat) (a : I2) : Option D := if a.1 < s ∧ 0 ≤ a.2 ∧ a.2 ≤ a.1 then some (.int ((tri a.1.toNat : Int) + a.2)) else none
theorem fm_cons {s : Nat} {u v : Int} {l : List I2} {c : Bool} {z : Ce} {m : List Ce} (hc : (u < s ∧ 0 ≤ v ∧ v ≤ u) ↔ c = true) (hz : c = true → u = z.1 ∧ v = z.2) (e : l.filterMap (nearF s) = nmD m) : ((u, v) :: l).filterMap (nearF s) = nmD (keepIf c z m) := by
  rw [List.filterMap_cons]
  cases c with
  | false =>
    have : ¬ (u < s ∧ 0 ≤ v ∧ v ≤ u) := fun q => by simpa using hc.mp q
    rw [nearF, if_neg this]; exact e
  | true =>
    obtain ⟨rfl, rfl⟩ := hz rfl
    rw [nearF, if_pos (hc.mpr rfl), e]
    simp [keepIf, nm]
theorem near_list (s : Nat) (z : Ce) (hz : z.2 ≤ z.1) (hs : z.1 < s) : ([((z.1 : Int) - 1, (z.2 : Int) - 1), ((z.1 : Int) - 1, (z.2 : Int)), ((z.1 : Int), (z.2 : Int) - 1), ((z.1 : Int), (z.2 : Int) + 1), ((z.1 : Int) + 1, (z.2 : Int)), ((z.1 : Int) + 1, (z.2 : Int) + 1)] : List I2).filterMap (nearF s) = nmD (nbrs s z) := by
  refine fm_cons ?_ ?_ (fm_cons ?_ ?_ (fm_cons ?_ ?_ (fm_cons ?_ ?_ (fm_cons ?_ ?_ (fm_cons ?_ ?_ rfl)))))
  all_goals first
    | (simp only [decide_eq_true_eq]; omega)
    | (intro q; simp only [decide_eq_true_eq] at q; refine ⟨?_, ?_⟩ <;> dsimp only <;> omega)
theorem add_refl {h : Hm} {n : Nat} {xs ys : List D} (e : h[n]? = some (.lst xs)) (hl : xs.length + ys.length ≤ 16777216) : binD h .Add (.ref n) (.lv ys) = some (.lv (xs ++ ys)) := by
  simp [binD, addL, wlsOf, e, hl]
theorem nmD_refs (l : List Ce) : D.refsL (nmD l) = [] := by
  have := ints_refs (l.map fun z => (nm z : Int))
  rwa [List.map_map] at this
theorem r_near (K n : Nat) (hK : 1000 ≤ K) (s : Nat) (hs : s ≤ 100) (z : Ce) (hz : z.2 ≤ z.1) (hzs : z.1 < s) : run K (n + 3) i_near [.int s, .int (nm z)] [] = .ok (.tup (nmD (nbrs s z))) [] := by
  have cr := c_row K n hK z hz (by omega)
  rw [run_near]
  have ln := near_list s z hz hzs
  generalize hL : ([((z.1 : Int) - 1, (z.2 : Int) - 1), ((z.1 : Int) - 1, (z.2 : Int)), ((z.1 : Int), (z.2 : Int) - 1), ((z.1 : Int), (z.2 : Int) + 1), ((z.1 : Int) + 1, (z.2 : Int)), ((z.1 : Int) + 1, (z.2 : Int) + 1)] : List I2) = L at ln
  have hb : ∀ a ∈ L, -1 ≤ a.1 ∧ a.1 ≤ 100 := by
    rw [← hL]; intro a ha
    simp only [List.mem_cons, List.not_mem_nil, or_false] at ha
    rcases ha with rfl | rfl | rfl | rfl | rfl | rfl <;> (simp only; omega)
  have cm : ∀ (h : Hm) (o : Option D) (src : Src), srcOk src h = true → compL (stepC (evF (callM (run K (n + 2))) gg b_near_1) (ev (callM (run K (n + 2))) gg b_near_0) (.t (.cons (.n 5) (.cons (.n 6) .nil))) [some (.int s), some (.int (nm z)), o, some (.int z.1), some (.int z.2), none, none] [5, 6]) src (L.map pD) h = .ok (nmD (nbrs s z)) h := fun h o src so => by
    rw [← ln]
    refine comp_map (α := I2) pD (nearF s) so L fun a ha => ?_
    obtain ⟨b1, b2⟩ := hb a ha
    obtain ⟨u, v⟩ := a
    simp only at b1 b2
    unfold nearF
    by_cases h1 : u < s
    · by_cases h2 : 0 ≤ v
      · by_cases h3 : v ≤ u
        · obtain ⟨w, rfl⟩ : ∃ w : Nat, u = w := ⟨u.toNat, by omega⟩
          have c := c_num K (n + 1) w v (by omega) h
          simp [stepC, wipeD, b_near_1, b_near_0, h1, h2, h3, c, nox]
        · simp [stepC, wipeD, b_near_1, h1, h2, h3, nox]
      · simp [stepC, wipeD, b_near_1, h1, h2, nox]
    · simp [stepC, wipeD, b_near_1, h1, nox]
  have lL : L.map pD = [pD ((z.1 : Int) - 1, (z.2 : Int) - 1), pD ((z.1 : Int) - 1, (z.2 : Int)), pD ((z.1 : Int), (z.2 : Int) - 1), pD ((z.1 : Int), (z.2 : Int) + 1), pD ((z.1 : Int) + 1, (z.2 : Int)), pD ((z.1 : Int) + 1, (z.2 : Int) + 1)] := by rw [← hL]; rfl
  simp only [lL, pD, nm, Int.natCast_add] at cm
  have ll : (nbrs s z).length ≤ 6 := by
    unfold nbrs keepIf
    repeat' split
    all_goals simp
  simp only [nm, Int.natCast_add] at cr
  have gc := fun h => gcR_pure (v := .tup (nmD (nbrs s z))) (h := h) (by simp only [D.refs]; exact nmD_refs _)
  have l6 : ((nmD (nbrs s z)).length < 16777216) := by simp; omega
  simp only [nmD, nm, Int.natCast_add] at *
  generalize List.map (fun z : Ce => D.int ((tri z.1 : Int) + (z.2 : Int))) (nbrs s z) = M at *
  have ad := fun (xs ys : List D) (hl : xs.length + ys.length ≤ 16777216) => add_refl (h := [.lst xs]) (n := 0) (xs := xs) (ys := ys) rfl hl
  have s1 := fun (o : O) (xs : List D) => seq_ref (h := [o, .lst xs]) (n := 1) (ds := xs) rfl
  have s2 := fun (o : O) (xs : List D) => src_ref (h := [o, .lst xs]) (n := 1) (o := .lst xs) rfl
  have so := fun (o : O) (xs : List D) => src_so (h := [o, .lst xs]) (n := 1) (o := .lst xs) rfl
  simp [b_near, cr, ad, s1, s2, compR, cm, so, l6]
  exact gc _
theorem c_near (K n : Nat) (hK : 1000 ≤ K) (s : Nat) (hs : s ≤ 100) (z : Ce) (hz : z.2 ≤ z.1) (hzs : z.1 < s) (h : Hm) : callM (run K (n + 3)) i_near [.int s, .int (nm z)] h = .ok (.tup (nmD (nbrs s z))) h := callM_pure (by simp [D.refsL, D.refs]) (by simp only [D.refs]; exact nmD_refs _) (r_near K n hK s hs z hz hzs)
end Mi

set_option Elab.async false
set_option linter.all false
set_option maxRecDepth 100000
namespace Mi
open PySem
def tchL (s : Nat) (z : Ce) : List Int := keepIf (decide (z.2 = 0)) 0 (keepIf (decide (z.2 = z.1)) 1 (keepIf (decide (z.1 + 1 = s)) 2 []))
theorem r_touch (K n : Nat) (hK : 1000 ≤ K) (s : Nat) (hs : s ≤ 100) (z : Ce) (hz : z.2 ≤ z.1) (hzs : z.1 < s) : run K (n + 3) i_touches [.int s, .int (nm z)] [] = .ok (.tup ((tchL s z).map .int)) [] := by
  have cr := c_row K n hK z hz (by omega)
  have gc := fun h => gcR_pure (v := .tup ((tchL s z).map .int)) (h := h) (by simp only [D.refs]; exact ints_refs _)
  rw [run_touches]
  simp only [nm, Int.natCast_add] at cr
  have e0 : ∀ h, eqD h (.int (z.2 : Int)) (.int 0) = some (decide (z.2 = 0)) := fun h => by
    show some (decide ((z.2 : Int) = 0)) = _
    congr 2; rw [eq_iff_iff]; omega
  have e1 : ∀ h, eqD h (.int (z.2 : Int)) (.int (z.1 : Int)) = some (decide (z.2 = z.1)) := fun h => by
    show some (decide ((z.2 : Int) = (z.1 : Int))) = _
    congr 2; rw [eq_iff_iff]; omega
  have e2 : ∀ h, eqD h (.int (z.1 : Int)) (.int ((s : Int) - 1)) = some (decide (z.1 + 1 = s)) := fun h => by
    show some (decide ((z.1 : Int) = (s : Int) - 1)) = _
    congr 2; rw [eq_iff_iff]; omega
  have ap := fun (xs : List D) (x : D) (hl : xs.length < 16777216) => app_ref (h := [.lst xs]) (n := 0) (d := x) (ds := xs) rfl hl
  have ok := fun (xs : List D) => ok_ref (h := [.lst xs]) (n := 0) (f := .append) rfl
  have tp := fun (xs : List D) => tuple_ref (h := [.lst xs]) (n := 0) (ds := xs) rfl
  unfold tchL keepIf at *
  generalize D.int (z.2 : Int) = V at *
  generalize D.int (z.1 : Int) = U at *
  generalize decide (z.2 = 0) = a at *
  generalize decide (z.2 = z.1) = b at *
  generalize decide (z.1 + 1 = s) = c at *
  cases a <;> cases b <;> cases c <;> (simp [b_touches, cr, e0, e1, e2, ap, ok, tp]; exact gc _)
theorem c_touch (K n : Nat) (hK : 1000 ≤ K) (s : Nat) (hs : s ≤ 100) (z : Ce) (hz : z.2 ≤ z.1) (hzs : z.1 < s) (h : Hm) : callM (run K (n + 3)) i_touches [.int s, .int (nm z)] h = .ok (.tup ((tchL s z).map .int)) h := callM_pure (by simp [D.refsL, D.refs]) (by simp only [D.refs]; exact ints_refs _) (r_touch K n hK s hs z hz hzs)
end Mi

set_option Elab.async false
set_option linter.all false
set_option maxRecDepth 100000
namespace Mi
open PySem
abbrev bD (l : List Int) : D := .tup (l.map .int)
theorem bD_refs (l : List Int) : D.refsL [bD l] = [] := by simp [D.refsL, D.refs, ints_refs]
theorem bD_refs1 (l : List Int) : (bD l).refs = [] := by simp [D.refs, ints_refs]
def isBit (i : Int) : Prop := i = 0 ∨ i = 1
theorem bit_bt {i : Int} (h : isBit i) : Bt 1919 i := by
  rcases h with rfl | rfl
  · exact bt_lit (by decide +kernel)
  · exact bt_lit (by decide +kernel)
theorem repr_any {h : Hm} {d : D} {p : PyData} (e : pyOf deepN h d = some p) (a : p.showable = true) (sh : shp p = true) (ln : p.shown.length ≤ sizeLine) : reprOf h d = some (.str p.shown) := by
  unfold reprOf
  rw [e]
  simp only [a, sh, ln, and_self, if_true]
theorem repr_i {h : Hm} {i : Int} (hb : isBit i) : biD h .repr [.int i] = some (.str (PyData.shown (.int i))) := by
  refine repr_any (py_int h _ i) (show_int (bit_bt hb)) rfl ?_
  have := leaf_int (bit_bt hb)
  rw [sizeLine_eq]; omega
theorem len_ints {ns : List Int} (h : ∀ c ∈ ns, isBit c) (hl : ns.length ≤ 1000) : (PyData.shown (.list (ns.map .int))).length ≤ sizeLine ∧ (PyData.shown (.tuple (ns.map .int))).length ≤ sizeLine := by
  have hb : ∀ c ∈ ns, Bt 1919 c := fun c hc => bit_bt (h c hc)
  have q := PyData.shown_le_bulk 2000 (by omega) (.list (ns.map .int)) (by simp [PyData.leavesShort, short_ints hb])
  have q3 := PyData.shown_le_bulk 2000 (by omega) (.tuple (ns.map .int)) (by simp [PyData.leavesShort, short_ints hb])
  simp only [PyData.bulk, bulk_ints] at q q3
  rw [sizeLine_eq]
  omega
theorem repr_li {h : Hm} {p : Nat} {ns : List Int} (e : h[p]? = some (.lst (ns.map .int))) (hb : ∀ c ∈ ns, isBit c) (hl : ns.length ≤ 1000) : biD h .repr [.ref p] = some (.str (PyData.shown (.list (ns.map .int)))) := by
  have e1 : pyOf deepN h (.ref p) = some (.list (ns.map .int)) := by
    show pyOf (38 + 1 + 1) h (.ref p) = _
    rw [pyOf]; simp only [e]
    rw [py_ints]; rfl
  refine repr_any e1 ?_ (by rw [shp_eq]; exact shaped_lints ns) (len_ints hb hl).1
  simp only [PyData.showable]; exact show_ints fun c hc => bit_bt (hb c hc)
theorem repr_lvi {h : Hm} {ns : List Int} (hb : ∀ c ∈ ns, isBit c) (hl : ns.length ≤ 1000) : biD h .repr [.lv (ns.map .int)] = some (.str (PyData.shown (.list (ns.map .int)))) := by
  have e1 : pyOf deepN h (.lv (ns.map .int)) = some (.list (ns.map .int)) := by
    show pyOf (38 + 1 + 1) h _ = _
    rw [pyOf, py_ints]; rfl
  refine repr_any e1 ?_ (by rw [shp_eq]; exact shaped_lints ns) (len_ints hb hl).1
  simp only [PyData.showable]; exact show_ints fun c hc => bit_bt (hb c hc)
theorem repr_bD {h : Hm} {ns : List Int} (hb : ∀ c ∈ ns, isBit c) (hl : ns.length ≤ 1000) : biD h .repr [bD ns] = some (.str (PyData.shown (.tuple (ns.map .int)))) := by
  have e1 : pyOf deepN h (bD ns) = some (.tuple (ns.map .int)) := by
    show pyOf (38 + 1 + 1) h (.tup (ns.map .int)) = _
    rw [pyOf, py_ints]; rfl
  refine repr_any e1 ?_ (by rw [shp_eq]; exact shaped_tints ns) (len_ints hb hl).2
  simp only [PyData.showable]; exact show_ints fun c hc => bit_bt (hb c hc)
/-! ### boards -/
theorem comp_inv {step : D → Hm → R (Option D)} (P : Hm → Prop) (Q : D → Prop) : ∀ (ds : List D) (h : Hm), (∀ d ∈ ds, ∀ h, P h → ∃ x h', step d h = .ok (some x) h' ∧ P h' ∧ Q x) → P h → ∃ xs h', compL step none ds h = .ok xs h' ∧ P h' ∧ xs.length = ds.length ∧ ∀ x ∈ xs, Q x
  | [], h, _, p => ⟨[], h, rfl, p, rfl, by simp⟩
  | d :: ds, h, hs, p => by
    obtain ⟨x, h1, e1, p1, q1⟩ := hs d List.mem_cons_self h p
    obtain ⟨xs, h2, e2, p2, l2, q2⟩ := comp_inv P Q ds h1 (fun d hd => hs d (List.mem_cons_of_mem _ hd)) p1
    refine ⟨x :: xs, h2, ?_, p2, by simp [l2], fun y hy => ?_⟩
    · rw [compL, e1, bnd_ok, src_no, gd_t, e2, bnd_ok]
    · rcases List.mem_cons.mp hy with rfl | hy
      · exact q1
      · exact q2 y hy
theorem bits_of : ∀ {xs : List D}, (∀ x ∈ xs, ∃ i, x = D.int i ∧ isBit i) → ∃ l : List Int, xs = l.map .int ∧ ∀ i ∈ l, isBit i
  | [], _ => ⟨[], rfl, fun _ h => nomatch h⟩
  | x :: xs, h => by
    obtain ⟨i, rfl, hi⟩ := h x List.mem_cons_self
    obtain ⟨l, rfl, hl⟩ := bits_of fun y hy => h y (List.mem_cons_of_mem _ hy)
    exact ⟨i :: l, rfl, fun j hj => by
      rcases List.mem_cons.mp hj with rfl | hj
      · exact hi
      · exact hl j hj⟩
end Mi

set_option Elab.async false
set_option linter.all false
set_option maxRecDepth 100000
namespace Mi
open PySem
def bi (b : Bool) : Int := if b = true then 1 else 0
def tl : Nat → (Nat → Nat → Bool) → List Int
  | 0, _ => []
  | n + 1, f => tl n f ++ (List.range (n + 1)).map fun p => bi (f n p)
theorem tl_len (f : Nat → Nat → Bool) : ∀ n, (tl n f).length = tri n
  | 0 => rfl
  | n + 1 => by simp [tl, tri, tl_len f n]
theorem tl_get (f : Nat → Nat → Bool) : ∀ (n r p : Nat), p ≤ r → r < n → (tl n f)[tri r + p]? = some (bi (f r p))
  | 0, r, p, _, h => by omega
  | n + 1, r, p, hp, h => by
    rw [tl]
    by_cases hr : r < n
    · have := tri_lt hr
      rw [List.getElem?_append_left (by rw [tl_len]; omega)]
      exact tl_get f n r p hp hr
    · obtain rfl : r = n := by omega
      rw [List.getElem?_append_right (by rw [tl_len]; omega), tl_len, show tri r + p - tri r = p by omega]
      simp [List.getElem?_map, List.getElem?_range, hp, Nat.lt_succ_of_le hp]
theorem tl_congr {f g : Nat → Nat → Bool} : ∀ (n : Nat), (∀ r p, p ≤ r → r < n → f r p = g r p) → tl n f = tl n g
  | 0, _ => rfl
  | n + 1, h => by
    rw [tl, tl, tl_congr n fun r p a b => h r p a (by omega)]
    congr 1
    apply List.map_congr_left
    intro p hp
    rw [h n p (by have := List.mem_range.mp hp; omega) (by omega)]
theorem tl_at (f : Nat → Nat → Bool) {n r p : Nat} (hp : p ≤ r) (hr : r < n) : L2.atI ((tl n f).map D.int) ((tri r : Int) + (p : Int)) = some (.int (bi (f r p))) := by
  have e := tl_get f n r p hp hr
  have := (List.getElem?_eq_some_iff.mp e).1
  rw [show (tri r : Int) + (p : Int) = ((tri r + p : Nat) : Int) by push_cast; rfl, atI_lt rfl (by simpa using this), List.getElem?_map, e]; rfl
theorem maj_sum (a b c : Bool) : bi (maj a b c) = if (1 : Int) < bi a + bi b + bi c then 1 else 0 := by cases a <;> cases b <;> cases c <;> decide
end Mi

set_option Elab.async false
set_option linter.all false
set_option maxRecDepth 100000
namespace Mi
open PySem
def nI (z : Ce) : Int := (nm z : Int)
abbrev nL (l : List Ce) : List D := (l.map nI).map .int
theorem nL_eq (l : List Ce) : nL l = nmD l := by rw [nL, nmD, List.map_map]; rfl
theorem d_near (K n : Nat) (hK : 1000 ≤ K) (s : Nat) (hs : s ≤ 100) (z : Ce) (hz : z.2 ≤ z.1) (hzs : z.1 < s) (h : Hm) : callM (run K (n + 3)) i_near [.int s, .int (nI z)] h = .ok (.tup (nL (nbrs s z))) h := by rw [nL_eq]; exact c_near K n hK s hs z hz hzs h
theorem d_touch (K n : Nat) (hK : 1000 ≤ K) (s : Nat) (hs : s ≤ 100) (z : Ce) (hz : z.2 ≤ z.1) (hzs : z.1 < s) (h : Hm) : callM (run K (n + 3)) i_touches [.int s, .int (nI z)] h = .ok (.tup ((tchL s z).map .int)) h := c_touch K n hK s hs z hz hzs h
def vC (n : Nat) (z : Ce) : Prop := z.2 ≤ z.1 ∧ z.1 < n
theorem nI_inj {n : Nat} {a b : Ce} (ha : vC n a) (hb : vC n b) (h : nI a = nI b) : a = b := nm_inj ha.1 hb.1 (by unfold nI at h; omega)
abbrev kT (z : Ce) : L2.Key × D := (.inl (nI z), .bl true)
theorem look_kT {n : Nat} {y : Ce} (hy : vC n y) : ∀ {F : List Ce}, (∀ z ∈ F, vC n z) → (lookK (F.map kT) (.inl (nI y))).isSome = decide (y ∈ F)
  | [], _ => by simp [lookK]
  | z :: F, h => by
    have ih := look_kT hy (F := F) fun z hz => h z (List.mem_cons_of_mem _ hz)
    rw [List.map_cons, lookK]
    by_cases e : z = y
    · subst e; simp
    · have : ¬ (Sum.inl (nI z) : L2.Key) = .inl (nI y) := fun q => e (nI_inj (h z List.mem_cons_self) hy (Sum.inl.inj q))
      rw [if_neg this, ih]; simp [Ne.symm e]
theorem put_kT {n : Nat} {y : Ce} (hy : vC n y) {F : List Ce} (h : ∀ z ∈ F, vC n z) (hn : y ∉ F) : putK (.inl (nI y)) (.bl true) (F.map kT) = (F ++ [y]).map kT := by
  unfold putK
  rw [if_neg, List.map_append]; rfl
  simp only [List.any_map, List.any_eq_true, Function.comp, decide_eq_true_eq, not_exists, not_and]
  intro z hz q
  exact hn (nI_inj (h z hz) hy (Sum.inl.inj q) ▸ hz)
theorem put_kT' {n : Nat} {y : Ce} (hy : vC n y) {F : List Ce} (h : ∀ z ∈ F, vC n z) (hn : y ∈ F) : putK (.inl (nI y)) (.bl true) (F.map kT) = F.map kT := by
  unfold putK
  rw [if_pos (by
    simp only [List.any_map, List.any_eq_true, Function.comp, decide_eq_true_eq]
    exact ⟨y, hn, rfl⟩), List.map_map]
  apply List.map_congr_left
  intro z hz
  simp only [Function.comp]
  split
  · rfl
  · rfl
theorem keysI_kT : ∀ F : List Ce, keysI (F.map kT) = some (F.map nI)
  | [] => rfl
  | z :: F => by rw [List.map_cons, keysI, keysI_kT F]; rfl
theorem in_kT {h : Hm} {p n : Nat} {y : Ce} {F : List Ce} (e : dicOf h (.ref p) = some (F.map kT)) (hy : vC n y) (hF : ∀ z ∈ F, vC n z) : inD h (.int (nI y)) (.ref p) = some (decide (y ∈ F)) := by
  simp [inD, e, keyOf, look_kT hy hF]
theorem sorted_kT {h : Hm} {p : Nat} {F : List Ce} (e : h[p]? = some (.dic (F.map kT))) (hl : F.length ≤ 1000) : biD h .sorted [.ref p] = some (.lv ((sortI (F.map nI)).map .int)) := by
  have e2 : dicOf h (.ref p) = some (F.map kT) := by simp [dicOf, e]
  have e3 : seqOf h (.ref p) = none := by simp [seqOf, e]
  have hl2 : (F.map nI).length ≤ sizeLine := by rw [List.length_map]; exact Nat.le_trans hl (by decide)
  show bi1 h .sorted (.ref p) = _
  simp only [bi1, e3, e2, keysI_kT, if_pos hl2]
theorem map_back {F : List Ce} : ∀ L : List Int, (∀ c ∈ L, ∃ z ∈ F, nI z = c) → ∃ S : List Ce, L = S.map nI ∧ ∀ z ∈ S, z ∈ F
  | [], _ => ⟨[], rfl, fun _ h => nomatch h⟩
  | c :: L, h => by
    obtain ⟨z, hz, rfl⟩ := h c List.mem_cons_self
    obtain ⟨S, rfl, hS⟩ := map_back L fun c hc => h c (List.mem_cons_of_mem _ hc)
    exact ⟨z :: S, rfl, fun y hy => by
      rcases List.mem_cons.mp hy with rfl | hy
      · exact hz
      · exact hS y hy⟩
theorem sort_back {n : Nat} {F : List Ce} (hF : ∀ z ∈ F, vC n z) : ∃ S : List Ce, sortI (F.map nI) = S.map nI ∧ ∀ z, z ∈ S ↔ z ∈ F := by
  have pm := sortI_perm (F.map nI)
  obtain ⟨S, e, hS⟩ := map_back (F := F) (sortI (F.map nI)) fun c hc => by
    obtain ⟨z, hz, q⟩ := List.mem_map.mp (pm.mem_iff.mp hc)
    exact ⟨z, hz, q⟩
  refine ⟨S, e, fun z => ⟨hS z, fun hz => ?_⟩⟩
  have : nI z ∈ S.map nI := by rw [← e]; exact pm.mem_iff.mpr (List.mem_map.mpr ⟨z, hz, rfl⟩)
  obtain ⟨y, hy, q⟩ := List.mem_map.mp this
  rw [← nI_inj (hF y (hS y hy)) (hF z hz) q]; exact hy
theorem nodup_le : ∀ {F C : List Ce}, F.Nodup → (∀ z ∈ F, z ∈ C) → F.length ≤ C.length
  | [], _, _, _ => by simp
  | z :: F, C, hn, h => by
    have hz := h z List.mem_cons_self
    have hn' := List.nodup_cons.mp hn
    have := nodup_le (F := F) (C := C.erase z) hn'.2 fun y hy => (List.mem_erase_of_ne (fun q => hn'.1 (by rw [← q]; exact hy))).mpr (h y (List.mem_cons_of_mem _ hy))
    rw [List.length_erase_of_mem hz] at this
    have h0 : 0 < C.length := List.length_pos_of_mem hz
    simp; omega
theorem h_inner (Γ : Gm) (K n : Nat) {C : List Ce} {o : O} (hC : ∀ z ∈ C, vC n z) (ho : ∀ rest, dicOf (o :: rest) (.ref 0) = some (C.map kT)) (a0 a2 : Option D) : ∀ (rest F W : List Ce) (o5 : Option D), (∀ y ∈ rest, vC n y) → (∀ z ∈ F, z ∈ C) → F.Nodup → F.length + rest.length ≤ 1000 → W.length + rest.length ≤ 1000 →
    ∃ (N : List Ce) (o5' : Option D), forL (forS (exs Γ gg (xs0 K) b_hanging_1) (.n 5)) none (nL rest) [a0, some (.ref 0), a2, some (.ref 1), some (.ref 2), o5] [o, .dic (F.map kT), .lst (nL W)] = .nx [a0, some (.ref 0), a2, some (.ref 1), some (.ref 2), o5'] [o, .dic ((F ++ N).map kT), .lst (nL (W ++ N))] ∧
      (F ++ N).Nodup ∧ (∀ y ∈ N, y ∈ C ∧ y ∈ rest) ∧ ∀ y ∈ rest, y ∈ C → y ∈ F ++ N
  | [], F, W, o5, _, _, hn, _, _ => ⟨[], o5, by simp [forL], by simpa using hn, fun _ h => (nomatch h), fun _ h => nomatch h⟩
  | y :: rest, F, W, o5, hv, hFC, hn, l1, l2 => by
    have vy := hv y List.mem_cons_self
    have i1 := fun (W : List D) (F : List Ce) => in_kT (h := [o, .dic (F.map kT), .lst W]) (p := 0) (F := C) (ho _) vy hC
    have hF : ∀ z ∈ F, vC n z := fun z hz => hC z (hFC z hz)
    have i2 := in_kT (h := [o, .dic (F.map kT), .lst (nL W)]) (p := 1) (F := F) (by simp [dicOf]) vy hF
    simp only [List.length_cons] at l1 l2
    have i1' := i1 (nL W) F
    by_cases c1 : y ∈ C ∧ y ∉ F
    · obtain ⟨N, o5', e, n1, n2, n3⟩ := h_inner Γ K n hC ho a0 a2 rest (F ++ [y]) (W ++ [y]) (some (.int (nI y))) (fun z hz => hv z (List.mem_cons_of_mem _ hz)) (fun z hz => by
        rcases List.mem_append.mp hz with hz | hz
        · exact hFC z hz
        · simp at hz; subst hz; exact c1.1) (by
        rw [List.nodup_append]
        exact ⟨hn, by simp, fun a ha b hb q => by simp at hb; subst hb; subst q; exact c1.2 ha⟩) (by simp; omega) (by simp; omega)
      refine ⟨y :: N, o5', ?_, by simpa using n1, fun z hz => ?_, fun z hz hzC => ?_⟩
      · have pk := put_kT vy hF c1.2
        have lk : (F.map kT).length < 16777216 := by simp; omega
        have st : setI [o, .dic (F.map kT), .lst (nL W)] (.ref 1) (.int (nI y)) (.bl true) = .ok () [o, .dic ((F ++ [y]).map kT), .lst (nL W)] := by
          rw [← pk]
          simp [setI, keyOf, lk]
          simp at lk; omega
        have ap := app_ref (h := [o, .dic ((F ++ [y]).map kT), .lst (nL W)]) (n := 2) (d := .int (nI y)) (ds := nL W) rfl (by simp; omega)
        have ok := ok_ref (h := [o, .dic ((F ++ [y]).map kT), .lst (nL W)]) (n := 2) (ds := nL W) (f := .append) rfl
        have eW : nL W ++ [.int (nI y)] = nL (W ++ [y]) := by simp
        have eF : F ++ y :: N = (F ++ [y]) ++ N := by simp
        have eN : W ++ y :: N = (W ++ [y]) ++ N := by simp
        rw [eF, eN, show nL (y :: rest) = .int (nI y) :: nL rest from rfl, forL]
        generalize nL rest = Rt at *
        generalize nL (W ++ [y] ++ N) = W3 at *
        generalize (F ++ [y] ++ N).map kT = F3 at *
        rw [eW] at ap
        generalize nL (W ++ [y]) = W2 at *
        generalize nL W = W1 at *
        generalize (F ++ [y]).map kT = F2 at *
        generalize F.map kT = F1 at *
        simp only [c1.1, c1.2, decide_true, decide_false] at i1' i2
        have sp : forS (exs Γ gg (xs0 K) b_hanging_1) (.n 5) (.int (nI y)) [a0, some (.ref 0), a2, some (.ref 1), some (.ref 2), o5] [o, .dic F1, .lst W1] = .nx [a0, some (.ref 0), a2, some (.ref 1), some (.ref 2), some (.int (nI y))] [o, .dic F2, .lst W2] := by
          simp [forS, b_hanging_1, cmpD, i1', i2, st, ok, ap]
        rw [sp, tn_nx, src_no, gs_t, e]
      · rcases List.mem_cons.mp hz with rfl | hz
        · exact ⟨c1.1, List.mem_cons_self⟩
        · exact ⟨(n2 z hz).1, List.mem_cons_of_mem _ (n2 z hz).2⟩
      · rcases List.mem_cons.mp hz with rfl | hz
        · simp
        · have := n3 z hz hzC
          simpa using this
    · obtain ⟨N, o5', e, n1, n2, n3⟩ := h_inner Γ K n hC ho a0 a2 rest F W (some (.int (nI y))) (fun z hz => hv z (List.mem_cons_of_mem _ hz)) hFC hn (by omega) (by omega)
      refine ⟨N, o5', ?_, n1, fun z hz => ⟨(n2 z hz).1, List.mem_cons_of_mem _ (n2 z hz).2⟩, fun z hz hzC => ?_⟩
      · rw [show nL (y :: rest) = .int (nI y) :: nL rest from rfl, forL]
        generalize nL rest = Rt at *
        generalize nL (W ++ N) = W3 at *
        generalize (F ++ N).map kT = F3 at *
        generalize nL W = W1 at *
        generalize F.map kT = F1 at *
        suffices sp : forS (exs Γ gg (xs0 K) b_hanging_1) (.n 5) (.int (nI y)) [a0, some (.ref 0), a2, some (.ref 1), some (.ref 2), o5] [o, .dic F1, .lst W1] = .nx [a0, some (.ref 0), a2, some (.ref 1), some (.ref 2), some (.int (nI y))] [o, .dic F1, .lst W1] by
          rw [sp, tn_nx, src_no, gs_t, e]
        by_cases c2 : y ∈ C
        · have c3 : y ∈ F := Classical.byContradiction fun q => c1 ⟨c2, q⟩
          simp only [c2, c3, decide_true] at i1' i2
          simp [forS, b_hanging_1, cmpD, i1', i2]
        · simp only [c2, decide_false] at i1'
          simp [forS, b_hanging_1, cmpD, i1']
      · rcases List.mem_cons.mp hz with rfl | hz
        · exact List.mem_append_left _ (Classical.byContradiction fun q => c1 ⟨hzC, q⟩)
        · exact n3 z hz hzC
end Mi

set_option Elab.async false
set_option linter.all false
set_option maxRecDepth 100000
namespace Mi
open PySem
theorem nbrs_len (s : Nat) (z : Ce) : (nbrs s z).length ≤ 6 := by
  unfold nbrs keepIf
  repeat' split
  all_goals simp
theorem rc_closed {n : Nat} {f : Nat → Nat → Bool} {b : Ce} {F : List Ce} (hb : b ∈ F) (hc : ∀ x ∈ F, ∀ y, inT n f y → yadj x y → y ∈ F) : ∀ {y : Ce}, Rc n f b y → y ∈ F := by
  intro y h
  induction h with
  | here _ => exact hb
  | step _ a i ih => exact hc _ ih _ i a
theorem r_hanging (K n0 : Nat) (hK : 1000 ≤ K) (n : Nat) (hn : n ≤ 100) (f : Nat → Nat → Bool) (C : List Ce) (hC : ∀ z, z ∈ C ↔ inT n f z) (hl : C.length ≤ 500) (o : O) (ho : ∀ rest, dicOf (o :: rest) (.ref 0) = some (C.map kT)) (hor : o.refs = []) (b : Ce) (hb : b ∈ C) :
    ∃ S : List Ce, run K (n0 + 4) i_hanging [.int n, .ref 0, .int (nI b)] [o] = .ok (.tup (nL S)) [o] ∧ S.length ≤ C.length ∧ (∀ z, z ∈ S ↔ Rc n f b z) ∧ (S.map nI).Pairwise (· < ·) := by
  have hCv : ∀ z ∈ C, vC n z := fun z hz => ⟨((hC z).mp hz).1, ((hC z).mp hz).2.1⟩
  obtain ⟨ρ', h', e, F, P, o5, rfl, rfl, hpm, hnd, hFC, hFR, hcl, hbF⟩ := while_rule (test := truF (ev (callM (run K (n0 + 3))) gg b_hanging_0)) (body := exs (callM (run K (n0 + 3))) gg (xs0 K) b_hanging_2)
    (fun m ρ h => ∃ (F W P : List Ce) (o5 : Option D), ρ = [some (.int n), some (.ref 0), some (.int (nI b)), some (.ref 1), some (.ref 2), o5] ∧ h = [o, .dic (F.map kT), .lst (nL W)] ∧ (P ++ W).Perm F ∧ F.Nodup ∧ (∀ z ∈ F, z ∈ C) ∧ (∀ z ∈ F, Rc n f b z) ∧ (∀ x ∈ P, ∀ y, inT n f y → yadj x y → y ∈ F) ∧ b ∈ F ∧ m = C.length - P.length)
    (fun ρ h => ∃ (F P : List Ce) (o5 : Option D), ρ = [some (.int n), some (.ref 0), some (.int (nI b)), some (.ref 1), some (.ref 2), o5] ∧ h = [o, .dic (F.map kT), .lst []] ∧ P.Perm F ∧ F.Nodup ∧ (∀ z ∈ F, z ∈ C) ∧ (∀ z ∈ F, Rc n f b z) ∧ (∀ x ∈ P, ∀ y, inT n f y → yadj x y → y ∈ F) ∧ b ∈ F) (by
      rintro m ρ h ⟨F, W, P, o5, rfl, rfl, hpm, hnd, hFC, hFR, hcl, hbF, rfl⟩
      have he : eqD [o, .dic (F.map kT), .lst (nL W)] (.ref 2) (.lv []) = some (decide (W.map nI = [])) := eq_lnil rfl
      have len := hpm.length_eq
      have fc := nodup_le hnd hFC
      simp only [List.length_append] at len
      rcases List.eq_nil_or_concat W with rfl | ⟨W0, w, hW⟩
      · left
        simp only [nL, List.map_nil, decide_true] at he
        exact ⟨by simp only [nL, List.map_nil]; simp [b_hanging_0, cmpD, he], F, P, o5, rfl, rfl, by simpa using hpm, hnd, hFC, hFR, hcl, hbF⟩
      · right
        rw [List.concat_eq_append] at hW
        subst hW
        simp only [List.length_append, List.length_cons, List.length_nil] at len
        have hwF : w ∈ F := hpm.mem_iff.mp (by simp)
        have hw := hCv w (hFC w hwF)
        have po : meD [o, .dic (F.map kT), .lst (nL (W0 ++ [w]))] .pop (.ref 2) [] = .ok (.int (nI w)) [o, .dic (F.map kT), .lst (nL W0)] := pop_snoc (h := [o, .dic (F.map kT), .lst (nL (W0 ++ [w]))]) (n := 2) (g := W0.map nI) (c := nI w) (by simp)
        have ok := ok_ref (h := [o, .dic (F.map kT), .lst (nL (W0 ++ [w]))]) (n := 2) (ds := nL (W0 ++ [w])) (f := .pop) rfl
        have nr := d_near K n0 hK n hn w hw.1 hw.2 [o, .dic (F.map kT), .lst (nL W0)]
        have mn := fun {y : Ce} => mem_nbrs (s := n) (z := w) (y := y) hw.1 hw.2
        have nl := nbrs_len n w
        have nn : (W0.map nI ++ [nI w] = []) = False := by simp
        obtain ⟨N, o5', e, n1, n2, n3⟩ := h_inner (callM (run K (n0 + 3))) K n hCv ho (some (.int n)) (some (.int (nI b))) (nbrs n w) F W0 o5 (fun y hy => ⟨(mn.mp hy).1, (mn.mp hy).2.1⟩) hFC hnd (by omega) (by omega)
        refine ⟨?_, C.length - (P ++ [w]).length, [some (.int n), some (.ref 0), some (.int (nI b)), some (.ref 1), some (.ref 2), o5'], [o, .dic ((F ++ N).map kT), .lst (nL (W0 ++ N))], ?_, ?_, F ++ N, W0 ++ N, P ++ [w], o5', rfl, rfl, ?_, n1, ?_, ?_, ?_, List.mem_append_left _ hbF, rfl⟩
        · have he2 : eqD [o, .dic (F.map kT), .lst (nL (W0 ++ [w]))] (.ref 2) (.lv []) = some false := by rw [he]; simp
          generalize nL (W0 ++ [w]) = W2 at he2 ⊢
          generalize F.map kT = F1 at he2 ⊢
          simp [b_hanging_0, cmpD, he2]
        · simp only [List.length_append, List.length_cons, List.length_nil]; omega
        · generalize nL (W0 ++ [w]) = WX at *
          generalize nL (nbrs n w) = NB at *
          generalize nL (W0 ++ N) = W2 at *
          generalize (F ++ N).map kT = F2 at *
          generalize F.map kT = F1 at *
          generalize nL W0 = W1 at *
          simp [b_hanging_2, ok, po, nr, forR, e]
        · have : (P ++ [w] ++ (W0 ++ N)).Perm (P ++ (W0 ++ [w]) ++ N) := by
            have q : (P ++ (([w] ++ W0) ++ N)).Perm (P ++ ((W0 ++ [w]) ++ N)) := List.Perm.append_left P (List.Perm.append_right N List.perm_append_comm)
            simpa only [List.append_assoc] using q
          exact this.trans (hpm.append_right N)
        · intro z hz
          rcases List.mem_append.mp hz with hz | hz
          · exact hFC z hz
          · exact (n2 z hz).1
        · intro z hz
          rcases List.mem_append.mp hz with hz | hz
          · exact hFR z hz
          · exact .step (hFR w hwF) (mn.mp (n2 z hz).2).2.2 ((hC z).mp (n2 z hz).1)
        · intro x hx y hy a
          rcases List.mem_append.mp hx with hx | hx
          · exact List.mem_append_left _ (hcl x hx y hy a)
          · simp at hx; subst hx
            exact n3 y (mn.mpr ⟨hy.1, hy.2.1, a⟩) ((hC y).mpr hy)) K C.length [some (.int n), some (.ref 0), some (.int (nI b)), some (.ref 1), some (.ref 2), none] [o, .dic ([b].map kT), .lst (nL [b])] (by omega)
      ⟨[b], [b], [], none, rfl, rfl, by simp, by simp, fun z hz => by simp at hz; subst hz; exact hb, fun z hz => by simp at hz; subst hz; exact .here ((hC z).mp hb), fun _ h => (nomatch h), by simp, rfl⟩
  have fv : ∀ z ∈ F, vC n z := fun z hz => hCv z (hFC z hz)
  obtain ⟨S, eS, hS⟩ := sort_back fv
  have sl : S.length ≤ C.length := by
    have := congrArg List.length eS
    rw [(sortI_perm _).length_eq, List.length_map, List.length_map] at this
    rw [← this]; exact nodup_le hnd hFC
  have nd : (F.map nI).Nodup := by
    have inj : ∀ F : List Ce, (∀ z ∈ F, vC n z) → F.Nodup → (F.map nI).Nodup := fun F => by
      induction F with
      | nil => intro _ _; simp
      | cons a r ih =>
        intro hv hn
        rw [List.map_cons, List.nodup_cons]
        have hn := List.nodup_cons.mp hn
        refine ⟨fun q => ?_, ih (fun z hz => hv z (List.mem_cons_of_mem _ hz)) hn.2⟩
        obtain ⟨y, hy, e⟩ := List.mem_map.mp q
        exact hn.1 (nI_inj (hv y (List.mem_cons_of_mem _ hy)) (hv a List.mem_cons_self) e ▸ hy)
    exact inj F fv hnd
  have pw : (S.map nI).Pairwise (· < ·) := by
    rw [← eS]
    have h1 := sortI_sorted (F.map nI)
    have h2 : (sortI (F.map nI)).Nodup := (sortI_perm _).nodup_iff.mpr nd
    exact (h1.and h2).imp fun ⟨h1, h2⟩ => by omega
  refine ⟨S, ?_, sl, fun z => (hS z).trans ⟨hFR z, fun h => rc_closed hbF (fun x hx => hcl x (hpm.mem_iff.mpr hx)) h⟩, pw⟩
  have so := sorted_kT (h := [o, .dic (F.map kT), .lst []]) (p := 1) (F := F) rfl (by have := nodup_le hnd hFC; omega)
  rw [eS] at so
  have gc := gcR_keep (v := .tup (nL S)) (h0 := [o]) (rest := [.dic (F.map kT), .lst []]) (k := 1) rfl (by simp [hor]) (by rw [D.refs, ints_refs]; simp)
  simp only [nL, List.map_cons, List.map_nil, kT] at e
  simp only [nL] at *
  generalize List.map D.int (List.map nI S) = S1 at *
  have e' := e
  generalize hF1 : List.map kT F = F1 at *
  rw [run_hanging]
  simp [b_hanging, e, so]
  exact gc
end Mi

set_option Elab.async false
set_option linter.all false
set_option maxRecDepth 100000
namespace Mi
open PySem
theorem look_map_keys (k : L2.Key) (g : L2.Key × D → L2.Key × D) (hg : ∀ p, (g p).1 = p.1) : ∀ kvs : List (L2.Key × D), (lookK (kvs.map g) k).isSome = (lookK kvs k).isSome
  | [] => rfl
  | p :: r => by
    obtain ⟨k1, d⟩ := p
    have hp := hg (k1, d)
    rw [List.map_cons]
    generalize g (k1, d) = q at *
    obtain ⟨k2, d2⟩ := q
    simp only at hp
    subst hp
    rw [lookK, lookK]
    split
    · rfl
    · exact look_map_keys k g hg r
theorem look_app (k : L2.Key) (p : L2.Key × D) : ∀ kvs : List (L2.Key × D), (lookK (kvs ++ [p]) k).isSome = ((lookK kvs k).isSome || decide (p.1 = k))
  | [] => by
    obtain ⟨k1, d⟩ := p
    simp only [List.nil_append, lookK]
    by_cases h : k1 = k <;> simp [h]
  | q :: r => by
    obtain ⟨k2, d2⟩ := q
    rw [List.cons_append, lookK, lookK]
    split
    · simp
    · exact look_app k p r
theorem look_any (k : L2.Key) : ∀ kvs : List (L2.Key × D), (lookK kvs k).isSome = kvs.any fun kv => decide (kv.1 = k)
  | [] => rfl
  | (k2, d2) :: r => by
    rw [lookK, List.any_cons, ← look_any k r]
    by_cases h : k2 = k <;> simp [h]
theorem look_put (k k' : L2.Key) (d : D) (kvs : List (L2.Key × D)) : (lookK (putK k d kvs) k').isSome = ((lookK kvs k').isSome || decide (k = k')) := by
  unfold putK
  split
  · rename_i ha
    rw [look_map_keys k' _ (fun p => by split <;> rfl)]
    by_cases h : k = k'
    · subst h; rw [look_any k kvs, ha]; simp
    · simp [h]
  · exact look_app k' (k, d) kvs
theorem put_len (k : L2.Key) (d : D) (kvs : List (L2.Key × D)) : (putK k d kvs).length ≤ kvs.length + 1 := by
  unfold putK
  split <;> simp
def hasK (kvs : List (L2.Key × D)) (i : Int) : Prop := (lookK kvs (.inl i)).isSome = true
theorem has_put {kvs : List (L2.Key × D)} {i j : Int} {d : D} : hasK (putK (.inl i) d kvs) j ↔ hasK kvs j ∨ i = j := by
  unfold hasK
  rw [look_put]
  simp
theorem setI_dic {h : Hm} {p : Nat} {kvs : List (L2.Key × D)} {i : Int} {d : D} (e : h[p]? = some (.dic kvs)) (hl : kvs.length < 16777216) : setI h (.ref p) (.int i) d = .ok () (h.set p (.dic (putK (.inl i) d kvs))) := by
  simp [setI, e, keyOf, hl]
theorem u_inner (Γ : Gm) (K : Nat) (a0 a1 a3 : Option D) : ∀ (ks : List Int) (kvs : List (L2.Key × D)) (o4 : Option D), kvs.length + ks.length ≤ 10000 →
    ∃ (kvs' : List (L2.Key × D)) (o4' : Option D), forL (forS (exs Γ gg (xs0 K) b_untouched_0) (.n 4)) none (ks.map .int) [a0, a1, some (.ref 0), a3, o4] [.dic kvs] = .nx [a0, a1, some (.ref 0), a3, o4'] [.dic kvs'] ∧ kvs'.length ≤ kvs.length + ks.length ∧ ∀ j, hasK kvs' j ↔ hasK kvs j ∨ j ∈ ks
  | [], kvs, o4, _ => ⟨kvs, o4, rfl, by simp, fun j => by simp⟩
  | k :: ks, kvs, o4, hl => by
    simp only [List.length_cons] at hl
    have pl := put_len (.inl k) (.bl true) kvs
    obtain ⟨kvs', o4', e, l, q⟩ := u_inner Γ K a0 a1 a3 ks (putK (.inl k) (.bl true) kvs) (some (.int k)) (by omega)
    refine ⟨kvs', o4', ?_, by simp; omega, fun j => ?_⟩
    · have st := setI_dic (h := [.dic kvs]) (p := 0) (i := k) (d := .bl true) rfl (by omega)
      rw [List.map_cons, forL]
      have sp : forS (exs Γ gg (xs0 K) b_untouched_0) (.n 4) (.int k) [a0, a1, some (.ref 0), a3, o4] [.dic kvs] = .nx [a0, a1, some (.ref 0), a3, some (.int k)] [.dic (putK (.inl k) (.bl true) kvs)] := by
        simp [forS, b_untouched_0, st]
      rw [sp, tn_nx, src_no, gs_t, e]
    · rw [q j, has_put, List.mem_cons]
      constructor
      · rintro ((h | h) | h)
        · exact .inl h
        · exact .inr (.inl h.symm)
        · exact .inr (.inr h)
      · rintro (h | h | h)
        · exact .inl (.inl h)
        · exact .inl (.inr h.symm)
        · exact .inr h
theorem tch_len (s : Nat) (z : Ce) : (tchL s z).length ≤ 3 := by
  unfold tchL keepIf
  repeat' split
  all_goals simp
theorem u_outer (K n0 : Nat) (hK : 1000 ≤ K) (n : Nat) (hn : n ≤ 100) (a1 : Option D) : ∀ (S : List Ce) (kvs : List (L2.Key × D)) (o3 o4 : Option D), (∀ z ∈ S, vC n z) → kvs.length + 3 * S.length ≤ 10000 →
    ∃ (kvs' : List (L2.Key × D)) (o3' o4' : Option D), forL (forS (exs (callM (run K (n0 + 3))) gg (xs0 K) b_untouched_1) (.n 3)) none (nL S) [some (.int n), a1, some (.ref 0), o3, o4] [.dic kvs] = .nx [some (.int n), a1, some (.ref 0), o3', o4'] [.dic kvs'] ∧ ∀ j, hasK kvs' j ↔ hasK kvs j ∨ ∃ z ∈ S, j ∈ tchL n z
  | [], kvs, o3, o4, _, _ => ⟨kvs, o3, o4, rfl, fun j => by simp⟩
  | z :: S, kvs, o3, o4, hv, hl => by
    simp only [List.length_cons] at hl
    have vz := hv z List.mem_cons_self
    have tc := d_touch K n0 hK n hn z vz.1 vz.2 [.dic kvs]
    have tlen := tch_len n z
    obtain ⟨k1, o4', e1, l1, q1⟩ := u_inner (callM (run K (n0 + 3))) K (some (.int n)) a1 (some (.int (nI z))) (tchL n z) kvs o4 (by omega)
    obtain ⟨k2, o3', o4'', e2, q2⟩ := u_outer K n0 hK n hn a1 S k1 (some (.int (nI z))) o4' (fun y hy => hv y (List.mem_cons_of_mem _ hy)) (by omega)
    refine ⟨k2, o3', o4'', ?_, fun j => ?_⟩
    · rw [show nL (z :: S) = .int (nI z) :: nL S from rfl, forL]
      have sp : forS (exs (callM (run K (n0 + 3))) gg (xs0 K) b_untouched_1) (.n 3) (.int (nI z)) [some (.int n), a1, some (.ref 0), o3, o4] [.dic kvs] = .nx [some (.int n), a1, some (.ref 0), some (.int (nI z)), o4'] [.dic k1] := by
        generalize List.map D.int (tchL n z) = T at *
        generalize callM (run K (n0 + 3)) = Γ at *
        simp [forS, b_untouched_1, tc, forR, e1]
      rw [sp, tn_nx, src_no, gs_t, e2]
    · rw [q2 j, q1 j]
      simp only [List.mem_cons, exists_eq_or_imp, or_assoc]
theorem comp_three {step : D → Hm → R (Option D)} {h : Hm} (a b c : Bool) (h0 : step (.int 0) h = .ok (if a = true then some (.int 0) else none) h) (h1 : step (.int 1) h = .ok (if b = true then some (.int 1) else none) h) (h2 : step (.int 2) h = .ok (if c = true then some (.int 2) else none) h) :
    compL step none (upto 0 3) h = .ok (((if a = true then [(0:Int)] else []) ++ ((if b = true then [1] else []) ++ (if c = true then [2] else []))).map .int) h := by
  show compL step none [.int 0, .int (0 + 1), .int (0 + 1 + 1)] h = _
  simp only [compL, h0, bnd_ok, srcOk, gd_t, show (0:Int) + 1 = 1 from rfl, show (1:Int) + 1 = 2 from rfl, h1, h2]
  cases a <;> cases b <;> cases c <;> rfl
theorem gc_one {l : List D} {rest : Hm} (hl : D.refsL l = []) : gcR 0 (.ok (.ref 1) (x :: .lst l :: rest)) = .ok (.ref 0) [.lst l] := by
  have hr : gcH 0 (x :: .lst l :: rest) [1] = [1] := by
    show reach (99998 + 1 + 1) _ [1] [] = _
    simp [reach, O.refs, hl]
  unfold gcR
  simp only [D.refs, hr]
  simp [closedB, nums, O.refs, hl, subH, O.map, D.map, ixOf, mapL_norefs _ _ hl]
theorem r_untouched (K n0 : Nat) (hK : 1000 ≤ K) (n : Nat) (hn : n ≤ 100) (S : List Ce) (hS : ∀ z ∈ S, vC n z) (hl : S.length ≤ 1000) :
    ∃ L : List Int, run K (n0 + 4) i_untouched [.int n, .tup (nL S)] [] = .ok (.ref 0) [.lst (L.map .int)] ∧ (L = [] ↔ ∀ k : Int, 0 ≤ k → k < 3 → ∃ z ∈ S, k ∈ tchL n z) := by
  obtain ⟨kvs, o3, o4, e, q⟩ := u_outer K n0 hK n hn (some (.tup (nL S))) S [] none none hS (by simp; omega)
  have q' : ∀ j, hasK kvs j ↔ ∃ z ∈ S, j ∈ tchL n z := fun j => by rw [q j]; simp [hasK, lookK]
  have ind : ∀ j : Int, inD [.dic kvs] (.int j) (.ref 0) = some (lookK kvs (.inl j)).isSome := fun j => by simp [inD, dicOf, keyOf]
  have stp : ∀ j : Int, stepC (evF (callM (run K (n0 + 3))) gg b_untouched_3) (ev (callM (run K (n0 + 3))) gg b_untouched_2) (.n 4) [some (.int n), some (.tup (nL S)), some (.ref 0), o3, o4] [4] (.int j) [.dic kvs] = .ok (if (!(lookK kvs (.inl j)).isSome) = true then some (.int j) else none) [.dic kvs] := fun j => by
    have i := ind j
    generalize (lookK kvs (.inl j)).isSome = b at *
    generalize nL S = T at *
    cases b <;> simp [stepC, wipeD, b_untouched_3, b_untouched_2, cmpD, i, nox]
  have ct := comp_three _ _ _ (stp 0) (stp 1) (stp 2)
  refine ⟨((if (!(lookK kvs (.inl 0)).isSome) = true then [(0:Int)] else []) ++ ((if (!(lookK kvs (.inl 1)).isSome) = true then [1] else []) ++ (if (!(lookK kvs (.inl 2)).isSome) = true then [2] else []))), ?_, ?_⟩
  · generalize hL : ((if (!(lookK kvs (.inl 0)).isSome) = true then [(0:Int)] else []) ++ ((if (!(lookK kvs (.inl 1)).isSome) = true then [1] else []) ++ (if (!(lookK kvs (.inl 2)).isSome) = true then [2] else []))) = L at *
    have l3 : L.length ≤ 3 := by
      rw [← hL]
      repeat' split
      all_goals simp
    have g1 := gc_one (x := .dic kvs) (l := L.map .int) (rest := []) (ints_refs _)
    have hr3 : rngOk 3 = true := by decide +kernel
    have l4 : (L.map D.int).length < 16777216 := by simp; omega
    generalize L.map D.int = LD at *
    generalize nL S = T at *
    rw [run_untouched]
    simp [b_untouched, e, hr3, forR, compR, ct, l4]
    exact g1
  · constructor
    · intro hL k k0 k3
      rw [← q' k]
      unfold hasK
      rcases (by omega : k = 0 ∨ k = 1 ∨ k = 2) with rfl | rfl | rfl
      · cases h : (lookK kvs (.inl 0)).isSome
        · rw [h] at hL; simp at hL
        · rfl
      · cases h : (lookK kvs (.inl 1)).isSome
        · rw [h] at hL; simp at hL
        · rfl
      · cases h : (lookK kvs (.inl 2)).isSome
        · rw [h] at hL; simp at hL
        · rfl
    · intro hk
      have h0 := (q' 0).mpr (hk 0 (by omega) (by omega))
      have h1 := (q' 1).mpr (hk 1 (by omega) (by omega))
      have h2 := (q' 2).mpr (hk 2 (by omega) (by omega))
      unfold hasK at h0 h1 h2
      rw [h0, h1, h2]; rfl
end Mi

set_option Elab.async false
set_option linter.all false
set_option maxRecDepth 100000
namespace Mi
open PySem
theorem nm_surj : ∀ (n i : Nat), i < tri n → ∃ z, vC n z ∧ nm z = i
  | 0, i, h => by simp [tri] at h
  | n + 1, i, h => by
    by_cases hi : i < tri n
    · obtain ⟨z, hz, e⟩ := nm_surj n i hi
      exact ⟨z, ⟨hz.1, Nat.lt_succ_of_lt hz.2⟩, e⟩
    · simp only [tri] at h
      exact ⟨(n, i - tri n), ⟨by simp; omega, by simp⟩, by simp [nm]; omega⟩
theorem nm_lt {n : Nat} {z : Ce} (h : vC n z) : nm z < tri n := by
  have := tri_lt h.2
  have := h.1
  simp only [nm]; omega
theorem c_hanging (K n0 : Nat) (hK : 1000 ≤ K) (n : Nat) (hn : n ≤ 100) (f : Nat → Nat → Bool) (C : List Ce) (hC : ∀ z, z ∈ C ↔ inT n f z) (hl : C.length ≤ 500) (b : Ce) (hb : b ∈ C) (rest : Hm) :
    ∃ S : List Ce, callM (run K (n0 + 4)) i_hanging [.int n, .ref 0, .int (nI b)] (.frd (C.map kT) :: rest) = .ok (.tup (nL S)) (.frd (C.map kT) :: rest) ∧ S.length ≤ C.length ∧ (∀ z, z ∈ S ↔ Rc n f b z) ∧ (S.map nI).Pairwise (· < ·) := by
  have hor : (O.frd (C.map kT)).refs = [] := by
    simp only [O.refs]
    have : ∀ C : List Ce, kvRefs (C.map kT) = [] := fun C => by
      induction C with
      | nil => rfl
      | cons z C ih => simp [kvRefs, D.refs, ih]
    exact this C
  obtain ⟨S, e, sl, hS⟩ := r_hanging K n0 hK n hn f C hC hl (.frd (C.map kT)) (fun rest => by simp [dicOf]) hor b hb
  refine ⟨S, ?_, sl, hS⟩
  have := callM_keep (Γ := run K (n0 + 4)) (f := i_hanging) (args := [.int n, .ref 0, .int (nI b)]) (h0 := [.frd (C.map kT)]) (h0' := [.frd (C.map kT)]) (rest := rest) (v := .tup (nL S)) (by simp [hor]) (by
    show reach (99998 + 1 + 1) _ [0] [] = _
    simp [reach, hor, nums]) (by simp [D.refsL, D.refs]) rfl (by simp [hor]) (by rw [D.refs]; exact ints_refs _) e
  simpa using this
theorem w_inner (Γ : Gm) (K n : Nat) {C : List Ce} {o : O} (hC : ∀ z ∈ C, vC n z) (a0 a1 a2 a3 a5 a7 : Option D) (rest : Hm) : ∀ (S Dn : List Ce) (o6 : Option D), (∀ y ∈ S, y ∈ C) → (∀ z ∈ Dn, z ∈ C) → Dn.Nodup → C.length ≤ 1000 →
    ∃ (Dn' : List Ce) (o6' : Option D), forL (forS (exs Γ gg (xs0 K) b_whole_piece_1) (.n 6)) none (nL S) [a0, a1, a2, a3, some (.ref 1), a5, o6, a7] (o :: .dic (Dn.map kT) :: rest) = .nx [a0, a1, a2, a3, some (.ref 1), a5, o6', a7] (o :: .dic (Dn'.map kT) :: rest) ∧ Dn'.Nodup ∧ (∀ z ∈ Dn', z ∈ C) ∧ ∀ z, z ∈ Dn' ↔ z ∈ Dn ∨ z ∈ S
  | [], Dn, o6, _, hD, hn, _ => ⟨Dn, o6, rfl, hn, hD, fun z => by simp⟩
  | y :: S, Dn, o6, hv, hD, hn, hl => by
    have vy := hC y (hv y List.mem_cons_self)
    have dl := nodup_le hn hD
    have st := setI_dic (h := o :: .dic (Dn.map kT) :: rest) (p := 1) (kvs := Dn.map kT) (i := nI y) (d := .bl true) rfl (by simp; omega)
    obtain ⟨D1, pk, n1, h1, m1⟩ : ∃ D1 : List Ce, putK (.inl (nI y)) (.bl true) (Dn.map kT) = D1.map kT ∧ D1.Nodup ∧ (∀ z ∈ D1, z ∈ C) ∧ ∀ z, z ∈ D1 ↔ z ∈ Dn ∨ z = y := by
      by_cases c : y ∈ Dn
      · exact ⟨Dn, put_kT' vy (fun z hz => hC z (hD z hz)) c, hn, hD, fun z => ⟨.inl, fun h => h.elim id fun q => by rw [q]; exact c⟩⟩
      · refine ⟨Dn ++ [y], put_kT vy (fun z hz => hC z (hD z hz)) c, ?_, fun z hz => ?_, fun z => by simp⟩
        · rw [List.nodup_append]
          exact ⟨hn, by simp, fun a ha b hb q => by simp at hb; subst hb; subst q; exact c ha⟩
        · rcases List.mem_append.mp hz with hz | hz
          · exact hD z hz
          · simp at hz; subst hz; exact hv _ List.mem_cons_self
    obtain ⟨D2, o6', e, n2, h2, m2⟩ := w_inner Γ K n (o := o) hC a0 a1 a2 a3 a5 a7 rest S D1 (some (.int (nI y))) (fun z hz => hv z (List.mem_cons_of_mem _ hz)) h1 n1 hl
    refine ⟨D2, o6', ?_, n2, h2, fun z => by rw [m2 z, m1 z, List.mem_cons, or_assoc]⟩
    rw [show nL (y :: S) = .int (nI y) :: nL S from rfl, forL]
    rw [pk] at st
    generalize D1.map kT = F1 at *
    generalize Dn.map kT = F0 at *
    have sp : forS (exs Γ gg (xs0 K) b_whole_piece_1) (.n 6) (.int (nI y)) [a0, a1, a2, a3, some (.ref 1), a5, o6, a7] (o :: .dic F0 :: rest) = .nx [a0, a1, a2, a3, some (.ref 1), a5, some (.int (nI y)), a7] (o :: .dic F1 :: rest) := by
      simp [forS, b_whole_piece_1, st]
    rw [sp, tn_nx, src_no, gs_t, e]
theorem tch_iff {n : Nat} {z : Ce} (k : Nat) (hk : k < 3) : ((k : Int) ∈ tchL n z) ↔ ytch n k z := by
  match k, hk with
  | 0, _ => simp [tchL, mem_keepIf, ytch]
  | 1, _ => simp [tchL, mem_keepIf, ytch]
  | 2, _ => simp [tchL, mem_keepIf, ytch]
theorem full_iff {n : Nat} {f : Nat → Nat → Bool} {b : Ce} {S : List Ce} (hS : ∀ z, z ∈ S ↔ Rc n f b z) : (∀ k : Int, 0 ≤ k → k < 3 → ∃ z ∈ S, k ∈ tchL n z) ↔ Full n f b := by
  constructor
  · intro h k hk
    obtain ⟨z, hz, q⟩ := h k (by omega) (by omega)
    exact ⟨z, (hS z).mp hz, (tch_iff k hk).mp q⟩
  · intro h k k0 k3
    obtain ⟨m, rfl⟩ : ∃ m : Nat, k = m := ⟨k.toNat, by omega⟩
    obtain ⟨z, hz, q⟩ := h m (by omega)
    exact ⟨z, (hS z).mpr hz, (tch_iff m (by omega)).mpr q⟩
theorem Full.mov {n : Nat} {f : Nat → Nat → Bool} {a b : Ce} (h : Rc n f a b) (g : Full n f b) : Full n f a := fun k hk => by
  obtain ⟨c, q, t⟩ := g k hk
  exact ⟨c, h.trans q, t⟩
theorem w_outer (K n0 : Nat) (hK : 1000 ≤ K) (n : Nat) (hn : n ≤ 100) (f : Nat → Nat → Bool) (C : List Ce) (hC : ∀ z, z ∈ C ↔ inT n f z) (hl : C.length ≤ 500) (a1 a2 : Option D) : ∀ (rem Dn : List Ce) (rest : Hm) (o5 o6 o7 : Option D), (∀ z ∈ rem, z ∈ C) → (∀ z ∈ Dn, z ∈ C) → Dn.Nodup → (∀ z ∈ Dn, ¬ Full n f z) →
    (∃ (S : List Ce) (rest' : Hm), S ≠ [] ∧ (∃ b, inT n f b ∧ Full n f b ∧ (∀ z, z ∈ S ↔ Rc n f b z) ∧ (S.map nI).Pairwise (· < ·)) ∧ forL (forS (exs (callM (run K (n0 + 4))) gg (xs0 K) b_whole_piece_2) (.n 5)) none (nL rem) [some (.int n), a1, a2, some (.ref 0), some (.ref 1), o5, o6, o7] (.frd (C.map kT) :: .dic (Dn.map kT) :: rest) = .rt (.tup (nL S)) (.frd (C.map kT) :: rest')) ∨
    (∃ (ρ' : Env) (rest' : Hm), (∀ z ∈ rem, ¬ Full n f z) ∧ forL (forS (exs (callM (run K (n0 + 4))) gg (xs0 K) b_whole_piece_2) (.n 5)) none (nL rem) [some (.int n), a1, a2, some (.ref 0), some (.ref 1), o5, o6, o7] (.frd (C.map kT) :: .dic (Dn.map kT) :: rest) = .nx ρ' (.frd (C.map kT) :: rest'))
  | [], Dn, rest, o5, o6, o7, _, _, _, _ => .inr ⟨_, _, fun _ h => (nomatch h), rfl⟩
  | z :: rem, Dn, rest, o5, o6, o7, hr, hD, hnd, hF => by
    have hCv : ∀ z ∈ C, vC n z := fun z hz => ⟨((hC z).mp hz).1, ((hC z).mp hz).2.1⟩
    have hz := hr z List.mem_cons_self
    have vz := hCv z hz
    have i1 := in_kT (h := .frd (C.map kT) :: .dic (Dn.map kT) :: rest) (p := 1) (F := Dn) (by simp [dicOf]) vz fun y hy => hCv y (hD y hy)
    have hr' : ∀ y ∈ rem, y ∈ C := fun y hy => hr y (List.mem_cons_of_mem _ hy)
    rw [show nL (z :: rem) = .int (nI z) :: nL rem from rfl, forL]
    by_cases c : z ∈ Dn
    · have sp : forS (exs (callM (run K (n0 + 4))) gg (xs0 K) b_whole_piece_2) (.n 5) (.int (nI z)) [some (.int n), a1, a2, some (.ref 0), some (.ref 1), o5, o6, o7] (.frd (C.map kT) :: .dic (Dn.map kT) :: rest) = .nx [some (.int n), a1, a2, some (.ref 0), some (.ref 1), some (.int (nI z)), o6, o7] (.frd (C.map kT) :: .dic (Dn.map kT) :: rest) := by
        rw [decide_eq_true c] at i1
        generalize C.map kT = FC at *
        generalize Dn.map kT = F0 at *
        generalize callM (run K (n0 + 4)) = Γ at *
        simp [forS, b_whole_piece_2, cmpD, i1]
      rw [sp, tn_nx, src_no, gs_t]
      rcases w_outer K n0 hK n hn f C hC hl a1 a2 rem Dn rest (some (.int (nI z))) o6 o7 hr' hD hnd hF with h | ⟨ρ', rest', h1, h2⟩
      · exact .inl h
      · exact .inr ⟨ρ', rest', fun y hy => by
          rcases List.mem_cons.mp hy with rfl | hy
          · exact hF _ c
          · exact h1 y hy, h2⟩
    · obtain ⟨S, eh, sl, hS, hpw⟩ := c_hanging K n0 hK n hn f C hC hl z hz (.dic (Dn.map kT) :: rest)
      have hSC : ∀ y ∈ S, y ∈ C := fun y hy => (hC y).mpr ((hS y).mp hy).right
      have hzS : z ∈ S := (hS z).mpr (.here ((hC z).mp hz))
      obtain ⟨L, eu, hL⟩ := r_untouched K n0 hK n hn S (fun y hy => hCv y (hSC y hy)) (by omega)
      rw [full_iff hS] at hL
      have cu := callM_make (Γ := run K (n0 + 4)) (f := i_untouched) (args := [.int n, .tup (nL S)]) (h := .frd (C.map kT) :: .dic (Dn.map kT) :: rest) (new := [.lst (L.map .int)]) (v := .ref 0) (by simp only [D.refsL, D.refs, ints_refs, List.append_nil]) eu
      have cu' : callM (run K (n0 + 4)) i_untouched [.int n, .tup (nL S)] (.frd (C.map kT) :: .dic (Dn.map kT) :: rest) = .ok (.ref (rest.length + 2)) (.frd (C.map kT) :: .dic (Dn.map kT) :: (rest ++ [.lst (L.map .int)])) := by
        rw [cu]
        simp [D.map, O.map, mapL_norefs _ _ (ints_refs L)]
      have eq0 := eq_lnil (h := .frd (C.map kT) :: .dic (Dn.map kT) :: (rest ++ [.lst (L.map .int)])) (n := rest.length + 2) (ns := L) (by simp)
      rw [decide_eq_false c] at i1
      by_cases hf : Full n f z
      · left
        refine ⟨S, .dic (Dn.map kT) :: (rest ++ [.lst (L.map .int)]), (fun q => by rw [q] at hzS; cases hzS), ⟨z, (hC z).mp hz, hf, hS, hpw⟩, ?_⟩
        rw [decide_eq_true (hL.mpr hf)] at eq0
        have sp : forS (exs (callM (run K (n0 + 4))) gg (xs0 K) b_whole_piece_2) (.n 5) (.int (nI z)) [some (.int n), a1, a2, some (.ref 0), some (.ref 1), o5, o6, o7] (.frd (C.map kT) :: .dic (Dn.map kT) :: rest) = .rt (.tup (nL S)) (.frd (C.map kT) :: .dic (Dn.map kT) :: (rest ++ [.lst (L.map .int)])) := by
          generalize C.map kT = FC at *
          generalize Dn.map kT = F0 at *
          generalize L.map D.int = LL at *
          generalize nL S = SS at *
          generalize callM (run K (n0 + 4)) = Γ at *
          simp [forS, b_whole_piece_2, cmpD, i1, eh, cu', eq0]
        rw [sp, tn_rt]
      · have hLn : L ≠ [] := fun q => hf (hL.mp q)
        rw [decide_eq_false hLn] at eq0
        obtain ⟨D2, o6', e, n2, h2, m2⟩ := w_inner (callM (run K (n0 + 4))) K n (o := .frd (C.map kT)) hCv (some (.int n)) a1 a2 (some (.ref 0)) (some (.int (nI z))) (some (.tup (nL S))) (rest ++ [.lst (L.map .int)]) S Dn o6 hSC hD hnd (by omega)
        have sp : forS (exs (callM (run K (n0 + 4))) gg (xs0 K) b_whole_piece_2) (.n 5) (.int (nI z)) [some (.int n), a1, a2, some (.ref 0), some (.ref 1), o5, o6, o7] (.frd (C.map kT) :: .dic (Dn.map kT) :: rest) = .nx [some (.int n), a1, a2, some (.ref 0), some (.ref 1), some (.int (nI z)), o6', some (.tup (nL S))] (.frd (C.map kT) :: .dic (D2.map kT) :: (rest ++ [.lst (L.map .int)])) := by
          generalize C.map kT = FC at *
          generalize Dn.map kT = F0 at *
          generalize D2.map kT = F2 at *
          generalize L.map D.int = LL at *
          generalize nL S = SS at *
          generalize callM (run K (n0 + 4)) = Γ at *
          simp [forS, b_whole_piece_2, cmpD, i1, eh, cu', eq0, forR, e]
        rw [sp, tn_nx, src_no, gs_t]
        have hF2 : ∀ y ∈ D2, ¬ Full n f y := fun y hy q => by
          rcases (m2 y).mp hy with h | h
          · exact hF y h q
          · exact hf (Full.mov ((hS y).mp h) q)
        rcases w_outer K n0 hK n hn f C hC hl a1 a2 rem D2 (rest ++ [.lst (L.map .int)]) (some (.int (nI z))) o6' (some (.tup (nL S))) hr' h2 n2 hF2 with ⟨S', r', g1, g2, g3⟩ | ⟨ρ', rest', h1, h2⟩
        · exact .inl ⟨S', r', g1, g2, g3⟩
        · exact .inr ⟨ρ', rest', fun y hy => by
            rcases List.mem_cons.mp hy with rfl | hy
            · exact hf
            · exact h1 y hy, h2⟩
end Mi

set_option Elab.async false
set_option linter.all false
set_option maxRecDepth 100000
namespace Mi
open PySem
/-- the cells of a hand -/
def gH (f : Nat → Nat → Bool) (hb : Bool) : Nat → Nat → Bool := fun r p => if hb = true then f r p else !f r p
theorem gH_t (f : Nat → Nat → Bool) : gH f true = f := by funext r p; simp [gH]
theorem gH_f (f : Nat → Nat → Bool) : gH f false = fun r p => !f r p := by funext r p; simp [gH]
theorem gH_iff (f : Nat → Nat → Bool) (hb : Bool) (r p : Nat) : gH f hb r p = true ↔ f r p = hb := by cases hb <;> simp [gH]
theorem bi_inj {a b : Bool} : bi a = bi b ↔ a = b := by cases a <;> cases b <;> decide
theorem w_first (hb : Bool) (Γ : Gm) (K n : Nat) (hn : n ≤ 12) (f : Nat → Nat → Bool) (a0 a1 a4 a7 : Option D) (o5 o6 : Option D) :
    ∃ (C : List Ce) (o5' o6' : Option D), forL (forS (exs Γ gg (xs0 K) b_whole_piece_0) (.t (.cons (.n 5) (.cons (.n 6) .nil)))) none (pairs 0 ((tl n f).map .int)) [a0, a1, some (.int (bi hb)), some (.ref 0), a4, o5, o6, a7] [.dic []] = .nx [a0, a1, some (.int (bi hb)), some (.ref 0), a4, o5', o6', a7] [.dic (C.map kT)] ∧ (∀ z, z ∈ C ↔ inT n (gH f hb) z) ∧ C.length ≤ 78 := by
  have t78 := tri_12 hn
  have ln := tl_len f n
  obtain ⟨ρ', h', e, i, C, o5', o6', ed, hi, rfl, rfl, hC, hl⟩ := for_rule (step := forS (exs Γ gg (xs0 K) b_whole_piece_0) (.t (.cons (.n 5) (.cons (.n 6) .nil)))) (src := none)
    (fun ds ρ h => ∃ (i : Nat) (C : List Ce) (o5 o6 : Option D), ds = pairs i (((tl n f).drop i).map .int) ∧ i ≤ tri n ∧ ρ = [a0, a1, some (.int (bi hb)), some (.ref 0), a4, o5, o6, a7] ∧ h = [.dic (C.map kT)] ∧ (∀ z, z ∈ C ↔ inT n (gH f hb) z ∧ nm z < i) ∧ C.length ≤ i) (by
    rintro d ds ρ h ⟨i, C, o5, o6, ed, hi, rfl, rfl, hC, hl⟩
    by_cases hlt : i < tri n
    · rw [List.drop_eq_getElem_cons (by rw [ln]; exact hlt), List.map_cons, pairs, List.cons.injEq] at ed
      obtain ⟨rfl, rfl⟩ := ed
      obtain ⟨z, vz, ez⟩ := nm_surj n i hlt
      have hv : (tl n f)[i]'(by rw [ln]; exact hlt) = bi (f z.1 z.2) := by
        have := tl_get f n z.1 z.2 vz.1 vz.2
        have e2 : tri z.1 + z.2 = i := ez
        rw [e2, List.getElem?_eq_getElem (by rw [ln]; exact hlt)] at this
        exact Option.some.inj this
      rw [hv]
      have hCv : ∀ y ∈ C, vC n y := fun y hy => ⟨((hC y).mp hy).1.1, ((hC y).mp hy).1.2.1⟩
      have ezI : ((i : Nat) : Int) = nI z := by rw [← ez]; rfl
      rw [ezI]
      by_cases hf : f z.1 z.2 = hb
      · have zn : z ∉ C := fun q => by have := ((hC z).mp q).2; omega
        have pk := put_kT vz hCv zn
        have st := setI_dic (h := [.dic (C.map kT)]) (p := 0) (kvs := C.map kT) (i := nI z) (d := .bl true) rfl (by simp; omega)
        rw [pk] at st
        refine ⟨[a0, a1, some (.int (bi hb)), some (.ref 0), a4, some (.int (nI z)), some (.int (bi (f z.1 z.2))), a7], [.dic ((C ++ [z]).map kT)], .inl ?_, rfl, i + 1, C ++ [z], _, _, rfl, hlt, rfl, rfl, fun y => ?_, by simp; omega⟩
        · generalize (C ++ [z]).map kT = F1 at *
          generalize C.map kT = F0 at *
          have hb1 : bi (f z.1 z.2) = bi hb := bi_inj.mpr hf
          simp [forS, b_whole_piece_0, hb1, st]
        · rw [List.mem_append, hC y]
          constructor
          · rintro (h | h)
            · exact ⟨h.1, by omega⟩
            · simp at h; subst h; exact ⟨⟨vz.1, vz.2, (gH_iff _ _ _ _).mpr hf⟩, by omega⟩
          · rintro ⟨h1, h2⟩
            by_cases hy : nm y < i
            · exact .inl ⟨h1, hy⟩
            · right
              have : nm y = nm z := by omega
              simp [nm_inj h1.1 vz.1 this]
      · refine ⟨[a0, a1, some (.int (bi hb)), some (.ref 0), a4, some (.int (nI z)), some (.int (bi (f z.1 z.2))), a7], [.dic (C.map kT)], .inl ?_, rfl, i + 1, C, _, _, rfl, hlt, rfl, rfl, fun y => ?_, by omega⟩
        · generalize C.map kT = F0 at *
          have hb1 : ¬ bi (f z.1 z.2) = bi hb := fun q => hf (bi_inj.mp q)
          simp [forS, b_whole_piece_0, hb1]
        · rw [hC y]
          refine ⟨fun h => ⟨h.1, by omega⟩, fun h => ⟨h.1, ?_⟩⟩
          by_cases hy : nm y < i
          · exact hy
          · exfalso
            have : nm y = nm z := by omega
            have := nm_inj h.1.1 vz.1 this
            subst this
            exact hf ((gH_iff _ _ _ _).mp h.1.2.2)
    · rw [List.drop_eq_nil_of_le (by omega)] at ed
      cases ed) (pairs 0 ((tl n f).map .int)) [a0, a1, some (.int (bi hb)), some (.ref 0), a4, o5, o6, a7] [.dic ([].map kT)] ⟨0, [], o5, o6, rfl, by omega, rfl, rfl, fun z => by simp, by simp⟩
  refine ⟨C, o5', o6', e, fun z => ?_, by omega⟩
  have hi2 : i = tri n := by
    by_cases hlt : i < tri n
    · rw [List.drop_eq_getElem_cons (by rw [ln]; exact hlt), List.map_cons, pairs] at ed
      cases ed
    · omega
  rw [hC z, hi2]
  exact ⟨fun h => h.1, fun h => ⟨h, nm_lt ⟨h.1, h.2.1⟩⟩⟩
theorem keys_kT (C : List Ce) : ((C.map kT).map fun p => ofKey p.1) = nL C := by
  rw [List.map_map, nL, List.map_map]; rfl
theorem r_piece (hb : Bool) (K n0 : Nat) (hK : 1000 ≤ K) (n : Nat) (hn : n ≤ 12) (f : Nat → Nat → Bool) :
    ∃ S : List Ce, run K (n0 + 5) i_whole_piece [.int n, bD (tl n f), .int (bi hb)] [] = .ok (.tup (nL S)) [] ∧ (S ≠ [] ↔ YY n (gH f hb)) ∧ (S ≠ [] → ∃ b, inT n (gH f hb) b ∧ Full n (gH f hb) b ∧ (∀ z, z ∈ S ↔ Rc n (gH f hb) b z) ∧ (S.map nI).Pairwise (· < ·)) := by
  obtain ⟨C, o5, o6, e1, hC, hl⟩ := w_first hb (callM (run K (n0 + 4))) K n hn f (some (.int n)) (some (bD (tl n f))) none none none none
  have e2 := w_outer K n0 hK n (by omega) (gH f hb) C hC (by omega) (some (bD (tl n f))) (some (.int (bi hb))) C [] [] o5 o6 none (fun z hz => hz) (fun _ h => nomatch h) (by simp) (fun _ h => nomatch h)
  have gc := fun (S : List Ce) (h : Hm) => gcR_pure (v := .tup (nL S)) (h := h) (by rw [D.refs]; exact ints_refs _)
  have kk := keys_kT C
  have frd := fun rest => show frdOf (.frd (C.map kT) :: rest) (.ref 0) = some (C.map kT) by simp [frdOf]
  have lk := fun (rest : Hm) (g : Hm → Rs) => lkR_ref (h := .dic (C.map kT) :: rest) (n := 0) (kvs := C.map kT) (f := g) rfl
  rcases e2 with ⟨S, rest', hS, hP, e2⟩ | ⟨ρ', rest', hF, e2⟩
  · refine ⟨S, ?_, ⟨fun _ => let ⟨b, h1, h2, _⟩ := hP; ⟨b, h1, h2⟩, fun _ => hS⟩, fun _ => hP⟩
    have rl := rlk_rt (n := 0) (kvs := C.map kT) (d := .tup (nL S)) (h := .frd (C.map kT) :: rest') rfl
    have gcS := gc S
    rw [run_whole_piece]
    generalize callM (run K (n0 + 4)) = Γ at *
    generalize nL S = SS at *
    simp only [List.map_nil] at e2
    generalize hFC : C.map kT = FC at *
    generalize nL C = CC at *
    have sq1 : ∀ h, seqOf h (bD (tl n f)) = some ((tl n f).map .int) := fun h => rfl
    have sr1 : ∀ h, srcOf h (bD (tl n f)) = none := fun h => rfl
    generalize (tl n f).map D.int = BB at *
    generalize bD (tl n f) = B at *
    simp [b_whole_piece, sq1, sr1, forR, e1, lk, frd, kk, e2, rl]
    exact gcS _
  · refine ⟨[], ?_, ⟨fun h => absurd rfl h, fun ⟨x, hx, hf⟩ => absurd hf (hF x ((hC x).mpr hx))⟩, fun h => absurd rfl h⟩
    have rl := rlk_nx (n := 0) (kvs := C.map kT) (ρ := ρ') (h := .frd (C.map kT) :: rest') rfl
    have gcS := gc []
    rw [run_whole_piece]
    generalize callM (run K (n0 + 4)) = Γ at *
    simp only [List.map_nil] at e2 gcS
    generalize hFC : C.map kT = FC at *
    generalize nL C = CC at *
    have sq1 : ∀ h, seqOf h (bD (tl n f)) = some ((tl n f).map .int) := fun h => rfl
    have sr1 : ∀ h, srcOf h (bD (tl n f)) = none := fun h => rfl
    generalize (tl n f).map D.int = BB at *
    generalize bD (tl n f) = B at *
    simp [b_whole_piece, sq1, sr1, forR, e1, lk, frd, kk, e2, rl]
    exact gcS _
end Mi

set_option Elab.async false
set_option linter.all false
set_option maxRecDepth 100000
namespace Mi
open PySem
theorem r_reduced (K n : Nat) (s : Nat) (hs : s ≤ 100) (f : Nat → Nat → Bool) : run K (n + 2) i_reduced [.int ((s + 2 : Nat) : Int), bD (tl (s + 2) f)] [] = .ok (bD (tl (s + 1) (yred f))) [] := by
  have hlT : (tl (s + 1) (yred f)).length ≤ 100000 := by
    rw [tl_len]
    have := tri_le (show s + 1 ≤ 101 by omega)
    exact Nat.le_trans this (by decide)
  have hlK : ∀ k, k ≤ s + 1 → (tl k (yred f)).length ≤ 100000 := fun k hk => by
    rw [tl_len]
    have := tri_le (show k ≤ 101 by omega)
    exact Nat.le_trans this (by decide)
  have hat : ∀ r p : Nat, p ≤ r → r < s + 2 → L2.atI ((tl (s + 2) f).map D.int) ((tri r : Int) + (p : Int)) = some (.int (bi (f r p))) := fun r p h1 h2 => tl_at f h1 h2
  have hS : ((s + 2 : Nat) : Int) = (s : Int) + 2 := by push_cast; rfl
  rw [run_reduced]
  simp only [hS, bD] at *
  generalize (tl (s + 2) f).map D.int = B at *
  obtain ⟨ρ', h', e, o4, o5, o6, rfl, rfl⟩ := range_rule (step := forS (exs (callM (run K (n + 1))) gg (xs0 K) b_reduced_1) (.n 3))
    (fun k ρ h => ∃ (o3 o4 o5 : Option D), ρ = [some (.int ((s : Int) + 2)), some (.tup B), some (.ref 0), o3, o4, o5] ∧ h = [.lst ((tl k (yred f)).map .int)]) 0 (s + 1) (by
    rintro k ρ h hk ⟨o3, o4, o5, rfl, rfl⟩
    obtain ⟨ρ', h', e, o6, o7, rfl, rfl⟩ := range_rule (step := forS (exs (callM (run K (n + 1))) gg (xs0 K) b_reduced_0) (.n 4))
      (fun j ρ h => ∃ (o4 o5 : Option D), ρ = [some (.int ((s : Int) + 2)), some (.tup B), some (.ref 0), some (.int k), o4, o5] ∧ h = [.lst ((tl k (yred f) ++ (List.range j).map fun p => bi (yred f k p)).map .int)]) 0 (k + 1) (by
      rintro j ρ h hj ⟨o4, o5, rfl, rfl⟩
      have c1 := fun h => c_num K n k (0 + (j : Int)) (by omega) h
      have c2 := fun h => c_num K n (k + 1) (0 + (j : Int)) (by omega) h
      have c3 := fun h => c_num K n (k + 1) (0 + (j : Int) + 1) (by omega) h
      have a1 := hat k j (by omega) (by omega)
      have a2 := hat (k + 1) j (by omega) (by omega)
      have a3 := hat (k + 1) (j + 1) (by omega) (by omega)
      push_cast at c1 c2 c3 a1 a2 a3
      rw [← Int.add_assoc] at a3
      simp only [Int.zero_add, ← Int.add_assoc] at c1 c2 c3
      have ms := maj_sum (f k j) (f (k + 1) j) (f (k + 1) (j + 1))
      have hl := hlK k (by omega)
      refine ⟨[some (.int ((s : Int) + 2)), some (.tup B), some (.ref 0), some (.int k), some (.int (0 + (j : Int))), some (.int (bi (f k j) + bi (f (k + 1) j)))], [.lst ((tl k (yred f) ++ (List.range (j + 1)).map fun p => bi (yred f k p)).map .int)], .inl ?_, _, _, rfl, rfl⟩
      have e1 : (tl k (yred f) ++ (List.range (j + 1)).map fun p => bi (yred f k p)) = (tl k (yred f) ++ (List.range j).map fun p => bi (yred f k p)) ++ [bi (yred f k j)] := by
        rw [List.range_succ, List.map_append, List.append_assoc]; rfl
      rw [e1]
      have hl2 : ((tl k (yred f) ++ (List.range j).map fun p => bi (yred f k p)).map D.int).length < 16777216 := by simp; omega
      rw [List.map_append (l₂ := [bi (yred f k j)])]
      generalize (tl k (yred f) ++ (List.range j).map fun p => bi (yred f k p)).map D.int = T at *
      have ap := fun (x : D) => app_ref (h := [.lst T]) (n := 0) (d := x) (ds := T) rfl hl2
      have ok := ok_ref (h := [.lst T]) (n := 0) (ds := T) (f := .append) rfl
      simp only [yred, ms]
      generalize bi (f k j) = x at *
      generalize bi (f (k + 1) j) = y at *
      generalize bi (f (k + 1) (j + 1)) = z at *
      by_cases hz : 1 < x + y + z
      · simp [forS, b_reduced_0, c1, c2, c3, a1, a2, a3, ap, ok, hz]
      · simp [forS, b_reduced_0, c1, c2, c3, a1, a2, a3, ap, ok, hz]) [some (.int ((s : Int) + 2)), some (.tup B), some (.ref 0), some (.int k), o4, o5] [.lst ((tl k (yred f)).map .int)] ⟨_, _, rfl, by simp⟩
    have hr : rngOk ((k : Int) + 1) = true := rngOk_of (by omega) (by omega)
    have ek : ((k : Int) + 1).toNat = k + 1 := by omega
    refine ⟨[some (.int ((s : Int) + 2)), some (.tup B), some (.ref 0), some (.int (k : Int)), o6, o7], [.lst ((tl (k + 1) (yred f)).map .int)], .inl ?_, _, _, _, rfl, rfl⟩
    rw [tl]
    simp [forS, b_reduced_1, hr, ek, e]) [some (.int ((s : Int) + 2)), some (.tup B), some (.ref 0), none, none, none] [.lst []] ⟨_, _, _, rfl, rfl⟩
  have hr : rngOk ((s : Int) + 1) = true := rngOk_of (by omega) (by omega)
  have ek : ((s : Int) + 1).toNat = s + 1 := by omega
  have es : (s : Int) + 2 - 1 = (s : Int) + 1 := by omega
  have n1 : ¬ ((s : Int) + 2 = 1) := by omega
  have tp := fun (xs : List D) => tuple_ref (h := [.lst xs]) (n := 0) (ds := xs) rfl
  have gc := fun h => gcR_pure (v := bD (tl (s + 1) (yred f))) (h := h) (bD_refs1 _)
  simp [b_reduced, n1, es, hr, ek, e, tp]
  exact gc _
theorem c_reduced (K n : Nat) (s : Nat) (hs : s ≤ 100) (f : Nat → Nat → Bool) (h : Hm) : callM (run K (n + 2)) i_reduced [.int ((s + 2 : Nat) : Int), bD (tl (s + 2) f)] h = .ok (bD (tl (s + 1) (yred f))) h := callM_pure (by simp [D.refsL, D.refs, ints_refs]) (bD_refs1 _) (r_reduced K n s hs f)
theorem r_last (K n : Nat) (s : Nat) (hs : s ≤ 100) (f : Nat → Nat → Bool) : run K (n + 3) i_last_owner [.int ((s + 1 : Nat) : Int), bD (tl (s + 1) f)] [] = .ok (.int (bi (ylo s f))) [] := by
  rw [run_last_owner]
  generalize hB : bD (tl (s + 1) f) = B
  obtain ⟨ρ', h', e, k, g, o3, hk, ed, el, rfl, rfl⟩ := for_rule (step := forS (exs (callM (run K (n + 2))) gg (xs0 K) b_last_owner_0) (.n 3)) (src := none)
    (fun ds ρ h => ∃ (k : Nat) (g : Nat → Nat → Bool) (o3 : Option D), k ≤ s ∧ ds = rngC ((k : Int) + 1) (-1) k ∧ ylo k g = ylo s f ∧ ρ = [some (.int ((s + 1 : Nat) : Int)), some B, some (bD (tl (k + 1) g)), o3] ∧ h = []) (by
    rintro d ds ρ h ⟨k, g, o3, hk, ed, el, rfl, rfl⟩
    cases k with
    | zero => cases ed
    | succ k =>
      simp only [rngC, List.cons.injEq] at ed
      obtain ⟨rfl, rfl⟩ := ed
      have c := c_reduced K n k (by omega) g []
      have ek : ((k + 1 : Nat) : Int) + 1 = ((k + 2 : Nat) : Int) := by push_cast; omega
      refine ⟨[some (.int ((s + 1 : Nat) : Int)), some B, some (bD (tl (k + 1) (yred g))), some (.int (((k + 1 : Nat) : Int) + 1))], [], .inl ?_, rfl, k, yred g, _, by omega, by congr 1; omega, el, rfl, rfl⟩
      rw [ek]
      generalize hD1 : bD (tl (k + 1 + 1) g) = D1 at *
      have st : ∀ h, own (bD (tl (k + 1) (yred g))) h = .ok (bD (tl (k + 1) (yred g))) h := fun h => rfl
      generalize bD (tl (k + 1) (yred g)) = D2 at *
      have c' : callM (run K (n + 2)) i_reduced [.int ((k + 2 : Nat) : Int), D1] [] = .ok D2 [] := c
      generalize ((k + 2 : Nat) : Int) = kk at *
      have st1 : ∀ h, own D1 h = .ok D1 h := fun h => by rw [← hD1]; rfl
      simp [forS, b_last_owner_0, c', st, st1]) (rngC ((s : Int) + 1) (-1) s) [some (.int ((s + 1 : Nat) : Int)), some B, some B, none] [] ⟨s, f, none, Nat.le_refl _, rfl, rfl, by rw [hB], rfl⟩
  have hk0 : k = 0 := by
    cases k with
    | zero => rfl
    | succ k => cases ed
  subst hk0
  have hr : rngOk (((s + 1 : Nat) : Int)) = true := rngOk_of (by push_cast; omega) (by push_cast; omega)
  have hr1 : rngOk 1 = true := by decide +kernel
  have rg : rngD [.int ((s + 1 : Nat) : Int), .int 1, .int (-1)] = some (rngC ((s : Int) + 1) (-1) s) := by
    show (if rngOk _ = true ∧ rngOk 1 = true ∧ (-1 : Int) = -1 then some (rngC ((s + 1 : Nat) : Int) (-1) (((s + 1 : Nat) : Int) - 1).toNat) else none) = _
    rw [if_pos ⟨hr, hr1, rfl⟩]
    congr 2
    · omega
  have ob : ∀ h, own B h = .ok B h := fun h => by rw [← hB]; rfl
  have at0 := tl_at g (n := 1) (r := 0) (p := 0) (by omega) (by omega)
  simp only [tri, Int.natCast_zero, Int.zero_add, Int.add_zero] at at0
  have ix0 : ∀ h, ixD h (bD (tl (0 + 1) g)) (.int 0) = some (.int (bi (ylo s f))) := fun h => by
    rw [← el]
    simp [ixD, at0, ylo]
  generalize bD (tl (0 + 1) g) = D2 at *
  generalize ((s + 1 : Nat) : Int) = kk at *
  simp [b_last_owner, ob, rg, forR, e, ix0]
end Mi

set_option Elab.async false
set_option linter.all false
set_option maxRecDepth 100000
namespace Mi
open PySem
theorem r_owner (K n0 : Nat) (hK : 1000 ≤ K) (s : Nat) (hs : s ≤ 11) (f : Nat → Nat → Bool) : run K (n0 + 6) i_owner [.int ((s + 1 : Nat) : Int), bD (tl (s + 1) f)] [] = .ok (.int (bi (ylo s f))) [] := by
  obtain ⟨S, e, hS, _⟩ := r_piece true K n0 hK (s + 1) (by omega) f
  rw [gH_t, YY_iff] at hS
  simp only [bi, if_true] at e
  have cp := callM_pure (Γ := run K (n0 + 5)) (f := i_whole_piece) (h := []) (by simp [D.refsL, D.refs, ints_refs]) (by rw [D.refs]; exact ints_refs _) e
  have eq0 : eqD [] (.tup (nL S)) (.tup []) = some (decide (S.map nI = [])) := eq_tints (ms := [])
  rw [run_owner]
  have d0 : decide (S.map nI = []) = !ylo s f := by
    cases h : ylo s f
    · simp only [h] at hS
      have : S = [] := Classical.byContradiction fun q => by simpa using hS.mp q
      simp [this]
    · simp only [h] at hS
      have := hS.mpr trivial
      simp [this]
  rw [d0] at eq0
  generalize callM (run K (n0 + 5)) = Γ at *
  generalize nL S = SS at *
  generalize ylo s f = b at *
  generalize ((s + 1 : Nat) : Int) = k at *
  have ow : ∀ h, own (bD (tl (s + 1) f)) h = .ok (bD (tl (s + 1) f)) h := fun h => rfl
  generalize bD (tl (s + 1) f) = B at *
  cases b <;> simp [b_owner, ow, cp, eq0, bi]
end Mi

set_option Elab.async false
set_option linter.all false
set_option maxRecDepth 100000
namespace Mi
open PySem
/-- the deck and its great cells -/
abbrev dkO (s t : Int) : O := .dic [(.inr "seed", .int s), (.inr "turn", .int t), (.inr "big", .ref 1)]
abbrev dkH (g : List Int) (s t : Int) : Hm := [dkO s t, .lst (g.map .int)]
section
variable {s t : Int} {rest : Hm}
theorem ix_great : ixD (dkO s t :: rest) (.ref 0) (.str "big") = some (.ref 1) := by simp [ixD, keyOf, lookK]
theorem ix_seed : ixD (dkO s t :: rest) (.ref 0) (.str "seed") = some (.int s) := by simp [ixD, keyOf, lookK]
theorem ix_turn : ixD (dkO s t :: rest) (.ref 0) (.str "turn") = some (.int t) := by simp [ixD, keyOf, lookK]
theorem set_turn (d : Int) : setI (dkO s t :: rest) (.ref 0) (.str "turn") (.int d) = .ok () (dkO s d :: rest) := by
  simp [setI, keyOf, putK]
end
theorem dk_closed (g : List Int) (s t : Int) : ∀ o ∈ dkH g s t, ∀ n ∈ o.refs, n < (dkH g s t).length := by
  intro o ho n hn
  simp only [List.mem_cons, List.not_mem_nil, or_false] at ho
  rcases ho with rfl | rfl
  · simp [O.refs, kvRefs, D.refs] at hn; subst hn; simp
  · simp [O.refs, ints_refs] at hn
theorem gc_dk {g : List Int} {s t : Int} {rest : Hm} {v : D} (hv : v.refs = []) : gcR 2 (.ok v (dkO s t :: .lst (g.map .int) :: rest)) = .ok v (dkH g s t) :=
  gcR_keep (h0 := dkH g s t) (rest := rest) rfl (dk_closed g s t) (by simp [hv])
theorem callM_dk {Γ : Gm} {f : Nat} {as : List D} {g g' : List Int} {s t t' : Int} {rest : Hm} {v : D} (ha : D.refsL as = []) (hv : v.refs = []) (e : Γ f (.ref 0 :: as) (dkH g s t) = .ok v (dkH g' s t')) :
    callM Γ f (.ref 0 :: as) (dkO s t :: .lst (g.map .int) :: rest) = .ok v (dkO s t' :: .lst (g'.map .int) :: rest) := by
  refine callM_keep (h0 := dkH g s t) (h0' := dkH g' s t') (rest := rest) (dk_closed g s t) ?_ ?_ rfl (by simpa using dk_closed g' s t') hv e
  · show reach (99997 + 1 + 1 + 1) _ (D.refsL (.ref 0 :: as)) [] = _
    simp [reach, O.refs, kvRefs, D.refs, D.refsL, ha, ints_refs, nums]
  · simp [D.refsL, D.refs, ha]
theorem eq_great {g : List Int} {s t : Int} {rest : Hm} : eqD (dkO s t :: .lst (g.map .int) :: rest) (.ref 1) (.lv []) = some (decide (g = [])) := eq_lnil rfl
theorem ok_great {g : List D} {s t : Int} {rest : Hm} {f : Me} (hf : f.onL = true) : meOk (dkO s t :: .lst g :: rest) f (.ref 1) = true := ok_ref (ds := g) rfl hf
theorem ok_greatP {g : List D} {s t : Int} {rest : Hm} : meOk (dkO s t :: .lst g :: rest) .pop (.ref 1) = true := ok_great rfl
theorem ok_greatA {g : List D} {s t : Int} {rest : Hm} : meOk (dkO s t :: .lst g :: rest) .append (.ref 1) = true := ok_great rfl
theorem pop_great {g : List Int} {c s t : Int} {rest : Hm} : meD (dkO s t :: .lst ((g ++ [c]).map .int) :: rest) .pop (.ref 1) [] = .ok (.int c) (dkO s t :: .lst (g.map .int) :: rest) := pop_snoc (g := g) rfl
theorem app_great {g : List Int} {c s t : Int} {rest : Hm} (hl : g.length < 16777216) : meD (dkO s t :: .lst (g.map .int) :: rest) .append (.ref 1) [.int c] = .ok .non (dkO s t :: .lst ((g ++ [c]).map .int) :: rest) := by
  rw [app_ref (ds := g.map .int) rfl (by simpa using hl)]; simp
theorem r_draw (K n : Nat) (g : List Int) (s t many : Int) (hp : 0 < many) (hm : Bt 300 many) (hg : g.length ≤ 100) : ∃ r g' t', run K (n + 1) i_L_draw7 [.ref 0, .int many] (dkH g s t) = .ok (.int r) (dkH g' s t') ∧ g'.length ≤ 100 ∧ 0 ≤ r ∧ r < many := by
  rcases List.eq_nil_or_concat g with rfl | ⟨g0, c, rfl⟩
  · refine ⟨?r, [], t + 1, ?_, by simp, ?_, ?_⟩
    case r => exact ((((s + 69621 * (t + 1)) % 2147483629 * ((s + 69621 * (t + 1)) % 2147483629) + 40692 * (t + 1) + 7) % 2147483587 * 16807 + s) % 2147483563 / 32) % many
    · rw [run_L_draw7]
      have e := fun (s t : Int) => eq_great (g := []) (s := s) (t := t) (rest := [])
      have gc := fun (s t : Int) (v : D) (hv : v.refs = []) => gc_dk (g := []) (s := s) (t := t) (rest := []) hv
      simp only [List.map_nil] at e gc
      simp [b_L_draw7, ix_great, ix_seed, ix_turn, set_turn, dkH, e, mul_lit, mul_emod, div_lit, hp]
      exact gc _ _ _ (by simp [D.refs])
    · exact Int.emod_nonneg _ (by omega)
    · exact Int.emod_lt_of_pos _ hp
  · simp only [List.length_append, List.length_cons, List.length_nil, List.concat_eq_append] at hg ⊢
    by_cases hc : many ≤ c
    · refine ⟨c % many, g0 ++ [c / many], t, ?_, by simp; omega, Int.emod_nonneg _ (by omega), Int.emod_lt_of_pos _ hp⟩
      rw [run_L_draw7]
      simp [b_L_draw7, ix_great, dkH, eq_great, -List.map_append, ok_greatP, ok_greatA, pop_great, hc, div_bt hp hm, app_great (show g0.length < 16777216 by omega), hp]
      exact gc_dk (by simp [D.refs])
    · refine ⟨c % many, g0, t, ?_, by omega, Int.emod_nonneg _ (by omega), Int.emod_lt_of_pos _ hp⟩
      rw [run_L_draw7]
      simp [b_L_draw7, ix_great, dkH, eq_great, -List.map_append, ok_greatP, ok_greatA, pop_great, hc, hp]
      exact gc_dk (by simp [D.refs])
theorem c_draw (K n : Nat) {g : List Int} {s t many : Int} {rest : Hm} (hp : 0 < many) (hm : Bt 300 many) (hg : g.length ≤ 100) : ∃ r g' t', callM (run K (n + 1)) i_L_draw7 [.ref 0, .int many] (dkO s t :: .lst (g.map .int) :: rest) = .ok (.int r) (dkO s t' :: .lst (List.map D.int g') :: rest) ∧ g'.length ≤ 100 ∧ 0 ≤ r ∧ r < many := by
  obtain ⟨r, g', t', e, a⟩ := r_draw K n g s t many hp hm hg
  exact ⟨r, g', t', callM_dk (by simp [D.refsL, D.refs]) (by simp [D.refs]) e, a⟩
theorem r_deck (K n : Nat) (ns : List Int) : ∃ g s, run K (n + 1) i_L_deck25 [.fl (ns.map .int)] [] = .ok (.ref 0) (dkH g s 0) ∧ g.length ≤ 100 := by
  rw [run_L_deck25]
  have e0 : slD [] (.fl (ns.map .int)) none (some (.int 60)) = some (.lv ((cutL ns none (some 60)).map .int)) := by
    simp [slD, ixI, cutD, lstOf, cut_map]
  have l1 := cut60 ns
  generalize cutL ns none (some 60) = cells at e0 l1
  obtain ⟨ρ', h', e, s, o, g, k, rfl, rfl, es, e1, e2⟩ := for_rule (step := forS (exs (callM (run K n)) gg (xs0 K) b_L_deck25_0) (T.n 1)) (src := none)
    (fun ds ρ h => ∃ (s : Int) (o : Option D) (g : List Int) (k : Nat), ρ = [some (.fl (ns.map .int)), o, some (.int s), some (.ref 0)] ∧ h = [.lst (g.map .int)] ∧ ∃ es : List Int, ds = es.map .int ∧ g.length + es.length ≤ 60) (by
    rintro d ds ρ h ⟨s, o, g, k, rfl, rfl, es, e, hl⟩
    cases es with
    | nil => cases e
    | cons c es =>
      simp only [List.map_cons, List.cons.injEq] at e
      obtain ⟨rfl, rfl⟩ := e
      simp only [List.length_cons] at hl
      by_cases hc : (10 : Int) ^ (12 : Nat) ≤ (c.natAbs : Int)
      · refine ⟨[some (.fl (ns.map .int)), some (.int c), some (.int ?s), some (.ref 0)], [.lst ((g ++ [(c.natAbs : Int) + if c < 0 then 1 else 0]).map .int)], .inl ?_, rfl, _, _, _, k, rfl, rfl, es, rfl, by simp; omega⟩
        case s => exact (s * 48271 + 5 * (c.natAbs : Int) + (if c < 0 then 1 else 0) + 11) % 2147483647
        have e3 := ok_ref (h := [.lst (g.map .int)]) (n := 0) (f := .append) rfl
        have e4 := fun d => app_ref (h := [.lst (g.map .int)]) (n := 0) (d := d) rfl (by simp; omega)
        simp at hc
        simp [forS, b_L_deck25_0, mul_right (j := 48271) (by decide), mul_lit, pow_lit, hc, e3, e4]
      · refine ⟨[some (.fl (ns.map .int)), some (.int c), some (.int ?s), some (.ref 0)], [.lst (g.map .int)], .inl ?_, rfl, _, _, g, k, rfl, rfl, es, rfl, by omega⟩
        case s => exact (s * 48271 + 5 * (c.natAbs : Int) + (if c < 0 then 1 else 0) + 11) % 2147483647
        have hc' : ¬ (1000000000000 : Int) ≤ c.natAbs := by simp at hc; omega
        simp [forS, b_L_deck25_0, mul_right (j := 48271) (by decide), mul_lit, pow_lit, hc']) (cells.map .int) [some (.fl (ns.map .int)), none, some (.int (15724 + 13 * ns.length)), some (.ref 0)] [.lst []] ⟨_, none, [], 0, rfl, rfl, cells, rfl, by simpa using l1⟩
  refine ⟨g, s, ?_, by omega⟩
  have e5 : slD [.lst []] (.fl (ns.map .int)) none (some (.int 60)) = some (.lv (cells.map .int)) := by rw [← e0]; rfl
  simp [b_L_deck25, e5, mul_lit, forR, e]
  have hr : gcH 0 [.lst (g.map .int), .dic [(.inr "seed", .int s), (.inr "turn", .int 0), (.inr "big", .ref 0)]] [1] = [1, 0] := by
    show reach (99997 + 1 + 1 + 1) _ [1] [] = _
    simp [reach, O.refs, kvRefs, D.refs, ints_refs]
  unfold gcR
  simp only [D.refs, hr]
  simp [closedB, nums, O.refs, kvRefs, D.refs, ints_refs, subH, O.map, kvMap, D.map, ixOf, mapL_norefs _ _ (ints_refs g)]
end Mi

set_option Elab.async false
set_option linter.all false
set_option maxRecDepth 100000
namespace Mi
open PySem
theorem r_board (K n m : Nat) (hm : m ≤ 1000) (s : Int) (g : List Int) (t : Int) (hg : g.length ≤ 100) : ∃ (l g' : List Int) (t' : Int), run K (n + 2) i_L_board2 [.ref 0, .int m] (dkH g s t) = .ok (bD l) (dkH g' s t') ∧ l.length = m ∧ (∀ i ∈ l, isBit i) ∧ g'.length ≤ 100 := by
  obtain ⟨w, g1, t1, d1, hg1, w0, w4⟩ := c_draw K n (g := g) (s := s) (t := t) (many := 4) (rest := []) (by decide) (bt_lit (by decide +kernel)) hg
  have cd := fun (many : Int) (h1 : 0 < many) (h2 : many ≤ 9) (g : List Int) (t : Int) (hg : g.length ≤ 100) => c_draw K n (g := g) (s := s) (t := t) (many := many) (rest := []) h1 ((show Bt 20 many by unfold Bt; omega).mono (by omega)) hg
  have hr : rngOk (m : Int) = true := rngOk_of (by omega) (by omega)
  have P := fun (h : Hm) => ∃ (g : List Int) (t : Int), h = dkO s t :: .lst (g.map .int) :: [] ∧ g.length ≤ 100
  have cm : ∀ (e : Mi.E), (∀ (g : List Int) (t : Int) (d : D), g.length ≤ 100 → ∃ (i : Int) (g' : List Int) (t' : Int), stepC (evF (callM (run K (n + 1))) gg .nil) (ev (callM (run K (n + 1))) gg e) (.n 3) [some (.ref 0), some (.int m), some (.int w), none] [3] d (dkO s t :: .lst (g.map .int) :: []) = .ok (some (.int i)) (dkO s t' :: .lst (g'.map .int) :: []) ∧ isBit i ∧ g'.length ≤ 100) →
      ∃ (l g' : List Int) (t' : Int), compL (stepC (evF (callM (run K (n + 1))) gg .nil) (ev (callM (run K (n + 1))) gg e) (.n 3) [some (.ref 0), some (.int m), some (.int w), none] [3]) none (upto 0 m) (dkO s t1 :: .lst (g1.map .int) :: []) = .ok (l.map .int) (dkO s t' :: .lst (g'.map .int) :: []) ∧ l.length = m ∧ (∀ i ∈ l, isBit i) ∧ g'.length ≤ 100 := fun e he => by
    obtain ⟨xs, h', e1, ⟨g', t', rfl, hg'⟩, len, q⟩ := comp_inv (step := stepC (evF (callM (run K (n + 1))) gg .nil) (ev (callM (run K (n + 1))) gg e) (.n 3) [some (.ref 0), some (.int m), some (.int w), none] [3]) (fun h => ∃ (g : List Int) (t : Int), h = dkO s t :: .lst (g.map .int) :: [] ∧ g.length ≤ 100) (fun x => ∃ i, x = D.int i ∧ isBit i) (upto 0 m) (dkO s t1 :: .lst (g1.map .int) :: []) (fun d hd h ⟨g, t, eh, hg⟩ => by
      subst eh
      obtain ⟨i, g', t', e1, hi, hg'⟩ := he g t d hg
      exact ⟨_, _, e1, ⟨g', t', rfl, hg'⟩, i, rfl, hi⟩) ⟨g1, t1, rfl, hg1⟩
    obtain ⟨l, rfl, hl⟩ := bits_of q
    exact ⟨l, g', t', e1, by simpa [upto_len] using len, hl, hg'⟩
  have gc := fun (l g : List Int) (t : Int) => gc_dk (g := g) (s := s) (t := t) (rest := []) (v := bD l) (bD_refs1 l)
  have ow : ∀ (x : Int) h, own (.int x) h = .ok (.int x) h := fun x h => rfl
  by_cases h0 : w = 0
  · subst h0
    obtain ⟨l, g', t', e, len, hl, hg'⟩ := cm b_L_board2_0 (fun g t d hg => by
      obtain ⟨r, g', t', e, hg', r0, r1⟩ := cd 2 (by omega) (by omega) g t hg
      refine ⟨r, g', t', ?_, by unfold isBit; omega, hg'⟩
      generalize callM (run K (n + 1)) = Γ at *
      simp [stepC, wipeD, b_L_board2_0, e, nox])
    refine ⟨l, g', t', ?_, len, hl, hg'⟩
    have lm : (l.map D.int).length < 16777216 := by simp; omega
    have g0 := gc l g' t'
    simp only [bD] at g0 ⊢
    generalize l.map D.int = L at *
    rw [run_L_board2]
    simp [b_L_board2, dkH, d1, hr, compR, e, lm]
    exact g0
  · by_cases h1 : w = 1
    · subst h1
      obtain ⟨l, g', t', e, len, hl, hg'⟩ := cm b_L_board2_1 (fun g t d hg => by
        obtain ⟨r, g', t', e, hg', r0, r1⟩ := cd 5 (by omega) (by omega) g t hg
        refine ⟨if r < 3 then 1 else 0, g', t', ?_, by unfold isBit; split <;> simp, hg'⟩
        generalize callM (run K (n + 1)) = Γ at *
        by_cases h3 : r < 3 <;> simp [stepC, wipeD, b_L_board2_1, e, nox, h3])
      refine ⟨l, g', t', ?_, len, hl, hg'⟩
      have lm : (l.map D.int).length < 16777216 := by simp; omega
      have g0 := gc l g' t'
      simp only [bD] at g0 ⊢
      generalize l.map D.int = L at *
      rw [run_L_board2]
      simp [b_L_board2, dkH, d1, hr, compR, e, lm]
      exact g0
    · obtain ⟨l, g', t', e, len, hl, hg'⟩ := cm b_L_board2_2 (fun g t d hg => by
        obtain ⟨r, g', t', e, hg', r0, r1⟩ := cd 9 (by omega) (by omega) g t hg
        refine ⟨if r < 3 + w then 1 else 0, g', t', ?_, by unfold isBit; split <;> simp, hg'⟩
        generalize callM (run K (n + 1)) = Γ at *
        by_cases h3 : r < 3 + w <;> simp [stepC, wipeD, b_L_board2_2, e, nox, h3])
      refine ⟨l, g', t', ?_, len, hl, hg'⟩
      have lm : (l.map D.int).length < 16777216 := by simp; omega
      have g0 := gc l g' t'
      simp only [bD] at g0 ⊢
      generalize l.map D.int = L at *
      rw [run_L_board2]
      simp [b_L_board2, dkH, d1, h0, h1, hr, compR, e, lm]
      exact g0
end Mi

set_option Elab.async false
set_option linter.all false
set_option maxRecDepth 100000
/-! Mini: rules that need no hand: lists of zl under a name, data of tuples, objects by their numbers. -/
namespace Mi
open PySem
/-! ### lists of zl -/
def zl (l : List Int) : List D := l.map .int
theorem zl_def (l : List Int) : zl l = l.map .int := rfl
@[simp] theorem zl_nil : zl [] = [] := rfl
theorem zl_cons (a : Int) (l : List Int) : zl (a :: l) = .int a :: zl l := rfl
theorem zl_app (a b : List Int) : zl (a ++ b) = zl a ++ zl b := by simp [zl]
@[simp] theorem zl_app' (a b : List Int) : zl a ++ zl b = zl (a ++ b) := (zl_app a b).symm
@[simp] theorem zl_snoc (a : List Int) (x : Int) : zl a ++ [.int x] = zl (a ++ [x]) := by simp [zl]
@[simp] theorem zl_len (l : List Int) : (zl l).length = l.length := by simp [zl]
@[simp] theorem zl_refsL (l : List Int) : D.refsL (zl l) = [] := ints_refs l
@[simp] theorem zl_get (l : List Int) (i : Nat) : (zl l)[i]? = (l[i]?).map .int := by simp [zl]
theorem atI_map {α β : Type} (f : α → β) (l : List α) (i : Int) : L2.atI (l.map f) i = (L2.atI l i).map f := by
  unfold L2.atI
  simp only [List.length_map]
  cases L2.ixN l.length i <;> simp
@[simp] theorem zl_atI (l : List Int) (i : Int) : L2.atI (zl l) i = (L2.atI l i).map .int := atI_map _ _ _
@[simp] theorem zl_set (l : List Int) (i : Nat) (x : Int) : (zl l).set i (.int x) = zl (l.set i x) := by simp [zl, List.map_set]
@[simp] theorem zl_cut (l : List Int) (a b : Option Int) : cutL (zl l) a b = zl (cutL l a b) := cut_map _ _ _ _
@[simp] theorem zl_rev (l : List Int) : (zl l).reverse = zl l.reverse := by simp [zl]
@[simp] theorem zl_intsOf : ∀ l : List Int, intsOf (zl l) = some l
  | [] => rfl
  | a :: r => by
    have := zl_intsOf r
    show (intsOf (zl r)).map (a :: ·) = _
    rw [this]; rfl
@[simp] theorem zl_isEmpty (l : List Int) : (zl l).isEmpty = l.isEmpty := by cases l <;> rfl
@[simp] theorem zl_inj (a b : List Int) : (zl a = zl b) = (a = b) := by
  refine propext ⟨fun h => ?_, fun h => by rw [h]⟩
  have := congrArg intsOf h
  simpa using this
@[simp] theorem zl_eq_nil (a : List Int) : (zl a = []) = (a = []) := zl_inj a []
@[simp] theorem zl_eq_nil' (a : List Int) : ([] = zl a) = (a = []) := by rw [eq_comm (a := ([] : List D))]; exact zl_inj a []
theorem zl_mem (l : List Int) (d : D) : d ∈ zl l ↔ ∃ i ∈ l, d = .int i := by simp [zl, eq_comm]
@[simp] theorem zl_mem_int (l : List Int) (i : Int) : (D.int i ∈ zl l) = (i ∈ l) := by simp [zl]
@[simp] theorem upto_zl (s : Int) (n : Nat) : upto s n = zl ((List.range n).map fun i : Nat => s + (i : Int)) := upto_map n s
@[simp] theorem zl_st (l : List Int) : D.stL (zl l) = true := by
  induction l with
  | nil => rfl
  | cons a r ih => rw [zl_cons]; simp [D.stL, D.st, ih]
@[simp] theorem zl_mapL (f : Nat → Nat) (l : List Int) : D.mapL f (zl l) = zl l := mapL_norefs f _ (ints_refs l)
@[simp] theorem zl_dropLast (l : List Int) : (zl l).dropLast = zl l.dropLast := by simp [zl, List.map_dropLast]
/-! ### data of tuples -/
mutual
def toPy : D → PyData
  | .non => .none
  | .bl b => .bool b
  | .int i => .int i
  | .str x => .str x
  | .tup ds => .tuple (toPyL ds)
  | .lv ds => .list (toPyL ds)
  | .fl ds => .list (toPyL ds)
  | .ref _ => .none
def toPyL : List D → List PyData
  | [] => []
  | d :: ds => toPy d :: toPyL ds
end
mutual
/-- how many brackets within one another -/
def lvl : D → Nat
  | .tup ds => lvlL ds + 1
  | .lv ds => lvlL ds + 1
  | .fl ds => lvlL ds + 1
  | .non => 0
  | .bl _ => 0
  | .int _ => 0
  | .str _ => 0
  | .ref _ => 0
def lvlL : List D → Nat
  | [] => 0
  | d :: ds => max (lvl d) (lvlL ds)
end
mutual
/-- nothing but numbers, texts, None, tuples -/
def td : D → Bool
  | .non => true
  | .bl _ => false
  | .int _ => true
  | .str x => PyData.strOk x
  | .tup ds => tdL ds
  | .lv _ => false
  | .fl _ => false
  | .ref _ => false
def tdL : List D → Bool
  | [] => true
  | d :: ds => td d && tdL ds
end
mutual
theorem td_refs : ∀ d : D, td d = true → d.refs = []
  | .non, _ => by simp [D.refs]
  | .bl _, _ => by simp [D.refs]
  | .int _, _ => by simp [D.refs]
  | .str _, _ => by simp [D.refs]
  | .tup ds, h => by rw [D.refs]; exact tdL_refs ds (by simpa [td] using h)
  | .lv _, h => by simp [td] at h
  | .fl _, h => by simp [td] at h
  | .ref _, h => by simp [td] at h
theorem tdL_refs : ∀ ds : List D, tdL ds = true → D.refsL ds = []
  | [], _ => rfl
  | d :: ds, h => by
    simp only [tdL, Bool.and_eq_true] at h
    rw [D.refsL, td_refs d h.1, tdL_refs ds h.2]; rfl
end
mutual
theorem td_st : ∀ d : D, td d = true → d.st = true
  | .non, _ => by simp [D.st]
  | .bl _, _ => by simp [D.st]
  | .int _, _ => by simp [D.st]
  | .str _, _ => by simp [D.st]
  | .tup ds, h => by rw [D.st]; exact tdL_st ds (by simpa [td] using h)
  | .lv _, h => by simp [td] at h
  | .fl _, h => by simp [td] at h
  | .ref _, h => by simp [td] at h
theorem tdL_st : ∀ ds : List D, tdL ds = true → D.stL ds = true
  | [], _ => rfl
  | d :: ds, h => by
    simp only [tdL, Bool.and_eq_true] at h
    rw [D.stL, td_st d h.1, tdL_st ds h.2]; rfl
end
mutual
theorem py_td (h : Hm) : ∀ (n : Nat) (d : D), td d = true → lvl d ≤ n → pyOf n h d = some (toPy d)
  | n, .non, _, _ => by cases n <;> simp [pyOf, toPy]
  | n, .bl _, _, _ => by cases n <;> simp [pyOf, toPy]
  | n, .int _, _, _ => by cases n <;> simp [pyOf, toPy]
  | n, .str _, _, _ => by cases n <;> simp [pyOf, toPy]
  | 0, .tup ds, _, l => by simp [lvl] at l
  | n + 1, .tup ds, t, l => by
    simp only [td] at t
    simp only [lvl] at l
    rw [pyOf, py_tdL h n ds t (by omega), toPy]; rfl
  | _, .lv _, t, _ => by simp [td] at t
  | _, .fl _, t, _ => by simp [td] at t
  | _, .ref _, t, _ => by simp [td] at t
theorem py_tdL (h : Hm) : ∀ (n : Nat) (ds : List D), tdL ds = true → lvlL ds ≤ n → allSome (pyOf n h) ds = some (toPyL ds)
  | _, [], _, _ => by simp [allSome, toPyL]
  | n, d :: ds, t, l => by
    simp only [tdL, Bool.and_eq_true] at t
    simp only [lvlL] at l
    rw [allSome, py_td h n d t.1 (by omega), py_tdL h n ds t.2 (by omega), toPyL]
end
mutual
theorem eq_td : ∀ a b : D, td a = true → td b = true → eqQ (toPy a) (toPy b) = decide (a = b)
  | .non, b, _, tb => by cases b <;> simp [td, toPy, eqQ] at *
  | .int i, b, _, tb => by cases b <;> simp [td, toPy, eqQ] at *
  | .str x, b, _, tb => by
    cases b <;> simp [td, toPy, eqQ] at *
    rw [Bool.eq_iff_iff]; simp
  | .tup as, b, ta, tb => by
    cases b with
    | tup bs =>
      simp only [td] at ta tb
      simp only [toPy, eqQ, eq_tdL as bs ta tb, D.tup.injEq]
    | _ => simp [td, toPy, eqQ] at *
  | .bl _, _, t, _ => by simp [td] at t
  | .lv _, _, t, _ => by simp [td] at t
  | .fl _, _, t, _ => by simp [td] at t
  | .ref _, _, t, _ => by simp [td] at t
theorem eq_tdL : ∀ a b : List D, tdL a = true → tdL b = true → eqQL (toPyL a) (toPyL b) = decide (a = b)
  | [], [], _, _ => by simp [toPyL, eqQL]
  | [], _ :: _, _, _ => by simp [toPyL, eqQL]
  | _ :: _, [], _, _ => by simp [toPyL, eqQL]
  | a :: as, b :: bs, ta, tb => by
    simp only [tdL, Bool.and_eq_true] at ta tb
    simp only [toPyL, eqQL, eq_td a b ta.1 tb.1, eq_tdL as bs ta.2 tb.2, List.cons.injEq, Bool.decide_and]
end
mutual
theorem shq_td : ∀ (d : D) (n : Nat), td d = true → lvl d ≤ n → shQ (toPy d) n = true
  | .non, n, _, _ => by cases n <;> simp [toPy, shQ]
  | .int _, n, _, _ => by cases n <;> simp [toPy, shQ]
  | .str x, n, t, _ => by cases n <;> simpa [toPy, shQ, td] using t
  | .tup ds, 0, _, l => by simp [lvl] at l
  | .tup ds, n + 1, t, l => by
    simp only [td] at t
    simp only [lvl] at l
    simp only [toPy, shQ, shq_tdL ds n t (by omega)]
  | .bl _, _, t, _ => by simp [td] at t
  | .lv _, _, t, _ => by simp [td] at t
  | .fl _, _, t, _ => by simp [td] at t
  | .ref _, _, t, _ => by simp [td] at t
theorem shq_tdL : ∀ (d : List D) (n : Nat), tdL d = true → lvlL d ≤ n → shQL (toPyL d) n = true
  | [], n, _, _ => by simp [toPyL, shQL]
  | d :: ds, n, t, l => by
    simp only [tdL, Bool.and_eq_true] at t
    simp only [lvlL] at l
    simp only [toPyL, shQL, shq_td d n t.1 (by omega), shq_tdL ds n t.2 (by omega), Bool.and_self]
end
theorem shp_td {d : D} (t : td d = true) (l : lvl d ≤ 40) : shp (toPy d) = true := shq_td d 64 t (by omega)
theorem shp_tdl {ds : List D} (t : tdL ds = true) (l : lvlL ds ≤ 39) : shp (.list (toPyL ds)) = true := by
  show shQ _ (63 + 1) = true
  simp only [shQ, shq_tdL ds 63 t (by omega)]
theorem py_lst {h : Hm} {y : D} {ds : List D} (e : lstOf h y = some ds) (t : tdL ds = true) (l : lvlL ds ≤ 39) : pyOf deepN h y = some (.list (toPyL ds)) := by
  show pyOf (39 + 1) h y = _
  cases y with
  | lv es =>
    simp only [lstOf, Option.some.injEq] at e; subst e
    rw [pyOf, py_tdL h 39 es t l]; rfl
  | fl es =>
    simp only [lstOf, Option.some.injEq] at e; subst e
    rw [pyOf, py_tdL h 39 es t l]; rfl
  | ref n =>
    simp only [lstOf] at e
    rw [pyOf]
    split at e
    · rename_i e2
      cases e
      rw [py_tdL h 39 ds t l]; rfl
    · cases e
  | _ => simp [lstOf] at e
theorem eqD_td {h : Hm} {a b : D} (ta : td a = true) (tb : td b = true) (la : lvl a ≤ 40) (lb : lvl b ≤ 40) : eqD h a b = some (decide (a = b)) := by
  unfold eqD
  split
  · congr 1
    rw [decide_eq_decide]; simp
  · congr 1
    rw [Bool.eq_iff_iff]; simp
  · rw [py_td h deepN a ta la, py_td h deepN b tb lb]
    simp only [shp_td ta la, shp_td tb lb, and_self, if_true, eq_td a b ta tb]
theorem mem_tdL : ∀ {ds : List D} {d : D}, tdL ds = true → d ∈ ds → td d = true
  | x :: xs, d, t, m => by
    simp only [tdL, Bool.and_eq_true] at t
    rcases List.mem_cons.mp m with rfl | m
    · exact t.1
    · exact mem_tdL t.2 m
theorem any_td {x : D} (tx : td x = true) : ∀ ds : List D, tdL ds = true → ((toPyL ds).any fun z => eqQ z (toPy x)) = decide (x ∈ ds)
  | [], _ => by simp [toPyL]
  | d :: ds, t => by
    simp only [tdL, Bool.and_eq_true] at t
    rw [toPyL, List.any_cons, any_td tx ds t.2, eq_td d x t.1 tx]
    have : (x = d) = (d = x) := propext ⟨Eq.symm, Eq.symm⟩
    simp only [List.mem_cons, Bool.decide_or, this]
theorem inD_tup {h : Hm} {x : D} {ds : List D} (tx : td x = true) (t : tdL ds = true) (lx : lvl x ≤ 40) (l : lvlL ds ≤ 39) : inD h x (.tup ds) = some (decide (x ∈ ds)) := by
  have tt : td (.tup ds) = true := by simpa [td] using t
  have ll : lvl (.tup ds) ≤ 40 := by simp only [lvl]; omega
  unfold inD
  simp only [dicOf]
  rw [py_td h deepN x tx lx, py_td h deepN _ tt ll]
  simp only [toPy]
  rw [if_pos ⟨shp_td tx lx, by have := shp_td tt ll; simpa only [toPy] using this⟩, any_td tx ds t]
theorem dicOf_lst {h : Hm} {y : D} {ds : List D} (e : lstOf h y = some ds) : dicOf h y = none := by
  cases y with
  | ref n =>
    simp only [lstOf] at e
    split at e
    · rename_i e2; simp [dicOf, e2]
    · cases e
  | _ => first | rfl | simp [lstOf] at e
theorem inD_lst {h : Hm} {x y : D} {ds : List D} (e : lstOf h y = some ds) (tx : td x = true) (t : tdL ds = true) (lx : lvl x ≤ 40) (l : lvlL ds ≤ 39) : inD h x y = some (decide (x ∈ ds)) := by
  have e2 := dicOf_lst e
  have e3 := py_lst e t l
  have ns : ∀ s, y ≠ .str s := fun s q => by subst q; simp [lstOf] at e
  unfold inD
  split
  · rename_i s; exact absurd rfl (ns s)
  · rw [e2, py_td h deepN x tx lx, e3]
    simp only []
    rw [if_pos ⟨shp_td tx lx, shp_tdl t l⟩, any_td tx ds t]
theorem count_td {x : D} (tx : td x = true) : ∀ ds : List D, tdL ds = true → (toPyL ds).countP (fun z => eqQ z (toPy x)) = ds.count x
  | [], _ => by simp [toPyL]
  | d :: ds, t => by
    simp only [tdL, Bool.and_eq_true] at t
    rw [toPyL, List.countP_cons, count_td tx ds t.2, eq_td d x t.1 tx, List.count_cons]
    simp only [decide_eq_true_eq, beq_iff_eq]
theorem me_count {h : Hm} {x : D} {ds : List D} (tx : td x = true) (t : tdL ds = true) (lx : lvl x ≤ 40) (l : lvlL ds ≤ 39) : meD h .count (.tup ds) [x] = .ok (.int (ds.count x : Nat)) h := by
  have tt : td (.tup ds) = true := by simpa [td] using t
  have ll : lvl (.tup ds) ≤ 40 := by simp only [lvl]; omega
  simp only [meD, countD]
  rw [py_td h deepN x tx lx, py_td h deepN _ tt ll]
  simp only [toPy]
  rw [if_pos ⟨shp_td tx lx, by have := shp_td tt ll; simpa only [toPy] using this⟩, count_td tx ds t]; rfl
/-- what repr tells -/
def reprD (d : D) : D := .str (PyData.shown (toPy d))
/-- fit to be told by repr -/
def rOk (d : D) : Prop := (toPy d).showable = true ∧ (toPy d).leavesShort 2000 = true ∧ (toPy d).bulk ≤ 8000
theorem rOk_len {d : D} (r : rOk d) : (PyData.shown (toPy d)).length ≤ sizeLine := by
  have q := PyData.shown_le_bulk 2000 (by omega) (toPy d) r.2.1
  have := r.2.2
  rw [sizeLine_eq]
  omega
theorem repr_td {h : Hm} {d : D} (t : td d = true) (l : lvl d ≤ 40) (r : rOk d) : biD h .repr [d] = some (reprD d) := by
  show reprOf h d = _
  unfold reprOf
  rw [py_td h deepN d t l]
  simp only [r.1, shp_td t l, rOk_len r, and_self, if_true]; rfl
theorem repr_lst {h : Hm} {y : D} {ds : List D} (e : lstOf h y = some ds) (t : tdL ds = true) (l : lvlL ds ≤ 39) (r : rOk (.lv ds)) : biD h .repr [y] = some (reprD (.lv ds)) := by
  have rl := rOk_len r
  have r1 := r.1
  simp only [toPy] at rl r1
  show reprOf h y = _
  unfold reprOf
  rw [py_lst e t l]
  simp only [r1, shp_tdl t l, rl, and_self, if_true]; rfl
@[simp] theorem eqD_repr {h : Hm} (a b : D) : eqD h (reprD a) (reprD b) = some (PyData.shown (toPy a) == PyData.shown (toPy b)) := rfl
@[simp] theorem own_repr {h : Hm} (a : D) : own (reprD a) h = .ok (reprD a) h := rfl
theorem reprD_refs (a : D) : (reprD a).refs = [] := by simp [reprD, D.refs]
/-! zl as such -/
@[simp] theorem td_int (i : Int) : td (.int i) = true := rfl
@[simp] theorem td_non : td .non = true := rfl
@[simp] theorem tdL_ints : ∀ l : List Int, tdL (zl l) = true
  | [] => rfl
  | a :: r => by rw [zl_cons, tdL, tdL_ints r]; rfl
@[simp] theorem td_tup (ds : List D) : td (.tup ds) = tdL ds := by rw [td]
@[simp] theorem tdL_nil : tdL [] = true := rfl
@[simp] theorem tdL_cons (d : D) (ds : List D) : tdL (d :: ds) = (td d && tdL ds) := by rw [tdL]
@[simp] theorem lvl_int (i : Int) : lvl (.int i) = 0 := by simp [lvl]
@[simp] theorem lvl_non : lvl .non = 0 := by simp [lvl]
@[simp] theorem lvl_str (x : Str) : lvl (.str x) = 0 := by simp [lvl]
@[simp] theorem lvl_tup (ds : List D) : lvl (.tup ds) = lvlL ds + 1 := by simp [lvl]
@[simp] theorem lvlL_nil : lvlL [] = 0 := by simp [lvlL]
@[simp] theorem lvlL_cons (d : D) (ds : List D) : lvlL (d :: ds) = max (lvl d) (lvlL ds) := by simp [lvlL]
@[simp] theorem lvlL_ints : ∀ l : List Int, lvlL (zl l) = 0
  | [] => by simp
  | a :: r => by rw [zl_cons]; simp [lvlL_ints r]
theorem toPyL_ints : ∀ l : List Int, toPyL (zl l) = l.map .int
  | [] => rfl
  | a :: r => by rw [zl_cons, toPyL, toPyL_ints r]; rfl
theorem rOk_ints {l : List Int} (hb : ∀ c ∈ l, Bt 1919 c) (hl : l.length ≤ 8000) : rOk (.tup (zl l)) ∧ rOk (.lv (zl l)) := by
  have e := toPyL_ints l
  refine ⟨⟨?_, ?_, ?_⟩, ⟨?_, ?_, ?_⟩⟩ <;> simp only [toPy, e, PyData.showable, PyData.leavesShort, PyData.bulk, bulk_ints]
  · exact show_ints hb
  · exact short_ints hb
  · exact hl
  · exact show_ints hb
  · exact short_ints hb
  · exact hl
theorem rOk_int {i : Int} (hb : Bt 1919 i) : rOk (.int i) := by
  refine ⟨?_, ?_, ?_⟩
  · simp only [toPy]; exact show_int hb
  · simp only [toPy, PyData.leavesShort]; have := leaf_int hb; simpa using this
  · simp [toPy, PyData.bulk]
/-- a tuple of zl -/
abbrev tZ (l : List Int) : D := .tup (zl l)
theorem eqD_ints {h : Hm} (a b : List Int) : eqD h (.tup (zl a)) (.tup (zl b)) = some (decide (a = b)) := by
  rw [eqD_td (by simp) (by simp) (by simp) (by simp)]; simp
@[simp] theorem eqD_intsN {h : Hm} (a : List Int) : eqD h (.tup (zl a)) (.tup []) = some (decide (a = [])) := eqD_ints a []
theorem repr_ints {h : Hm} {l : List Int} (hb : ∀ c ∈ l, Bt 1919 c) (hl : l.length ≤ 8000) : biD h .repr [.tup (zl l)] = some (reprD (.tup (zl l))) := repr_td (by simp) (by simp) (rOk_ints hb hl).1
theorem repr_int {h : Hm} {i : Int} (hb : Bt 1919 i) : biD h .repr [.int i] = some (reprD (.int i)) := repr_td (by simp) (by simp) (rOk_int hb)
theorem repr_lints {h : Hm} {y : D} {l : List Int} (e : lstOf h y = some (zl l)) (hb : ∀ c ∈ l, Bt 1919 c) (hl : l.length ≤ 8000) : biD h .repr [y] = some (reprD (.lv (zl l))) := repr_lst e (by simp) (by simp) (rOk_ints hb hl).2
theorem in_ints_tup {h : Hm} (i : Int) (l : List Int) : inD h (.int i) (.tup (zl l)) = some (decide (i ∈ l)) := by
  rw [inD_tup (by simp) (by simp) (by simp) (by simp)]; simp
theorem in_ints_lst {h : Hm} {y : D} {l : List Int} (e : lstOf h y = some (zl l)) (i : Int) : inD h (.int i) y = some (decide (i ∈ l)) := by
  rw [inD_lst e (by simp) (by simp) (by simp) (by simp)]; simp
theorem eqD_lints {h : Hm} {y z : D} {a b : List Int} (ea : lstOf h y = some (zl a)) (eb : lstOf h z = some (zl b)) : eqD h y z = some (decide (a = b)) := by
  have pa := py_lst ea (by simp) (by simp)
  have pb := py_lst eb (by simp) (by simp)
  have sa := shp_tdl (ds := zl a) (by simp) (by simp)
  have sb := shp_tdl (ds := zl b) (by simp) (by simp)
  unfold eqD
  split
  · simp [lstOf] at ea
  · simp [lstOf] at ea
  · rw [pa, pb]
    simp only [sa, sb, and_self, if_true, eqQ, eq_tdL (zl a) (zl b) (by simp) (by simp)]
    simp
/-! ### objects by their numbers -/
section
variable {h : Hm} {n : Nat}
def lstO (o : Option O) : Option (List D) := match o with
  | some (.lst ds) => some ds
  | _ => none
@[simp] theorem lstO_lst (ds : List D) : lstO (some (.lst ds)) = some ds := rfl
@[simp] theorem lstOf_ref (h : Hm) (n : Nat) : lstOf h (.ref n) = lstO h[n]? := by
  simp only [lstOf]; rfl
@[simp] theorem lstOf_lv (h : Hm) (ds : List D) : lstOf h (.lv ds) = some ds := rfl
@[simp] theorem lstOf_fl (h : Hm) (ds : List D) : lstOf h (.fl ds) = some ds := rfl
@[simp] theorem seqOf_ref (h : Hm) (n : Nat) : seqOf h (.ref n) = lstO h[n]? := by
  simp only [seqOf]; rfl
@[simp] theorem srcOf_ref (h : Hm) (n : Nat) : srcOf h (.ref n) = (h[n]?).map fun o => (n, o) := rfl
@[simp] theorem srcOk_so (n : Nat) (o : O) (h : Hm) : srcOk (some (n, o)) h = decide (h[n]? = some o) := rfl
def isLstO (o : Option O) : Bool := match o with
  | some (.lst _) => true
  | _ => false
@[simp] theorem isLstO_lst (ds : List D) : isLstO (some (.lst ds)) = true := rfl
@[simp] theorem meOk_app : meOk h .append (.ref n) = isLstO h[n]? := by simp only [meOk]; rfl
@[simp] theorem meOk_ext : meOk h .extend (.ref n) = isLstO h[n]? := by simp only [meOk]; rfl
@[simp] theorem meOk_pop : meOk h .pop (.ref n) = isLstO h[n]? := by simp only [meOk]; rfl
@[simp] theorem meOk_ins : meOk h .insert (.ref n) = isLstO h[n]? := by simp only [meOk]; rfl
@[simp] theorem meOk_count (ds : List D) : meOk h .count (.tup ds) = true := rfl
@[simp] theorem meOk_tindex (ds : List D) : meOk h .tindex (.tup ds) = true := rfl
@[simp] theorem meOk_sindex (x : Str) : meOk h .sindex (.str x) = true := rfl
@[simp] theorem meOk_join (x : Str) : meOk h .join (.str x) = true := rfl
@[simp] theorem meOk_split (x : Str) : meOk h .split (.str x) = true := rfl
@[simp] theorem meOk_index : meOk h .index (.ref n) = (lstO h[n]?).isSome := by simp only [meOk, lstOf_ref]
def appR (o : Option O) (h : Hm) (n : Nat) (d : D) : R D := match o with
  | some (.lst xs) => if xs.length < 16777216 then .ok .non (h.set n (.lst (xs ++ [d]))) else .bad
  | _ => .bad
@[simp] theorem appR_lst (xs : List D) (d : D) : appR (some (.lst xs)) h n d = if xs.length < 16777216 then .ok .non (h.set n (.lst (xs ++ [d]))) else .bad := rfl
@[simp] theorem me_app (d : D) : meD h .append (.ref n) [d] = appR h[n]? h n d := by
  simp only [meD]
  unfold appR
  cases e : h[n]? with
  | none => rfl
  | some o => cases o <;> first | rfl | (simp only [meL, size_lt])
def extR (o : Option O) (h : Hm) (n : Nat) (ys : Option (List D)) : R D := match o, ys with
  | some (.lst xs), some ys => if xs.length + ys.length ≤ 16777216 then .ok .non (h.set n (.lst (xs ++ ys))) else .bad
  | _, _ => .bad
@[simp] theorem extR_lst (xs ys : List D) : extR (some (.lst xs)) h n (some ys) = if xs.length + ys.length ≤ 16777216 then .ok .non (h.set n (.lst (xs ++ ys))) else .bad := rfl
@[simp] theorem me_ext (d : D) : meD h .extend (.ref n) [d] = extR h[n]? h n (wlsOf h d) := by
  simp only [meD]
  unfold extR
  cases e : h[n]? with
  | none => rfl
  | some o => cases o <;> first | (cases wlsOf h d <;> rfl) | (simp only [meL, size_le]; cases wlsOf h d <;> rfl)
@[simp] theorem wlsOf_lv (ds : List D) : wlsOf h (.lv ds) = some ds := rfl
@[simp] theorem wlsOf_ref : wlsOf h (.ref n) = lstO h[n]? := by simp only [wlsOf]; rfl
def popR (o : Option O) (h : Hm) (n : Nat) : R D := match o with
  | some (.lst xs) => match xs.getLast? with
    | some d => .ok d (h.set n (.lst xs.dropLast))
    | none => .bad
  | _ => .bad
def popL (x : Option D) (xs : List D) (h : Hm) (n : Nat) : R D := match x with
  | some d => .ok d (h.set n (.lst xs))
  | none => .bad
@[simp] theorem popL_some (d : D) (xs : List D) : popL (some d) xs h n = .ok d (h.set n (.lst xs)) := rfl
@[simp] theorem popR_lst (xs : List D) : popR (some (.lst xs)) h n = popL xs.getLast? xs.dropLast h n := rfl
@[simp] theorem me_pop : meD h .pop (.ref n) [] = popR h[n]? h n := by
  simp only [meD]
  unfold popR
  cases e : h[n]? with
  | none => rfl
  | some o =>
    cases o with
    | lst xs =>
      simp only [meL, List.getLast?_eq_getElem?]
      all_goals cases xs[xs.length - 1]? <;> rfl
    | _ => rfl
def popAtR (o : Option O) (h : Hm) (n : Nat) (i : Int) : R D := match o with
  | some (.lst xs) => if 0 ≤ i ∧ i < xs.length ∧ i < 2 ^ 63 then popL xs[i.toNat]? (xs.eraseIdx i.toNat) h n else .bad
  | _ => .bad
@[simp] theorem popAtR_lst (xs : List D) (i : Int) : popAtR (some (.lst xs)) h n i = if 0 ≤ i ∧ i < xs.length ∧ i < 2 ^ 63 then popL xs[i.toNat]? (xs.eraseIdx i.toNat) h n else .bad := rfl
@[simp] theorem me_popAt (i : Int) : meD h .pop (.ref n) [.int i] = popAtR h[n]? h n i := by
  simp only [meD]
  unfold popAtR
  cases e : h[n]? with
  | none => rfl
  | some o =>
    cases o with
    | lst xs => simp only [meL]; rfl
    | _ => rfl
def insR (o : Option O) (h : Hm) (n : Nat) (i : Int) (d : D) : R D := match o with
  | some (.lst xs) => if 0 ≤ i ∧ i < 2 ^ 63 ∧ xs.length < 16777216 then .ok .non (h.set n (.lst (xs.take i.toNat ++ [d] ++ xs.drop i.toNat))) else .bad
  | _ => .bad
@[simp] theorem insR_lst (xs : List D) (i : Int) (d : D) : insR (some (.lst xs)) h n i d = if 0 ≤ i ∧ i < 2 ^ 63 ∧ xs.length < 16777216 then .ok .non (h.set n (.lst (xs.take i.toNat ++ [d] ++ xs.drop i.toNat))) else .bad := rfl
@[simp] theorem me_ins (i : Int) (d : D) : meD h .insert (.ref n) [.int i, d] = insR h[n]? h n i d := by
  simp only [meD]
  unfold insR
  cases e : h[n]? with
  | none => rfl
  | some o =>
    cases o with
    | lst xs => simp only [meL, size_lt]
    | _ => rfl
def lenO (o : Option (List D)) : Option D := o.map fun ds => D.int ds.length
@[simp] theorem lenO_some (ds : List D) : lenO (some ds) = some (.int ds.length) := rfl
@[simp] theorem bi_len_ref : biD h .len [.ref n] = lenO (lstO h[n]?) := by
  show ((seqOf h (.ref n)).map (·.length)).map _ = _
  rw [seqOf_ref]
  cases lstO h[n]? <;> rfl
@[simp] theorem bi_list_ref : biD h .list [.ref n] = (lstO h[n]?).map .lv := by
  show (seqOf h (.ref n)).map D.lv = _
  rw [seqOf_ref]
@[simp] theorem bi_tuple_ref : biD h .tuple [.ref n] = (lstO h[n]?).map .tup := by
  show (seqOf h (.ref n)).map D.tup = _
  rw [seqOf_ref]
@[simp] theorem bi_sum (d : D) : biD h .sum [d] = ((lstOf h d).bind intsOf).map fun ns => .int ns.sum := by
  show sumD h d = _
  unfold sumD
  cases lstOf h d <;> rfl
def blR (o : Option (List Bool)) : Option D := o.map fun bs => .bl (bs.all id)
@[simp] theorem blR_some (bs : List Bool) : blR (some bs) = some (.bl (bs.all id)) := rfl
@[simp] theorem bi_all (d : D) : biD h .all [d] = blR ((lstOf h d).bind blsOf) := by
  show bi1 h .all d = _
  simp only [bi1]
  cases lstOf h d <;> rfl
def srtR (o : Option (List Int)) : Option D := o.map fun ns => .lv (zl (sortI ns))
@[simp] theorem srtR_some (ns : List Int) : srtR (some ns) = some (.lv (zl (sortI ns))) := rfl
theorem bi_sorted {d : D} {ds : List D} (e : seqOf h d = some ds) : biD h .sorted [d] = srtR (intsOf ds) := by
  show bi1 h .sorted d = _
  simp only [bi1, e]; rfl
def mxR (o : Option (List Int)) : Option D := match o with
  | some (n :: ns) => some (.int (maxI n ns))
  | _ => none
def mnR (o : Option (List Int)) : Option D := match o with
  | some (n :: ns) => some (.int (minI n ns))
  | _ => none
theorem bi_max {d : D} {ds : List D} (e : lstOf h d = some ds) : biD h .max [d] = mxR (intsOf ds) := by
  show bi1 h .max d = _
  simp only [bi1, e]; rfl
theorem bi_min {d : D} {ds : List D} (e : lstOf h d = some ds) : biD h .min [d] = mnR (intsOf ds) := by
  show bi1 h .min d = _
  simp only [bi1, e]; rfl
def setR (o : Option O) (h : Hm) (n : Nat) (i : D) (d : D) : R Unit := match o with
  | some (.lst xs) => match i with
    | .int i => if 0 ≤ i ∧ i < xs.length then .ok () (h.set n (.lst (xs.set i.toNat d))) else .bad
    | _ => .bad
  | some (.dic kvs) => match keyOf i with
    | some k => if kvs.length < 16777216 then .ok () (h.set n (.dic (putK k d kvs))) else .bad
    | none => .bad
  | _ => .bad
@[simp] theorem setR_lst (xs : List D) (i : Int) (d : D) : setR (some (.lst xs)) h n (.int i) d = if 0 ≤ i ∧ i < xs.length then .ok () (h.set n (.lst (xs.set i.toNat d))) else .bad := rfl
@[simp] theorem setR_dicI (kvs : List (L2.Key × D)) (i : Int) (d : D) : setR (some (.dic kvs)) h n (.int i) d = if kvs.length < 16777216 then .ok () (h.set n (.dic (putK (.inl i) d kvs))) else .bad := rfl
@[simp] theorem setR_dicS (kvs : List (L2.Key × D)) (i : Str) (d : D) : setR (some (.dic kvs)) h n (.str i) d = if kvs.length < 16777216 then .ok () (h.set n (.dic (putK (.inr i) d kvs))) else .bad := rfl
@[simp] theorem setI_ref (i d : D) : setI h (.ref n) i d = setR h[n]? h n i d := by
  simp only [setI]
  unfold setR
  cases e : h[n]? with
  | none => rfl
  | some o =>
    cases o with
    | lst xs => rfl
    | dic kvs =>
      simp only [size_lt]
      all_goals cases keyOf i <;> rfl
    | _ => rfl
def ixR (o : Option O) (i : D) : Option D := match o with
  | some (.lst ds) => match i with
    | .int i => L2.atI ds i
    | _ => none
  | some (.dic kvs) => (keyOf i).bind (lookK kvs)
  | some (.frd kvs) => (keyOf i).bind (lookK kvs)
  | _ => none
@[simp] theorem ixR_lst (ds : List D) (i : Int) : ixR (some (.lst ds)) (.int i) = L2.atI ds i := rfl
@[simp] theorem ixR_dicI (kvs : List (L2.Key × D)) (i : Int) : ixR (some (.dic kvs)) (.int i) = lookK kvs (.inl i) := rfl
@[simp] theorem ixR_dicS (kvs : List (L2.Key × D)) (i : Str) : ixR (some (.dic kvs)) (.str i) = lookK kvs (.inr i) := rfl
@[simp] theorem ixR_frdI (kvs : List (L2.Key × D)) (i : Int) : ixR (some (.frd kvs)) (.int i) = lookK kvs (.inl i) := rfl
@[simp] theorem ixR_frdS (kvs : List (L2.Key × D)) (i : Str) : ixR (some (.frd kvs)) (.str i) = lookK kvs (.inr i) := rfl
@[simp] theorem ixD_ref (i : D) : ixD h (.ref n) i = ixR h[n]? i := by
  simp only [ixD]
  unfold ixR
  cases e : h[n]? with
  | none => rfl
  | some o =>
    cases o with
    | lst xs => rfl
    | dic kvs => simp only []; cases keyOf i <;> rfl
    | frd kvs => simp only []; cases keyOf i <;> rfl
    | ins _ _ => rfl
def ixWR (o : Option O) (i : D) : Option D := match o with
  | some (.lst xs) => match i with
    | .int i => if 0 ≤ i ∧ i < 2 ^ 63 then xs[i.toNat]? else none
    | _ => none
  | some (.dic kvs) => (keyOf i).bind (lookK kvs)
  | _ => none
@[simp] theorem ixWR_lst (ds : List D) (i : Int) : ixWR (some (.lst ds)) (.int i) = if 0 ≤ i ∧ i < 2 ^ 63 then ds[i.toNat]? else none := rfl
@[simp] theorem ixWR_dicI (kvs : List (L2.Key × D)) (i : Int) : ixWR (some (.dic kvs)) (.int i) = lookK kvs (.inl i) := rfl
@[simp] theorem ixWR_dicS (kvs : List (L2.Key × D)) (i : Str) : ixWR (some (.dic kvs)) (.str i) = lookK kvs (.inr i) := rfl
@[simp] theorem ixW_ref (i : D) : ixW h (.ref n) i = ixWR h[n]? i := by
  simp only [ixW]
  unfold ixWR
  cases e : h[n]? with
  | none => rfl
  | some o =>
    cases o with
    | lst xs => rfl
    | dic kvs => simp only []; cases keyOf i <;> rfl
    | _ => rfl
def dicO (o : Option O) : Option (List (L2.Key × D)) := match o with
  | some (.dic kvs) => some kvs
  | some (.frd kvs) => some kvs
  | _ => none
@[simp] theorem dicO_dic (kvs : List (L2.Key × D)) : dicO (some (.dic kvs)) = some kvs := rfl
@[simp] theorem dicO_frd (kvs : List (L2.Key × D)) : dicO (some (.frd kvs)) = some kvs := rfl
@[simp] theorem dicOf_ref : dicOf h (.ref n) = dicO h[n]? := by simp only [dicOf]; rfl
theorem inD_dicI {kvs : List (L2.Key × D)} (e : dicOf h (.ref n) = some kvs) (i : Int) : inD h (.int i) (.ref n) = some (lookK kvs (.inl i)).isSome := by
  simp [inD, e, keyOf]
theorem inD_dicS {kvs : List (L2.Key × D)} (e : dicOf h (.ref n) = some kvs) (i : Str) : inD h (.str i) (.ref n) = some (lookK kvs (.inr i)).isSome := by
  simp [inD, e, keyOf]
theorem get_ok {y : D} {kvs : List (L2.Key × D)} (e : dicOf h y = some kvs) : meOk h .get y = true := by simp [meOk, e]
theorem get1 {y k : D} {kvs : List (L2.Key × D)} {q : L2.Key} (e : dicOf h y = some kvs) (ek : keyOf k = some q) : meD h .get y [k] = .ok ((lookK kvs q).getD .non) h := by
  simp [meD, getD, e, ek]
theorem get2 {y k d : D} {kvs : List (L2.Key × D)} {q : L2.Key} (e : dicOf h y = some kvs) (ek : keyOf k = some q) : meD h .get y [k, d] = .ok ((lookK kvs q).getD d) h := by
  simp [meD, getD, e, ek]
end
end Mi

set_option Elab.async false
set_option linter.all false
set_option maxRecDepth 100000
/-! Mini: what calls and the ends of calls do with heaps of any form. -/
namespace Mi
open PySem
def rl (h : Hm) (i : Nat) : Nat := match h[i]? with
  | some o => o.refs.length
  | none => 0
def pnd (h : Hm) (seen l : List Nat) : Nat := (l.map fun i => if i ∈ seen then 0 else rl h i).sum
theorem pnd_not {h : Hm} {seen : List Nat} {n : Nat} : ∀ {l : List Nat}, n ∉ l → pnd h (seen ++ [n]) l = pnd h seen l
  | [], _ => rfl
  | a :: r, hn => by
    simp only [List.mem_cons, not_or] at hn
    have ih := pnd_not (h := h) (seen := seen) hn.2
    unfold pnd at ih ⊢
    simp only [List.map_cons, List.sum_cons, ih]
    have : (a ∈ seen ++ [n]) ↔ a ∈ seen := by simp [Ne.symm hn.1]
    simp only [this]
theorem pnd_add {h : Hm} {seen : List Nat} {n : Nat} (hs : n ∉ seen) : ∀ {l : List Nat}, l.Nodup → n ∈ l → pnd h (seen ++ [n]) l + rl h n = pnd h seen l
  | [], _, hm => by cases hm
  | a :: r, nd, hm => by
    have nd' := List.nodup_cons.mp nd
    by_cases e : a = n
    · subst e
      have := pnd_not (h := h) (seen := seen) nd'.1
      unfold pnd at this ⊢
      simp only [List.map_cons, List.sum_cons, this]
      simp [hs]; omega
    · have hm' : n ∈ r := by
        rcases List.mem_cons.mp hm with q | q
        · exact absurd q.symm e
        · exact q
      have ih := pnd_add (h := h) hs nd'.2 hm'
      unfold pnd at ih ⊢
      simp only [List.map_cons, List.sum_cons]
      have : (a ∈ seen ++ [n]) ↔ a ∈ seen := by simp [e]
      simp only [this]
      omega
theorem reach_spec (h : Hm) (hr : ∀ (i : Nat) (o : O), h[i]? = some o → ∀ k ∈ o.refs, k < h.length) : ∀ (f : Nat) (work seen : List Nat), seen.Nodup → (∀ n ∈ work, n < h.length) → (∀ n ∈ seen, n < h.length) →
    (∀ n ∈ seen, ∀ o, h[n]? = some o → ∀ k ∈ o.refs, k ∈ seen ∨ k ∈ work) → work.length + pnd h seen (nums 0 h.length) < f →
    (reach f h work seen).Nodup ∧ (∃ t, reach f h work seen = seen ++ t) ∧ (∀ n ∈ work, n ∈ reach f h work seen) ∧ (∀ n ∈ reach f h work seen, n < h.length) ∧ ∀ n ∈ reach f h work seen, ∀ o, h[n]? = some o → ∀ k ∈ o.refs, k ∈ reach f h work seen
  | 0, _, _, _, _, _, _, hf => by omega
  | f + 1, [], seen, nd, _, hs, hc, _ => ⟨nd, ⟨[], by simp [reach]⟩, fun _ q => (nomatch q), hs, fun n hn o ho k hk => by
      rcases hc n hn o ho k hk with q | q
      · exact q
      · cases q⟩
  | f + 1, n :: t, seen, nd, hw, hs, hc, hf => by
    rw [reach]
    simp only [List.length_cons] at hf
    by_cases hn : n ∈ seen
    · rw [if_pos (by simpa using hn)]
      obtain ⟨h1, h2, h3, h4, h5⟩ := reach_spec h hr f t seen nd (fun m hm => hw m (List.mem_cons_of_mem _ hm)) hs (fun m hm o ho k hk => by
        rcases hc m hm o ho k hk with q | q
        · exact .inl q
        · rcases List.mem_cons.mp q with rfl | q
          · exact .inl hn
          · exact .inr q) (by omega)
      refine ⟨h1, h2, fun m hm => ?_, h4, h5⟩
      rcases List.mem_cons.mp hm with rfl | hm
      · obtain ⟨t', e⟩ := h2
        rw [e]; exact List.mem_append_left _ hn
      · exact h3 m hm
    · rw [if_neg (by simpa using hn)]
      have hl := hw n List.mem_cons_self
      have e1 : h[n]? = some h[n] := List.getElem?_eq_getElem hl
      simp only [e1]
      have pa := pnd_add (h := h) hn (nums_nd h.length 0) ((mem_nums _ _ _).mpr ⟨Nat.zero_le _, by omega⟩)
      have er : rl h n = h[n].refs.length := by unfold rl; rw [e1]
      obtain ⟨h1, ⟨t', h2⟩, h3, h4, h5⟩ := reach_spec h hr f (h[n].refs ++ t) (seen ++ [n]) (by
          rw [List.nodup_append]
          exact ⟨nd, by simp, fun a ha b hb q => by simp at hb; subst hb; subst q; exact hn ha⟩) (fun m hm => by
          rcases List.mem_append.mp hm with hm | hm
          · exact hr n _ e1 m hm
          · exact hw m (List.mem_cons_of_mem _ hm)) (fun m hm => by
          rcases List.mem_append.mp hm with hm | hm
          · exact hs m hm
          · simp at hm; subst hm; exact hl) (fun m hm o ho k hk => by
          rcases List.mem_append.mp hm with hm | hm
          · rcases hc m hm o ho k hk with q | q
            · exact .inl (List.mem_append_left _ q)
            · rcases List.mem_cons.mp q with rfl | q
              · exact .inl (by simp)
              · exact .inr (List.mem_append_right _ q)
          · simp at hm; subst hm
            rw [e1] at ho; cases ho
            exact .inr (List.mem_append_left _ hk)) (by rw [List.length_append]; omega)
      refine ⟨h1, ⟨[n] ++ t', by rw [h2, List.append_assoc]⟩, fun m hm => ?_, h4, h5⟩
      rcases List.mem_cons.mp hm with rfl | hm
      · rw [h2]; simp
      · exact h3 m (List.mem_append_right _ hm)
theorem closedB_of {h : Hm} {rs ns : List Nat} (nd : rs.Nodup) (hn : ∀ n ∈ ns, n ∈ rs) (hl : ∀ n ∈ rs, n < h.length) (hc : ∀ n ∈ rs, ∀ o, h[n]? = some o → ∀ k ∈ o.refs, k ∈ rs) : closedB h rs ns = true := by
  simp only [closedB, Bool.and_eq_true, decide_eq_true_eq, List.all_eq_true, List.contains_iff_mem]
  refine ⟨⟨nd, hn⟩, fun n hm => ?_⟩
  have e1 : h[n]? = some (h[n]'(hl n hm)) := List.getElem?_eq_getElem (hl n hm)
  rw [e1]
  simp only [List.all_eq_true, List.contains_iff_mem]
  exact hc n hm _ e1
/-- how many places objects hold -/
def tot (h : Hm) : Nat := (h.map fun o => o.refs.length).sum
theorem nums_succ (s k : Nat) : nums s (k + 1) = nums s k ++ [s + k] := by
  induction k generalizing s with
  | zero => rfl
  | succ k ih => rw [nums, ih (s + 1), nums]; simp; omega
theorem rl_tot : ∀ h : Hm, ((nums 0 h.length).map (rl h)).sum = tot h := by
  intro h
  have : ∀ (l : Hm) (pre : Hm), ((nums pre.length l.length).map (rl (pre ++ l))).sum = tot l := by
    intro l
    induction l with
    | nil => intro pre; rfl
    | cons a r ih =>
      intro pre
      have e := ih (pre ++ [a])
      simp only [List.length_append, List.length_cons, List.length_nil, List.append_assoc, List.cons_append, List.nil_append] at e
      simp only [List.length_cons, nums, List.map_cons, List.sum_cons]
      have e2 : rl (pre ++ a :: r) pre.length = a.refs.length := by
        unfold rl
        rw [List.getElem?_append_right (Nat.le_refl _), Nat.sub_self]; rfl
      rw [e2, show pre.length + (0 + 1) = pre.length + 1 from rfl] at *
      rw [e]
      simp [tot]
  simpa using this h []
theorem pnd_le (h : Hm) (seen : List Nat) : ∀ l : List Nat, pnd h seen l ≤ (l.map (rl h)).sum
  | [] => Nat.le_refl _
  | a :: r => by
    have := pnd_le h seen r
    unfold pnd at this ⊢
    simp only [List.map_cons, List.sum_cons]
    split <;> omega
theorem pnd_nums (h : Hm) (k : Nat) (hk : k ≤ h.length) : ((nums 0 k).flatMap fun n => match h[n]? with | some o => o.refs | none => []).length + pnd h (nums 0 k) (nums 0 h.length) = tot h := by
  rw [← rl_tot]
  have e1 : ∀ l : List Nat, (l.flatMap fun n => match h[n]? with | some o => o.refs | none => []).length = (l.map (rl h)).sum := fun l => by
    induction l with
    | nil => rfl
    | cons a r ih =>
      rw [List.flatMap_cons, List.length_append, ih, List.map_cons, List.sum_cons]
      congr 1
      unfold rl
      cases h[a]? <;> rfl
  rw [e1]
  have e2 : ∀ (m : Nat), k ≤ m → pnd h (nums 0 k) (nums 0 m) + ((nums 0 k).map (rl h)).sum = ((nums 0 m).map (rl h)).sum := fun m => by
    induction m with
    | zero =>
      intro hm
      obtain rfl : k = 0 := by omega
      rfl
    | succ m ih =>
      intro hm
      by_cases e : k ≤ m
      · have := ih e
        rw [nums_succ]
        unfold pnd at this ⊢
        simp only [List.map_append, List.sum_append, List.map_cons, List.map_nil, List.sum_cons, List.sum_nil]
        have : ¬ (0 + m) ∈ nums 0 k := fun q => by have := (mem_nums _ _ _).mp q; omega
        rw [if_neg this]
        omega
      · obtain rfl : k = m + 1 := by omega
        have z : ∀ l : List Nat, (∀ i ∈ l, i ∈ nums 0 (m + 1)) → pnd h (nums 0 (m + 1)) l = 0 := fun l => by
          induction l with
          | nil => intro _; rfl
          | cons a r ih =>
            intro hl
            have := ih fun i hi => hl i (List.mem_cons_of_mem _ hi)
            unfold pnd at this ⊢
            simp only [List.map_cons, List.sum_cons, this]
            rw [if_pos (hl a List.mem_cons_self)]
        rw [z _ fun i hi => hi]; omega
  have := e2 h.length hk
  omega
/-- the end of a call, whatever the heap -/
theorem gcR_gen {v : D} {h : Hm} {k : Nat} (hk : k ≤ h.length) (hr : ∀ (i : Nat) (o : O), h[i]? = some o → ∀ n ∈ o.refs, n < h.length) (hv : ∀ n ∈ v.refs, n < h.length) (hz : v.refs.length + tot h < 100000) :
    ∃ rs, rs.Nodup ∧ rs.take k = nums 0 k ∧ (∀ n ∈ v.refs, n ∈ rs) ∧ (∀ n ∈ rs, n < h.length) ∧ (∀ n ∈ rs, ∀ o, h[n]? = some o → ∀ m ∈ o.refs, m ∈ rs) ∧ gcR k (.ok v h) = .ok (v.map (ixOf rs)) (subH h rs) := by
  have pn := pnd_nums h k hk
  obtain ⟨h1, ⟨t, h2⟩, h3, h4, h5⟩ := reach_spec h hr 100000 (((nums 0 k).flatMap fun n => match h[n]? with | some o => o.refs | none => []) ++ v.refs) (nums 0 k) (nums_nd k 0) (fun n hn => by
      rcases List.mem_append.mp hn with hn | hn
      · obtain ⟨m, _, hn⟩ := List.mem_flatMap.mp hn
        split at hn
        · rename_i o ho; exact hr m o ho n hn
        · cases hn
      · exact hv n hn) (fun n hn => by have := (mem_nums _ _ _).mp hn; omega) (fun n hn o ho m hm => .inr (List.mem_append_left _ (List.mem_flatMap.mpr ⟨n, hn, by rw [ho]; exact hm⟩))) (by rw [List.length_append]; omega)
  have hg : gcH k h v.refs = reach 100000 h (((nums 0 k).flatMap fun n => match h[n]? with | some o => o.refs | none => []) ++ v.refs) (nums 0 k) := rfl
  rw [← hg] at h1 h2 h3 h4 h5
  have tk : (gcH k h v.refs).take k = nums 0 k := by rw [h2, List.take_left' (nums_len 0 k)]
  have cl : closedB h (gcH k h v.refs) (nums 0 k ++ v.refs) = true := closedB_of h1 (fun n hn => by
      rcases List.mem_append.mp hn with hn | hn
      · rw [h2]; exact List.mem_append_left _ hn
      · exact h3 n (List.mem_append_right _ hn)) h4 h5
  refine ⟨gcH k h v.refs, h1, tk, fun n hn => h3 n (List.mem_append_right _ hn), h4, h5, ?_⟩
  unfold gcR
  simp only [cl, tk, decide_true, Bool.and_self, gd_t]
theorem subH_at {h : Hm} {rs : List Nat} {n : Nat} {o : O} (hn : n ∈ rs) (e : h[n]? = some o) : (subH h rs)[ixOf rs n]? = some (o.map (ixOf rs)) := by
  unfold subH
  rw [List.getElem?_map, ixOf_get hn, Option.map_some, List.getD_eq_getElem?_getD, e]; rfl
/-- objects that hold none but the first ones stay the first ones -/
theorem subH_low {h : Hm} {rs : List Nat} {k i : Nat} {o : O} (tk : rs.take k = nums 0 k) (hi : i < k) (e : h[i]? = some o) (ho : ∀ n ∈ o.refs, n < k) : (subH h rs)[i]? = some o := by
  have ei : ∀ j, j < k → rs[j]? = some j := fun j hj => by
    have : (rs.take k)[j]? = some j := by rw [tk, nums_at k 0 j hj]; simp
    rwa [List.getElem?_take_of_lt hj] at this
  have ix : ∀ j, j < k → ixOf rs j = j := fun j hj => by
    have : ∀ (rs : List Nat) (s k : Nat), rs.take k = nums s k → ∀ j, s ≤ j → j < s + k → ixOf rs j = j - s := fun rs => by
      induction rs with
      | nil => intro s k e j h1 h2; have := congrArg List.length e; rw [nums_len] at this; simp at this; omega
      | cons a r ih =>
        intro s k e j h1 h2
        cases k with
        | zero => omega
        | succ k =>
          simp only [List.take_succ_cons, nums, List.cons.injEq] at e
          rw [ixOf]
          split
          · rename_i q; rw [q, e.1]; omega
          · rename_i q
            rw [e.1] at q
            rw [ih (s + 1) k e.2 j (by omega) (by omega)]; omega
    simpa using this rs 0 k tk j (Nat.zero_le _) (by omega)
  unfold subH
  rw [List.getElem?_map, ei i hi, Option.map_some, List.getD_eq_getElem?_getD, e]
  simp only [Option.getD_some]
  rw [omap_id _ _ fun n hn => ix n (ho n hn)]
/-! ### lists of lists of ints -/
/-- items that are lists of ints of their own -/
inductive LL (h : Hm) : List D → List (List Int) → Prop
  | nil : LL h [] []
  | cons {n : Nat} {l : List Int} {ds : List D} {ls : List (List Int)} : h[n]? = some (.lst (zl l)) → LL h ds ls → LL h (.ref n :: ds) (l :: ls)
theorem LL.mono {h h' : Hm} : ∀ {ds : List D} {ls : List (List Int)}, (∀ n ∈ D.refsL ds, ∀ o, h[n]? = some o → h'[n]? = some o) → LL h ds ls → LL h' ds ls
  | _, _, _, .nil => .nil
  | _, _, hk, .cons e t => .cons (hk _ (by simp [D.refsL, D.refs]) _ e) (t.mono fun n hn => hk n (by simp [D.refsL, D.refs, hn]))
theorem LL.snoc {h : Hm} {n : Nat} {l : List Int} (e : h[n]? = some (.lst (zl l))) : ∀ {ds : List D} {ls : List (List Int)}, LL h ds ls → LL h (ds ++ [.ref n]) (ls ++ [l])
  | _, _, .nil => .cons e .nil
  | _, _, .cons e' t => .cons e' (t.snoc e)
theorem LL.len {h : Hm} : ∀ {ds : List D} {ls : List (List Int)}, LL h ds ls → ds.length = ls.length
  | _, _, .nil => rfl
  | _, _, .cons _ t => congrArg Nat.succ t.len
theorem LL.sub {h : Hm} {rs : List Nat} : ∀ {ds : List D} {ls : List (List Int)}, (∀ n ∈ D.refsL ds, n ∈ rs) → LL h ds ls → LL (subH h rs) (D.mapL (ixOf rs) ds) ls
  | _, _, _, .nil => .nil
  | _, _, hk, .cons e t => by
    rename_i n l ds ls
    rw [D.mapL, D.map]
    refine .cons ?_ (t.sub fun m hm => hk m (by simp [D.refsL, D.refs, hm]))
    have := subH_at (hk n (by simp [D.refsL, D.refs])) e
    rw [this]
    simp [O.map]
theorem LL.get {h : Hm} : ∀ {ds : List D} {ls : List (List Int)} {i : Nat} {l : List Int}, LL h ds ls → ls[i]? = some l → ∃ n, ds[i]? = some (.ref n) ∧ h[n]? = some (.lst (zl l))
  | _, _, i, l, .nil, e => by simp at e
  | _, _, 0, l, .cons q _, e => by simp at e; subst e; exact ⟨_, rfl, q⟩
  | _, _, i + 1, l, .cons _ t, e => by
    obtain ⟨n, h1, h2⟩ := t.get (i := i) (l := l) (by simpa using e)
    exact ⟨n, by simpa using h1, h2⟩
/-! ### calls with one place or two, their objects flat -/
theorem reach_flat1 {h : Hm} {a : Nat} {o : O} (e : h[a]? = some o) (ho : o.refs = []) : reach 100000 h [a] [] = [a] := by
  show reach (99998 + 1 + 1) h [a] [] = _
  simp [reach, e, ho]
theorem reach_flat2 {h : Hm} {a b : Nat} {o p : O} (ea : h[a]? = some o) (eb : h[b]? = some p) (ho : o.refs = []) (hp : p.refs = []) (ne : a ≠ b) : reach 100000 h [a, b] [] = [a, b] := by
  show reach (99997 + 1 + 1 + 1) h [a, b] [] = _
  simp [reach, ea, eb, ho, hp, Ne.symm ne]
theorem closed_flat1 {h : Hm} {a : Nat} {o : O} (e : h[a]? = some o) (ho : o.refs = []) : closedB h [a] [a] = true := by
  simp [closedB, e, ho]
theorem closed_flat2 {h : Hm} {a b : Nat} {o p : O} (ea : h[a]? = some o) (eb : h[b]? = some p) (ho : o.refs = []) (hp : p.refs = []) (ne : a ≠ b) : closedB h [a, b] [a, b] = true := by
  simp [closedB, ea, eb, ho, hp, ne]
theorem map_flat (f : Nat → Nat) {o : O} (ho : o.refs = []) : o.map f = o := omap_id f o (by simp [ho])
theorem callM_ro1 {Γ : Gm} {f a : Nat} {args : List D} {h : Hm} {o : O} {v : D} (hr : D.refsL args = [a]) (e : h[a]? = some o) (ho : o.refs = []) (hv : v.refs = []) (g : Γ f (D.mapL (ixOf [a]) args) [o] = .ok v [o]) : callM Γ f args h = .ok v h := by
  refine callM_ro [a] (by rw [hr]; exact reach_flat1 e ho) (by rw [hr]; exact closed_flat1 e ho) hv ?_
  have : subH h [a] = [o] := by simp [subH, List.getD_eq_getElem?_getD, e, map_flat _ ho]
  rw [this]; exact g
theorem callM_ro2 {Γ : Gm} {f a b : Nat} {args : List D} {h : Hm} {o p : O} {v : D} (hr : D.refsL args = [a, b]) (ea : h[a]? = some o) (eb : h[b]? = some p) (ho : o.refs = []) (hp : p.refs = []) (ne : a ≠ b) (hv : v.refs = []) (g : Γ f (D.mapL (ixOf [a, b]) args) [o, p] = .ok v [o, p]) : callM Γ f args h = .ok v h := by
  refine callM_ro [a, b] (by rw [hr]; exact reach_flat2 ea eb ho hp ne) (by rw [hr]; exact closed_flat2 ea eb ho hp ne) hv ?_
  have : subH h [a, b] = [o, p] := by simp [subH, List.getD_eq_getElem?_getD, ea, eb, map_flat _ ho, map_flat _ hp]
  rw [this]; exact g
/-- a call that reads one flat object and makes new ones -/
theorem callM_mk1 {Γ : Gm} {f a : Nat} {args : List D} {h new : Hm} {o : O} {v : D} (hr : D.refsL args = [a]) (e : h[a]? = some o) (ho : o.refs = []) (g : Γ f (D.mapL (ixOf [a]) args) [o] = .ok v (o :: new)) :
    callM Γ f args h = .ok (v.map (bk [a] h.length)) (h ++ new.map (O.map (bk [a] h.length))) := by
  unfold callM
  have hs : subH h [a] = [o] := by simp [subH, List.getD_eq_getElem?_getD, e, map_flat _ ho]
  simp only [hr, reach_flat1 e ho, closed_flat1 e ho, gd_t, hs, g]
  congr 1
  unfold putH
  simp only [List.length_cons, List.length_nil, Nat.zero_add, List.take_succ_cons, List.take_zero, List.map_cons, List.map_nil, List.drop_succ_cons, List.drop_zero, setAll, map_flat _ ho]
  rw [set_same e]
theorem bk1_ge {a len i : Nat} (h : 1 ≤ i) : bk [a] len i = len + (i - 1) := by
  unfold bk
  rw [if_neg (by simp; omega)]; simp
end Mi

set_option Elab.async false
set_option linter.all false
set_option maxRecDepth 100000
/-! cells that hang together, plain; dicts of cells; rows of a web -/
namespace Mi
open PySem
inductive Gr (nb : Int → List Int) (on : Int → Prop) : Int → Int → Prop
  | here {x : Int} : on x → Gr nb on x x
  | step {x y z : Int} : Gr nb on x y → z ∈ nb y → on z → Gr nb on x z
section
variable {nb : Int → List Int} {on : Int → Prop} {x y z : Int}
theorem Gr.right (h : Gr nb on x y) : on y := by cases h <;> assumption
theorem Gr.left (h : Gr nb on x y) : on x := by
  induction h with
  | here h => exact h
  | step _ _ _ ih => exact ih
theorem Gr.trans (h : Gr nb on x y) (g : Gr nb on y z) : Gr nb on x z := by
  induction g with
  | here _ => exact h
  | step _ a b ih => exact .step ih a b
theorem Gr.symm (hs : ∀ x y, on x → on y → y ∈ nb x → x ∈ nb y) (h : Gr nb on x y) : Gr nb on y x := by
  induction h with
  | here h => exact .here h
  | step g a b ih => exact Gr.trans (.step (.here b) (hs _ _ g.right b a) g.right) ih
end
/-- a dict of cells -/
abbrev kTi (x : Int) : L2.Key × D := (.inl x, .bl true)
theorem look_kTi (y : Int) : ∀ S : List Int, (lookK (S.map kTi) (.inl y)).isSome = decide (y ∈ S)
  | [] => by simp [lookK]
  | z :: F => by
    have ih := look_kTi y F
    rw [List.map_cons, lookK]
    by_cases e : z = y
    · subst e; simp
    · have : ¬ (Sum.inl z : L2.Key) = .inl y := fun q => e (Sum.inl.inj q)
      rw [if_neg this, ih]; simp [Ne.symm e]
theorem put_kTi {y : Int} {S : List Int} (hn : y ∉ S) : putK (.inl y) (.bl true) (S.map kTi) = (S ++ [y]).map kTi := by
  unfold putK
  rw [if_neg, List.map_append]; rfl
  simp only [List.any_map, List.any_eq_true, Function.comp, decide_eq_true_eq, not_exists, not_and]
  intro z hz q
  exact hn (Sum.inl.inj q ▸ hz)
theorem in_kTi {h : Hm} {p : Nat} {y : Int} {S : List Int} (e : dicOf h (.ref p) = some (S.map kTi)) : inD h (.int y) (.ref p) = some (decide (y ∈ S)) := by
  rw [inD_dicI e, look_kTi]
theorem refs_kTi : ∀ S : List Int, kvRefs (S.map kTi) = []
  | [] => rfl
  | a :: r => by simp [kvRefs, D.refs, refs_kTi r]
/-- rows of numbers -/
def rowsD (W : List (List Int)) : List D := W.map fun r => .tup (zl r)
@[simp] theorem rowsD_len (W : List (List Int)) : (rowsD W).length = W.length := by simp [rowsD]
@[simp] theorem rowsD_refs : ∀ W : List (List Int), D.refsL (rowsD W) = []
  | [] => rfl
  | a :: r => by
    have := rowsD_refs r
    simp only [rowsD, List.map_cons] at this ⊢
    simp [D.refsL, D.refs, this]
theorem rowsD_atI {W : List (List Int)} {x : Int} (h0 : 0 ≤ x) (h1 : x < W.length) : L2.atI (rowsD W) x = some (.tup (zl (W.getD x.toNat []))) := by
  obtain ⟨m, rfl⟩ : ∃ m : Nat, x = m := ⟨x.toNat, by omega⟩
  have hm : m < W.length := by omega
  rw [atI_lt rfl (by simpa using hm)]
  simp [rowsD, List.getD_eq_getElem?_getD, List.getElem?_eq_getElem hm]
theorem zl_at {l : List Int} {x : Int} (h0 : 0 ≤ x) (h1 : x < l.length) : L2.atI l x = some (l.getD x.toNat 0) := by
  obtain ⟨m, rfl⟩ : ∃ m : Nat, x = m := ⟨x.toNat, by omega⟩
  have hm : m < l.length := by omega
  rw [atI_lt rfl hm]
  simp [List.getD_eq_getElem?_getD, List.getElem?_eq_getElem hm]
abbrev nbW (W : List (List Int)) (x : Int) : List Int := W.getD x.toNat []
abbrev onL (l : List Int) (c : Int) (x : Int) : Prop := 0 ≤ x ∧ x < l.length ∧ l.getD x.toNat 0 = c
/-- what a law's own lots are -/
structure Lots (nb : Int → List Int) (on : Int → Prop) (Ls : List (List Int)) : Prop where
  asc : ∀ lot ∈ Ls, lot.Pairwise (· < ·)
  comp : ∀ lot ∈ Ls, ∃ b, on b ∧ ∀ y, y ∈ lot ↔ Gr nb on b y
  all : ∀ y, on y → ∃ lot ∈ Ls, y ∈ lot
  dis : Ls.Pairwise fun a b => ∀ y ∈ a, y ∉ b
theorem get3 {a b c a' b' c' : O} {mid x : Hm} {n : Nat} {o : O} (hn : 3 ≤ n) (e : (a :: b :: c :: mid)[n]? = some o) : (a' :: b' :: c' :: (mid ++ x))[n]? = some o := by
  obtain ⟨m, rfl⟩ : ∃ m, n = m + 3 := ⟨n - 3, by omega⟩
  simp only [List.getElem?_cons_succ] at e ⊢
  rw [List.getElem?_append_left (List.getElem?_eq_some_iff.mp e).1]
  exact e
theorem nodup_leZ : ∀ {F C : List Int}, F.Nodup → (∀ z ∈ F, z ∈ C) → F.length ≤ C.length
  | [], _, _, _ => by simp
  | z :: F, C, hn, h => by
    have hz := h z List.mem_cons_self
    have hn' := List.nodup_cons.mp hn
    have := nodup_leZ (F := F) (C := C.erase z) hn'.2 fun y hy => (List.mem_erase_of_ne (fun q => hn'.1 (by rw [← q]; exact hy))).mpr (h y (List.mem_cons_of_mem _ hy))
    rw [List.length_erase_of_mem hz] at this
    have h0 : 0 < C.length := List.length_pos_of_mem hz
    simp; omega
theorem sortI_lt {l : List Int} (hn : l.Nodup) : (sortI l).Pairwise (· < ·) := by
  have h1 := sortI_sorted l
  have h2 : (sortI l).Nodup := (sortI_perm l).nodup_iff.mpr hn
  exact (h1.and h2).imp fun ⟨h1, h2⟩ => by omega
end Mi

set_option Elab.async false
set_option linter.all false
set_option maxRecDepth 100000
/-! own lots -/
namespace Mi
open PySem
section
variable {W : List (List Int)} {l : List Int} {c : Int}
/-- the cells next to one -/
theorem lo_in (Γ : Gm) (K : Nat) (web fd : O) (mid : Hm) (a0 a3 : Option D) (at_ : Option D) (k : Nat) (hk : k = mid.length + 3) (hl : l.length ≤ 1000) : ∀ (ys S lot : List Int) (o8 : Option D), (∀ y ∈ ys, 0 ≤ y ∧ y < l.length) → S.Nodup → S.length + ys.length ≤ 3000 → lot.length + ys.length ≤ 3000 →
    ∃ (N : List Int) (o8' : Option D), forL (forS (exs Γ gg (xs0 K) b_L_lots2_1) (.n 8)) none (zl ys) [a0, some (.tup (zl l)), some (.int c), a3, some (.ref 1), some (.ref 2), some (.ref k), at_, o8] (web :: fd :: .dic (S.map kTi) :: (mid ++ [.lst (zl lot)])) =
      .nx [a0, some (.tup (zl l)), some (.int c), a3, some (.ref 1), some (.ref 2), some (.ref k), at_, o8'] (web :: fd :: .dic ((S ++ N).map kTi) :: (mid ++ [.lst (zl (lot ++ N))])) ∧ (S ++ N).Nodup ∧ (∀ y ∈ N, y ∈ ys ∧ onL l c y) ∧ ∀ y ∈ ys, onL l c y → y ∈ S ++ N
  | [], S, lot, o8, _, hn, _, _ => ⟨[], o8, by simp [forL], by simpa using hn, fun _ h => (nomatch h), fun _ h => nomatch h⟩
  | y :: ys, S, lot, o8, hy, hn, l1, l2 => by
    have h0 := hy y List.mem_cons_self
    have at1 := zl_at h0.1 h0.2
    simp only [List.length_cons] at l1 l2
    have hi := in_kTi (h := web :: fd :: .dic (S.map kTi) :: (mid ++ [.lst (zl lot)])) (p := 2) (y := y) (S := S) (by simp)
    by_cases c1 : l.getD y.toNat 0 = c ∧ y ∉ S
    · obtain ⟨N, o8', e, n1, n2, n3⟩ := lo_in Γ K web fd mid a0 a3 at_ k hk hl ys (S ++ [y]) (lot ++ [y]) (some (.int y)) (fun z hz => hy z (List.mem_cons_of_mem _ hz)) (by
        rw [List.nodup_append]
        exact ⟨hn, by simp, fun a ha b hb q => by simp at hb; subst hb; subst q; exact c1.2 ha⟩) (by simp; omega) (by simp; omega)
      refine ⟨y :: N, o8', ?_, by simpa using n1, fun z hz => ?_, fun z hz hzC => ?_⟩
      · have pk := put_kTi c1.2
        rw [zl_cons, forL]
        have sp : forS (exs Γ gg (xs0 K) b_L_lots2_1) (.n 8) (.int y) [a0, some (.tup (zl l)), some (.int c), a3, some (.ref 1), some (.ref 2), some (.ref k), at_, o8] (web :: fd :: .dic (S.map kTi) :: (mid ++ [.lst (zl lot)])) =
          .nx [a0, some (.tup (zl l)), some (.int c), a3, some (.ref 1), some (.ref 2), some (.ref k), at_, some (.int y)] (web :: fd :: .dic ((S ++ [y]).map kTi) :: (mid ++ [.lst (zl (lot ++ [y]))])) := by
          subst hk
          have ls : (S.map kTi).length < 16777216 := by simp; omega
          have ll : lot.length < 16777216 := by omega
          rw [← pk]
          generalize S.map kTi = FS at *
          rw [c1.1] at at1
          simp [forS, b_L_lots2_1, at1, hi, c1.2, cmpD, ls, ll]
        rw [sp, tn_nx, src_no, gs_t, e]
        simp
      · rcases List.mem_cons.mp hz with rfl | hz
        · exact ⟨List.mem_cons_self, h0.1, h0.2, c1.1⟩
        · exact ⟨List.mem_cons_of_mem _ (n2 z hz).1, (n2 z hz).2⟩
      · rcases List.mem_cons.mp hz with rfl | hz
        · simp
        · have := n3 z hz hzC
          simpa using this
    · obtain ⟨N, o8', e, n1, n2, n3⟩ := lo_in Γ K web fd mid a0 a3 at_ k hk hl ys S lot (some (.int y)) (fun z hz => hy z (List.mem_cons_of_mem _ hz)) hn (by omega) (by omega)
      refine ⟨N, o8', ?_, n1, fun z hz => ⟨List.mem_cons_of_mem _ (n2 z hz).1, (n2 z hz).2⟩, fun z hz hzC => ?_⟩
      · rw [zl_cons, forL]
        have sp : forS (exs Γ gg (xs0 K) b_L_lots2_1) (.n 8) (.int y) [a0, some (.tup (zl l)), some (.int c), a3, some (.ref 1), some (.ref 2), some (.ref k), at_, o8] (web :: fd :: .dic (S.map kTi) :: (mid ++ [.lst (zl lot)])) =
          .nx [a0, some (.tup (zl l)), some (.int c), a3, some (.ref 1), some (.ref 2), some (.ref k), at_, some (.int y)] (web :: fd :: .dic (S.map kTi) :: (mid ++ [.lst (zl lot)])) := by
          generalize S.map kTi = FS at *
          by_cases c2 : l.getD y.toNat 0 = c
          · have c3 : y ∈ S := Classical.byContradiction fun q => c1 ⟨c2, q⟩
            rw [c2] at at1
            simp [forS, b_L_lots2_1, at1, hi, c3, cmpD]
          · generalize l.getD y.toNat 0 = v at *
            simp [forS, b_L_lots2_1, at1, c2]
        rw [sp, tn_nx, src_no, gs_t, e]
      · rcases List.mem_cons.mp hz with rfl | hz
        · exact List.mem_append_left _ (Classical.byContradiction fun q => c1 ⟨hzC.2.2, q⟩)
        · exact n3 z hz hzC
/-- one lot: all that hangs on its first cell -/
theorem lo_lot (Γ : Gm) (K : Nat) (hK : 1000 ≤ K) (fd : O) (mid : Hm) (a3 : Option D) (k : Nat) (hk : k = mid.length + 3) (hm : W.length = l.length) (hl : l.length ≤ 200) (hw : ∀ x, (nbW W x).length ≤ 10) (hr : ∀ x, ∀ y ∈ nbW W x, 0 ≤ y ∧ y < l.length)
    (hs : ∀ x y, onL l c x → onL l c y → y ∈ nbW W x → x ∈ nbW W y) (b : Int) (hb : onL l c b) (S0 : List Int) (hn0 : S0.Nodup) (hS0 : ∀ x ∈ S0, onL l c x) (hc0 : ∀ x ∈ S0, ∀ y, Gr (nbW W) (onL l c) x y → y ∈ S0) (hb0 : b ∉ S0) (o8 : Option D) :
    ∃ (lot : List Int) (o7 o8' : Option D), whileL (truF (ev Γ gg b_L_lots2_0)) (exs Γ gg (xs0 K) b_L_lots2_2) K [some (.ref 0), some (.tup (zl l)), some (.int c), a3, some (.ref 1), some (.ref 2), some (.ref k), some (.int 0), o8] (.lst (rowsD W) :: fd :: .dic ((S0 ++ [b]).map kTi) :: (mid ++ [.lst (zl [b])])) =
      .nx [some (.ref 0), some (.tup (zl l)), some (.int c), a3, some (.ref 1), some (.ref 2), some (.ref k), o7, o8'] (.lst (rowsD W) :: fd :: .dic ((S0 ++ lot).map kTi) :: (mid ++ [.lst (zl lot)])) ∧ (S0 ++ lot).Nodup ∧ ∀ y, y ∈ lot ↔ Gr (nbW W) (onL l c) b y := by
  have all : ∀ F : List Int, F.Nodup → (∀ x ∈ F, onL l c x) → F.length ≤ l.length := fun F h1 h2 => by
    have := nodup_leZ (C := (List.range l.length).map fun i : Nat => (i : Int)) h1 fun z hz => by
      have := h2 z hz
      exact List.mem_map.mpr ⟨z.toNat, List.mem_range.mpr (by omega), by omega⟩
    simpa using this
  obtain ⟨ρ', h', e, lot, o8', rfl, rfl, f1, f2, f3, f4, f5⟩ := while_rule (test := truF (ev Γ gg b_L_lots2_0)) (body := exs Γ gg (xs0 K) b_L_lots2_2)
    (fun m ρ h => ∃ (lot : List Int) (i : Nat) (o8 : Option D), ρ = [some (.ref 0), some (.tup (zl l)), some (.int c), a3, some (.ref 1), some (.ref 2), some (.ref k), some (.int i), o8] ∧ h = .lst (rowsD W) :: fd :: .dic ((S0 ++ lot).map kTi) :: (mid ++ [.lst (zl lot)]) ∧ m = l.length - i ∧
      i ≤ lot.length ∧ (S0 ++ lot).Nodup ∧ (∀ y ∈ lot, Gr (nbW W) (onL l c) b y) ∧ b ∈ lot ∧ ∀ x ∈ lot.take i, ∀ y ∈ nbW W x, onL l c y → y ∈ S0 ++ lot)
    (fun ρ h => ∃ (lot : List Int) (o8 : Option D), ρ = [some (.ref 0), some (.tup (zl l)), some (.int c), a3, some (.ref 1), some (.ref 2), some (.ref k), some (.int lot.length), o8] ∧ h = .lst (rowsD W) :: fd :: .dic ((S0 ++ lot).map kTi) :: (mid ++ [.lst (zl lot)]) ∧
      (S0 ++ lot).Nodup ∧ (∀ y ∈ lot, Gr (nbW W) (onL l c) b y) ∧ b ∈ lot ∧ (∀ x ∈ lot, ∀ y ∈ nbW W x, onL l c y → y ∈ S0 ++ lot) ∧ True) (by
    rintro m ρ h ⟨lot, i, o8, rfl, rfl, rfl, hi, h1, h2, h3, h4⟩
    have lotLen : lot.length ≤ l.length := all lot (List.nodup_append.mp h1).2.1 fun x hx => (h2 x hx).right
    have sLen : (S0 ++ lot).length ≤ l.length := all _ h1 fun x hx => by
      rcases List.mem_append.mp hx with q | q
      · exact hS0 x q
      · exact (h2 x q).right
    by_cases hlt : i < lot.length
    · right
      have hx := (h2 lot[i] (List.getElem_mem hlt)).right
      have row : L2.atI (rowsD W) lot[i] = some (.tup (zl (nbW W lot[i]))) := rowsD_atI hx.1 (by rw [hm]; exact hx.2.1)
      have ai : L2.atI lot (i : Int) = some lot[i] := by rw [atI_lt rfl hlt, List.getElem?_eq_getElem hlt]
      rw [List.length_append] at sLen
      have hw1 := hw lot[i]
      obtain ⟨N, o8', e, n1, n2, n3⟩ := lo_in (c := c) (l := l) Γ K (.lst (rowsD W)) fd mid (some (.ref 0)) a3 (some (.int i)) k hk (by omega) (nbW W lot[i]) (S0 ++ lot) lot o8 (hr _) h1 (by rw [List.length_append]; omega) (by omega)
      refine ⟨?_, l.length - (i + 1), _, _, by omega, ?_, lot ++ N, i + 1, o8', rfl, rfl, rfl, by simp; omega, by rw [← List.append_assoc]; exact n1, fun y hy => ?_, List.mem_append_left _ h3, fun x hx2 y hy ho => ?_⟩
      · subst hk
        simp [b_L_lots2_0, hlt]
      · subst hk
        generalize hF : (S0 ++ lot).map kTi = F0 at *
        rw [← List.append_assoc]
        generalize (S0 ++ lot ++ N).map kTi = F1 at *
        generalize hx2 : lot[i] = x at *
        generalize nbW W x = ys at row e
        simp [b_L_lots2_2, ai, row, forR, e]
      · rcases List.mem_append.mp hy with q | q
        · exact h2 y q
        · exact .step (h2 _ (List.getElem_mem hlt)) (n2 y q).1 (n2 y q).2
      · rw [← List.append_assoc]
        have : x ∈ lot.take i ∨ x = lot[i] := by
          rw [List.take_append_of_le_length (by omega), List.take_succ, List.getElem?_eq_getElem hlt] at hx2
          rcases List.mem_append.mp hx2 with q | q
          · exact .inl q
          · right; simpa using q
        rcases this with q | rfl
        · exact List.mem_append_left _ (h4 x q y hy ho)
        · exact n3 y hy ho
    · left
      obtain rfl : i = lot.length := by omega
      refine ⟨by subst hk; simp [b_L_lots2_0], lot, o8, rfl, rfl, h1, h2, h3, fun x hx => h4 x (by simpa using hx), trivial⟩) K l.length
    [some (.ref 0), some (.tup (zl l)), some (.int c), a3, some (.ref 1), some (.ref 2), some (.ref k), some (.int (0 : Nat)), o8] (.lst (rowsD W) :: fd :: .dic ((S0 ++ [b]).map kTi) :: (mid ++ [.lst (zl [b])])) (by omega)
    ⟨[b], 0, o8, rfl, rfl, by simp, by simp, by
      rw [List.nodup_append]
      exact ⟨hn0, by simp, fun a ha x hx q => by simp at hx; subst hx; subst q; exact hb0 ha⟩, fun y hy => by simp at hy; subst hy; exact .here hb, by simp, fun x hx => by simp at hx⟩
  refine ⟨lot, _, o8', e, f1, fun y => ⟨f2 y, fun g => ?_⟩⟩
  induction g with
  | here _ => exact f3
  | step g a o ih =>
    rcases List.mem_append.mp (f4 _ ih _ a o) with q | q
    · exact absurd (hc0 _ q _ (Gr.symm hs (.step g a o))) hb0
    · exact q
end
end Mi

set_option Elab.async false
set_option linter.all false
set_option maxRecDepth 100000
namespace Mi
open PySem
theorem flat_mem {h : Hm} {o : O} {i : Nat} (hf : ∀ o ∈ h, o.refs = []) (e : h[i]? = some o) : o.refs = [] := hf o (List.mem_of_getElem? e)
theorem tot_app (a b : Hm) : tot (a ++ b) = tot a + tot b := by simp [tot]
theorem tot_flat : ∀ {h : Hm}, (∀ o ∈ h, o.refs = []) → tot h = 0
  | [], _ => rfl
  | o :: r, hf => by
    have := tot_flat (h := r) fun p hp => hf p (List.mem_cons_of_mem _ hp)
    unfold tot at this ⊢
    simp only [List.map_cons, List.sum_cons, this, hf o List.mem_cons_self]; rfl
theorem refsL_app : ∀ a b : List D, D.refsL (a ++ b) = D.refsL a ++ D.refsL b
  | [], b => rfl
  | d :: a, b => by
    have := refsL_app a b
    simp [D.refsL, this]
theorem LL.refsLen {h : Hm} : ∀ {ds : List D} {ls : List (List Int)}, LL h ds ls → (D.refsL ds).length = ls.length
  | _, _, .nil => rfl
  | _, _, .cons _ t => by
    have := t.refsLen
    simp [D.refsL, D.refs, this]
theorem LL.bk {h new : Hm} {a : Nat} {o : O} : ∀ {ds : List D} {ls : List (List Int)}, LL (o :: new) ds ls → (∀ n ∈ D.refsL ds, 1 ≤ n) → LL (h ++ new.map (O.map (bk [a] h.length))) (D.mapL (Mi.bk [a] h.length) ds) ls
  | _, _, .nil, _ => .nil
  | _, _, .cons e t, hn => by
    rename_i n l ds ls
    have n1 := hn n (by simp [D.refsL, D.refs])
    rw [D.mapL, D.map, bk1_ge n1]
    refine .cons ?_ (t.bk fun m hm => hn m (by simp [D.refsL, D.refs, hm]))
    obtain ⟨m, rfl⟩ : ∃ m, n = m + 1 := ⟨n - 1, by omega⟩
    rw [List.getElem?_cons_succ] at e
    rw [List.getElem?_append_right (by omega), List.getElem?_map]
    simp only [Nat.add_sub_cancel, Nat.add_sub_cancel_left, e, Option.map_some, O.map]
    rw [mapL_norefs _ _ (by simp)]
theorem LL.refsMap {h : Hm} (f : Nat → Nat) : ∀ {ds : List D} {ls : List (List Int)}, LL h ds ls → D.refsL (D.mapL f ds) = (D.refsL ds).map f
  | _, _, .nil => rfl
  | _, _, .cons _ t => by
    have := t.refsMap f
    simp [D.mapL, D.map, D.refsL, D.refs, this]
section
variable {W : List (List Int)} {l : List Int} {c : Int}
/-- what holds after the first cells -/
def LoI (W : List (List Int)) (l : List Int) (c : Int) (i : Nat) (ρ : Env) (h : Hm) : Prop :=
  ∃ (o3 o6 o7 o8 : Option D) (S : List Int) (ds : List D) (Ls : List (List Int)) (mid : Hm), ρ = [some (.ref 0), some (.tup (zl l)), some (.int c), o3, some (.ref 1), some (.ref 2), o6, o7, o8] ∧ h = .lst (rowsD W) :: .lst ds :: .dic (S.map kTi) :: mid ∧
    (∀ o ∈ mid, o.refs = []) ∧ LL h ds Ls ∧ (∀ n ∈ D.refsL ds, 3 ≤ n ∧ n < h.length) ∧ S.Nodup ∧ (∀ x ∈ S, onL l c x) ∧ (∀ x ∈ S, ∀ y, Gr (nbW W) (onL l c) x y → y ∈ S) ∧ (∀ y, onL l c y → y < i → y ∈ S) ∧
    (∀ lot ∈ Ls, lot.Pairwise (· < ·)) ∧ (∀ lot ∈ Ls, ∃ b, onL l c b ∧ ∀ y, y ∈ lot ↔ Gr (nbW W) (onL l c) b y) ∧ (∀ y ∈ S, ∃ lot ∈ Ls, y ∈ lot) ∧ (∀ lot ∈ Ls, ∀ y ∈ lot, y ∈ S) ∧ (Ls.Pairwise fun a b => ∀ y ∈ a, y ∉ b) ∧ Ls.length ≤ i
theorem lo_step (Γ : Gm) (K : Nat) (hK : 1000 ≤ K) (hm : W.length = l.length) (hl : l.length ≤ 200) (hw : ∀ x, (nbW W x).length ≤ 10) (hr : ∀ x, ∀ y ∈ nbW W x, 0 ≤ y ∧ y < l.length)
    (hs : ∀ x y, onL l c x → onL l c y → y ∈ nbW W x → x ∈ nbW W y) (i : Nat) (hi : i < l.length) (ρ : Env) (h : Hm) (I : LoI W l c i ρ h) :
    ∃ ρ' h', (forS (exs Γ gg (xs0 K) b_L_lots2_3) (.n 3) (.int i) ρ h = .nx ρ' h' ∨ forS (exs Γ gg (xs0 K) b_L_lots2_3) (.n 3) (.int i) ρ h = .ct ρ' h') ∧ LoI W l c (i + 1) ρ' h' := by
  obtain ⟨o3, o6, o7, o8, S, ds, Ls, mid, rfl, rfl, i1, i2, i3, i4, i5, i6, i7, i8, i9, i10, i11, i12, i13⟩ := I
  have at1 := zl_at (l := l) (x := (i : Int)) (by omega) (by omega)
  have inS := in_kTi (h := .lst (rowsD W) :: .lst ds :: .dic (S.map kTi) :: mid) (p := 2) (y := (i : Int)) (S := S) (by simp)
  by_cases c1 : onL l c i ∧ (i : Int) ∉ S
  · have hv := c1.1.2.2
    rw [hv] at at1
    obtain ⟨lot, o7', o8', e, n1, n2⟩ := lo_lot (c := c) Γ K hK (.lst ds) mid (some (.int i)) (mid.length + 3) rfl hm hl hw hr hs i c1.1 S i4 i5 i6 c1.2 o8
    have pk := put_kTi c1.2
    have sl : S.length < 16777216 := by
      have := nodup_leZ (C := (List.range l.length).map fun i : Nat => (i : Int)) i4 fun z hz => by
        have := i5 z hz
        exact List.mem_map.mpr ⟨z.toNat, List.mem_range.mpr (by omega), by omega⟩
      simp at this; omega
    have ll : ds.length < 16777216 := by rw [i2.len]; omega
    have lnd : lot.Nodup := (List.nodup_append.mp n1).2.1
    refine ⟨_, .lst (rowsD W) :: .lst (ds ++ [.ref (mid.length + 4)]) :: .dic ((S ++ lot).map kTi) :: (mid ++ [.lst (zl lot), .lst (zl (sortI lot))]), .inl ?_, some (.int i), some (.ref (mid.length + 3)), o7', o8', S ++ lot, ds ++ [.ref (mid.length + 4)], Ls ++ [sortI lot], mid ++ [.lst (zl lot), .lst (zl (sortI lot))], rfl, rfl, ?_, ?_, ?_, n1, ?_, ?_, ?_, ?_, ?_, ?_, ?_, ?_, ?_⟩
    · have ls : (S.map kTi).length < 16777216 := by simpa using sl
      have srt : biD (.lst (rowsD W) :: .lst ds :: .dic ((S ++ lot).map kTi) :: (mid ++ [.lst (zl lot)])) .sorted [.ref (mid.length + 3)] = some (.lv (zl (sortI lot))) := by
        rw [bi_sorted (ds := zl lot) (by simp)]; simp
      rw [← pk] at e
      generalize S.map kTi = FS at *
      generalize (S ++ lot).map kTi = FT at *
      simp only [zl_cons, zl_nil] at e
      simp [forS, b_L_lots2_3, at1, inS, c1.2, ls, e, ll, cmpD, srt]
    · intro o ho
      simp only [List.mem_append, List.mem_cons, List.not_mem_nil, or_false] at ho
      rcases ho with ho | rfl | rfl
      · exact i1 o ho
      · simp [O.refs]
      · simp [O.refs]
    · refine LL.snoc ?_ (i2.mono fun n hn o ho => get3 (i3 n hn).1 ho)
      simp
    · intro n hn
      rw [refsL_app] at hn
      rcases List.mem_append.mp hn with hn | hn
      · have := i3 n hn; simp at this ⊢; omega
      · simp [D.refsL, D.refs] at hn; subst hn; simp
    · intro x hx
      rcases List.mem_append.mp hx with q | q
      · exact i5 x q
      · exact ((n2 x).mp q).right
    · intro x hx y g
      rcases List.mem_append.mp hx with q | q
      · exact List.mem_append_left _ (i6 x q y g)
      · exact List.mem_append_right _ ((n2 y).mpr (((n2 x).mp q).trans g))
    · intro y hy hlt
      by_cases q : y < i
      · exact List.mem_append_left _ (i7 y hy q)
      · obtain rfl : y = i := by omega
        exact List.mem_append_right _ ((n2 _).mpr (.here hy))
    · intro z hz
      rcases List.mem_append.mp hz with q | q
      · exact i8 z q
      · simp at q; subst q; exact sortI_lt lnd
    · intro z hz
      rcases List.mem_append.mp hz with q | q
      · exact i9 z q
      · simp at q; subst q
        exact ⟨i, c1.1, fun y => by rw [(sortI_perm lot).mem_iff]; exact n2 y⟩
    · intro y hy
      rcases List.mem_append.mp hy with q | q
      · obtain ⟨z, h1, h2⟩ := i10 y q
        exact ⟨z, List.mem_append_left _ h1, h2⟩
      · exact ⟨sortI lot, by simp, (sortI_perm lot).mem_iff.mpr q⟩
    · intro z hz y hy
      rcases List.mem_append.mp hz with q | q
      · exact List.mem_append_left _ (i11 z q y hy)
      · simp at q; subst q
        exact List.mem_append_right _ ((sortI_perm lot).mem_iff.mp hy)
    · rw [List.pairwise_append]
      refine ⟨i12, by simp, fun a ha b hb y hy hyb => ?_⟩
      simp at hb; subst hb
      exact (List.nodup_append.mp n1).2.2 y (i11 a ha y hy) y ((sortI_perm lot).mem_iff.mp hyb) rfl
    · simp; omega
  · refine ⟨[some (.ref 0), some (.tup (zl l)), some (.int c), some (.int i), some (.ref 1), some (.ref 2), o6, o7, o8], .lst (rowsD W) :: .lst ds :: .dic (S.map kTi) :: mid, .inr ?_, some (.int i), o6, o7, o8, S, ds, Ls, mid, rfl, rfl, i1, i2, i3, i4, i5, i6, fun y hy hlt => ?_, i8, i9, i10, i11, i12, by omega⟩
    · by_cases c2 : l.getD ((i : Nat) : Int).toNat 0 = c
      · have c3 : (i : Int) ∈ S := Classical.byContradiction fun q => c1 ⟨⟨by omega, by omega, c2⟩, q⟩
        rw [c2] at at1
        generalize S.map kTi = FS at *
        simp [forS, b_L_lots2_3, at1, inS, c3, cmpD]
      · generalize l.getD ((i : Nat) : Int).toNat 0 = v at *
        generalize S.map kTi = FS at *
        simp [forS, b_L_lots2_3, at1, inS, c2, cmpD]
    · by_cases q : y < i
      · exact i7 y hy q
      · obtain rfl : y = i := by omega
        exact Classical.byContradiction fun q => c1 ⟨hy, q⟩
/-- what lots tells -/
theorem r_lots (K n : Nat) (hK : 1000 ≤ K) (hm : W.length = l.length) (hl : l.length ≤ 200) (hw : ∀ x, (nbW W x).length ≤ 10) (hr : ∀ x, ∀ y ∈ nbW W x, 0 ≤ y ∧ y < l.length)
    (hs : ∀ x y, onL l c x → onL l c y → y ∈ nbW W x → x ∈ nbW W y) :
    ∃ (k : Nat) (new : Hm) (ds : List D) (Ls : List (List Int)), run K (n + 1) i_L_lots2 [.ref 0, .tup (zl l), .int c] [.lst (rowsD W)] = .ok (.ref k) (.lst (rowsD W) :: new) ∧ 1 ≤ k ∧ (.lst (rowsD W) :: new)[k]? = some (.lst ds) ∧ LL (.lst (rowsD W) :: new) ds Ls ∧ (∀ n ∈ D.refsL ds, 1 ≤ n) ∧ Lots (nbW W) (onL l c) Ls := by
  have hr' : rngOk (l.length : Int) = true := rngOk_of (by omega) (by omega)
  have et : (l.length : Int).toNat = l.length := by omega
  obtain ⟨ρ', h', e, o3, o6, o7, o8, S, ds, Ls, mid, rfl, rfl, i1, i2, i3, i4, i5, i6, i7, i8, i9, i10, i11, i12, i13⟩ := range_rule (step := forS (exs (callM (run K n)) gg (xs0 K) b_L_lots2_3) (.n 3)) (LoI W l c) 0 l.length (fun k ρ h hk I => by
      rw [Int.zero_add]
      exact lo_step (c := c) (callM (run K n)) K hK hm hl hw hr hs k hk ρ h I) [some (.ref 0), some (.tup (zl l)), some (.int c), none, some (.ref 1), some (.ref 2), none, none, none] [.lst (rowsD W), .lst [], .dic []]
      ⟨none, none, none, none, [], [], [], [], rfl, rfl, by simp, .nil, by simp [D.refsL], by simp, by simp, by simp, fun y hy hlt => by have := hy.1; omega, by simp, by simp, by simp, by simp, by simp, by simp⟩
  have hlen : Ls.length ≤ 200 := by omega
  have tt : tot (.lst (rowsD W) :: .lst ds :: .dic (S.map kTi) :: mid) = Ls.length := by
    have t0 := tot_flat i1
    have t1 : tot (.lst (rowsD W) :: .lst ds :: .dic (S.map kTi) :: mid) = (D.refsL (rowsD W)).length + ((D.refsL ds).length + ((kvRefs (S.map kTi)).length + tot mid)) := rfl
    rw [t1, t0, rowsD_refs, refs_kTi, i2.refsLen]
    simp
  obtain ⟨rs, g1, g2, g3, g4, g5, g6⟩ := gcR_gen (v := .ref 1) (h := .lst (rowsD W) :: .lst ds :: .dic (S.map kTi) :: mid) (k := 1) (by simp) (fun i o ho m hm2 => by
      match i, ho with
      | 0, ho => simp at ho; subst ho; simp [O.refs] at hm2
      | 1, ho => simp at ho; subst ho; exact (i3 m hm2).2
      | 2, ho => simp at ho; subst ho; simp [O.refs, refs_kTi] at hm2
      | i + 3, ho =>
        simp only [List.getElem?_cons_succ] at ho
        rw [flat_mem i1 ho] at hm2; cases hm2) (by simp [D.refs]) (by rw [tt]; simp [D.refs]; omega)
  obtain ⟨rs', rfl⟩ : ∃ rs', rs = 0 :: rs' := by
    cases rs with
    | nil => simp [nums] at g2
    | cons a r => simp [nums] at g2; exact ⟨r, by rw [g2]⟩
  have r1 : 1 ∈ 0 :: rs' := g3 1 (by simp [D.refs])
  have hds : ∀ n ∈ D.refsL ds, n ∈ 0 :: rs' := fun n hn => g5 1 r1 _ rfl n hn
  have hs0 : subH (.lst (rowsD W) :: .lst ds :: .dic (S.map kTi) :: mid) (0 :: rs') = .lst (rowsD W) :: (subH (.lst (rowsD W) :: .lst ds :: .dic (S.map kTi) :: mid) (0 :: rs')).tail := by
    simp [subH, O.map, mapL_norefs _ _ (rowsD_refs W)]
  have at1 := subH_at (rs := 0 :: rs') r1 (show (.lst (rowsD W) :: .lst ds :: .dic (S.map kTi) :: mid : Hm)[1]? = some (.lst ds) from rfl)
  have ls := i2.sub hds
  refine ⟨ixOf (0 :: rs') 1, (subH (.lst (rowsD W) :: .lst ds :: .dic (S.map kTi) :: mid) (0 :: rs')).tail, D.mapL (ixOf (0 :: rs')) ds, Ls, ?_, by simp [ixOf], by rw [← hs0]; exact at1, by rw [← hs0]; exact ls, ?_, i8, i9, ?_, i12⟩
  · rw [run_L_lots2, ← hs0]
    simp only [upto_zl, Int.zero_add] at e
    simp [b_L_lots2, hr', et, e]
    exact g6
  · intro m hm2
    rw [i2.refsMap] at hm2
    obtain ⟨n, hn, rfl⟩ := List.mem_map.mp hm2
    have := (i3 n hn).1
    simp only [ixOf]
    rw [if_neg (by omega)]; omega
  · intro y hy
    exact i10 y (i7 y hy (by have := hy.2.1; omega))
theorem c_lots (K n : Nat) (hK : 1000 ≤ K) (hm : W.length = l.length) (hl : l.length ≤ 200) (hw : ∀ x, (nbW W x).length ≤ 10) (hr : ∀ x, ∀ y ∈ nbW W x, 0 ≤ y ∧ y < l.length)
    (hs : ∀ x y, onL l c x → onL l c y → y ∈ nbW W x → x ∈ nbW W y) {h : Hm} {a : Nat} (ha : h[a]? = some (.lst (rowsD W))) :
    ∃ (k : Nat) (ext : Hm) (ds : List D) (Ls : List (List Int)), callM (run K (n + 1)) i_L_lots2 [.ref a, .tup (zl l), .int c] h = .ok (.ref k) (h ++ ext) ∧ (h ++ ext)[k]? = some (.lst ds) ∧ LL (h ++ ext) ds Ls ∧ Lots (nbW W) (onL l c) Ls := by
  obtain ⟨k, new, ds, Ls, e, k1, hk, ll, lr, lo⟩ := r_lots (c := c) K n hK hm hl hw hr hs
  have := callM_mk1 (Γ := run K (n + 1)) (f := i_L_lots2) (a := a) (args := [.ref a, .tup (zl l), .int c]) (h := h) (new := new) (v := .ref k) (by simp [D.refsL, D.refs]) ha (by simp [O.refs]) (by
    simp [D.mapL, D.map, ixOf]; exact e)
  obtain ⟨j, rfl⟩ : ∃ j, k = j + 1 := ⟨k - 1, by omega⟩
  rw [D.map, bk1_ge k1] at this
  refine ⟨_, _, _, Ls, this, ?_, ll.bk lr, lo⟩
  rw [List.getElem?_cons_succ] at hk
  rw [List.getElem?_append_right (by omega), List.getElem?_map]
  simp only [Nat.add_sub_cancel, Nat.add_sub_cancel_left, hk, Option.map_some, O.map]
end
end Mi

set_option Elab.async false
set_option linter.all false
set_option maxRecDepth 100000
/-! the law's own web of a triangle, told by cells -/
namespace Mi
open PySem Wb
theorem spots_length : ∀ s : Nat, (spots s).length = tri s
  | 0 => rfl
  | s + 1 => by simp [spots, spots_length s, tri]
theorem spots_nm : ∀ (s : Nat) (z : Ce), vC s z → (spots s)[nm z]? = some ((z.1 : Int), (z.2 : Int))
  | 0, z, h => by have := h.2; omega
  | s + 1, z, h => by
    rw [spots]
    by_cases q : z.1 < s
    · have := nm_lt (n := s) (z := z) ⟨h.1, q⟩
      rw [List.getElem?_append_left (by rw [spots_length]; exact this)]
      exact spots_nm s z ⟨h.1, q⟩
    · have e : z.1 = s := by have := h.2; omega
      rw [List.getElem?_append_right (by rw [spots_length]; simp [nm, e])]
      have e2 : nm z - (spots s).length = z.2 := by rw [spots_length]; simp [nm, e]
      have : z.2 < s + 1 := by have := h.1; omega
      rw [e2, List.getElem?_map, List.getElem?_range this]
      simp [e]
theorem mem_enumF {α : Type} {P : α → Bool} {x : Int} : ∀ (l : List α) (k : Nat), x ∈ enumF (fun k b => if P b = true then some k else none) k l ↔ ∃ (i : Nat) (b : α), l[i]? = some b ∧ P b = true ∧ x = (k + i : Nat)
  | [], k => by simp [enumF]
  | b :: r, k => by
    have ih := mem_enumF (P := P) (x := x) r (k + 1)
    rw [enumF]
    have sp : (∃ (i : Nat) (c : α), (b :: r)[i]? = some c ∧ P c = true ∧ x = (k + i : Nat)) ↔ (P b = true ∧ x = (k : Nat)) ∨ ∃ (i : Nat) (c : α), r[i]? = some c ∧ P c = true ∧ x = (k + 1 + i : Nat) := by
      constructor
      · rintro ⟨i, c, h1, h2, h3⟩
        match i with
        | 0 => simp at h1; subst h1; exact .inl ⟨h2, h3⟩
        | i + 1 => exact .inr ⟨i, c, by simpa using h1, h2, by rw [h3]; congr 1; omega⟩
      · rintro (⟨h1, h2⟩ | ⟨i, c, h1, h2, h3⟩)
        · exact ⟨0, b, rfl, h1, h2⟩
        · exact ⟨i + 1, c, by simpa using h1, h2, by rw [h3]; congr 1; omega⟩
    rw [sp, ← ih]
    by_cases hb : P b = true
    · simp [hb]
    · simp [hb]
theorem near1_iff (z w : Ce) : near1 ((z.1 : Int), (z.2 : Int)) ((w.1 : Int), (w.2 : Int)) = true ↔ yadj z w := by
  simp only [near1, aroundL, pl, List.any_cons, List.any_nil, Bool.or_false, Bool.or_eq_true, decide_eq_true_eq, List.cons.injEq, and_true, yadj]
  omega
theorem webW_len (s : Nat) : (webW s).length = tri s := by simp [webW, spots_length]
theorem nI_nat (z : Ce) : (nI z).toNat = nm z := by unfold nI; omega
theorem webW_at {s : Nat} {z : Ce} (hz : vC s z) : nbW (webW s) (nI z) = enumF (fun k b => if near1 ((z.1 : Int), (z.2 : Int)) b = true then some k else none) 0 (spots s) := by
  unfold nbW
  rw [nI_nat, List.getD_eq_getElem?_getD, webW, List.getElem?_map, spots_nm s z hz]; rfl
theorem web_iff {s : Nat} {z : Ce} (hz : vC s z) (y : Int) : y ∈ nbW (webW s) (nI z) ↔ ∃ w, vC s w ∧ yadj z w ∧ y = nI w := by
  rw [webW_at hz, mem_enumF]
  constructor
  · rintro ⟨i, b, h1, h2, h3⟩
    have hi := (List.getElem?_eq_some_iff.mp h1).1
    rw [spots_length] at hi
    obtain ⟨w, vw, rfl⟩ := nm_surj s i hi
    rw [spots_nm s w vw] at h1
    cases h1
    exact ⟨w, vw, (near1_iff z w).mp h2, by rw [h3]; simp [nI]⟩
  · rintro ⟨w, vw, h2, rfl⟩
    exact ⟨nm w, _, spots_nm s w vw, (near1_iff z w).mpr h2, by simp [nI]⟩
theorem web_out {s : Nat} {x : Int} (hx : ¬ x.toNat < tri s) : nbW (webW s) x = [] := by
  unfold nbW
  rw [List.getD_eq_getElem?_getD, List.getElem?_eq_none (by rw [webW_len]; omega)]; rfl
theorem nI_lt {s : Nat} {z : Ce} (hz : vC s z) : 0 ≤ nI z ∧ nI z < tri s := by
  have := nm_lt hz
  unfold nI; omega
theorem web_rng {s : Nat} (x y : Int) (h : y ∈ nbW (webW s) x) : 0 ≤ y ∧ y < tri s := by
  by_cases hx : x.toNat < tri s
  · obtain ⟨z, vz, ez⟩ := nm_surj s _ hx
    have : nbW (webW s) x = nbW (webW s) (nI z) := by unfold nbW; rw [nI_nat, ez]
    rw [this, web_iff vz] at h
    obtain ⟨w, vw, _, rfl⟩ := h
    exact nI_lt vw
  · rw [web_out hx] at h; cases h
theorem enumF_nd {α : Type} {P : α → Bool} : ∀ (l : List α) (k : Nat), (enumF (fun k b => if P b = true then some k else none) k l).Nodup
  | [], k => by simp [enumF]
  | b :: r, k => by
    have ih := enumF_nd (P := P) r (k + 1)
    rw [enumF]
    by_cases hb : P b = true
    · simp only [hb, if_true]
      rw [List.nodup_cons]
      refine ⟨fun q => ?_, ih⟩
      obtain ⟨i, c, _, _, h3⟩ := (mem_enumF r (k + 1)).mp q
      omega
    · simp only [hb]
      exact ih
theorem web_few {s : Nat} (x : Int) : (nbW (webW s) x).length ≤ 10 := by
  by_cases hx : x.toNat < tri s
  · obtain ⟨z, vz, ez⟩ := nm_surj s _ hx
    have e : nbW (webW s) x = nbW (webW s) (nI z) := by unfold nbW; rw [nI_nat, ez]
    rw [e]
    have hn : (nbW (webW s) (nI z)).Nodup := by rw [webW_at vz]; exact enumF_nd _ _
    have := nodup_leZ (C := (nbrs s z).map nI) hn fun y hy => by
      obtain ⟨w, vw, a, rfl⟩ := (web_iff vz y).mp hy
      exact List.mem_map.mpr ⟨w, (mem_nbrs vz.1 vz.2).mpr ⟨vw.1, vw.2, a⟩, rfl⟩
    have := nbrs_len s z
    simp at *; omega
  · rw [web_out hx]; simp
section
variable {s : Nat} {f : Nat → Nat → Bool} {hb : Bool}
theorem tl_nI {z : Ce} (hz : vC s z) : (tl s f).getD (nI z).toNat 0 = bi (f z.1 z.2) := by
  have := tl_get f s z.1 z.2 hz.1 hz.2
  rw [nI_nat, List.getD_eq_getElem?_getD, this]; rfl
theorem on_iff (x : Int) : onL (tl s f) (bi hb) x ↔ ∃ z, inT s (gH f hb) z ∧ x = nI z := by
  constructor
  · rintro ⟨h0, h1, h2⟩
    rw [tl_len] at h1
    obtain ⟨z, vz, ez⟩ := nm_surj s x.toNat (by omega)
    have ex : x = nI z := by unfold nI; omega
    refine ⟨z, ⟨vz.1, vz.2, ?_⟩, ex⟩
    rw [ex, tl_nI vz] at h2
    exact (gH_iff _ _ _ _).mpr (bi_inj.mp h2)
  · rintro ⟨z, hz, rfl⟩
    have := nI_lt (s := s) (z := z) ⟨hz.1, hz.2.1⟩
    refine ⟨this.1, by rw [tl_len]; exact this.2, ?_⟩
    rw [tl_nI ⟨hz.1, hz.2.1⟩, (gH_iff _ _ _ _).mp hz.2.2]
theorem gr_iff {z : Ce} (hz : inT s (gH f hb) z) (y : Int) : Gr (nbW (webW s)) (onL (tl s f) (bi hb)) (nI z) y ↔ ∃ w, y = nI w ∧ Rc s (gH f hb) z w := by
  constructor
  · intro g
    generalize hx : nI z = x at g
    induction g with
    | here _ => subst hx; exact ⟨z, rfl, .here hz⟩
    | step g a o ih =>
      obtain ⟨w, rfl, r⟩ := ih
      obtain ⟨v, vv, ay, rfl⟩ := (web_iff ⟨r.right.1, r.right.2.1⟩ _).mp a
      obtain ⟨v', hv', e⟩ := (on_iff _).mp o
      have := nI_inj vv ⟨hv'.1, hv'.2.1⟩ e
      subst this
      exact ⟨v, rfl, .step r ay hv'⟩
  · rintro ⟨w, rfl, r⟩
    induction r with
    | here h => exact .here ((on_iff _).mpr ⟨_, h, rfl⟩)
    | step g a h ih => exact   .step ih ((web_iff ⟨g.right.1, g.right.2.1⟩ _).mpr ⟨_, ⟨h.1, h.2.1⟩, a, rfl⟩) ((on_iff _).mpr ⟨_, h, rfl⟩)
theorem web_symm (x y : Int) (hx : onL (tl s f) (bi hb) x) (hy : onL (tl s f) (bi hb) y) (h : y ∈ nbW (webW s) x) : x ∈ nbW (webW s) y := by
  obtain ⟨z, hz, rfl⟩ := (on_iff _).mp hx
  obtain ⟨w, hw, rfl⟩ := (on_iff _).mp hy
  obtain ⟨v, vv, ay, e⟩ := (web_iff ⟨hz.1, hz.2.1⟩ _).mp h
  have := nI_inj ⟨hw.1, hw.2.1⟩ vv e
  subst this
  exact (web_iff vv _).mpr ⟨z, ⟨hz.1, hz.2.1⟩, yadj_symm ay, rfl⟩
theorem edge_iff {z : Ce} (hz : vC s z) (k : Nat) (hk : k < 3) : ((k : Int) ∈ nbW (edgeW s) (nI z)) ↔ ytch s k z := by
  unfold nbW
  rw [nI_nat, List.getD_eq_getElem?_getD, edgeW, List.getElem?_map, spots_nm s z hz]
  simp only [Option.map_some, Option.getD_some, edge1, List.mem_append]
  have c : k = 0 ∨ k = 1 ∨ k = 2 := by omega
  rcases c with rfl | rfl | rfl
  · simp only [ytch]; split <;> split <;> split <;> simp <;> omega
  · simp only [ytch]; split <;> split <;> split <;> simp <;> omega
  · simp only [ytch]; split <;> split <;> split <;> simp <;> omega
end
end Mi

set_option Elab.async false
set_option linter.all false
/-! what isinstance tells -/
namespace Mi
open PySem
@[simp] theorem bi_isInt (h : Hm) (d : D) : biD h .isInt [d] = some (.bl (isIn d)) := rfl
@[simp] theorem bi_isBool (h : Hm) (d : D) : biD h .isBool [d] = some (.bl (isBl d)) := rfl
@[simp] theorem bi_isTuple (h : Hm) (d : D) : biD h .isTuple [d] = some (.bl (isTup d)) := rfl
@[simp] theorem isIn_int (i : Int) : isIn (.int i) = true := rfl
@[simp] theorem isBl_int (i : Int) : isBl (.int i) = false := rfl
@[simp] theorem isTup_tup (l : List D) : isTup (.tup l) = true := rfl
end Mi

set_option Elab.async false
set_option linter.all false
set_option maxRecDepth 100000
/-! small rules about comprehensions and the ends of calls -/
namespace Mi
open PySem
theorem comp_ones {step : D → Hm → R (Option D)} {src : Src} {h : Hm} (f : Int → Bool) (so : srcOk src h = true) : ∀ l : List Int, (∀ x ∈ l, step (.int x) h = .ok (if f x = true then some (.int 1) else none) h) → ∃ n : Nat, compL step src (zl l) h = .ok (zl (List.replicate n 1)) h ∧ (n = 0 ↔ l.any f = false) ∧ n ≤ l.length
  | [], _ => ⟨0, by simp [compL], by simp⟩
  | x :: r, hs => by
    obtain ⟨n, e, hn, hl⟩ := comp_ones f so r fun y hy => hs y (List.mem_cons_of_mem _ hy)
    rw [zl_cons, compL, hs x List.mem_cons_self]
    by_cases c : f x = true
    · exact ⟨n + 1, by simp [so, e, c, List.replicate_succ, zl_cons], by simp [c], by simp; omega⟩
    · simp only [Bool.not_eq_true] at c
      exact ⟨n, by simp [so, e, c], by simp [c, hn], by simp; omega⟩
theorem zeqN {h : Hm} (l : List Int) : eqD h (.lv (zl l)) (.lv []) = some (decide (l = [])) := eqD_lints (b := []) rfl rfl
theorem ones_dec {n : Nat} {b : Bool} (hn : n = 0 ↔ b = false) : decide (List.replicate n (1 : Int) = []) = !b := by
  cases b
  · have := hn.mpr rfl
    simp [this]
  · have : n ≠ 0 := fun q => by simpa using hn.mp q
    simp [this]
theorem gcR_flat {v : D} {h : Hm} {k : Nat} (hk : k = h.length) (hv : v.refs = []) (hf : ∀ o ∈ h, o.refs = []) : gcR k (.ok v h) = .ok v h := by
  have := gcR_keep (v := v) (h0 := h) (rest := []) hk (fun o ho n hn => by rw [hf o ho] at hn; cases hn) (by rw [hv]; intro n hn; cases hn)
  rwa [List.append_nil] at this
theorem gc_at {h : Hm} {n : Nat} {l : List D} (e : h[n]? = some (.lst l)) (hl : D.refsL l = []) : gcR 0 (.ok (.ref n) h) = .ok (.ref 0) [.lst l] := by
  have hr : gcH 0 h [n] = [n] := by
    show reach (99998 + 1 + 1) _ [n] [] = _
    simp [reach, e, O.refs, hl]
  unfold gcR
  simp only [D.refs, hr]
  simp [closedB, nums, e, O.refs, hl, subH, List.getD_eq_getElem?_getD, O.map, D.map, ixOf, mapL_norefs _ _ hl]
theorem lots_few {nb : Int → List Int} {on : Int → Prop} {m : Nat} (hon : ∀ x, on x → 0 ≤ x ∧ x < m) : ∀ {Ls : List (List Int)}, Lots nb on Ls → Ls.length ≤ m := fun {Ls} L => by
  have pick : ∀ (Ls : List (List Int)), (∀ lot ∈ Ls, ∃ b, on b ∧ b ∈ lot) → (Ls.Pairwise fun a b => ∀ y ∈ a, y ∉ b) → ∃ bs : List Int, bs.length = Ls.length ∧ bs.Nodup ∧ (∀ b ∈ bs, on b) ∧ ∀ b ∈ bs, ∃ lot ∈ Ls, b ∈ lot := fun Ls => by
    induction Ls with
    | nil => exact fun _ _ => ⟨[], rfl, by simp, by simp, by simp⟩
    | cons a r ih =>
      intro h p
      rw [List.pairwise_cons] at p
      obtain ⟨bs, h1, h2, h3, h4⟩ := ih (fun lot hl => h lot (List.mem_cons_of_mem _ hl)) p.2
      obtain ⟨b, ob, hb⟩ := h a List.mem_cons_self
      refine ⟨b :: bs, by simp [h1], List.nodup_cons.mpr ⟨fun q => ?_, h2⟩, ?_, ?_⟩
      · obtain ⟨lot, hl, hm⟩ := h4 b q
        exact p.1 lot hl b hb hm
      · intro x hx
        rcases List.mem_cons.mp hx with rfl | hx
        · exact ob
        · exact h3 x hx
      · intro x hx
        rcases List.mem_cons.mp hx with rfl | hx
        · exact ⟨a, List.mem_cons_self, hb⟩
        · obtain ⟨lot, hl, hm⟩ := h4 x hx
          exact ⟨lot, List.mem_cons_of_mem _ hl, hm⟩
  obtain ⟨bs, h1, h2, h3, _⟩ := pick Ls (fun lot hl => by
    obtain ⟨b, ob, h⟩ := L.comp lot hl
    exact ⟨b, ob, (h b).mpr (.here ob)⟩) L.dis
  have := nodup_leZ (C := (List.range m).map fun i : Nat => (i : Int)) h2 fun z hz => by
    have := hon z (h3 z hz)
    exact List.mem_map.mpr ⟨z.toNat, List.mem_range.mpr (by omega), by omega⟩
  rw [h1] at this
  simpa using this
theorem comp_none {step : D → Hm → R (Option D)} {src : Src} {h : Hm} (so : srcOk src h = true) : ∀ l : List Int, (∀ x ∈ l, step (.int x) h = .ok none h) → compL step src (zl l) h = .ok [] h
  | [], _ => rfl
  | x :: r, hs => by
    have e := comp_none so r fun y hy => hs y (List.mem_cons_of_mem _ hy)
    rw [zl_cons, compL, hs x List.mem_cons_self]
    simp [so, e]
theorem comp_zl {step : D → Hm → R (Option D)} {h : Hm} (g : Int → Int) : ∀ l : List Int, (∀ x ∈ l, step (.int x) h = .ok (some (.int (g x))) h) → compL step none (zl l) h = .ok (zl (l.map g)) h
  | [], _ => rfl
  | x :: r, hs => by
    have e := comp_zl g r fun y hy => hs y (List.mem_cons_of_mem _ hy)
    rw [zl_cons, compL, hs x List.mem_cons_self]
    simp [srcOk, e, zl_cons]
theorem count_zl {l : List Int} {x : Int} (hn : l.Nodup) (hx : x ∈ l) : (zl l).count (.int x) = 1 := by
  induction l with
  | nil => cases hx
  | cons a r ih =>
    rw [List.nodup_cons] at hn
    rw [zl_cons, List.count_cons]
    rcases List.mem_cons.mp hx with rfl | hx
    · have : (zl r).count (.int x) = 0 := List.count_eq_zero.mpr (by rw [zl_mem_int]; exact hn.1)
      rw [this]; simp
    · have ne : a ≠ x := fun q => hn.1 (q ▸ hx)
      rw [ih hn.2 hx]
      simp [ne]
theorem comp_pick {step : D → Hm → R (Option D)} {src : Src} {h : Hm} (F : List Int → Bool) (so : srcOk src h = true) : ∀ {ds : List D} {Ls : List (List Int)}, LL h ds Ls → (∀ (n : Nat) (l : List Int), l ∈ Ls → h[n]? = some (.lst (zl l)) → step (.ref n) h = .ok (if F l = true then some (.ref n) else none) h) → ∃ (es : List D) (Ms : List (List Int)), compL step src ds h = .ok es h ∧ LL h es Ms ∧ Ms = Ls.filter F
  | _, _, .nil, _ => ⟨[], [], by simp [compL], .nil, rfl⟩
  | _, _, .cons e t, hs => by
    rename_i n l ds ls
    obtain ⟨es, Ms, e2, ll, hM⟩ := comp_pick F so t fun n l hl => hs n l (List.mem_cons_of_mem _ hl)
    rw [compL, hs n l List.mem_cons_self e]
    by_cases c : F l = true
    · exact ⟨.ref n :: es, l :: Ms, by simp [so, e2, c], .cons e ll, by rw [List.filter_cons_of_pos c, hM]⟩
    · exact ⟨es, Ms, by simp [so, e2, c], ll, by rw [List.filter_cons_of_neg c, hM]⟩
theorem comp_LL {step : D → Hm → R (Option D)} {src : Src} {h : Hm} (F : List Int → Bool) (so : srcOk src h = true) : ∀ {ds : List D} {Ls : List (List Int)}, LL h ds Ls → (∀ (n : Nat) (l : List Int), l ∈ Ls → h[n]? = some (.lst (zl l)) → step (.ref n) h = .ok (if F l = true then some (.int 1) else none) h) → ∃ m : Nat, compL step src ds h = .ok (zl (List.replicate m 1)) h ∧ (m = 0 ↔ Ls.any F = false) ∧ m ≤ Ls.length
  | _, _, .nil, _ => ⟨0, by simp [compL], by simp⟩
  | _, _, .cons e t, hs => by
    rename_i n l ds ls
    obtain ⟨m, e2, hn, hl⟩ := comp_LL F so t fun n l hl => hs n l (List.mem_cons_of_mem _ hl)
    rw [compL, hs n l List.mem_cons_self e]
    by_cases c : F l = true
    · exact ⟨m + 1, by simp [so, e2, c, List.replicate_succ, zl_cons], by simp [c], by simp; omega⟩
    · simp only [Bool.not_eq_true] at c
      exact ⟨m, by simp [so, e2, c], by simp [c, hn], by simp; omega⟩
end Mi

set_option Elab.async false
set_option linter.all false
set_option maxRecDepth 100000
/-! own: is a lot a chain -/
namespace Mi
open PySem
theorem rows_tups (W : List (List Int)) : tupsD W = rowsD W := rfl
def chS (E : List (List Int)) (lot : List Int) (k : Int) : Bool := lot.any fun x => decide (k ∈ nbW E x)
def chB (E : List (List Int)) (lot : List Int) : Bool := chS E lot 0 && (chS E lot 1 && chS E lot 2)
theorem is_chain_core (Γ : Gm) (K : Nat) (E : List (List Int)) (lot : List Int) (L : D) (h : Hm) (hE : h[0]? = some (.lst (rowsD E))) (hL : ∀ x ∈ lot, 0 ≤ x ∧ x < E.length) (ln : lot.length ≤ 1000) (sq : seqOf h L = some (zl lot)) (so : srcOk (srcOf h L) h = true) :
    outR (exs Γ gg (xs0 K) b_L_is_chain [some (.ref 0), some L, none, none] h) = .ok (.bl (chB E lot)) h := by
  have inner : ∀ k : Int, stepC (evF Γ gg b_L_is_chain_2) (ev Γ gg b_L_is_chain_0) (.n 2) [some (.ref 0), some L, none, none] [2] (.int k) h = .ok (if (!chS E lot k) = true then some (.int 1) else none) h := fun k => by
    obtain ⟨n, e, hn, hl⟩ := comp_ones (step := stepC (evF Γ gg b_L_is_chain_1) (ev Γ gg b_L_is_chain_0) (.n 3) [some (.ref 0), some L, some (.int k), none] [3]) (src := srcOf h L) (h := h) (fun x => decide (k ∈ nbW E x)) so lot fun x hx => by
      have at1 : L2.atI (rowsD E) x = some (.tup (zl (nbW E x))) := rowsD_atI (W := E) (hL x hx).1 (hL x hx).2
      have i1 := in_ints_tup (h := h) k (nbW E x)
      generalize nbW E x = ys at at1 i1 ⊢
      by_cases c : k ∈ ys <;> simp [stepC, wipeD, b_L_is_chain_0, b_L_is_chain_1, hE, at1, cmpD, c, i1, nox]
    have he := ones_dec hn
    have eqe := zeqN (h := h) (List.replicate n 1)
    rw [he] at eqe
    have l16 : n < 16777216 := by omega
    have sl : lot.any (fun x => decide (k ∈ nbW E x)) = chS E lot k := rfl
    have hlen : (zl (List.replicate n 1)).length < 16777216 := by simp; omega
    rw [sl] at eqe
    generalize zl (List.replicate n 1) = R at e eqe hlen
    have e' := e
    cases hc : chS E lot k <;> rw [hc] at eqe <;> simp [stepC, wipeD, b_L_is_chain_2, sq, compR, e, eqe, hlen, nox] <;> simp [b_L_is_chain_0]
  obtain ⟨n, e, hn, hl⟩ := comp_ones (step := stepC (evF Γ gg b_L_is_chain_2) (ev Γ gg b_L_is_chain_0) (.n 2) [some (.ref 0), some L, none, none] [2]) (src := none) (h := h) (fun k => !chS E lot k) rfl [0, 1, 2] fun k _ => inner k
  have he := ones_dec hn
  have eqe := zeqN (h := h) (List.replicate n 1)
  rw [he] at eqe
  have hlen : (zl (List.replicate n 1)).length < 16777216 := by simp at hl ⊢; omega
  have sl : (!([0, 1, 2] : List Int).any fun k => !chS E lot k) = chB E lot := by
    simp only [List.any_cons, List.any_nil, Bool.or_false, chB]
    cases chS E lot 0 <;> cases chS E lot 1 <;> cases chS E lot 2 <;> rfl
  rw [sl] at eqe
  generalize zl (List.replicate n 1) = R at e eqe hlen
  have hr : rngOk (3 : Int) = true := rngOk_of (by omega) (by omega)
  have e3 : zl (List.map (fun i : Nat => (i : Int)) (List.range 3)) = zl [0, 1, 2] := rfl
  generalize hZ : zl [0, 1, 2] = Z at *
  have hx : ∀ (x : D) (h : Hm), own (D.bl (chB E lot)) h = .ok (D.bl (chB E lot)) h := fun _ _ => rfl
  simp [b_L_is_chain, hr, compR, hZ, e3, e, hlen, eqe]
theorem c_chain_l (K n : Nat) {E : List (List Int)} {lot : List Int} {h : Hm} {a b : Nat} (ha : h[a]? = some (.lst (rowsD E))) (hb : h[b]? = some (.lst (zl lot))) (ne : a ≠ b) (hL : ∀ x ∈ lot, 0 ≤ x ∧ x < E.length) (ln : lot.length ≤ 1000) :
    callM (run K (n + 1)) i_L_is_chain [.ref a, .ref b] h = .ok (.bl (chB E lot)) h :=
  callM_ro2 (o := .lst (rowsD E)) (p := .lst (zl lot)) (by simp [D.refsL, D.refs]) ha hb (by simp [O.refs]) (by simp [O.refs]) ne (by simp [D.refs]) (by
    have := is_chain_core (callM (run K n)) K E lot (.ref 1) [.lst (rowsD E), .lst (zl lot)] rfl hL ln (by simp) (by simp)
    have na : ¬ b = a := Ne.symm ne
    simp only [D.mapL, D.map, ixOf, na, if_true, if_false]
    rw [run_L_is_chain, this]
    exact gcR_flat rfl (by simp [D.refs]) (by simp [O.refs]))
theorem c_chain_t (K n : Nat) {E : List (List Int)} {lot : List Int} {h : Hm} {a : Nat} (ha : h[a]? = some (.lst (rowsD E))) (hL : ∀ x ∈ lot, 0 ≤ x ∧ x < E.length) (ln : lot.length ≤ 1000) :
    callM (run K (n + 1)) i_L_is_chain [.ref a, .tup (zl lot)] h = .ok (.bl (chB E lot)) h :=
  callM_ro1 (o := .lst (rowsD E)) (by simp [D.refsL, D.refs]) ha (by simp [O.refs]) (by simp [D.refs]) (by
    have := is_chain_core (callM (run K n)) K E lot (.tup (zl lot)) [.lst (rowsD E)] rfl hL ln (by simp) (by simp)
    simp only [D.mapL, D.map, ixOf, if_true, zl_mapL]
    rw [run_L_is_chain, this]
    exact gcR_flat rfl (by simp [D.refs]) (by simp [O.refs]))
end Mi

set_option Elab.async false
set_option linter.all false
set_option maxRecDepth 100000
/-! lots and chains, plain -/
namespace Mi
open PySem
section
variable {s : Nat} {f : Nat → Nat → Bool} {hb : Bool}
theorem edgeW_len (s : Nat) : (Wb.edgeW s).length = tri s := by simp [Wb.edgeW, spots_length]
theorem lot_cells {Ls : List (List Int)} (L : Lots (nbW (Wb.webW s)) (onL (tl s f) (bi hb)) Ls) {lot : List Int} (hl : lot ∈ Ls) : ∃ b, inT s (gH f hb) b ∧ ∀ y, y ∈ lot ↔ ∃ w, y = nI w ∧ Rc s (gH f hb) b w := by
  obtain ⟨b0, hb0, h⟩ := L.comp lot hl
  obtain ⟨b, hb, rfl⟩ := (on_iff _).mp hb0
  exact ⟨b, hb, fun y => by rw [h y, gr_iff hb]⟩
theorem chS_iff {lot : List Int} {b : Ce} (hl : ∀ y, y ∈ lot ↔ ∃ w, y = nI w ∧ Rc s (gH f hb) b w) {k : Nat} (hk : k < 3) : chS (Wb.edgeW s) lot k = true ↔ ∃ a, Rc s (gH f hb) b a ∧ ytch s k a := by
  simp only [chS, List.any_eq_true, decide_eq_true_eq]
  constructor
  · rintro ⟨y, hy, he⟩
    obtain ⟨w, rfl, r⟩ := (hl y).mp hy
    exact ⟨w, r, (edge_iff ⟨r.right.1, r.right.2.1⟩ k hk).mp he⟩
  · rintro ⟨w, r, t⟩
    exact ⟨nI w, (hl _).mpr ⟨w, rfl, r⟩, (edge_iff ⟨r.right.1, r.right.2.1⟩ k hk).mpr t⟩
theorem chB_iff {lot : List Int} {b : Ce} (hl : ∀ y, y ∈ lot ↔ ∃ w, y = nI w ∧ Rc s (gH f hb) b w) : chB (Wb.edgeW s) lot = true ↔ Full s (gH f hb) b := by
  unfold chB
  rw [Bool.and_eq_true, Bool.and_eq_true, show (0 : Int) = (0 : Nat) from rfl, show (1 : Int) = (1 : Nat) from rfl, show (2 : Int) = (2 : Nat) from rfl, chS_iff hl (by omega), chS_iff hl (by omega), chS_iff hl (by omega)]
  constructor
  · rintro ⟨h0, h1, h2⟩ k hk
    have c : k = 0 ∨ k = 1 ∨ k = 2 := by omega
    rcases c with rfl | rfl | rfl
    · exact h0
    · exact h1
    · exact h2
  · exact fun h => ⟨h 0 (by omega), h 1 (by omega), h 2 (by omega)⟩
theorem lots_YY {Ls : List (List Int)} (L : Lots (nbW (Wb.webW s)) (onL (tl s f) (bi hb)) Ls) : Ls.any (chB (Wb.edgeW s)) = true ↔ YY s (gH f hb) := by
  rw [List.any_eq_true]
  constructor
  · rintro ⟨lot, hl, hc⟩
    obtain ⟨b, hb, h⟩ := lot_cells L hl
    exact ⟨b, hb, (chB_iff h).mp hc⟩
  · rintro ⟨b, hb, hf⟩
    obtain ⟨lot, hl, hm⟩ := L.all (nI b) ((on_iff _).mpr ⟨b, hb, rfl⟩)
    obtain ⟨b', hb', h⟩ := lot_cells L hl
    obtain ⟨w, e, r⟩ := (h _).mp hm
    have := nI_inj ⟨hb.1, hb.2.1⟩ ⟨r.right.1, r.right.2.1⟩ e
    subst this
    exact ⟨lot, hl, (chB_iff h).mpr (Full.mov r hf)⟩
theorem lot_rng {Ls : List (List Int)} (L : Lots (nbW (Wb.webW s)) (onL (tl s f) (bi hb)) Ls) {lot : List Int} (hl : lot ∈ Ls) : ∀ x ∈ lot, 0 ≤ x ∧ x < tri s := fun x hx => by
  obtain ⟨b, hb, h⟩ := lot_cells L hl
  obtain ⟨w, rfl, r⟩ := (h x).mp hx
  exact nI_lt ⟨r.right.1, r.right.2.1⟩
theorem lot_len {Ls : List (List Int)} (L : Lots (nbW (Wb.webW s)) (onL (tl s f) (bi hb)) Ls) {lot : List Int} (hl : lot ∈ Ls) : lot.length ≤ tri s := by
  have hn : lot.Nodup := (L.asc lot hl).imp fun h => by omega
  have := nodup_leZ (C := (List.range (tri s)).map fun i : Nat => (i : Int)) hn fun z hz => by
    have := lot_rng L hl z hz
    exact List.mem_map.mpr ⟨z.toNat, List.mem_range.mpr (by omega), by omega⟩
  simpa using this
end
theorem rows_ne {h : Hm} {E : List (List Int)} {l : List Int} {a n : Nat} (hE : h[a]? = some (.lst (rowsD E))) (he : 0 < E.length) (e : h[n]? = some (.lst (zl l))) : a ≠ n := by
  rintro rfl
  rw [hE] at e
  simp only [Option.some.injEq, O.lst.injEq] at e
  cases E with
  | nil => simp at he
  | cons x r => cases l with
    | nil => simp [rowsD] at e
    | cons y t => simp [rowsD, zl_cons] at e
/-- the hand of a board of a triangle -/
theorem yy_t (s0 : Nat) (f : Nat → Nat → Bool) : ylo s0 f = true ↔ YY (s0 + 1) (gH f true) := by rw [gH_t, YY_iff]
theorem yy_f (s0 : Nat) (f : Nat → Nat → Bool) : (!ylo s0 f) = true ↔ YY (s0 + 1) (gH f false) := by rw [gH_f, YY_iff, ylo_not]
end Mi

set_option Elab.async false
set_option linter.all false
set_option maxRecDepth 100000
/-! errors -/
namespace Mi
open PySem
def tryR (X : Xs) (c : Nat) (k : Env → Hm → Rs) (r : Rs) : Rs := match r with
  | .xx n v ρ h => if X.sub n c = true then k ρ h else .xx n v ρ h
  | r => r
@[simp] theorem tryR_nx (X : Xs) (c : Nat) (k : Env → Hm → Rs) (ρ : Env) (h : Hm) : tryR X c k (.nx ρ h) = .nx ρ h := rfl
@[simp] theorem tryR_rt (X : Xs) (c : Nat) (k : Env → Hm → Rs) (d : D) (h : Hm) : tryR X c k (.rt d h) = .rt d h := rfl
@[simp] theorem tryR_xx (X : Xs) (c : Nat) (k : Env → Hm → Rs) (n : Str) (v : List (Str × D)) (ρ : Env) (h : Hm) : tryR X c k (.xx n v ρ h) = if X.sub n c = true then k ρ h else .xx n v ρ h := rfl
section
variable {Γ : Gm} {G : Nat → Option D} {X : Xs} {ρ : Env} {h : Hm}
@[simp] theorem ex_try (b : Ss) (c : Nat) (s : Ss) : ex Γ G X (.try_ b c s) ρ h = tryR X c (exs Γ G X s) (exs Γ G X b ρ h) := by rw [ex]; rfl
theorem ex_raise0 (c : Nat) {n : Str} (e : X.cls c = some (n, [])) : ex Γ G X (.raise c .nil) ρ h = .xx n [] ρ h := by
  rw [ex]; simp [evs, e]
end
theorem gcR_ex {c : Str} {h : Hm} : gcR 0 (.ex c [] h) = .ex c [] [] := by
  have e : gcH 0 h [] = [] := rfl
  unfold gcR
  simp only [kvRefs, e]
  rfl
theorem callM_exc {Γ : Gm} {f : Nat} {args : List D} {h : Hm} {c : Str} (ha : D.refsL args = []) (e : Γ f args [] = .ex c [] []) : callM Γ f args h = .ex c [] h := by
  unfold callM
  have hr : reach 100000 h [] [] = [] := rfl
  simp only [ha, hr]
  have hs : subH h [] = [] := rfl
  rw [hs, mapL_norefs _ _ ha, e]
  simp [closedB, putH, setAll, kvMap]
end Mi

set_option Elab.async false
set_option linter.all false
set_option maxRecDepth 100000
/-! own: whose is a board (web and edges handed in) -/
namespace Mi
open PySem
theorem callM_mk2 {Γ : Gm} {f a b : Nat} {args : List D} {h new : Hm} {o p : O} {v : D} (hr : D.refsL args = [a, b]) (ea : h[a]? = some o) (eb : h[b]? = some p) (ho : o.refs = []) (hp : p.refs = []) (ne : a ≠ b) (g : Γ f (D.mapL (ixOf [a, b]) args) [o, p] = .ok v (o :: p :: new)) :
    callM Γ f args h = .ok (v.map (bk [a, b] h.length)) (h ++ new.map (O.map (bk [a, b] h.length))) := by
  unfold callM
  have hs : subH h [a, b] = [o, p] := by simp [subH, List.getD_eq_getElem?_getD, ea, eb, map_flat _ ho, map_flat _ hp]
  simp only [hr, reach_flat2 ea eb ho hp ne, closed_flat2 ea eb ho hp ne, gd_t, hs, g]
  congr 1
  unfold putH
  simp only [List.length_cons, List.length_nil, Nat.zero_add, List.take_succ_cons, List.take_zero, List.map_cons, List.map_nil, List.drop_succ_cons, List.drop_zero, setAll, map_flat _ ho, map_flat _ hp]
  rw [set_same ea, set_same eb]
theorem gc_third {a b : O} {l : List D} {rest : Hm} (ha : a.refs = []) (hb : b.refs = []) (hl : D.refsL l = []) : gcR 2 (.ok (.ref 2) (a :: b :: .lst l :: rest)) = .ok (.ref 2) [a, b, .lst l] := by
  have hc : (O.lst l).refs = [] := hl
  have hr : gcH 2 (a :: b :: .lst l :: rest) [2] = [0, 1, 2] := by
    show reach (99998 + 1 + 1) _ (_ ++ [2]) [0, 1] = _
    have : (([0, 1] : List Nat).flatMap fun n => match (a :: b :: O.lst l :: rest)[n]? with | some o => o.refs | none => []) = [] := by simp [ha, hb]
    simp only [nums] at *
    simp [ha, hb, reach, hc]
  unfold gcR
  simp only [D.refs, hr]
  simp [closedB, nums, ha, hb, hc, subH, D.map, ixOf, map_flat _ ha, map_flat _ hb, map_flat _ hc]
theorem whose_step (K n : Nat) (hK : 1000 ≤ K) {s : Nat} (s1 : 1 ≤ s) (hs : s ≤ 12) (f : Nat → Nat → Bool) (hb : Bool) (yb : Bool) (hY : yb = true ↔ YY s (gH f hb)) (fs : List Int) (hf : fs.length ≤ 5) (rest : Hm) (o4 o5 : Option D) :
    ∃ rest', forS (exs (callM (run K (n + 1))) gg (xs0 K) b_L_whose_2) (.n 4) (.int (bi hb)) [some (.ref 0), some (.ref 1), some (.tup (zl (tl s f))), some (.ref 2), o4, o5] (.lst (rowsD (Wb.webW s)) :: .lst (rowsD (Wb.edgeW s)) :: .lst (zl fs) :: rest) =
      .nx [some (.ref 0), some (.ref 1), some (.tup (zl (tl s f))), some (.ref 2), some (.int (bi hb)), o5] (.lst (rowsD (Wb.webW s)) :: .lst (rowsD (Wb.edgeW s)) :: .lst (zl (if yb = true then fs ++ [bi hb] else fs)) :: rest') := by
  have t78 := tri_12 hs
  have lnT := tl_len f s
  have t1 : 0 < tri s := by have := tri_le (a := 1) s1; simp [tri] at this; omega
  obtain ⟨k, ext, ds, Ls, e, hk, ll, L⟩ := c_lots (W := Wb.webW s) (l := tl s f) (c := bi hb) K n hK (by rw [webW_len, lnT]) (by rw [lnT]; omega) (fun x => web_few x) (fun x y h => by rw [lnT]; exact web_rng x y h) (fun x y hx hy h => web_symm x y hx hy h) (h := .lst (rowsD (Wb.webW s)) :: .lst (rowsD (Wb.edgeW s)) :: .lst (zl fs) :: rest) (a := 0) rfl
  have L16 : Ls.length ≤ tri s := lots_few (fun x hx => by have := hx.2.1; rw [lnT] at this; exact ⟨hx.1, this⟩) L
  simp only [List.cons_append] at e hk ll
  have hE : (.lst (rowsD (Wb.webW s)) :: .lst (rowsD (Wb.edgeW s)) :: .lst (zl fs) :: (rest ++ ext) : Hm)[1]? = some (.lst (rowsD (Wb.edgeW s))) := rfl
  obtain ⟨m, e2, hm, hm2⟩ := comp_LL (step := stepC (evF (callM (run K (n + 1))) gg b_L_whose_1) (ev (callM (run K (n + 1))) gg b_L_whose_0) (.n 5) [some (.ref 0), some (.ref 1), some (.tup (zl (tl s f))), some (.ref 2), some (.int (bi hb)), o5] [5]) (src := some (k, .lst ds)) (chB (Wb.edgeW s)) (by simp [hk]) ll fun n0 l hl e3 => by
    have c := c_chain_l K n (lot := l) hE e3 (rows_ne hE (by rw [edgeW_len]; omega) e3) (fun x hx => by rw [edgeW_len]; exact lot_rng L hl x hx) (by have := lot_len L hl; omega)
    generalize chB (Wb.edgeW s) l = b at *
    generalize callM (run K (n + 1)) = Γ at *
    cases b <;> simp [stepC, wipeD, b_L_whose_0, b_L_whose_1, c, nox]
  have hy2 : Ls.any (chB (Wb.edgeW s)) = yb := by
    rw [Bool.eq_iff_iff, lots_YY L]; exact hY.symm
  rw [hy2] at hm
  have eqe := fun h => zeqN (h := h) (List.replicate m 1)
  have hlen : (zl (List.replicate m 1)).length < 16777216 := by simp; omega
  rw [ones_dec hm] at eqe
  generalize zl (List.replicate m 1) = R at e2 eqe hlen
  generalize callM (run K (n + 1)) = Γ at *
  generalize tl s f = T at *
  generalize bi hb = c at *
  have hf2 : fs.length < 16777216 := by omega
  refine ⟨rest ++ ext, ?_⟩
  cases yb <;> simp [forS, b_L_whose_2, e, hk, compR, e2, hlen, eqe, hf2]
theorem r_whose3 (K n : Nat) (hK : 1000 ≤ K) (s0 : Nat) (hs : s0 ≤ 11) (f : Nat → Nat → Bool) : run K (n + 2) i_L_whose [.ref 0, .ref 1, .tup (zl (tl (s0 + 1) f))] [.lst (rowsD (Wb.webW (s0 + 1))), .lst (rowsD (Wb.edgeW (s0 + 1)))] = .ok (.ref 2) [.lst (rowsD (Wb.webW (s0 + 1))), .lst (rowsD (Wb.edgeW (s0 + 1))), .lst (zl [bi (ylo s0 f)])] := by
  obtain ⟨r1, e1⟩ := whose_step K n hK (by omega) (by omega) f false (!ylo s0 f) (yy_f s0 f) [] (by simp) [] none none
  obtain ⟨r2, e2⟩ := whose_step K n hK (by omega) (by omega) f true (ylo s0 f) (yy_t s0 f) (if (!ylo s0 f) = true then [] ++ [bi false] else []) (by split <;> simp) r1 (some (.int (bi false))) none
  have fin : (if ylo s0 f = true then (if (!ylo s0 f) = true then [] ++ [bi false] else []) ++ [bi true] else (if (!ylo s0 f) = true then [] ++ [bi false] else [])) = [bi (ylo s0 f)] := by cases ylo s0 f <;> rfl
  rw [fin] at e2
  have b0 : bi false = 0 := rfl
  have b1 : bi true = 1 := rfl
  rw [b0] at e1 e2
  rw [b1] at e2
  generalize (if (!ylo s0 f) = true then [] ++ [(0 : Int)] else []) = fs1 at *
  simp only [zl_nil] at e1
  have g3 := gc_third (a := .lst (rowsD (Wb.webW (s0 + 1)))) (b := .lst (rowsD (Wb.edgeW (s0 + 1)))) (l := zl [bi (ylo s0 f)]) (rest := r2) (by simp [O.refs]) (by simp [O.refs]) (by simp)
  rw [run_L_whose]
  generalize callM (run K (n + 1)) = Γ at *
  generalize rowsD (Wb.webW (s0 + 1)) = WW at *
  generalize rowsD (Wb.edgeW (s0 + 1)) = EE at *
  generalize tl (s0 + 1) f = T at *
  generalize bi (ylo s0 f) = y at *
  simp [b_L_whose, forR, forL, e1, e2]
  exact g3
theorem c_whose3 (K n : Nat) (hK : 1000 ≤ K) (s0 : Nat) (hs : s0 ≤ 11) (f : Nat → Nat → Bool) {h : Hm} {a b : Nat} (ne : a ≠ b) (ha : h[a]? = some (.lst (rowsD (Wb.webW (s0 + 1))))) (hb : h[b]? = some (.lst (rowsD (Wb.edgeW (s0 + 1))))) :
    callM (run K (n + 2)) i_L_whose [.ref a, .ref b, .tup (zl (tl (s0 + 1) f))] h = .ok (.ref h.length) (h ++ [.lst (zl [bi (ylo s0 f)])]) := by
  have := callM_mk2 (Γ := run K (n + 2)) (f := i_L_whose) (a := a) (b := b) (args := [.ref a, .ref b, .tup (zl (tl (s0 + 1) f))]) (h := h) (new := [.lst (zl [bi (ylo s0 f)])]) (v := .ref 2) (by simp [D.refsL, D.refs]) ha hb (by simp [O.refs]) (by simp [O.refs]) ne (by
    have nb : ¬ b = a := Ne.symm ne
    simp only [D.mapL, D.map, ixOf, nb, if_true, if_false, zl_mapL]
    exact r_whose3 K n hK s0 hs f)
  rw [this]
  simp [D.map, bk, O.map]
end Mi

set_option Elab.async false
set_option linter.all false
set_option maxRecDepth 100000
namespace Mi
open PySem
theorem lesser_turn (Γ : Gm) (K s : Nat) (hs : s ≤ 12) (f : Nat → Nat → Bool) (z : Ce) (hz : vC (s + 1) z) (L : List Int) (hL : L.length ≤ 1000) (SP : List D) (a0 o3 o4 o5 o6 : Option D) :
    ∃ o5' o6' : Option D, forS (exs Γ gg (xs0 K) b_L_lesser_0) (.t (.cons (.n 3) (.cons (.n 4) .nil))) (Wb.pD ((z.1 : Int), (z.2 : Int))) [a0, some (.tup (zl (tl (s + 2) f))), some (.ref 0), o3, o4, o5, o6] [.lst (zl L), .lst SP] =
      .nx [a0, some (.tup (zl (tl (s + 2) f))), some (.ref 0), some (.int z.1), some (.int z.2), o5', o6'] [.lst (zl (L ++ [bi (yred f z.1 z.2)])), .lst SP] := by
  obtain ⟨r, p⟩ := z
  have hz1 := hz.1
  have hz2 := hz.2
  simp only at hz1 hz2 ⊢
  have t1 := tri_div r
  have t2 := tri_div (r + 1)
  have e1 : (((r + 1 : Nat) : Int) + 1) = (r : Int) + 2 := by omega
  have e0 : ((r + 1 : Nat) : Int) = (r : Int) + 1 := by omega
  rw [e1, e0] at t2
  have m1 : ∀ h, binD h .Mult (.int (r : Int)) (.int ((r : Int) + 1)) = some (.int ((r : Int) * ((r : Int) + 1))) := fun h => mul_left (by omega)
  have m2 : ∀ h, binD h .Mult (.int ((r : Int) + 1)) (.int ((r : Int) + 2)) = some (.int (((r : Int) + 1) * ((r : Int) + 2))) := fun h => mul_left (by omega)
  have d2 : ∀ (x : Int) h, binD h .FloorDiv (.int x) (.int 2) = some (.int (x / 2)) := fun x h => div_lit (by decide) (by decide)
  have at' : ∀ a b : Nat, b ≤ a → a < s + 2 → L2.atI (tl (s + 2) f) ((tri a : Int) + (b : Int)) = some (bi (f a b)) := fun a b h1 h2 => by
    have g := tl_get f (s + 2) a b h1 h2
    have lt := (List.getElem?_eq_some_iff.mp g).1
    rw [show (tri a : Int) + (b : Int) = ((tri a + b : Nat) : Int) by push_cast; rfl, atI_lt rfl lt, g]
  have a1 := at' r p (by omega) (by omega)
  have a2 := at' (r + 1) p (by omega) (by omega)
  have a3 := at' (r + 1) (p + 1) (by omega) (by omega)
  have e3 : (tri (r + 1) : Int) + ((p + 1 : Nat) : Int) = (tri (r + 1) : Int) + p + 1 := by omega
  rw [e3] at a3
  have ms := maj_sum (f r p) (f (r + 1) p) (f (r + 1) (p + 1))
  have lL : L.length < 16777216 := by omega
  have ym : bi (yred f r p) = if (1 : Int) < bi (f r p) + bi (f (r + 1) p) + bi (f (r + 1) (p + 1)) then 1 else 0 := ms
  rw [ym]
  generalize bi (f r p) = x at *
  generalize bi (f (r + 1) p) = y at *
  generalize bi (f (r + 1) (p + 1)) = w at *
  generalize tl (s + 2) f = TT at *
  refine ⟨some (.int ((tri r : Int) + p)), some (.int ((tri (r + 1) : Int) + p)), ?_⟩
  by_cases q : (1 : Int) < x + y + w <;> simp [forS, b_L_lesser_0, m1, t1, m2, t2, d2, a1, a2, a3, q, lL]
theorem r_lesser (K n : Nat) (s : Nat) (hs : s ≤ 10) (f : Nat → Nat → Bool) : run K (n + 2) i_L_lesser [.int ((s + 2 : Nat) : Int), .tup (zl (tl (s + 2) f))] [] = .ok (.tup (zl (tl (s + 1) (yred f)))) [] := by
  have cs := callM_make (Γ := run K (n + 1)) (f := i_L_spots) (args := [.int ((s + 1 : Nat) : Int)]) (h := [.lst []]) (by simp [D.refsL, D.refs]) (Wb.r_spots K n (s + 1) (by omega))
  have m1 : O.map (fun i => 1 + i) (.lst (Wb.prs (Wb.spots (s + 1)))) = .lst (Wb.prs (Wb.spots (s + 1))) := omap_id _ _ (by simp [O.refs, Wb.prs_refs])
  simp only [D.map, List.map_cons, List.map_nil, List.length_cons, List.length_nil, Nat.zero_add, Nat.add_zero, List.cons_append, List.nil_append] at cs
  rw [m1] at cs
  have sl := spots_length (s + 1)
  have t12 := tri_12 (n := s + 1) (by omega)
  obtain ⟨ρ', h', e2, i, o3, o4, o5, o6, ed, hi, rfl, rfl⟩ := for_rule (step := forS (exs (callM (run K (n + 1))) gg (xs0 K) b_L_lesser_0) (.t (.cons (.n 3) (.cons (.n 4) .nil)))) (src := some (1, .lst (Wb.prs (Wb.spots (s + 1)))))
    (fun ds ρ h => ∃ (i : Nat) (o3 o4 o5 o6 : Option D), ds = Wb.prs ((Wb.spots (s + 1)).drop i) ∧ i ≤ tri (s + 1) ∧ ρ = [some (.int ((s + 2 : Nat) : Int)), some (.tup (zl (tl (s + 2) f))), some (.ref 0), o3, o4, o5, o6] ∧ h = [.lst (zl ((tl (s + 1) (yred f)).take i)), .lst (Wb.prs (Wb.spots (s + 1)))]) (by
    rintro d ds ρ h ⟨i, o3, o4, o5, o6, ed, hi, rfl, rfl⟩
    by_cases hlt : i < tri (s + 1)
    · rw [List.drop_eq_getElem_cons (by rw [sl]; exact hlt), Wb.prs, List.map_cons, List.cons.injEq] at ed
      obtain ⟨rfl, rfl⟩ := ed
      obtain ⟨z, vz, rfl⟩ := nm_surj _ i hlt
      have hv : (Wb.spots (s + 1))[nm z]'(by rw [sl]; exact hlt) = ((z.1 : Int), (z.2 : Int)) := by
        have := spots_nm (s + 1) z vz
        rw [List.getElem?_eq_getElem (by rw [sl]; exact hlt)] at this
        exact Option.some.inj this
      rw [hv]
      obtain ⟨o5', o6', e⟩ := lesser_turn (callM (run K (n + 1))) K s (by omega) f z vz ((tl (s + 1) (yred f)).take (nm z)) (by simp; omega) (Wb.prs (Wb.spots (s + 1))) (some (.int ((s + 2 : Nat) : Int))) o3 o4 o5 o6
      refine ⟨_, _, .inl e, by simp [srcOk], nm z + 1, _, _, o5', o6', rfl, hlt, rfl, ?_⟩
      have tg := tl_get (yred f) (s + 1) z.1 z.2 vz.1 vz.2
      rw [List.take_succ, tg]; rfl
    · rw [List.drop_eq_nil_of_le (by rw [sl]; omega)] at ed
      cases ed) (Wb.prs (Wb.spots (s + 1))) [some (.int ((s + 2 : Nat) : Int)), some (.tup (zl (tl (s + 2) f))), some (.ref 0), none, none, none, none] [.lst [], .lst (Wb.prs (Wb.spots (s + 1)))] ⟨0, none, none, none, none, rfl, by omega, rfl, rfl⟩
  have hi2 : i = tri (s + 1) := by
    by_cases hlt : i < tri (s + 1)
    · rw [List.drop_eq_getElem_cons (by rw [sl]; exact hlt), Wb.prs, List.map_cons] at ed
      cases ed
    · omega
  subst hi2
  have lt := tl_len (yred f) (s + 1)
  have tk : (tl (s + 1) (yred f)).take (tri (s + 1)) = tl (s + 1) (yred f) := List.take_of_length_le (by omega)
  rw [tk] at e2
  have ls : (tl (s + 1) (yred f)).length ≤ 16777216 := by omega
  have eS : ((s + 2 : Nat) : Int) - 1 = ((s + 1 : Nat) : Int) := by omega
  have gp := gcR_pure (v := .tup (zl (tl (s + 1) (yred f)))) (h := [.lst (zl (tl (s + 1) (yred f))), .lst (Wb.prs (Wb.spots (s + 1)))]) (by simp [D.refs])
  rw [run_L_lesser]
  generalize callM (run K (n + 1)) = Γ at *
  generalize tl (s + 1) (yred f) = T1 at *
  generalize tl (s + 2) f = T2 at *
  generalize Wb.prs (Wb.spots (s + 1)) = SP at *
  generalize ((s + 2 : Nat) : Int) = S2 at *
  generalize ((s + 1 : Nat) : Int) = S1 at *
  simp [b_L_lesser, eS, cs, forR, e2, ls]
  exact gp
/-- Unfit of side 1 -/
theorem r_unfit (K n : Nat) (T : List Int) : run K (n + 2) i_L_is_unfit [.tup (zl T)] [] = .ok (.bl true) [] := by
  have e : run K (n + 1) i_reduced [.int 1, .tup (zl T)] [] = .ex "Unfit" [] [] := by
    have r0 := fun (Γ : Gm) (ρ : Env) => ex_raise0 (Γ := Γ) (G := gg) (X := xs0 K) (ρ := ρ) (h := []) 0 (n := "Unfit") rfl
    have g := gcR_ex (c := "Unfit") (h := [])
    rw [run_reduced]
    simp [b_reduced, r0]
    exact g
  have c := callM_exc (h := []) (by simp [D.refsL, D.refs]) e
  have sb : (xs0 K).sub "Unfit" 0 = true := rfl
  rw [run_L_is_unfit]
  generalize callM (run K (n + 1)) = Γ at *
  simp [b_L_is_unfit, c, sb]
end Mi

set_option Elab.async false
set_option linter.all false
set_option maxRecDepth 100000
namespace Mi
open PySem
theorem one_core (Γ : Gm) (K : Nat) (sI y : Int) (T T2 : List Int) (W E : List D) (m : Bool)
    (cw : Γ i_L_whose [.ref 0, .ref 1, .tup (zl T)] [.lst W, .lst E] = .ok (.ref 2) [.lst W, .lst E, .lst (zl [y])])
    (rT : ∀ h, biD h .repr [.tup (zl T)] = some (reprD (.tup (zl T)))) (rT2 : ∀ h, biD h .repr [.tup (zl T2)] = some (reprD (.tup (zl T2)))) (ry : ∀ h, biD h .repr [.lv [.int y, .int y]] = some (reprD (.lv (zl [y, y]))))
    (co : ∀ h, Γ i_owner [.int sI, .tup (zl T)] h = .ok (.int y) h) (cl : ∀ h, Γ i_last_owner [.int sI, .tup (zl T)] h = .ok (.int y) h)
    (cu : sI = 1 → ∀ h, Γ i_L_is_unfit [.tup (zl T)] h = .ok (.bl true) h)
    (ce : sI ≠ 1 → ∀ h, Γ i_L_lesser [.int sI, .tup (zl T)] h = .ok (.tup (zl T2)) h) (cr : sI ≠ 1 → ∀ h, Γ i_reduced [.int sI, .tup (zl T)] h = .ok (.tup (zl T2)) h)
    (co2 : sI ≠ 1 → ∀ h, Γ i_owner [.int (sI - 1), .tup (zl T2)] h = .ok (.int y) h) (cl2 : sI ≠ 1 → ∀ h, Γ i_last_owner [.int (sI - 1), .tup (zl T2)] h = .ok (.int y) h) :
    outR (exs Γ gg (xs0 K) b_L_is_one [some (.int sI), some (.ref 0), some (.ref 1), some (.tup (zl T)), some (.bl m), none, none, none] [.lst W, .lst E]) = .ok (.bl true) [.lst W, .lst E, .lst (zl [y])] := by
  have eR : ∀ (h : Hm) (d : D), eqD h (reprD d) (reprD d) = some true := fun h d => by simp
  have e1 := fun h => eR h (.tup (zl T))
  have e2 := fun h => eR h (.tup (zl T2))
  have e3 := fun h => eR h (.lv (zl [y, y]))
  have oR : ∀ d h, own (reprD d) h = .ok (reprD d) h := fun d h => rfl
  have o1 := oR (.tup (zl T))
  have ix0 : L2.atI (zl [y]) 0 = some (.int y) := by rw [atI_lt (j := 0) (by rfl) (by simp)]; rfl
  have ln : (zl [y]).length = 1 := rfl
  generalize reprD (.tup (zl T)) = RT at *
  generalize reprD (.tup (zl T2)) = RT2 at *
  generalize reprD (.lv (zl [y, y])) = RY at *
  generalize zl [y] = Y at *
  by_cases q : sI = 1
  · have cu := cu q
    subst q
    simp [b_L_is_one, cw, rT, o1, ln, co, cl, ix0, ry, e3, cu, e1]
  · have ce := ce q
    have cr := cr q
    have co2 := co2 q
    have cl2 := cl2 q
    cases m <;> simp [b_L_is_one, cw, rT, o1, ln, co, cl, ix0, ry, e3, q, e1, ce, cr, rT2, e2, co2, cl2]
theorem tl_bits (n : Nat) (f : Nat → Nat → Bool) : ∀ c ∈ tl n f, isBit c := fun c hc => by
  obtain ⟨i, hi, rfl⟩ := List.getElem_of_mem hc
  rw [tl_len] at hi
  obtain ⟨z, vz, ez⟩ := nm_surj n i hi
  have g := tl_get f n z.1 z.2 vz.1 vz.2
  have ez2 : tri z.1 + z.2 = i := ez
  rw [ez2, List.getElem?_eq_getElem (by rw [tl_len]; exact hi)] at g
  rw [Option.some.inj g]
  cases f z.1 z.2 <;> simp [isBit, bi]
theorem repr_tl (h : Hm) (n : Nat) (hn : n ≤ 12) (f : Nat → Nat → Bool) : biD h .repr [.tup (zl (tl n f))] = some (reprD (.tup (zl (tl n f)))) :=
  repr_ints (fun c hc => bit_bt (tl_bits n f c hc)) (by rw [tl_len]; have := tri_12 hn; omega)
theorem bz (l : List Int) : bD l = .tup (zl l) := rfl
theorem c_own (K N s0 : Nat) (hK : 1000 ≤ K) (hs : s0 ≤ 11) (f : Nat → Nat → Bool) (h : Hm) : callM (run K (N + 6)) i_owner [.int ((s0 + 1 : Nat) : Int), .tup (zl (tl (s0 + 1) f))] h = .ok (.int (bi (ylo s0 f))) h :=
  callM_pure (by simp [D.refsL, D.refs]) (by simp [D.refs]) (by rw [← bz]; exact r_owner K N hK s0 hs f)
theorem c_last (K N s0 : Nat) (hs : s0 ≤ 11) (f : Nat → Nat → Bool) (h : Hm) : callM (run K (N + 6)) i_last_owner [.int ((s0 + 1 : Nat) : Int), .tup (zl (tl (s0 + 1) f))] h = .ok (.int (bi (ylo s0 f))) h :=
  callM_pure (by simp [D.refsL, D.refs]) (by simp [D.refs]) (by rw [← bz]; exact r_last K (N + 3) s0 (by omega) f)
theorem c_less (K N s : Nat) (hs : s ≤ 10) (f : Nat → Nat → Bool) (h : Hm) : callM (run K (N + 6)) i_L_lesser [.int ((s + 2 : Nat) : Int), .tup (zl (tl (s + 2) f))] h = .ok (.tup (zl (tl (s + 1) (yred f)))) h :=
  callM_pure (by simp [D.refsL, D.refs]) (by simp [D.refs]) (r_lesser K (N + 4) s hs f)
theorem c_red (K N s : Nat) (hs : s ≤ 10) (f : Nat → Nat → Bool) (h : Hm) : callM (run K (N + 6)) i_reduced [.int ((s + 2 : Nat) : Int), .tup (zl (tl (s + 2) f))] h = .ok (.tup (zl (tl (s + 1) (yred f)))) h := by
  have := c_reduced K (N + 4) s (by omega) f h
  simpa only [bz] using this
theorem repr_two {y : Int} (hy : isBit y) (h : Hm) : biD h .repr [.lv [.int y, .int y]] = some (reprD (.lv (zl [y, y]))) :=
  repr_lints (y := .lv (zl [y, y])) (l := [y, y]) rfl (fun c hc => by simp at hc; subst hc; exact bit_bt hy) (by simp)
theorem bi_bit (b : Bool) : isBit (bi b) := by cases b <;> simp [isBit, bi]
theorem r_isone (K N : Nat) (hK : 1000 ≤ K) (s0 : Nat) (hs : s0 ≤ 11) (f : Nat → Nat → Bool) (m : Bool) : run K (N + 7) i_L_is_one [.int ((s0 + 1 : Nat) : Int), .ref 0, .ref 1, .tup (zl (tl (s0 + 1) f)), .bl m] [.lst (rowsD (Wb.webW (s0 + 1))), .lst (rowsD (Wb.edgeW (s0 + 1)))] = .ok (.bl true) [.lst (rowsD (Wb.webW (s0 + 1))), .lst (rowsD (Wb.edgeW (s0 + 1)))] := by
  have cw := c_whose3 K (N + 4) hK s0 hs f (a := 0) (b := 1) (h := [.lst (rowsD (Wb.webW (s0 + 1))), .lst (rowsD (Wb.edgeW (s0 + 1)))]) (by omega) rfl rfl
  have key : outR (exs (callM (run K (N + 6))) gg (xs0 K) b_L_is_one [some (.int ((s0 + 1 : Nat) : Int)), some (.ref 0), some (.ref 1), some (.tup (zl (tl (s0 + 1) f))), some (.bl m), none, none, none] [.lst (rowsD (Wb.webW (s0 + 1))), .lst (rowsD (Wb.edgeW (s0 + 1)))]) = .ok (.bl true) [.lst (rowsD (Wb.webW (s0 + 1))), .lst (rowsD (Wb.edgeW (s0 + 1))), .lst (zl [bi (ylo s0 f)])] := by
    cases s0 with
    | zero =>
      exact one_core (callM (run K (N + 6))) K _ _ _ [] _ _ m cw (fun h => repr_tl h 1 (by omega) f) (fun h => repr_ints (by simp) (by simp)) (repr_two (bi_bit _)) (c_own K N 0 hK (by omega) f) (c_last K N 0 (by omega) f)
        (fun _ h => callM_pure (by simp [D.refsL, D.refs]) (by simp [D.refs]) (r_unfit K (N + 4) _)) (fun q => absurd rfl q) (fun q => absurd rfl q) (fun q => absurd rfl q) (fun q => absurd rfl q)
    | succ s =>
      have e1 : ((s + 1 + 1 : Nat) : Int) - 1 = ((s + 1 : Nat) : Int) := by omega
      exact one_core (callM (run K (N + 6))) K _ _ _ (tl (s + 1) (yred f)) _ _ m cw (fun h => repr_tl h (s + 2) (by omega) f) (fun h => repr_tl h (s + 1) (by omega) _) (repr_two (bi_bit _)) (c_own K N (s + 1) hK (by omega) f) (c_last K N (s + 1) (by omega) f)
        (fun q => by omega) (fun _ => c_less K N s (by omega) f) (fun _ => c_red K N s (by omega) f) (fun _ => by rw [e1]; exact c_own K N s hK (by omega) (yred f)) (fun _ => by rw [e1]; exact c_last K N s (by omega) (yred f))
  have g := gcR_keep (v := .bl true) (h0 := [.lst (rowsD (Wb.webW (s0 + 1))), .lst (rowsD (Wb.edgeW (s0 + 1)))]) (rest := [.lst (zl [bi (ylo s0 f)])]) (k := 2) rfl (by simp [O.refs]) (by simp [D.refs])
  rw [run_L_is_one, key]
  exact g
theorem c_isone (K N : Nat) (hK : 1000 ≤ K) (s0 : Nat) (hs : s0 ≤ 11) (f : Nat → Nat → Bool) (m : Bool) {h : Hm} {a b : Nat} (ne : a ≠ b) (ha : h[a]? = some (.lst (rowsD (Wb.webW (s0 + 1))))) (hb : h[b]? = some (.lst (rowsD (Wb.edgeW (s0 + 1))))) : callM (run K (N + 7)) i_L_is_one [.int ((s0 + 1 : Nat) : Int), .ref a, .ref b, .tup (zl (tl (s0 + 1) f)), .bl m] h = .ok (.bl true) h :=
  callM_ro2 (by simp [D.refsL, D.refs]) ha hb (by simp [O.refs]) (by simp [O.refs]) ne (by simp [D.refs]) (by
    have nb : ¬ b = a := Ne.symm ne
    simp only [D.mapL, D.map, ixOf, nb, if_true, if_false, zl_mapL]
    exact r_isone K N hK s0 hs f m)
end Mi

set_option Elab.async false
set_option linter.all false
set_option maxRecDepth 100000
namespace Mi
open PySem
theorem tl_of {l : List Int} {n : Nat} (hl : l.length = tri n) (hb : ∀ i ∈ l, isBit i) : ∃ f, l = tl n f := by
  refine ⟨fun r p => decide (l.getD (tri r + p) 0 = 1), ?_⟩
  apply List.ext_getElem?
  intro i
  by_cases hi : i < tri n
  · obtain ⟨z, vz, ez⟩ := nm_surj n i hi
    have g := tl_get (fun r p => decide (l.getD (tri r + p) 0 = 1)) n z.1 z.2 vz.1 vz.2
    have ez2 : tri z.1 + z.2 = i := ez
    rw [ez2] at g
    rw [g, List.getElem?_eq_getElem (by omega)]
    have gd : l.getD i 0 = l[i] := by rw [List.getD_eq_getElem?_getD, List.getElem?_eq_getElem (by omega)]; rfl
    rw [gd]
    rcases hb l[i] (List.getElem_mem _) with q | q <;> rw [q] <;> rfl
  · rw [List.getElem?_eq_none (by omega), List.getElem?_eq_none (by rw [tl_len]; omega)]
theorem r_below (K N : Nat) (hK : 1000 ≤ K) (s0 : Nat) (hs : s0 ≤ 11) (s : Int) (g : List Int) (t : Int) (hg : g.length ≤ 100) : ∃ (g' : List Int) (t' : Int), run K (N + 7) i_L_is_one_below [.ref 0, .int ((s0 + 1 : Nat) : Int)] (dkH g s t) = .ok (.bl true) (dkH g' s t') ∧ g'.length ≤ 100 := by
  have t78 := tri_12 (n := s0 + 1) (by omega)
  have td := tri_div (s0 + 1)
  have m1 : ∀ h, binD h .Mult (.int ((s0 + 1 : Nat) : Int)) (.int (((s0 + 1 : Nat) : Int) + 1)) = some (.int (((s0 + 1 : Nat) : Int) * (((s0 + 1 : Nat) : Int) + 1))) := fun h => mul_left (by omega)
  have d2 : ∀ (x : Int) h, binD h .FloorDiv (.int x) (.int 2) = some (.int (x / 2)) := fun x h => div_lit (by decide) (by decide)
  obtain ⟨l, g', t', eb, hl, hb, hg'⟩ := r_board K (N + 4) (tri (s0 + 1)) (by omega) s g t hg
  obtain ⟨f, rfl⟩ := tl_of hl hb
  have cb := callM_dk (rest := []) (Γ := run K (N + 6)) (f := i_L_board2) (as := [.int (tri (s0 + 1) : Nat)]) (v := bD (tl (s0 + 1) f)) (by simp [D.refsL, D.refs]) (bD_refs1 _) eb
  rw [bz] at cb
  have cw := callM_make (Γ := run K (N + 6)) (f := i_L_web) (args := [.int ((s0 + 1 : Nat) : Int)]) (h := dkH g' s t') (by simp [D.refsL, D.refs]) (Wb.r_web K (N + 4) (s0 + 1) (by omega))
  have ce := callM_make (Γ := run K (N + 6)) (f := i_L_edges) (args := [.int ((s0 + 1 : Nat) : Int)]) (h := dkH g' s t' ++ [.lst (rowsD (Wb.webW (s0 + 1)))]) (by simp [D.refsL, D.refs]) (Wb.r_edges K (N + 4) (s0 + 1) (by omega))
  rw [rows_tups] at cw ce
  simp only [D.map, List.map_cons, List.map_nil, O.map, mapL_norefs _ _ (rowsD_refs _), List.length_cons, List.length_nil, Nat.zero_add, List.cons_append, List.nil_append, Nat.add_zero, dkH] at cw ce
  have ch := c_whose3 K (N + 4) hK s0 hs f (a := 2) (b := 3) (h := [dkO s t', .lst (g'.map .int), .lst (rowsD (Wb.webW (s0 + 1))), .lst (rowsD (Wb.edgeW (s0 + 1)))]) (by omega) rfl rfl
  simp only [List.length_cons, List.length_nil, Nat.zero_add, List.cons_append, List.nil_append] at ch
  have co := c_own K N s0 hK hs f
  have cl := c_last K N s0 hs f
  have hy := bi_bit (ylo s0 f)
  obtain ⟨ρ', h', e, g1, o4, rfl, rfl, hy1⟩ := while_rule (test := truF (ev (callM (run K (N + 6))) gg b_L_is_one_below_0)) (body := exs (callM (run K (N + 6))) gg (xs0 K) b_L_is_one_below_1)
    (fun m ρ h => ∃ (q : Nat → Nat → Bool) (o4 : Option D), ρ = [some (.ref 0), some (.int ((m + 1 : Nat) : Int)), some (.tup (zl (tl (m + 1) q))), some (.ref 4), o4] ∧ h = [dkO s t', .lst (g'.map .int), .lst (rowsD (Wb.webW (s0 + 1))), .lst (rowsD (Wb.edgeW (s0 + 1))), .lst (zl [bi (ylo s0 f)])] ∧ ylo m q = ylo s0 f ∧ m ≤ s0)
    (fun ρ h => ∃ (q : Nat → Nat → Bool) (o4 : Option D), ρ = [some (.ref 0), some (.int ((0 + 1 : Nat) : Int)), some (.tup (zl (tl (0 + 1) q))), some (.ref 4), o4] ∧ h = [dkO s t', .lst (g'.map .int), .lst (rowsD (Wb.webW (s0 + 1))), .lst (rowsD (Wb.edgeW (s0 + 1))), .lst (zl [bi (ylo s0 f)])] ∧ ylo 0 q = ylo s0 f) (by
      rintro m ρ h ⟨q, o4, rfl, rfl, hq, hm⟩
      cases m with
      | zero => left; exact ⟨by simp [b_L_is_one_below_0], q, o4, rfl, rfl, hq⟩
      | succ m =>
        right
        have c1 := c_less K N m (by omega) q
        have c2 := c_red K N m (by omega) q
        have r1 := fun h => repr_tl h (m + 1) (by omega) (yred q)
        have e1 : ((m + 1 + 1 : Nat) : Int) - 1 = ((m + 1 : Nat) : Int) := by omega
        have gt : (1 : Int) < ((m + 1 + 1 : Nat) : Int) := by omega
        have ix : ((m + 2 : Nat) : Int) = ((m + 1 + 1 : Nat) : Int) := rfl
        rw [ix] at c1 c2
        refine ⟨?_, m, _, _, Nat.lt_succ_self m, ?_, yred q, some (.tup (zl (tl (m + 1) (yred q)))), rfl, rfl, hq, by omega⟩
        · generalize ((m + 1 + 1 : Nat) : Int) = S2 at *
          simp [b_L_is_one_below_0, gt]
        · have eR : ∀ (h : Hm), eqD h (reprD (.tup (zl (tl (m + 1) (yred q))))) (reprD (.tup (zl (tl (m + 1) (yred q))))) = some true := fun h => by simp
          generalize reprD (.tup (zl (tl (m + 1) (yred q)))) = RR at *
          generalize tl (m + 1) (yred q) = T1 at *
          generalize tl (m + 1 + 1) q = T2 at *
          generalize ((m + 1 + 1 : Nat) : Int) = S2 at *
          generalize ((m + 1 : Nat) : Int) = S1 at *
          generalize callM (run K (N + 6)) = Γ at *
          generalize rowsD (Wb.webW (s0 + 1)) = WW at *
          generalize rowsD (Wb.edgeW (s0 + 1)) = EE at *
          simp [b_L_is_one_below_1, c1, c2, r1, eR, e1]) K s0
    [some (.ref 0), some (.int ((s0 + 1 : Nat) : Int)), some (.tup (zl (tl (s0 + 1) f))), some (.ref 4), none] [dkO s t', .lst (g'.map .int), .lst (rowsD (Wb.webW (s0 + 1))), .lst (rowsD (Wb.edgeW (s0 + 1))), .lst (zl [bi (ylo s0 f)])] (by omega) ⟨f, none, rfl, rfl, rfl, Nat.le_refl _⟩
  have t1e : tl (0 + 1) g1 = [bi (ylo s0 f)] := by
    rw [← hy1]; rfl
  rw [t1e] at e
  refine ⟨g', t', ?_, hg'⟩
  have gc := gc_dk (g := g') (s := s) (t := t') (rest := [.lst (rowsD (Wb.webW (s0 + 1))), .lst (rowsD (Wb.edgeW (s0 + 1))), .lst (zl [bi (ylo s0 f)])]) (v := .bl true) (by simp [D.refs])
  have ry := fun h => repr_two hy h
  generalize bi (ylo s0 f) = y at *
  have rep2 : ∀ h n, h[n]? = some (.lst (zl [y])) → binD h .Mult (.ref n) (.int 2) = some (.lv (zl [y, y])) := fun h n e => by
    have hok : repOk (zl [y]).length 2 = true := by
      show repOk 1 2 = true
      decide +kernel
    have : binD h .Mult (.ref n) (.int 2) = match wlsOf h (.ref n) with
      | some a => if repOk a.length 2 = true then some (.lv (reps a (2 : Int).toNat)) else none
      | none => none := rfl
    rw [this, wlsOf_ref, e]
    simp only [lstO]
    rw [if_pos hok]
    rfl
  have rp := rep2 [dkO s t', .lst (g'.map .int), .lst (rowsD (Wb.webW (s0 + 1))), .lst (rowsD (Wb.edgeW (s0 + 1))), .lst (zl [y])] 4 rfl
  have ry2 : ∀ h, biD h .repr [.lv (zl [y, y])] = some (reprD (.lv (zl [y, y]))) := ry
  have eR : ∀ (h : Hm), eqD h (reprD (.lv (zl [y, y]))) (reprD (.lv (zl [y, y]))) = some true := fun h => by simp
  have eF := eqD_lints (h := [dkO s t', .lst (g'.map .int), .lst (rowsD (Wb.webW (s0 + 1))), .lst (rowsD (Wb.edgeW (s0 + 1))), .lst (zl [y])]) (y := .lv [.int y]) (z := .ref 4) (a := [y]) (b := [y]) rfl (by simp)
  rw [decide_eq_true rfl] at eF
  have ix0 : L2.atI (zl [y]) 0 = some (.int y) := by rw [atI_lt (j := 0) (by rfl) (by simp)]; rfl
  rw [run_L_is_one_below]
  generalize reprD (.lv (zl [y, y])) = RR at *
  generalize tl (s0 + 1) f = T0 at *
  generalize callM (run K (N + 6)) = Γ at *
  generalize rowsD (Wb.webW (s0 + 1)) = WW at *
  generalize rowsD (Wb.edgeW (s0 + 1)) = EE at *
  generalize hS : ((s0 + 1 : Nat) : Int) = S0 at *
  generalize (tri (s0 + 1) : Int) = TR at *
  generalize zl [y] = Y at *
  simp [b_L_is_one_below, dkH, m1, td, d2, cb, cw, ce, ch, co, cl, ry, rp, ry2, eR, e, ix0, eF]
  exact gc
end Mi

set_option Elab.async false
set_option linter.all false
set_option maxRecDepth 100000
namespace Mi
open PySem
theorem and_one (x : Int) (h : 0 ≤ x) : isBit (Builtin.bitAnd x 1) := by
  unfold Builtin.bitAnd
  rw [decide_eq_true h]
  have e : (x.toNat &&& (1 : Int).toNat) = x.toNat % 2 := Nat.and_one_is_mod _
  simp only [show decide ((0 : Int) ≤ 1) = true from rfl, e]
  unfold isBit
  omega
theorem r_bits (K n m : Nat) (hm : m ≤ 1000) (num : Int) (h0 : 0 ≤ num) : ∃ l : List Int, run K (n + 1) i_L_bits [.int num, .int m] [] = .ok (.tup (zl l)) [] ∧ l.length = m ∧ ∀ i ∈ l, isBit i := by
  have c := comp_zl (step := stepC (evF (callM (run K n)) gg .nil) (ev (callM (run K n)) gg b_L_bits_0) (.n 2) [some (.int num), some (.int m), none] [2]) (h := []) (fun x => Builtin.bitAnd (num / 2 ^ x.toNat) 1) ((List.range m).map fun i : Nat => (i : Int)) fun x hx => by
    obtain ⟨i, hi, rfl⟩ := List.mem_map.mp hx
    have rs : ∀ h, binD h .RShift (.int num) (.int (i : Int)) = some (.int (num / 2 ^ i)) := fun h => by
      show (if (0 : Int) ≤ (i : Int) then some (D.int (num / 2 ^ (i : Int).toNat)) else none) = _
      rw [if_pos (by omega), Int.toNat_natCast]
    have an : ∀ (y : Int) h, binD h .BitAnd (.int y) (.int 1) = some (.int (Builtin.bitAnd y 1)) := fun y h => rfl
    rw [Int.toNat_natCast]
    simp [stepC, wipeD, b_L_bits_0, rs, an, nox]
  have hB : ∀ x ∈ ((List.range m).map fun i : Nat => (i : Int)).map (fun x => Builtin.bitAnd (num / 2 ^ x.toNat) 1), isBit x := fun x hx => by
    obtain ⟨y, _, rfl⟩ := List.mem_map.mp hx
    exact and_one _ (Int.ediv_nonneg h0 (Int.le_of_lt (Int.pow_pos (by omega))))
  have hL : (((List.range m).map fun i : Nat => (i : Int)).map (fun x => Builtin.bitAnd (num / 2 ^ x.toNat) 1)).length = m := by simp
  refine ⟨_, ?_, hL, hB⟩
  generalize ((List.range m).map fun i : Nat => (i : Int)).map (fun x => Builtin.bitAnd (num / 2 ^ x.toNat) 1) = BB at *
  have hr : rngOk (m : Int) = true := rngOk_of (by omega) (by omega)
  have et : (m : Int).toNat = m := by omega
  have lB : BB.length < 16777216 := by omega
  have lB2 : BB.length ≤ 16777216 := by omega
  have gp := gcR_pure (v := .tup (zl BB)) (h := []) (by simp [D.refs])
  rw [run_L_bits]
  generalize callM (run K n) = Γ at *
  simp [b_L_bits, hr, et, compR, c, lB]
  exact gp
/-- one board by its number -/
theorem one_num (K : Nat) (hK : 1000 ≤ K) (s0 : Nat) (hs : s0 ≤ 11) (num : Int) (h0 : 0 ≤ num) {h : Hm} {a b : Nat} (ne : a ≠ b) (ha : h[a]? = some (.lst (rowsD (Wb.webW (s0 + 1))))) (hb : h[b]? = some (.lst (rowsD (Wb.edgeW (s0 + 1))))) :
    ∃ l : List Int, callM (run K 39) i_L_bits [.int num, .int ((tri (s0 + 1) : Nat) : Int)] h = .ok (.tup (zl l)) h ∧ ∀ m : Bool, callM (run K 39) i_L_is_one [.int ((s0 + 1 : Nat) : Int), .ref a, .ref b, .tup (zl l), .bl m] h = .ok (.bl true) h := by
  have t12 := tri_12 (n := s0 + 1) (by omega)
  obtain ⟨l, e, hl, hbits⟩ := r_bits K 38 (tri (s0 + 1)) (by omega) num h0
  obtain ⟨f, rfl⟩ := tl_of hl hbits
  exact ⟨_, callM_pure (by simp [D.refsL, D.refs]) (by simp [D.refs]) e, fun m => c_isone K 32 hK s0 hs f m ne ha hb⟩
theorem c_webs (K s0 : Nat) (hs : s0 ≤ 11) (h : Hm) : callM (run K 39) i_L_web [.int ((s0 + 1 : Nat) : Int)] h = .ok (.ref h.length) (h ++ [.lst (rowsD (Wb.webW (s0 + 1)))]) ∧
    callM (run K 39) i_L_edges [.int ((s0 + 1 : Nat) : Int)] (h ++ [.lst (rowsD (Wb.webW (s0 + 1)))]) = .ok (.ref (h.length + 1)) (h ++ [.lst (rowsD (Wb.webW (s0 + 1))), .lst (rowsD (Wb.edgeW (s0 + 1)))]) := by
  have cw := callM_make (Γ := run K 39) (f := i_L_web) (args := [.int ((s0 + 1 : Nat) : Int)]) (h := h) (by simp [D.refsL, D.refs]) (Wb.r_web K 37 (s0 + 1) (by omega))
  have ce := callM_make (Γ := run K 39) (f := i_L_edges) (args := [.int ((s0 + 1 : Nat) : Int)]) (h := h ++ [.lst (rowsD (Wb.webW (s0 + 1)))]) (by simp [D.refsL, D.refs]) (Wb.r_edges K 37 (s0 + 1) (by omega))
  rw [rows_tups] at cw ce
  simp only [D.map, List.map_cons, List.map_nil, O.map, mapL_norefs _ _ (rowsD_refs _), Nat.add_zero, List.length_append, List.length_cons, List.length_nil, Nat.zero_add, List.append_assoc, List.cons_append, List.nil_append] at cw ce
  exact ⟨cw, ce⟩
theorem two_pow (k : Nat) : ((2 ^ k : Nat) : Int) = (2 : Int) ^ k := by
  induction k with
  | zero => rfl
  | succ k ih => rw [Nat.pow_succ, Int.pow_succ, ← ih]; push_cast; rfl
theorem shl1 (k : Nat) (hk : k ≤ 100) (h : Hm) : binD h .LShift (.int 1) (.int (k : Int)) = some (.int ((2 ^ k : Nat) : Int)) := by
  have pw : powOk 1 (k : Int) = true := by
    unfold powOk
    simp only [Bool.and_eq_true, decide_eq_true_eq]
    exact ⟨⟨by omega, by omega⟩, by decide⟩
  have e : binD h .LShift (.int 1) (.int (k : Int)) = if powOk 1 (k : Int) = true then some (D.int (1 * 2 ^ (k : Int).toNat)) else none := rfl
  rw [e, if_pos pw, Int.toNat_natCast, Int.one_mul, ← two_pow]
theorem pow64 (k : Nat) (hk : k ≤ 6) : 2 ^ k ≤ 64 := Nat.le_trans (Nat.pow_le_pow_right (by decide) hk) (by decide)
theorem turn_t1 (Γ : Gm) (K : Nat) (S1 : Int) (H : Hm) (WW EE : List D) (a0 a1 a4 o5 : Option D)
  (cw : Γ i_L_web [D.int S1] H = R.ok (D.ref (List.length H)) (H ++ [O.lst WW]))
  (ce : Γ i_L_edges [D.int S1] (H ++ [O.lst WW]) = R.ok (D.ref (List.length H + 1)) (H ++ [O.lst WW, O.lst EE])) :
  ev Γ gg (.tup (.cons (.call i_L_web (.cons (.v 3) .nil)) (.cons (.call i_L_edges (.cons (.v 3) .nil)) .nil))) [a0, a1, none, some (.int S1), a4, o5] H = .ok (.tup [.ref H.length, .ref (H.length + 1)]) (H ++ [O.lst WW, O.lst EE]) := by
  simp [cw, ce]
theorem turn_t2 (Γ : Gm) (K : Nat) (S1 : Int) (H : Hm) (WW EE : List D) (a0 a1 a4 o5 o6 o7 o8 : Option D)
  (cw : Γ i_L_web [D.int S1] H = R.ok (D.ref (List.length H)) (H ++ [O.lst WW]))
  (ce : Γ i_L_edges [D.int S1] (H ++ [O.lst WW]) = R.ok (D.ref (List.length H + 1)) (H ++ [O.lst WW, O.lst EE])) :
  ex Γ gg (xs0 K) (.asg (.t (.cons (.n 7) (.cons (.n 8) .nil))) (.tup (.cons (.call i_L_web (.cons (.v 3) .nil)) (.cons (.call i_L_edges (.cons (.v 3) .nil)) .nil)))) [a0, a1, none, some (.int S1), a4, o5, o6, o7, o8] H = .nx [a0, a1, none, some (.int S1), a4, o5, o6, some (.ref H.length), some (.ref (H.length + 1))] (H ++ [O.lst WW, O.lst EE]) := by
  simp [cw, ce]
theorem turn_t3 (Γ : Gm) (K : Nat) (S1 : Int) (H : Hm) (T1 T2 : D) (a0 a1 a4 o5 o6 o7 o8 : Option D) :
  asgT (.t (.cons (.n 7) (.cons (.n 8) .nil))) (.tup [T1, T2]) [a0, a1, none, some (.int S1), a4, o5, o6, o7, o8] = some [a0, a1, none, some (.int S1), a4, o5, o6, some T1, some T2] := by
  simp
theorem turn_t5 (Γ : Gm) (K : Nat) (S1 : Int) (H : Hm) (WW EE : List D) (a0 a1 a3 a4 o5 o6 o7 o8 : Option D) (TR : D)
  (cw : Γ i_L_web [D.int S1] H = R.ok (D.ref (List.length H)) (H ++ [O.lst WW]))
  (ce : Γ i_L_edges [D.int S1] (H ++ [O.lst WW]) = R.ok (D.ref (List.length H + 1)) (H ++ [O.lst WW, O.lst EE])) (R : Rs)
  (q : ex Γ gg (xs0 K) (.for_ (.n 5) (.rng (.cons (.bin .LShift (.c (.int 1)) (.v 4)) .nil)) b_Llaw_0) [a0, a1, none, some (.int S1), some TR, o5, o6, some (.ref H.length), some (.ref (H.length + 1))] (H ++ [O.lst WW, O.lst EE]) = R) :
  forS (exs Γ gg (xs0 K) b_Llaw_1) (.t (.cons (.n 3) (.cons (.n 4) .nil))) (.tup [.int S1, TR]) [a0, a1, none, a3, a4, o5, o6, o7, o8] H = sq R (exs Γ gg (xs0 K) .nil) := by
  rw [← q]
  have e2 := turn_t2 Γ K S1 H WW EE a0 a1 (some TR) o5 o6 o7 o8 cw ce
  have e0 : asgT (.t (.cons (.n 3) (.cons (.n 4) .nil))) (.tup [.int S1, TR]) [a0, a1, none, a3, a4, o5, o6, o7, o8] = some [a0, a1, none, some (.int S1), some TR, o5, o6, o7, o8] := by simp
  rw [forS, e0]
  show exs Γ gg (xs0 K) b_Llaw_1 _ _ = _
  rw [b_Llaw_1, exs_cons, e2, sq_nx, exs_cons]
theorem turn_t6 (Γ : Gm) (K : Nat) (ρ : List (Option D)) (h : Hm) (TR : Int) (NN : Nat) (n64 : NN ≤ 64) (R : Rs) (g4 : ρ[4]? = some (some (.int TR)))
  (sh : ∀ h, binD h .LShift (.int 1) (.int TR) = some (.int (NN : Int)))
  (q : forR (forS (exs Γ gg (xs0 K) b_Llaw_0) (.n 5)) (upto 0 NN, none) ρ h = R) :
  ex Γ gg (xs0 K) (.for_ (.n 5) (.rng (.cons (.bin .LShift (.c (.int 1)) (.v 4)) .nil)) b_Llaw_0) ρ h = R := by
  have hr : rngOk ((NN : Nat) : Int) = true := rngOk_of (by omega) (by omega)
  have et : ((NN : Nat) : Int).toNat = NN := by omega
  simp only [upto_zl, Int.zero_add] at q
  simp [g4, sh, hr, et, q]
theorem turn_loop (K : Nat) (hK : 1000 ≤ K) (s0 : Nat) (hs : s0 ≤ 2) (H : Hm) (a0 a1 o5 : Option D) (NN : Nat) : ∃ o5' : Option D, forR (forS (exs (callM (run K 39)) gg (xs0 K) b_Llaw_0) (.n 5)) (upto 0 NN, none) [a0, a1, none, some (.int ((s0 + 1 : Nat) : Int)), some (.int ((tri (s0 + 1) : Nat) : Int)), o5, none, some (.ref H.length), some (.ref (H.length + 1))] (H ++ [.lst (rowsD (Wb.webW (s0 + 1))), .lst (rowsD (Wb.edgeW (s0 + 1)))]) =
    .nx [a0, a1, none, some (.int ((s0 + 1 : Nat) : Int)), some (.int ((tri (s0 + 1) : Nat) : Int)), o5', none, some (.ref H.length), some (.ref (H.length + 1))] (H ++ [.lst (rowsD (Wb.webW (s0 + 1))), .lst (rowsD (Wb.edgeW (s0 + 1)))]) := by
  obtain ⟨ρ', h', e, o5', rfl, rfl⟩ := range_rule (step := forS (exs (callM (run K 39)) gg (xs0 K) b_Llaw_0) (.n 5)) (fun k ρ h => ∃ o5 : Option D, ρ = [a0, a1, none, some (.int ((s0 + 1 : Nat) : Int)), some (.int ((tri (s0 + 1) : Nat) : Int)), o5, none, some (.ref H.length), some (.ref (H.length + 1))] ∧ h = H ++ [.lst (rowsD (Wb.webW (s0 + 1))), .lst (rowsD (Wb.edgeW (s0 + 1)))]) 0 NN (by
    rintro k ρ h hk ⟨o5, rfl, rfl⟩
    rw [Int.zero_add]
    obtain ⟨l, c1, c2⟩ := one_num K hK s0 (by omega) k (by omega) (h := H ++ [.lst (rowsD (Wb.webW (s0 + 1))), .lst (rowsD (Wb.edgeW (s0 + 1)))]) (a := H.length) (b := H.length + 1) (by omega) (by simp) (by simp)
    refine ⟨_, _, .inl ?_, some (.int k), rfl, rfl⟩
    generalize ((tri (s0 + 1) : Nat) : Int) = TR at *
    generalize ((s0 + 1 : Nat) : Int) = S1 at *
    generalize callM (run K 39) = Γ at *
    generalize rowsD (Wb.webW (s0 + 1)) = WW at *
    generalize rowsD (Wb.edgeW (s0 + 1)) = EE at *
    simp [forS, b_Llaw_0, c1, c2]) [a0, a1, none, some (.int ((s0 + 1 : Nat) : Int)), some (.int ((tri (s0 + 1) : Nat) : Int)), o5, none, some (.ref H.length), some (.ref (H.length + 1))] (H ++ [.lst (rowsD (Wb.webW (s0 + 1))), .lst (rowsD (Wb.edgeW (s0 + 1)))]) ⟨o5, rfl, rfl⟩
  exact ⟨o5', e⟩
theorem all_turn (K : Nat) (hK : 1000 ≤ K) (s0 : Nat) (hs : s0 ≤ 2) (H : Hm) (a0 a1 o3 o4 o5 o7 o8 : Option D) : ∃ o5' : Option D, forS (exs (callM (run K 39)) gg (xs0 K) b_Llaw_1) (.t (.cons (.n 3) (.cons (.n 4) .nil))) (.tup [.int ((s0 + 1 : Nat) : Int), .int ((tri (s0 + 1) : Nat) : Int)]) [a0, a1, none, o3, o4, o5, none, o7, o8] H =
    .nx [a0, a1, none, some (.int ((s0 + 1 : Nat) : Int)), some (.int ((tri (s0 + 1) : Nat) : Int)), o5', none, some (.ref H.length), some (.ref (H.length + 1))] (H ++ [.lst (rowsD (Wb.webW (s0 + 1))), .lst (rowsD (Wb.edgeW (s0 + 1)))]) := by
  obtain ⟨cw, ce⟩ := c_webs K s0 (by omega) H
  have t6 : tri (s0 + 1) ≤ 6 := tri_le (b := 3) (by omega)
  have p2 := pow64 _ t6
  have sh := shl1 (tri (s0 + 1)) (by omega)
  obtain ⟨o5', e⟩ := turn_loop K hK s0 hs H a0 a1 o5 (2 ^ tri (s0 + 1))
  generalize 2 ^ tri (s0 + 1) = NN at p2 sh e
  generalize callM (run K 39) = Γ at *
  generalize rowsD (Wb.webW (s0 + 1)) = WW at *
  generalize rowsD (Wb.edgeW (s0 + 1)) = EE at *
  refine ⟨o5', (turn_t5 Γ K _ H WW EE a0 a1 o3 o4 o5 none o7 o8 _ cw ce _ (turn_t6 Γ K _ _ _ NN p2 _ rfl sh e)).trans ?_⟩
  rw [sq_nx, exs_nil]
theorem eight (K : Nat) (hK : 1000 ≤ K) (first : Int) (hf : 0 ≤ first) (h : Hm) (a b : Nat) (ne : a ≠ b) (ha : h[a]? = some (.lst (rowsD (Wb.webW 4)))) (hb : h[b]? = some (.lst (rowsD (Wb.edgeW 4)))) (a0 a1 o3 o4 o5 : Option D) : ∃ o2' : Option D, forR (forS (exs (callM (run K 39)) gg (xs0 K) b_Llaw_2) (.n 2)) (upto 0 8, none) [a0, a1, none, o3, o4, o5, some (.int first), some (.ref a), some (.ref b)] h =
    .nx [a0, a1, o2', o3, o4, o5, some (.int first), some (.ref a), some (.ref b)] h := by
  obtain ⟨ρ', h', e, o2', rfl, rfl⟩ := range_rule (step := forS (exs (callM (run K 39)) gg (xs0 K) b_Llaw_2) (.n 2)) (fun k ρ h' => ∃ o2 : Option D, ρ = [a0, a1, o2, o3, o4, o5, some (.int first), some (.ref a), some (.ref b)] ∧ h' = h) 0 8 (by
    rintro k ρ h' hk ⟨o2, rfl, rfl⟩
    rw [Int.zero_add]
    obtain ⟨l, c1, c2⟩ := one_num K hK 3 (by omega) ((first + k) % 1024) (Int.emod_nonneg _ (by omega)) ne ha hb
    have t10 : ((tri (3 + 1) : Nat) : Int) = 10 := by decide
    have s4 : ((3 + 1 : Nat) : Int) = 4 := rfl
    rw [t10] at c1
    rw [s4] at c2
    refine ⟨_, _, .inl ?_, some (.int k), rfl, rfl⟩
    generalize callM (run K 39) = Γ at *
    simp [forS, b_Llaw_2, c1, c2]) [a0, a1, none, o3, o4, o5, some (.int first), some (.ref a), some (.ref b)] h ⟨none, rfl, rfl⟩
  exact ⟨o2', e⟩
theorem c_below (K : Nat) (hK : 1000 ≤ K) (s0 : Nat) (hs : s0 ≤ 11) (s : Int) (g : List Int) (t : Int) (hg : g.length ≤ 100) (rest : Hm) : ∃ (g' : List Int) (t' : Int), callM (run K 39) i_L_is_one_below [.ref 0, .int ((s0 + 1 : Nat) : Int)] (dkO s t :: .lst (g.map .int) :: rest) = .ok (.bl true) (dkO s t' :: .lst (g'.map .int) :: rest) ∧ g'.length ≤ 100 := by
  obtain ⟨g', t', e, hg'⟩ := r_below K 32 hK s0 hs s g t hg
  exact ⟨g', t', callM_dk (rest := rest) (by simp [D.refsL, D.refs]) (by simp [D.refs]) e, hg'⟩
theorem c_draw' (K : Nat) (s : Int) (many : Int) (h1 : 0 < many) (h2 : many ≤ 2000) (g : List Int) (t : Int) (hg : g.length ≤ 100) (rest : Hm) : ∃ (r : Int) (g' : List Int) (t' : Int), callM (run K 39) i_L_draw7 [.ref 0, .int many] (dkO s t :: .lst (g.map .int) :: rest) = .ok (.int r) (dkO s t' :: .lst (g'.map .int) :: rest) ∧ g'.length ≤ 100 ∧ 0 ≤ r ∧ r < many :=
  c_draw K 38 (g := g) (s := s) (t := t) (many := many) (rest := rest) h1 ((show Bt 20 many by unfold Bt; omega).mono (by omega)) hg
theorem w_law (K : Nat) (hK : 1000 ≤ K) (ns : List Int) : ∃ h, run K 40 i_Llaw [.fl (ns.map D.int)] [] = .ok (.bl true) h := by
  obtain ⟨g, s, e1, hg⟩ := r_deck K 38 ns
  have c1 := callM_new (Γ := run K 39) (f := i_L_deck25) (args := [.fl (ns.map .int)]) (by simp [D.refsL, D.refs, ints_refs]) e1
  have ou : ∀ h, own (.fl (ns.map .int)) h = .ok (.fl (ns.map .int)) h := fun h => rfl
  generalize hFl : D.fl (ns.map D.int) = Fl at *
  obtain ⟨p5, t1⟩ := all_turn K hK 0 (by omega) [dkO s 0, .lst (g.map .int)] (some Fl) (some (.ref 0)) none none none none none
  obtain ⟨q5, t2⟩ := all_turn K hK 1 (by omega) ([dkO s 0, .lst (g.map .int)] ++ [.lst (rowsD (Wb.webW (0 + 1))), .lst (rowsD (Wb.edgeW (0 + 1)))]) (some Fl) (some (.ref 0)) (some (.int ((0 + 1 : Nat) : Int))) (some (.int ((tri (0 + 1) : Nat) : Int))) p5 (some (.ref 2)) (some (.ref 3))
  obtain ⟨u5, t3⟩ := all_turn K hK 2 (by omega) ([dkO s 0, .lst (g.map .int)] ++ [.lst (rowsD (Wb.webW (0 + 1))), .lst (rowsD (Wb.edgeW (0 + 1)))] ++ [.lst (rowsD (Wb.webW (1 + 1))), .lst (rowsD (Wb.edgeW (1 + 1)))]) (some Fl) (some (.ref 0)) (some (.int ((1 + 1 : Nat) : Int))) (some (.int ((tri (1 + 1) : Nat) : Int))) q5 (some (.ref 4)) (some (.ref 5))
  simp only [List.cons_append, List.nil_append, List.length_cons, List.length_nil, Nat.zero_add] at t1 t2 t3
  have k1 : ((tri 1 : Nat) : Int) = 1 := by decide
  have k2 : ((tri (1 + 1) : Nat) : Int) = 3 := by decide
  have k3 : ((tri (2 + 1) : Nat) : Int) = 6 := by decide
  rw [k1] at t1 t2
  rw [k2] at t2 t3
  rw [k3] at t3
  obtain ⟨f, g2, tt2, d1, hg2, f0, _⟩ := c_draw' K s 1024 (by omega) (by omega) g 0 hg [.lst (rowsD (Wb.webW 1)), .lst (rowsD (Wb.edgeW 1)), .lst (rowsD (Wb.webW (1 + 1))), .lst (rowsD (Wb.edgeW (1 + 1))), .lst (rowsD (Wb.webW (2 + 1))), .lst (rowsD (Wb.edgeW (2 + 1)))]
  obtain ⟨cw, ce⟩ := c_webs K 3 (by omega) [dkO s tt2, .lst (g2.map .int), .lst (rowsD (Wb.webW 1)), .lst (rowsD (Wb.edgeW 1)), .lst (rowsD (Wb.webW (1 + 1))), .lst (rowsD (Wb.edgeW (1 + 1))), .lst (rowsD (Wb.webW (2 + 1))), .lst (rowsD (Wb.edgeW (2 + 1)))]
  simp only [List.cons_append, List.nil_append, List.length_cons, List.length_nil, Nat.zero_add] at cw ce
  obtain ⟨o2', e8⟩ := eight K hK f f0 [dkO s tt2, .lst (g2.map .int), .lst (rowsD (Wb.webW 1)), .lst (rowsD (Wb.edgeW 1)), .lst (rowsD (Wb.webW (1 + 1))), .lst (rowsD (Wb.edgeW (1 + 1))), .lst (rowsD (Wb.webW (2 + 1))), .lst (rowsD (Wb.edgeW (2 + 1))), .lst (rowsD (Wb.webW 4)), .lst (rowsD (Wb.edgeW 4))] 8 9 (by omega) rfl rfl (some Fl) (some (.ref 0)) (some (.int ((2 + 1 : Nat) : Int))) (some (.int 6)) u5
  obtain ⟨r1, g3, tt3, d2, hg3, r10, r11⟩ := c_draw' K s 4 (by omega) (by omega) g2 tt2 hg2 [.lst (rowsD (Wb.webW 1)), .lst (rowsD (Wb.edgeW 1)), .lst (rowsD (Wb.webW (1 + 1))), .lst (rowsD (Wb.edgeW (1 + 1))), .lst (rowsD (Wb.webW (2 + 1))), .lst (rowsD (Wb.edgeW (2 + 1))), .lst (rowsD (Wb.webW 4)), .lst (rowsD (Wb.edgeW 4))]
  obtain ⟨s1, hs1⟩ : ∃ s1 : Nat, 5 + r1 = ((s1 + 1 : Nat) : Int) := ⟨(4 + r1).toNat, by omega⟩
  obtain ⟨g4, tt4, b1, hg4⟩ := c_below K hK s1 (by omega) s g3 tt3 hg3 [.lst (rowsD (Wb.webW 1)), .lst (rowsD (Wb.edgeW 1)), .lst (rowsD (Wb.webW (1 + 1))), .lst (rowsD (Wb.edgeW (1 + 1))), .lst (rowsD (Wb.webW (2 + 1))), .lst (rowsD (Wb.edgeW (2 + 1))), .lst (rowsD (Wb.webW 4)), .lst (rowsD (Wb.edgeW 4))]
  obtain ⟨r2, g5, tt5, d3, hg5, r20, r21⟩ := c_draw' K s 4 (by omega) (by omega) g4 tt4 hg4 [.lst (rowsD (Wb.webW 1)), .lst (rowsD (Wb.edgeW 1)), .lst (rowsD (Wb.webW (1 + 1))), .lst (rowsD (Wb.edgeW (1 + 1))), .lst (rowsD (Wb.webW (2 + 1))), .lst (rowsD (Wb.edgeW (2 + 1))), .lst (rowsD (Wb.webW 4)), .lst (rowsD (Wb.edgeW 4))]
  obtain ⟨s2, hs2⟩ : ∃ s2 : Nat, 9 + r2 = ((s2 + 1 : Nat) : Int) := ⟨(8 + r2).toNat, by omega⟩
  obtain ⟨g6, tt6, b2, hg6⟩ := c_below K hK s2 (by omega) s g5 tt5 hg5 [.lst (rowsD (Wb.webW 1)), .lst (rowsD (Wb.edgeW 1)), .lst (rowsD (Wb.webW (1 + 1))), .lst (rowsD (Wb.edgeW (1 + 1))), .lst (rowsD (Wb.webW (2 + 1))), .lst (rowsD (Wb.edgeW (2 + 1))), .lst (rowsD (Wb.webW 4)), .lst (rowsD (Wb.edgeW 4))]
  suffices q : ∃ h3, exs (callM (run K 39)) gg (xs0 K) b_Llaw [some Fl, none, none, none, none, none, none, none, none] [] = .rt (.bl true) h3 by
    obtain ⟨h3, q⟩ := q
    exact ⟨_, (run_Llaw K 39 _).trans (congrArg (fun r => gcR 0 (outR r)) q)⟩
  have hr8 : rngOk (8 : Int) = true := rngOk_of (by omega) (by omega)
  simp only [upto_zl, Int.zero_add, forR] at e8
  have n1 : ((1 : Nat) : Int) = 1 := rfl
  have n2 : ((1 + 1 : Nat) : Int) = 2 := rfl
  have n3 : ((2 + 1 : Nat) : Int) = 3 := rfl
  have n4 : ((3 + 1 : Nat) : Int) = 4 := rfl
  rw [n1] at t1 t2
  rw [n2] at t2 t3
  rw [n3] at t3 e8
  rw [n4] at cw ce
  simp only [show (3 + 1 : Nat) = 4 from rfl] at cw ce
  generalize rowsD (Wb.webW 1) = W1 at *
  generalize rowsD (Wb.edgeW 1) = E1 at *
  generalize rowsD (Wb.webW (1 + 1)) = W2 at *
  generalize rowsD (Wb.edgeW (1 + 1)) = E2 at *
  generalize rowsD (Wb.webW (2 + 1)) = W3 at *
  generalize rowsD (Wb.edgeW (2 + 1)) = E3 at *
  generalize rowsD (Wb.webW 4) = W4 at *
  generalize rowsD (Wb.edgeW 4) = E4 at *
  generalize ((s1 + 1 : Nat) : Int) = S1 at *
  generalize ((s2 + 1 : Nat) : Int) = S2 at *
  generalize callM (run K 39) = Γ at *
  exact ⟨_, by simp [b_Llaw, forR, forL, ou, c1, t1, t2, t3, d1, cw, ce, hr8, e8, d2, hs1, b1, d3, hs2, b2]; rfl⟩
theorem law_true (K : Nat) (hK : Big K) (ns : List Int) (hl : ns.length ≤ 63) : ∃ h, callF gg (xs0 K) tab 40 i_Llaw [.fl (ns.map D.int)] [] = .ok (.bl true) h := by
  suffices ∃ h, run K 40 i_Llaw [.fl (ns.map D.int)] [] = .ok (.bl true) h from this
  exact w_law K (Nat.le_trans (by decide +kernel) hK) ns
end Mi

set_option Elab.async false
set_option linter.all false
set_option maxRecDepth 100000
open PySem PySem.W PyProof.Rows
set_option maxHeartbeats 0 in
theorem PySem.Challenge.cw_drawnturns_k60_whole_main_just_one_has_a_holds : PySem.Challenge.rw_drawnturns_k60_whole_main_just_one_has_a.Holds := by
  w_on; o_law; k_head; (case hw => w_witness2)
  k_fill
  obtain ⟨Kw, hKw⟩ := Mi.big_ex
  refine Mi.walk_ofE Mi.exsL (l := PySem.Challenge.rw_drawnturns_k60_whole_main_just_one_has_a) (n := 63) (k := 40) (x := "law") (y := "script") (i := 24) (T := Mi.tb) (G := Mi.gg) (tab := Mi.tab) (Xs0 := Mi.xs0 Kw) rfl (by decide) rfl ⟨rfl, by decide, by decide⟩ (fun w h Y => PySem.W.kIn_of Y) rfl rfl ?F (Mi.law_true Kw hKw)
  case F =>
    intro w mg h KX G
    refine' Mi.prog_mk Kw KX G ?a0 ?l0 ?c0 ?k0 ?a1 ?l1 ?c1 ?k1 ?a2 ?l2 ?c2 ?k2 ?a3 ?l3 ?c3 ?k3 ?a4 ?l4 ?c4 ?k4 ?a5 ?l5 ?c5 ?k5 ?a6 ?l6 ?c6 ?k6 ?a7 ?l7 ?c7 ?k7 ?a8 ?l8 ?c8 ?k8 ?a9 ?l9 ?c9 ?k9 ?a10 ?l10 ?c10 ?k10 ?a11 ?l11 ?c11 ?k11 ?a12 ?l12 ?c12 ?k12 ?a13 ?l13 ?c13 ?k13 ?a14 ?l14 ?c14 ?k14 ?a15 ?l15 ?c15 ?k15 ?a16 ?l16 ?c16 ?k16 ?a17 ?l17 ?c17 ?k17 ?a18 ?l18 ?c18 ?k18 ?a19 ?l19 ?c19 ?k19 ?a20 ?l20 ?c20 ?k20 ?a21 ?l21 ?c21 ?k21 ?a22 ?l22 ?c22 ?k22 ?a23 ?l23 ?c23 ?k23 ?a24 ?l24 ?c24 ?k24 ?z0 ?z1 ?z2 ?z3 ?z4 ?z5 ?z6 ?z7  ?xa0 ?xo0 ?xr0 ?xb0 ?xe0 ?xt0 ?xk0 ?xi0 ?xu0 ?xl0 ?xd0 ?xj0 ?xv0 ?xf0 ?xw0 ?xm0 ?xp0 ?xy0 ?xz0 ?xg0 ?xx0_0
    (case a0 => k_is); (case l0 => k_is); (case c0 => k_is); (case k0 => k_is); (case a1 => k_is); (case l1 => k_is); (case c1 => k_is); (case k1 => k_is); (case a2 => k_is); (case l2 => k_is); (case c2 => k_is); (case k2 => k_is); (case a3 => k_is); (case l3 => k_is); (case c3 => k_is); (case k3 => k_is); (case a4 => k_is); (case l4 => k_is); (case c4 => k_is); (case k4 => k_is); (case a5 => k_is); (case l5 => k_is); (case c5 => k_is); (case k5 => k_is); (case a6 => k_is); (case l6 => k_is); (case c6 => k_is); (case k6 => k_is); (case a7 => k_is); (case l7 => k_is); (case c7 => k_is); (case k7 => k_is); (case a8 => k_is); (case l8 => k_is); (case c8 => k_is); (case k8 => k_is); (case a9 => k_is); (case l9 => k_is); (case c9 => k_is); (case k9 => k_is); (case a10 => k_is); (case l10 => k_is); (case c10 => k_is); (case k10 => k_is); (case a11 => k_is); (case l11 => k_is); (case c11 => k_is); (case k11 => k_is); (case a12 => k_is); (case l12 => k_is); (case c12 => k_is); (case k12 => k_is); (case a13 => k_is); (case l13 => k_is); (case c13 => k_is); (case k13 => k_is); (case a14 => k_is); (case l14 => k_is); (case c14 => k_is); (case k14 => k_is); (case a15 => k_is); (case l15 => k_is); (case c15 => k_is); (case k15 => k_is); (case a16 => k_is); (case l16 => k_is); (case c16 => k_is); (case k16 => k_is); (case a17 => k_is); (case l17 => k_is); (case c17 => k_is); (case k17 => k_is); (case a18 => k_is); (case l18 => k_is); (case c18 => k_is); (case k18 => k_is); (case a19 => k_is); (case l19 => k_is); (case c19 => k_is); (case k19 => k_is); (case a20 => k_is); (case l20 => k_is); (case c20 => k_is); (case k20 => k_is); (case a21 => k_is); (case l21 => k_is); (case c21 => k_is); (case k21 => k_is); (case a22 => k_is); (case l22 => k_is); (case c22 => k_is); (case k22 => k_is); (case a23 => k_is); (case l23 => k_is); (case c23 => k_is); (case k23 => k_is); (case a24 => k_is); (case l24 => k_is); (case c24 => k_is); (case k24 => k_is)
    (case z0 => k_is); (case z1 => k_is); (case z2 => k_is); (case z3 => k_is); (case z4 => k_is); (case z5 => k_is); (case z6 => k_is); (case z7 => k_is)
    (case xa0 => k_is); (case xo0 => k_is); (case xr0 => decide +kernel); (case xb0 => k_is); (case xe0 => k_is); (case xt0 => k_is); (case xk0 => k_is); (case xi0 => k_is); (case xu0 => k_is); (case xl0 => k_is); (case xd0 => k_is); (case xj0 => k_is); (case xv0 => rfl); (case xf0 => decide +kernel); (case xw0 => k_is); (case xm0 => k_is); (case xp0 => kernel_rfl); (case xy0 => k_is); (case xz0 => k_is); (case xg0 => k_is); (case xx0_0 => kernel_rfl)
