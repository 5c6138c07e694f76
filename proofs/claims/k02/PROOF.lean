import PyProof.Rows.All
import Wide.All
import OpenK.AllK
import Wide.FinOn
import HandS.ForMost
import HandS.Exc
import HandS.TryOnly
import HandS.CallSlots
import HandS.ExcSuper
import HandS.Deep
import HandS.Walk
import HandS.Wide
import HandS.TupAny
import HandS.IsInst
import HandS.TupLe
import HandS.Text
import HandS.Strs
import HandS.Replace
import HandS.Zip
import HandS.TupMul
import PyProof.ReprRoads
import PyProof.EqAt
import PyProof.NeData
import HandS.Style
import HandS.SortInts
import HandS.RaiseMore
import HandS.More
import HandS.SortOrd
import HandS.NamedTupSort
import KE.KSortTupAny
import KE.KTupSum
import PyProof.DictTruth
import HandS.ExcOwn
import HandS.WordsExc
import HandS.SetFor
import HandS.Conv
import KE.GoesEnum
import KE.GoesMore
import HandS.Small
import HandS.ExcIs
import HandS.ExcInit
import KE.KExcSuper
import KE.KExcMake
import KE.KSuper
import PyProof.ReprBulk
import PySem.Challenge.RW_drawnturns_k02_whole_cells_taken_and_fil
set_option Elab.async false
set_option linter.all false
set_option maxRecDepth 100000
/-! Mini: an own small AST, own data, an interpreter. -/
namespace Mi
open PySem

/-! ### data -/
inductive D where
  | non | bl (b : Bool) | int (i : Int) | str (x : Str) | tup (ds : List D) | ref (n : Nat) | lv (ds : List D) | fl (ds : List D)
instance : Inhabited D := ⟨.non⟩
mutual
def D.beq : D → D → Bool
  | .non, .non => true
  | .bl a, .bl b => decide (a = b)
  | .int a, .int b => decide (a = b)
  | .str a, .str b => decide (a = b)
  | .ref a, .ref b => decide (a = b)
  | .tup a, .tup b => D.beqL a b
  | .lv a, .lv b => D.beqL a b
  | .fl a, .fl b => D.beqL a b
  | _, _ => false
def D.beqL : List D → List D → Bool
  | [], [] => true
  | a :: as, b :: bs => D.beq a b && D.beqL as bs
  | _, _ => false
end
mutual
theorem D.beq_refl : ∀ a : D, D.beq a a = true
  | .non => by simp [D.beq]
  | .bl _ => by simp [D.beq]
  | .int _ => by simp [D.beq]
  | .str _ => by simp [D.beq]
  | .ref _ => by simp [D.beq]
  | .tup a => by simp [D.beq, D.beqL_refl a]
  | .lv a => by simp [D.beq, D.beqL_refl a]
  | .fl a => by simp [D.beq, D.beqL_refl a]
theorem D.beqL_refl : ∀ a : List D, D.beqL a a = true
  | [] => by simp [D.beqL]
  | a :: as => by simp [D.beqL, D.beq_refl a, D.beqL_refl as]
end
mutual
theorem D.eq_of_beq : ∀ a b : D, D.beq a b = true → a = b
  | .non, b, h => by cases b <;> simp_all [D.beq]
  | .bl _, b, h => by cases b <;> simp_all [D.beq]
  | .int _, b, h => by cases b <;> simp_all [D.beq]
  | .str _, b, h => by cases b <;> simp_all [D.beq]
  | .ref _, b, h => by cases b <;> simp_all [D.beq]
  | .tup a, b, h => by
    cases b with
    | tup b => rw [D.eqL_of_beq a b (by simpa [D.beq] using h)]
    | _ => simp [D.beq] at h
  | .lv a, b, h => by
    cases b with
    | lv b => rw [D.eqL_of_beq a b (by simpa [D.beq] using h)]
    | _ => simp [D.beq] at h
  | .fl a, b, h => by
    cases b with
    | fl b => rw [D.eqL_of_beq a b (by simpa [D.beq] using h)]
    | _ => simp [D.beq] at h
theorem D.eqL_of_beq : ∀ a b : List D, D.beqL a b = true → a = b
  | [], b, h => by cases b <;> simp_all [D.beqL]
  | a :: as, b, h => by
    cases b with
    | nil => simp [D.beqL] at h
    | cons b bs =>
      have h' : D.beq a b = true ∧ D.beqL as bs = true := by simpa [D.beqL] using h
      rw [D.eq_of_beq a b h'.1, D.eqL_of_beq as bs h'.2]
end
instance : DecidableEq D := fun a b =>
  if h : D.beq a b = true then isTrue (D.eq_of_beq a b h) else isFalse (fun e => h (by rw [e]; exact D.beq_refl b))

mutual
def D.map (f : Nat → Nat) : D → D
  | .tup ds => .tup (D.mapL f ds)
  | .lv ds => .lv (D.mapL f ds)
  | .fl ds => .fl (D.mapL f ds)
  | .ref n => .ref (f n)
  | .non => .non
  | .bl b => .bl b
  | .int i => .int i
  | .str x => .str x
def D.mapL (f : Nat → Nat) : List D → List D
  | [] => []
  | d :: ds => D.map f d :: D.mapL f ds
end
mutual
def D.refs : D → List Nat
  | .tup ds => D.refsL ds
  | .lv ds => D.refsL ds
  | .fl ds => D.refsL ds
  | .ref n => [n]
  | .non => []
  | .bl _ => []
  | .int _ => []
  | .str _ => []
def D.refsL : List D → List Nat
  | [] => []
  | d :: ds => D.refs d ++ D.refsL ds
end

mutual
/-- no transient list in it -/
def D.st : D → Bool
  | .tup ds => D.stL ds
  | .fl ds => D.stL ds
  | .lv _ => false
  | .ref _ => true
  | .non => true
  | .bl _ => true
  | .int _ => true
  | .str _ => true
def D.stL : List D → Bool
  | [] => true
  | d :: ds => D.st d && D.stL ds
end
inductive O where
  | lst (ds : List D)
  | dic (kvs : List (L2.Key × D))
  | frd (kvs : List (L2.Key × D))
  | ins (c : Str) (fs : List (Str × D))
  deriving DecidableEq
instance : Inhabited O := ⟨.lst []⟩
abbrev Hm := List O

def kvMap {κ : Type} (f : D → D) : List (κ × D) → List (κ × D)
  | [] => []
  | (k, d) :: r => (k, f d) :: kvMap f r
def kvRefs {κ : Type} : List (κ × D) → List Nat
  | [] => []
  | (_, d) :: r => d.refs ++ kvRefs r
def O.map (f : Nat → Nat) : O → O
  | .lst ds => .lst (D.mapL f ds)
  | .dic kvs => .dic (kvMap (D.map f) kvs)
  | .frd kvs => .frd (kvMap (D.map f) kvs)
  | .ins c fs => .ins c (kvMap (D.map f) fs)
def O.refs : O → List Nat
  | .lst ds => D.refsL ds
  | .dic kvs => kvRefs kvs
  | .frd kvs => kvRefs kvs
  | .ins _ fs => kvRefs fs

/-! ### results -/
inductive R (α : Type) where
  | ok (a : α) (h : Hm)
  | ex (c : Str) (v : List (Str × D)) (h : Hm)
  | bad
def bnd {α β : Type} (r : R α) (f : α → Hm → R β) : R β :=
  match r with
  | .ok a h => f a h
  | .ex c v h => .ex c v h
  | .bad => .bad
@[simp] theorem bnd_ok {α β : Type} (a : α) (h : Hm) (f : α → Hm → R β) : bnd (.ok a h) f = f a h := rfl
@[simp] theorem bnd_ex {α β : Type} (c v) (h : Hm) (f : α → Hm → R β) : bnd (.ex c v h) f = .ex c v h := rfl
@[simp] theorem bnd_bad {α β : Type} (f : α → Hm → R β) : bnd .bad f = .bad := rfl
def gd {α : Type} (c : Bool) (r : R α) : R α := if c = true then r else .bad
@[simp] theorem gd_t {α : Type} (r : R α) : gd true r = r := rfl
@[simp] theorem gd_f {α : Type} (r : R α) : gd false r = .bad := rfl
def opt {α : Type} (o : Option α) (h : Hm) : R α := match o with | some a => .ok a h | none => .bad
@[simp] theorem opt_some {α : Type} (a : α) (h : Hm) : opt (some a) h = .ok a h := rfl
@[simp] theorem opt_none {α : Type} (h : Hm) : opt (none : Option α) h = .bad := rfl

/-- a transient list gets a place -/
def own (d : D) (h : Hm) : R D := match d with
  | .lv ds => .ok (.ref h.length) (h ++ [.lst ds])
  | d => .ok d h

/-! ### views -/
def seqOf (h : Hm) : D → Option (List D)
  | .tup ds => some ds
  | .lv ds => some ds
  | .fl ds => some ds
  | .ref n => match h[n]? with
    | some (.lst ds) => some ds
    | _ => none
  | _ => none
def lstOf (h : Hm) : D → Option (List D)
  | .lv ds => some ds
  | .fl ds => some ds
  | .ref n => match h[n]? with
    | some (.lst ds) => some ds
    | _ => none
  | _ => none
/-- a list of one's own -/
def wlsOf (h : Hm) : D → Option (List D)
  | .lv ds => some ds
  | .ref n => match h[n]? with
    | some (.lst ds) => some ds
    | _ => none
  | _ => none
def dicOf (h : Hm) : D → Option (List (L2.Key × D))
  | .ref n => match h[n]? with
    | some (.dic kvs) => some kvs
    | some (.frd kvs) => some kvs
    | _ => none
  | _ => none
def lookK : List (L2.Key × D) → L2.Key → Option D
  | [], _ => none
  | (k', d) :: r, k => if k' = k then some d else lookK r k
def keyOf : D → Option L2.Key
  | .int i => some (.inl i)
  | .str x => some (.inr x)
  | _ => none
def ofKey : L2.Key → D
  | .inl i => .int i
  | .inr x => .str x
/-- all of some -/
def allSome {α β : Type} (f : α → Option β) : List α → Option (List β)
  | [] => some []
  | d :: ds => match f d, allSome f ds with
    | some p, some ps => some (p :: ps)
    | _, _ => none
/-- the keys that are numbers -/
def keysI : List (L2.Key × D) → Option (List Int)
  | [] => some []
  | (.inl i, _) :: r => (keysI r).map (i :: ·)
  | (.inr _, _) :: _ => none
/-- a dict that is being walked -/
def frdOf (h : Hm) : D → Option (List (L2.Key × D))
  | .ref n => match h[n]? with
    | some (.frd kvs) => some kvs
    | _ => none
  | _ => none
def dic1K (ds : List D) (h : Hm) : Option (List (L2.Key × D)) := match ds with
  | [a, d] => (keyOf a).map fun k => [(k, d)]
  | _ => none
def keyPy : L2.Key → PyData
  | .inl i => .int i
  | .inr x => .str x
/-- the datum a value is, lists and dicts read -/
def pyOf : Nat → Hm → D → Option PyData
  | 0, _, d => match d with
    | .non => some .none
    | .bl b => some (.bool b)
    | .int i => some (.int i)
    | .str x => some (.str x)
    | _ => none
  | n + 1, h, d => match d with
    | .non => some .none
    | .bl b => some (.bool b)
    | .int i => some (.int i)
    | .str x => some (.str x)
    | .tup ds => (allSome (pyOf n h) ds).map .tuple
    | .lv ds => (allSome (pyOf n h) ds).map .list
    | .fl ds => (allSome (pyOf n h) ds).map .list
    | .ref k => match h[k]? with
      | some (.lst ds) => (allSome (pyOf n h) ds).map .list
      | some (.dic kvs) => (allSome (pyOf n h) (kvs.map (·.2))).map fun ps => .dict ((kvs.map fun q => keyPy q.1).zip ps)
      | _ => none
mutual
/-- the kit's test of a datum's shape, in a form that the kernel runs -/
def shQ : PyData → Nat → Bool
  | .none, _ => true
  | .bool _, _ => true
  | .int _, _ => true
  | .str x, _ => PyData.strOk x
  | .list xs, n => match n with
    | 0 => false
    | n + 1 => shQL xs n
  | .tuple xs, n => match n with
    | 0 => false
    | n + 1 => shQL xs n
  | .dict _, _ => false
def shQL : List PyData → Nat → Bool
  | [], _ => true
  | x :: xs, n => shQ x n && shQL xs n
end
mutual
theorem shQ_eq : ∀ (d : PyData) (n : Nat), shQ d n = (d.canLay0 && decide (d.depth ≤ n))
  | .none, n => by simp [shQ, PyData.canLay0, PyData.depth]
  | .bool _, n => by simp [shQ, PyData.canLay0, PyData.depth]
  | .int _, n => by simp [shQ, PyData.canLay0, PyData.depth]
  | .str x, n => by simp [shQ, PyData.canLay0, PyData.depth]
  | .list xs, 0 => by simp [shQ, PyData.canLay0, PyData.depth]
  | .list xs, n + 1 => by simp [shQ, PyData.canLay0, PyData.depth, shQL_eq xs n]
  | .tuple xs, 0 => by simp [shQ, PyData.canLay0, PyData.depth]
  | .tuple xs, n + 1 => by simp [shQ, PyData.canLay0, PyData.depth, shQL_eq xs n]
  | .dict _, n => by simp [shQ, PyData.canLay0]
theorem shQL_eq : ∀ (ds : List PyData) (n : Nat), shQL ds n = (PyData.canLayAll0 ds && decide (PyData.depthAll ds ≤ n))
  | [], n => by simp [shQL, PyData.canLayAll0, PyData.depthAll]
  | x :: xs, n => by
    simp only [shQL, PyData.canLayAll0, PyData.depthAll, shQ_eq x n, shQL_eq xs n, Nat.max_le, Bool.decide_and]
    cases PyData.canLay0 x <;> cases PyData.canLayAll0 xs <;> simp
end
def shp (d : PyData) : Bool := shQ d 64
theorem shp_eq (d : PyData) : shp d = SeqAt.shaped d := shQ_eq d 64
mutual
/-- the kit's equality of data, in a form that the kernel runs -/
def eqQ : PyData → PyData → Bool
  | .none, b => match b with
    | .none => true
    | _ => false
  | .bool a, b => match b with
    | .bool b => a == b
    | .int j => (if a then 1 else 0) == j
    | _ => false
  | .int i, b => match b with
    | .int j => decide (i = j)
    | .bool b => i == (if b then 1 else 0)
    | _ => false
  | .str x, b => match b with
    | .str y => x == y
    | _ => false
  | .list xs, b => match b with
    | .list ys => eqQL xs ys
    | _ => false
  | .tuple xs, b => match b with
    | .tuple ys => eqQL xs ys
    | _ => false
  | .dict _, _ => false
def eqQL : List PyData → List PyData → Bool
  | [], ys => match ys with
    | [] => true
    | _ => false
  | x :: xs, ys => match ys with
    | [] => false
    | y :: ys => eqQ x y && eqQL xs ys
end
mutual
theorem eqQ_eq : ∀ a b : PyData, eqQ a b = PyData.eqv a b
  | .none, b => by cases b <;> simp [eqQ, PyData.eqv]
  | .bool _, b => by cases b <;> simp [eqQ, PyData.eqv]
  | .int i, b => by cases b <;> simp [eqQ, PyData.eqv, Bool.beq_eq_decide_eq]
  | .str _, b => by cases b <;> simp [eqQ, PyData.eqv]
  | .list xs, b => by
    cases b with
    | list ys => simp only [eqQ, PyData.eqv]; exact eqQL_eq xs ys
    | _ => simp [eqQ, PyData.eqv]
  | .tuple xs, b => by
    cases b with
    | tuple ys => simp only [eqQ, PyData.eqv]; exact eqQL_eq xs ys
    | _ => simp [eqQ, PyData.eqv]
  | .dict _, b => by cases b <;> simp [eqQ, PyData.eqv]
theorem eqQL_eq : ∀ a b : List PyData, eqQL a b = PyData.eqvAll a b
  | [], b => by cases b <;> simp [eqQL, PyData.eqvAll]
  | x :: xs, b => by
    cases b with
    | nil => simp [eqQL, PyData.eqvAll]
    | cons y ys => simp only [eqQL, PyData.eqvAll]; rw [eqQ_eq x y, eqQL_eq xs ys]
end

/-! ### operators, by values -/
def mulOk (i j : Int) : Bool := decide (i.natAbs < 2 ^ 64) || decide (j.natAbs < 2 ^ 64) || decide (i.natAbs.log2 + j.natAbs.log2 < 100000000)
def divOk (j : Int) : Bool := decide (0 < j) && decide (j.natAbs.log2 < 9000)
def powOk (i j : Int) : Bool := decide (0 ≤ j) && decide (j ≤ 1000000) && decide (i.natAbs < 2 ^ 64)
/-- xs k times -/
def reps {α : Type} (xs : List α) (k : Nat) : List α := (List.replicate k xs).flatten
def repOk (n : Nat) (k : Int) : Bool := decide (k.natAbs < 2 ^ 63) && decide (n * k.toNat ≤ sizeLine)
def addL (h : Hm) (x y : D) : Option D := match wlsOf h x, wlsOf h y with
  | some a, some b => if a.length + b.length ≤ sizeLine then some (.lv (a ++ b)) else none
  | _, _ => none
def binD (h : Hm) (o : Operator) (x y : D) : Option D := match o with
  | .Add => match x, y with
    | .int i, .int j => some (.int (i + j))
    | .str a, .str b => if a.length + b.length ≤ sizeLine then some (.str (a ++ b)) else none
    | .tup a, .tup b => if a.length + b.length ≤ sizeLine then some (.tup (a ++ b)) else none
    | .lv a, y => addL h (.lv a) y
    | .ref n, y => addL h (.ref n) y
    | _, _ => none
  | .Sub => match x, y with
    | .int i, .int j => some (.int (i - j))
    | _, _ => none
  | .Mult => match x, y with
    | .int i, .int j => if mulOk i j = true then some (.int (i * j)) else none
    | .tup a, .int k => if repOk a.length k = true then some (.tup (reps a k.toNat)) else none
    | .str a, .int k => if repOk a.length k = true then some (.str ⟨(reps a.cps.toList k.toNat).toArray⟩) else none
    | .lv a, .int k => if repOk a.length k = true then some (.lv (reps a k.toNat)) else none
    | .ref n, .int k => match wlsOf h (.ref n) with
      | some a => if repOk a.length k = true then some (.lv (reps a k.toNat)) else none
      | none => none
    | _, _ => none
  | .FloorDiv => match x, y with
    | .int i, .int j => if divOk j = true then some (.int (i / j)) else none
    | _, _ => none
  | .Mod => match x, y with
    | .int i, .int j => if 0 < j then some (.int (i % j)) else none
    | _, _ => none
  | .Pow => match x, y with
    | .int i, .int j => if powOk i j = true then some (.int (i ^ j.toNat)) else none
    | _, _ => none
  | .LShift => match x, y with
    | .int i, .int j => if powOk i j = true then some (.int (i * 2 ^ j.toNat)) else none
    | _, _ => none
  | .RShift => match x, y with
    | .int i, .int j => if 0 ≤ j then some (.int (i / 2 ^ j.toNat)) else none
    | _, _ => none
  | .BitAnd => match x, y with
    | .int i, .int j => some (.int (Builtin.bitAnd i j))
    | _, _ => none
  | .BitOr => match x, y with
    | .int i, .int j => some (.int (Builtin.bitOr i j))
    | _, _ => none
  | _ => none

/-- how deep values are read -/
abbrev deepN : Nat := 40
/-- a list beside one without items, a tuple beside one without items -/
def eqE (h : Hm) (x y : D) : Option Bool := match y with
  | .lv [] => (lstOf h x).map fun ds => ds.isEmpty
  | .tup [] => match x with
    | .tup ds => some ds.isEmpty
    | _ => none
  | _ => none
def eqD (h : Hm) (x y : D) : Option Bool := match x, y with
  | .int i, .int j => some (decide (i = j))
  | .str x, .str y => some (x == y)
  | x, y => match pyOf deepN h x, pyOf deepN h y with
    | some a, some b => if shp a = true ∧ shp b = true then some (eqQ a b) else eqE h x y
    | _, _ => eqE h x y
def inD (h : Hm) (x y : D) : Option Bool := match y with
  | .str s => match x with
    | .str z => some (!(Builtin.Str.occurrences s z 0 s.length 1).isEmpty)
    | _ => none
  | y => match dicOf h y with
    | some kvs => (keyOf x).map fun k => (lookK kvs k).isSome
    | none => match pyOf deepN h x, pyOf deepN h y with
      | some d, some (.list ds) => if shp d = true ∧ shp (.list ds) = true then some (ds.any fun z => eqQ z d) else none
      | some d, some (.tuple ds) => if shp d = true ∧ shp (.tuple ds) = true then some (ds.any fun z => eqQ z d) else none
      | _, _ => none
/-- tuples of whole numbers in order -/
def intsOf : List D → Option (List Int)
  | [] => some []
  | .int i :: ds => (intsOf ds).map (i :: ·)
  | _ :: _ => none
def ltD (x y : D) : Option Bool := match x, y with
  | .int i, .int j => some (decide (i < j))
  | .tup a, .tup b => match intsOf a, intsOf b with
    | some ns, some ms => some (HT.lexLt ns ms)
    | _, _ => none
  | _, _ => none
def leD (x y : D) : Option Bool := match x, y with
  | .int i, .int j => some (decide (i ≤ j))
  | .tup a, .tup b => match intsOf a, intsOf b with
    | some ns, some ms => some (Ob.lexAt (fun j => decide (ns.getD j 0 = ms.getD j 0)) (fun j => decide (ns.getD j 0 ≤ ms.getD j 0)) (decide (ns.length ≤ ms.length)) 0 (min ns.length ms.length))
    | _, _ => none
  | _, _ => none
def gtD (x y : D) : Option Bool := match x, y with
  | .int i, .int j => some (decide (j < i))
  | _, _ => none
def geD (x y : D) : Option Bool := match x, y with
  | .int i, .int j => some (decide (j ≤ i))
  | _, _ => none
def isN : D → Bool
  | .non => true
  | _ => false
/-- truth values are themselves -/
def isB (x y : D) : Option Bool := match x, y with
  | .bl a, .bl b => some (decide (a = b))
  | _, _ => none
def cmpD (h : Hm) (o : CmpOp) (x y : D) : Option Bool := match o with
  | .Eq => eqD h x y
  | .NotEq => (eqD h x y).map (!·)
  | .Lt => ltD x y
  | .LtE => leD x y
  | .Gt => gtD x y
  | .GtE => geD x y
  | .Is => if isN y = true then some (isN x) else isB x y
  | .IsNot => if isN y = true then some (!isN x) else (isB x y).map (!·)
  | .In => inD h x y
  | .NotIn => (inD h x y).map (!·)
def truth (h : Hm) : D → Option Bool
  | .bl b => some b
  | .int i => some (i != 0)
  | .non => some false
  | .str x => if x.length ≤ sizeLine then some ((x.length : Int) != 0) else none
  | .tup ds => some (!ds.isEmpty)
  | d => (lstOf h d).map fun ds => !ds.isEmpty

/-- places -/
def ixD (h : Hm) (o i : D) : Option D := match o with
  | .tup ds => match i with
    | .int i => L2.atI ds i
    | _ => none
  | .str x => match i with
    | .int i => if x.length ≤ sizeLine then (L2.atI x.cps.toList i).map fun c => .str ⟨#[c]⟩ else none
    | _ => none
  | .lv ds => match i with
    | .int i => L2.atI ds i
    | _ => none
  | .fl ds => match i with
    | .int i => L2.atI ds i
    | _ => none
  | .ref n => match h[n]? with
    | some (.lst ds) => match i with
      | .int i => L2.atI ds i
      | _ => none
    | some (.dic kvs) => match keyOf i with
      | some k => lookK kvs k
      | none => none
    | some (.frd kvs) => match keyOf i with
      | some k => lookK kvs k
      | none => none
    | _ => none
  | _ => none
def cutL {α : Type} (xs : List α) (lo hi : Option Int) : List α := (xs.drop (HT.sIx xs.length 0 lo)).take (HT.sIx xs.length xs.length hi - HT.sIx xs.length 0 lo)
def ixI : Option D → Option (Option Int)
  | none => some none
  | some (.int i) => some (some i)
  | _ => none
def cutD (h : Hm) (o : D) (lo hi : Option Int) : Option D := match o with
  | .tup ds => some (.tup (cutL ds lo hi))
  | .str x => if x.length ≤ sizeLine then some (.str ⟨(cutL x.cps.toList lo hi).toArray⟩) else none
  | o => (lstOf h o).map fun ds => .lv (cutL ds lo hi)
def slD (h : Hm) (o : D) (lo hi : Option D) : Option D := match ixI lo, ixI hi with
  | some lo, some hi => cutD h o lo hi
  | _, _ => none
def revD (h : Hm) (o : D) : Option D := match o with
  | .tup ds => some (.tup ds.reverse)
  | o => (lstOf h o).map fun ds => .lv ds.reverse

/-- the signs of a text, each a text -/
def chrs (x : Str) : List D := x.cps.toList.map fun c => .str ⟨#[c]⟩
def strOf : D → Option Str
  | .str x => some x
  | _ => none
/-! ### built-ins, by values -/
inductive Bi where
  | len | abs | int | str | bool | repr | tuple | list | dict | sum | min | max | all | sorted | set
  | isTuple | isInt | isStr | isBool | lrange | srange
  /-- len of a dict, sum of a tuple -/
  | lend | sumt
  /-- tuple(range(..)) -/
  | trange
def dicN (h : Hm) : D → Option Nat
  | .ref n => match h[n]? with
    | some (.dic kvs) => if kvs.length ≤ sizeLine then some kvs.length else none
    | _ => none
  | _ => none
def lenD (h : Hm) (d : D) : Option Nat := match d with
  | .str x => if x.length ≤ sizeLine then some x.length else none
  | d => (seqOf h d).map (·.length)
def isTup : D → Bool
  | .tup _ => true
  | _ => false
def isIn : D → Bool
  | .int _ => true
  | .bl _ => true
  | _ => false
def isSt : D → Bool
  | .str _ => true
  | _ => false
def isBl : D → Bool
  | .bl _ => true
  | _ => false
/-- s, s + 1, .. (n of them) -/
def upto (s : Int) : Nat → List D
  | 0 => []
  | n + 1 => .int s :: upto (s + 1) n
def lookS : List (Str × Int) → Str → Option Int
  | [], _ => none
  | (k, i) :: r, x => if k = x then some i else lookS r x
def kgetD (kvs : List (Str × Int)) (ds : List D) : Option D := match ds with
  | [.str s, .int d] => some (.int ((lookS kvs s).getD d))
  | _ => none
def reprOf (h : Hm) (d : D) : Option D := match pyOf deepN h d with
  | some p => if p.showable = true ∧ shp p = true ∧ p.shown.length ≤ sizeLine then some (.str p.shown) else
    if p.showable = true ∧ p.depth ≤ 64 ∧ p.shown.length ≤ sizeLine then some (.str p.shown) else none
  | none => none
def blsOf : List D → Option (List Bool)
  | [] => some []
  | .bl b :: ds => (blsOf ds).map (b :: ·)
  | _ => none
def sumD (h : Hm) (d : D) : Option D := match lstOf h d with
  | some ds => (intsOf ds).map fun ns => .int ns.sum
  | none => none
def insI (x : Int) : List Int → List Int
  | [] => [x]
  | y :: ys => if x ≤ y then x :: y :: ys else y :: insI x ys
def sortI : List Int → List Int
  | [] => []
  | x :: xs => insI x (sortI xs)
def insT (x : List Int) : List (List Int) → List (List Int)
  | [] => [x]
  | y :: ys => if HT.lexLt y x then y :: insT x ys else x :: y :: ys
def sortT : List (List Int) → List (List Int)
  | [] => []
  | x :: xs => insT x (sortT xs)
def tupI : D → Option (List Int)
  | .tup (d :: ds) => intsOf (d :: ds)
  | _ => none
def tupsI : List D → Option (List (List Int))
  | [] => some []
  | d :: ds => match tupI d, tupsI ds with
    | some ns, some nss => some (ns :: nss)
    | _, _ => none
def maxI (x : Int) : List Int → Int
  | [] => x
  | y :: ys => maxI (if y > x then y else x) ys
def minI (x : Int) : List Int → Int
  | [] => x
  | y :: ys => minI (if y < x then y else x) ys
def lrg (a b : Int) : Option D := if a.natAbs < 2 ^ 62 ∧ b.natAbs < 2 ^ 62 ∧ (b - a).toNat ≤ 16777216 then some (.lv (upto a (b - a).toNat)) else none
def bi1 (h : Hm) (f : Bi) (d : D) : Option D := match f with
  | .lrange => match d with
    | .int n => lrg 0 n
    | _ => none
  | .len => (lenD h d).map fun (n : Nat) => D.int (n : Int)
  | .abs => match d with
    | .int i => some (.int (if i < 0 then -i else i))
    | _ => none
  | .int => match d with
    | .int i => some (.int i)
    | .bl b => some (.int (if b = true then 1 else 0))
    | _ => none
  | .str => match d with
    | .int i => if i.natAbs.log2 < 1920 then some (.str (toString i)) else none
    | _ => none
  | .repr => reprOf h d
  | .tuple => (seqOf h d).map .tup
  | .list => match strOf d with
    | some x => if x.length ≤ sizeLine then some (.lv (chrs x)) else none
    | none => (seqOf h d).map .lv
  | .sum => sumD h d
  | .trange => match d with
    | .int n => match lrg 0 n with
      | some (.lv ds) => some (.tup ds)
      | _ => none
    | _ => none
  | .lend => (dicN h d).map fun (n : Nat) => D.int (n : Int)
  | .sumt => match d with
    | .tup ds => (intsOf ds).map fun ns => .int ns.sum
    | _ => none
  | .all => match lstOf h d with
    | some ds => (blsOf ds).map fun bs => .bl (bs.all id)
    | none => none
  | .sorted => match seqOf h d with
    | some ds => match intsOf ds with
      | some ns => some (.lv ((sortI ns).map .int))
      | none => (tupsI ds).map fun nss => .lv ((sortT nss).map fun ns => .tup (ns.map .int))
    | none => match dicOf h d with
      | some kvs => match keysI kvs with
        | some ns => if ns.length ≤ sizeLine then some (.lv ((sortI ns).map .int)) else none
        | none => none
      | none => none
  | .max => match lstOf h d with
    | some ds => match intsOf ds with
      | some (n :: ns) => some (.int (maxI n ns))
      | _ => none
    | none => none
  | .min => match lstOf h d with
    | some ds => match intsOf ds with
      | some (n :: ns) => some (.int (minI n ns))
      | _ => none
    | none => none
  | .isTuple => some (.bl (isTup d))
  | .isInt => some (.bl (isIn d))
  | .isStr => some (.bl (isSt d))
  | .isBool => some (.bl (isBl d))
  | _ => none
def biD (h : Hm) (f : Bi) (ds : List D) : Option D := match ds with
  | [d] => bi1 h f d
  | [.int i, .int j] => match f with
    | .min => some (.int (if j < i then j else i))
    | .max => some (.int (if j > i then j else i))
    | .lrange => lrg i j
    | _ => none
  | _ => none

/-! ### methods of built-in types, by values: the answer and the heap behind -/
inductive Me where
  | append | extend | pop | insert | get | count | index | tindex | sindex | join | split | setdefault
/-- whose arguments get a place -/
def Me.owns : Me → Bool
  | .append => true
  | .insert => true
  | .setdefault => true
  | .get => true
  | _ => false
def txts : List D → Option (List Str)
  | [] => some []
  | .str x :: ds => (txts ds).map (x :: ·)
  | _ => none
/-- put a key -/
def putK (k : L2.Key) (d : D) (kvs : List (L2.Key × D)) : List (L2.Key × D) :=
  if (kvs.any fun kv => decide (kv.1 = k)) = true then kvs.map (fun kv => if kv.1 = k then (kv.1, d) else kv) else kvs ++ [(k, d)]
def eraseAt {α : Type} (xs : List α) (i : Nat) : List α := xs.take i ++ xs.drop (i + 1)
def countL (h : Hm) (x : D) : List D → Option Nat
  | [] => some 0
  | d :: ds => match eqD h d x, countL h x ds with
    | some b, some n => some (if b = true then n + 1 else n)
    | _, _ => none
def indexL (h : Hm) (x : D) : List D → Option Nat
  | [] => none
  | d :: ds => match eqD h d x with
    | some true => some 0
    | some false => (indexL h x ds).map (· + 1)
    | none => none
def meL (h : Hm) (n : Nat) (xs : List D) (f : Me) (ds : List D) : R D := match f with
  | .append => match ds with
    | [d] => if xs.length < sizeLine then .ok .non (h.set n (.lst (xs ++ [d]))) else .bad
    | _ => .bad
  | .extend => match ds with
    | [d] => match wlsOf h d with
      | some ys => if xs.length + ys.length ≤ sizeLine then .ok .non (h.set n (.lst (xs ++ ys))) else .bad
      | none => .bad
    | _ => .bad
  | .pop => match ds with
    | [] => match xs[xs.length - 1]? with
      | some d => .ok d (h.set n (.lst xs.dropLast))
      | none => .bad
    | [.int i] => if 0 ≤ i ∧ i < xs.length ∧ i < 2 ^ 63 then match xs[i.toNat]? with
        | some d => .ok d (h.set n (.lst (xs.eraseIdx i.toNat)))
        | none => .bad
      else .bad
    | _ => .bad
  | .insert => match ds with
    | [.int i, d] => if 0 ≤ i ∧ i < 2 ^ 63 ∧ xs.length < sizeLine then .ok .non (h.set n (.lst (xs.take i.toNat ++ [d] ++ xs.drop i.toNat))) else .bad
    | _ => .bad
  | _ => .bad
def getD (h : Hm) (o : D) (ds : List D) : R D := match dicOf h o with
  | some kvs => match ds with
    | [k] => match keyOf k with
      | some k => .ok ((lookK kvs k).getD .non) h
      | none => .bad
    | [k, d] => match keyOf k with
      | some k => .ok ((lookK kvs k).getD d) h
      | none => .bad
    | _ => .bad
  | none => .bad
/-- t.count(x) of a tuple -/
def countD (h : Hm) (o : D) (ds : List D) : Option D := match ds with
  | [x] => match pyOf deepN h x, pyOf deepN h o with
    | some d, some (.tuple es) => if shp d = true ∧ shp (.tuple es) = true then some (.int ((es.countP fun y => eqQ y d : Nat) : Int)) else none
    | _, _ => none
  | _ => none
/-- l.index(x) of a list -/
def indexD (h : Hm) (o : D) (ds : List D) : Option D := match ds with
  | [x] => match pyOf deepN h x, pyOf deepN h o with
    | some d, some (.list es) => if shp d = true ∧ shp (.list es) = true then (es.findIdx? fun y => eqQ y d).map fun (j : Nat) => .int j else none
    | _, _ => none
  | _ => none
/-- t.index(x) of a tuple of texts -/
def tindexD (o : D) (ds : List D) : Option D := match o, ds with
  | .tup es, [.str x] => match txts es with
    | some ys => (ys.findIdx? fun y => decide (y = x)).map fun (j : Nat) => .int j
    | none => none
  | _, _ => none
/-- s.index(x) of a text -/
def sindexD (o : D) (ds : List D) : Option D := match o, ds with
  | .str a, [.str b] => match Builtin.Str.occurrences a b 0 a.length 1 with
    | i :: _ => some (.int (i : Nat))
    | [] => none
  | _, _ => none
/-- s.join(l) -/
def joinD (h : Hm) (o : D) (ds : List D) : Option D := match o, ds with
  | .str a, [d] => match seqOf h d with
    | some es => match txts es with
      | some ys => if (ys.map (·.length)).sum + ys.length * a.length ≤ 16777216 then some (.str (Txt.join a ys)) else none
      | none => none
    | none => none
  | _, _ => none
/-- s.split(t) -/
def splitD (o : D) (ds : List D) : Option D := match o, ds with
  | .str a, [.str b] => if (b.length == 0) = false ∧ a.length + 2 ≤ sizeLine then some (.lv ((Txt.split a b).map .str)) else none
  | _, _ => none
def meD (h : Hm) (f : Me) (o : D) (ds : List D) : R D := match f with
  | .get => getD h o ds
  | .count => opt (countD h o ds) h
  | .index => opt (indexD h o ds) h
  | .tindex => opt (tindexD o ds) h
  | .sindex => opt (sindexD o ds) h
  | .join => opt (joinD h o ds) h
  | .split => opt (splitD o ds) h
  | f => match o with
    | .ref n => match h[n]? with
      | some (.lst xs) => meL h n xs f ds
      | _ => .bad
    | _ => .bad

/-- the receiver is of the kind that has the method -/
def meOk (h : Hm) (f : Me) (o : D) : Bool := match f with
  | .get => (dicOf h o).isSome
  | .count => isTup o
  | .tindex => isTup o
  | .index => (lstOf h o).isSome
  | .sindex => isSt o
  | .join => isSt o
  | .split => isSt o
  | _ => match o with
    | .ref n => match h[n]? with
      | some (.lst _) => true
      | _ => false
    | _ => false

/-! ### the syntax -/
mutual
inductive E where
  | c (d : D)
  | v (i : Nat)
  | g (x : Nat)
  | bin (o : Operator) (a b : E)
  | neg (a : E)
  | not (a : E)
  | cmp (o : CmpOp) (a b : E)
  | chain (o p : CmpOp) (a b c : E)
  | and (a b : E)
  | or (a b : E)
  | ife (t a b : E)
  | tup (es : Es)
  | lst (es : Es)
  | dic (ks : List L2.Key) (vs : Es)
  | dic1 (es : Es)
  | comp (e : E) (t : T) (i : I) (fs : Es) (own : List (Str × Nat))
  | ix (a i : E)
  | sl (a : E) (lo hi : Oe)
  | rev (a : E)
  | call (f : Nat) (es : Es)
  | callk (f : Nat) (es : Es) (kes : Es) (pm : List Nat)
  | bi (f : Bi) (es : Es)
  | me (f : Me) (o : E) (es : Es)
  /-- .get of a dict of the module, which is known -/
  | kget (x : Str) (kvs : List (Str × Int)) (es : Es)
inductive Es where
  | nil | cons (e : E) (es : Es)
inductive Oe where
  | no | so (e : E)
inductive I where
  | of (e : E) | keys (e : E) | rng (es : Es) | enum (e : E) | zip (a b : E) | items (e : E) | vals (e : E) | sof (e : E) | senum (e : E)
inductive T where
  | n (i : Nat) | t (ts : Ts)
inductive Ts where
  | nil | cons (t : T) (ts : Ts)
end
mutual
inductive St where
  | asg (t : T) (e : E)
  | asgI (o i e : E)
  | asg2I (o i o2 i2 e : E)
  | asgL (ts : Ts) (e : E)
  | stop
  | aug (o : Operator) (i : Nat) (e : E)
  | augI (op : Operator) (o i e : E)
  | ex (e : E)
  | ret (e : E)
  | ret0
  | ifs (t : E) (a b : Ss)
  | for_ (t : T) (i : I) (b : Ss)
  | lock (v : Nat) (s : St)
  | while_ (t : E) (b : Ss)
  | raise (c : Nat) (es : Es)
  | try_ (b : Ss) (c : Nat) (s : Ss)
  | pass | brk | cnt
inductive Ss where
  | nil | cons (s : St) (ss : Ss)
end

/-! ### the interpreter -/
abbrev Env := List (Option D)
inductive Rs where
  | nx (ρ : Env) (h : Hm)
  | rt (d : D) (h : Hm)
  | bk (ρ : Env) (h : Hm)
  | ct (ρ : Env) (h : Hm)
  | xx (c : Str) (v : List (Str × D)) (ρ : Env) (h : Hm)
  | bad
/-- a source that has to stay as it is while it is walked -/
abbrev Src := Option (Nat × O)
def srcOk (s : Src) (h : Hm) : Bool := match s with
  | none => true
  | some (n, o) => decide (h[n]? = some o)
abbrev Gm := Nat → List D → Hm → R D

mutual
def asgT : T → D → Env → Option Env
  | .n i, d, ρ => if i < ρ.length then some (ρ.set i (some d)) else none
  | .t ts, .tup ds, ρ => asgTs ts ds ρ
  | .t _, _, _ => none
def asgTs : Ts → List D → Env → Option Env
  | .nil, [], ρ => some ρ
  | .cons t ts, d :: ds, ρ => match asgT t d ρ with
    | some ρ' => asgTs ts ds ρ'
    | none => none
  | .nil, _ :: _, _ => none
  | .cons _ _, [], _ => none
end
def wipeD (ρ : Env) : List Nat → Env
  | [] => ρ
  | v :: vs => (wipeD ρ vs).set v none
/-- where no error may leave -/
def nox {α : Type} (r : R α) : R α := match r with
  | .ex _ _ _ => .bad
  | r => r
mutual
def T.slots : T → List Nat
  | .n i => [i]
  | .t ts => Ts.slots ts
def Ts.slots : Ts → List Nat
  | .nil => []
  | .cons t ts => T.slots t ++ Ts.slots ts
end
/-- one turn of a comprehension -/
def stepC (fF : Env → Hm → R Bool) (fE : Env → Hm → R D) (t : T) (ρ : Env) (vs : List Nat) (d : D) (h : Hm) : R (Option D) := nox (match asgT t d (wipeD ρ vs) with
  | some ρ' => bnd (fF ρ' h) fun k h => if k = true then bnd (fE ρ' h) fun x h => bnd (own x h) fun x h => .ok (some x) h else .ok none h
  | none => .bad)
/-- the test of an expression's value -/
def truF (f : Env → Hm → R D) : Env → Hm → R Bool := fun ρ h => bnd (f ρ h) fun d h => opt (truth h d) h
/-- a turn of a for -/
def forS (body : Env → Hm → Rs) (t : T) (d : D) (ρ : Env) (h : Hm) : Rs := match asgT t d ρ with
  | some ρ' => body ρ' h
  | none => .bad
/-- the turns of a comprehension -/
def compL (step : D → Hm → R (Option D)) (src : Src) : List D → Hm → R (List D)
  | [], h => .ok [] h
  | d :: ds, h => bnd (step d h) fun r h1 => gd (srcOk src h1) <| bnd (compL step src ds h1) fun rs h2 =>
      .ok (match r with | some x => x :: rs | none => rs) h2
def pairs : Nat → List D → List D
  | _, [] => []
  | n, d :: ds => .tup [.int n, d] :: pairs (n + 1) ds
def zips : List D → List D → List D
  | a :: as, b :: bs => .tup [a, b] :: zips as bs
  | _, _ => []
def srcOf (h : Hm) : D → Src
  | .ref n => (h[n]?).map fun o => (n, o)
  | _ => none
/-- zip of two tuples, or of two lists of which one has no place -/
def zipD (h : Hm) (x y : D) : Option (List D × Src) := match x, y with
  | .tup a, .tup b => some (zips a b, none)
  | x, .lv b => (lstOf h x).map fun a => (zips a b, srcOf h x)
  | .lv a, y => (lstOf h y).map fun b => (zips a b, srcOf h y)
  | _, _ => none
def rngOk (i : Int) : Bool := decide (i.natAbs < 2 ^ 62)
def rngC (a c : Int) : Nat → List D
  | 0 => []
  | n + 1 => .int a :: rngC (a + c) c n
def rngD : List D → Option (List D)
  | [.int n] => if rngOk n = true then some (upto 0 n.toNat) else none
  | [.int a, .int b] => if rngOk a = true ∧ rngOk b = true then some (upto a (b - a).toNat) else none
  | [.int a, .int b, .int c] => if rngOk a = true ∧ rngOk b = true ∧ c = -1 then some (rngC a (-1) (a - b).toNat) else none
  | _ => none

mutual
def ev (Γ : Gm) (G : Nat → Option D) : E → Env → Hm → R D
  | .c d, _, h => .ok d h
  | .v i, ρ, h => match ρ[i]? with
    | some (some d) => .ok d h
    | _ => .bad
  | .g x, _, h => opt (G x) h
  | .bin o a b, ρ, h => bnd (ev Γ G a ρ h) fun x h => bnd (ev Γ G b ρ h) fun y h => opt (binD h o x y) h
  | .neg a, ρ, h => bnd (ev Γ G a ρ h) fun x h => match x with
    | .int i => .ok (.int (-i)) h
    | _ => .bad
  | .not a, ρ, h => bnd (ev Γ G a ρ h) fun x h => opt ((truth h x).map fun b => .bl (!b)) h
  | .cmp o a b, ρ, h => bnd (ev Γ G a ρ h) fun x h => bnd (ev Γ G b ρ h) fun y h => opt ((cmpD h o x y).map .bl) h
  | .chain o p a b c, ρ, h => bnd (ev Γ G a ρ h) fun x h => bnd (ev Γ G b ρ h) fun y h => bnd (opt (cmpD h o x y) h) fun k h =>
      if k = true then bnd (ev Γ G c ρ h) fun z h => opt ((cmpD h p y z).map .bl) h else .ok (.bl false) h
  | .and a b, ρ, h => bnd (ev Γ G a ρ h) fun x h => match x with
    | .bl k => if k = true then ev Γ G b ρ h else .ok (.bl false) h
    | _ => .bad
  | .or a b, ρ, h => bnd (ev Γ G a ρ h) fun x h => match x with
    | .bl k => if k = true then .ok (.bl true) h else ev Γ G b ρ h
    | _ => .bad
  | .ife t a b, ρ, h => bnd (ev Γ G t ρ h) fun x h => bnd (opt (truth h x) h) fun k h => if k = true then ev Γ G a ρ h else ev Γ G b ρ h
  | .tup es, ρ, h => bnd (evs Γ G es ρ h) fun ds h => gd (decide (ds.length ≤ sizeLine)) (.ok (.tup ds) h)
  | .lst es, ρ, h => bnd (evs Γ G es ρ h) fun ds h => gd (decide (ds.length ≤ sizeLine)) (.ok (.lv ds) h)
  | .dic ks es, ρ, h => bnd (evs Γ G es ρ h) fun ds h => gd (decide (ks.length = ds.length ∧ ks.Nodup ∧ ks.length ≤ 15)) (.ok (.ref h.length) (h ++ [.dic (ks.zip ds)]))
  | .dic1 es, ρ, h => bnd (evs Γ G es ρ h) fun ds h => match dic1K ds h with
    | some kvs => .ok (.ref h.length) (h ++ [.dic kvs])
    | none => .bad
  | .comp e t i fs w, ρ, h => bnd (evI Γ G i ρ h) fun (ds, src) h =>
      bnd (compL (stepC (evF Γ G fs) (ev Γ G e) t ρ (w.map (·.2))) src ds h) fun rs h => gd (decide (rs.length < sizeLine)) (.ok (.lv rs) h)
  | .ix a i, ρ, h => bnd (ev Γ G a ρ h) fun x h => bnd (ev Γ G i ρ h) fun y h => opt (ixD h x y) h
  | .sl a lo hi, ρ, h => bnd (ev Γ G a ρ h) fun x h => bnd (evO Γ G lo ρ h) fun l h => bnd (evO Γ G hi ρ h) fun u h => opt (slD h x l u) h
  | .rev a, ρ, h => bnd (ev Γ G a ρ h) fun x h => opt (revD h x) h
  | .call f es, ρ, h => bnd (evs Γ G es ρ h) fun ds h => Γ f ds h
  | .callk f es kes pm, ρ, h => bnd (evs Γ G es ρ h) fun ds h => bnd (evs Γ G kes ρ h) fun es h => Γ f (pm.map fun i => (ds ++ es).getD i default) h
  | .bi f es, ρ, h => bnd (evp Γ G es ρ h) fun ds h => opt (biD h f ds) h
  | .me f o es, ρ, h => bnd (ev Γ G o ρ h) fun x h => gd (meOk h f x) <| bnd (if f.owns = true then evs Γ G es ρ h else evp Γ G es ρ h) fun ds h => meD h f x ds
  | .kget _ kvs es, ρ, h => bnd (evp Γ G es ρ h) fun ds h => opt (kgetD kvs ds) h
/-- arguments that get a place -/
def evs (Γ : Gm) (G : Nat → Option D) : Es → Env → Hm → R (List D)
  | .nil, _, h => .ok [] h
  | .cons e es, ρ, h => bnd (ev Γ G e ρ h) fun d h => bnd (own d h) fun d h => bnd (evs Γ G es ρ h) fun ds h => .ok (d :: ds) h
/-- arguments that are looked at alone -/
def evp (Γ : Gm) (G : Nat → Option D) : Es → Env → Hm → R (List D)
  | .nil, _, h => .ok [] h
  | .cons e es, ρ, h => bnd (ev Γ G e ρ h) fun d h => bnd (evp Γ G es ρ h) fun ds h => .ok (d :: ds) h
def evO (Γ : Gm) (G : Nat → Option D) : Oe → Env → Hm → R (Option D)
  | .no, _, h => .ok none h
  | .so e, ρ, h => bnd (ev Γ G e ρ h) fun d h => match d with
    | .int i => .ok (some (.int i)) h
    | _ => .bad
/-- a comprehension's tests -/
def evF (Γ : Gm) (G : Nat → Option D) : Es → Env → Hm → R Bool
  | .nil, _, h => .ok true h
  | .cons e es, ρ, h => bnd (ev Γ G e ρ h) fun d h => bnd (opt (truth h d) h) fun k h => if k = true then evF Γ G es ρ h else .ok false h
def evI (Γ : Gm) (G : Nat → Option D) : I → Env → Hm → R (List D × Src)
  | .of e, ρ, h => bnd (ev Γ G e ρ h) fun d h => opt ((seqOf h d).map fun ds => (ds, srcOf h d)) h
  | .keys e, ρ, h => bnd (ev Γ G e ρ h) fun d h => opt ((frdOf h d).map fun kvs => (kvs.map fun p => ofKey p.1, none)) h
  | .rng es, ρ, h => bnd (evp Γ G es ρ h) fun ds h => opt ((rngD ds).map fun ds => (ds, none)) h
  | .enum e, ρ, h => bnd (ev Γ G e ρ h) fun d h => opt ((seqOf h d).map fun ds => (pairs 0 ds, srcOf h d)) h
  | .zip a b, ρ, h => bnd (ev Γ G a ρ h) fun x h => bnd (ev Γ G b ρ h) fun y h => opt (zipD h x y) h
  | .items _, _, _ => .bad
  | .vals _, _, _ => .bad
  | .sof e, ρ, h => bnd (ev Γ G e ρ h) fun d h => opt ((strOf d).map fun x => (chrs x, none)) h
  | .senum e, ρ, h => bnd (ev Γ G e ρ h) fun d h => opt ((strOf d).map fun x => (pairs 0 (chrs x), none)) h
end

/-- go on behind an expression -/
def bns {α : Type} (ρ : Env) (r : R α) (f : α → Hm → Rs) : Rs := match r with
  | .ok a h => f a h
  | .ex c v h => .xx c v ρ h
  | .bad => .bad
@[simp] theorem bns_ok {α : Type} (ρ) (a : α) (h : Hm) (f : α → Hm → Rs) : bns ρ (.ok a h) f = f a h := rfl
@[simp] theorem bns_ex {α : Type} (ρ c v) (h : Hm) (f : α → Hm → Rs) : bns ρ (.ex c v h) f = .xx c v ρ h := rfl
@[simp] theorem bns_bad {α : Type} (ρ) (f : α → Hm → Rs) : bns ρ .bad f = .bad := rfl
/-- go on behind a statement -/
def sq (r : Rs) (f : Env → Hm → Rs) : Rs := match r with
  | .nx ρ h => f ρ h
  | r => r
@[simp] theorem sq_nx (ρ h f) : sq (.nx ρ h) f = f ρ h := rfl
@[simp] theorem sq_rt (d h f) : sq (.rt d h) f = .rt d h := rfl
@[simp] theorem sq_bk (ρ h f) : sq (.bk ρ h) f = .bk ρ h := rfl
@[simp] theorem sq_ct (ρ h f) : sq (.ct ρ h) f = .ct ρ h := rfl
@[simp] theorem sq_xx (c v ρ h f) : sq (.xx c v ρ h) f = .xx c v ρ h := rfl
@[simp] theorem sq_bad (f) : sq .bad f = .bad := rfl
/-- what a turn leaves -/
def tn (r : Rs) (f : Env → Hm → Rs) : Rs := match r with
  | .nx ρ h => f ρ h
  | .ct ρ h => f ρ h
  | .bk ρ h => .nx ρ h
  | r => r
@[simp] theorem tn_nx (ρ h f) : tn (.nx ρ h) f = f ρ h := rfl
@[simp] theorem tn_ct (ρ h f) : tn (.ct ρ h) f = f ρ h := rfl
@[simp] theorem tn_bk (ρ h f) : tn (.bk ρ h) f = .nx ρ h := rfl
@[simp] theorem tn_rt (d h f) : tn (.rt d h) f = .rt d h := rfl
@[simp] theorem tn_xx (c v ρ h f) : tn (.xx c v ρ h) f = .xx c v ρ h := rfl
@[simp] theorem tn_bad (f) : tn .bad f = .bad := rfl
def gs (c : Bool) (r : Rs) : Rs := if c = true then r else .bad
@[simp] theorem gs_t (r : Rs) : gs true r = r := rfl
@[simp] theorem gs_f (r : Rs) : gs false r = .bad := rfl
def forL (step : D → Env → Hm → Rs) (src : Src) : List D → Env → Hm → Rs
  | [], ρ, h => .nx ρ h
  | d :: ds, ρ, h => tn (step d ρ h) fun ρ h => gs (srcOk src h) (forL step src ds ρ h)
def whileL (test : Env → Hm → R Bool) (body : Env → Hm → Rs) : Nat → Env → Hm → Rs
  | 0, _, _ => .bad
  | n + 1, ρ, h => bns ρ (test ρ h) fun k h => if k = true then tn (body ρ h) (whileL test body n) else .nx ρ h
def setI (h : Hm) (o i d : D) : R Unit := match o with
  | .ref n => match h[n]? with
    | some (.lst xs) => match i with
      | .int i => if 0 ≤ i ∧ i < xs.length then .ok () (h.set n (.lst (xs.set i.toNat d))) else .bad
      | _ => .bad
    | some (.dic kvs) => match keyOf i with
      | some k => if kvs.length < sizeLine then .ok () (h.set n (.dic (putK k d kvs))) else .bad
      | none => .bad
    | _ => .bad
  | _ => .bad
/-- x op= y -/
def augD : Operator → D → D → Option D
  | .Add, .int a, .int b => some (.int (a + b))
  | .Sub, .int a, .int b => some (.int (a - b))
  | _, _, _ => none
/-- a place that is to be written -/
def ixW (h : Hm) (o i : D) : Option D := match o with
  | .ref n => match h[n]? with
    | some (.lst xs) => match i with
      | .int i => if 0 ≤ i ∧ i < 2 ^ 63 then xs[i.toNat]? else none
      | _ => none
    | some (.dic kvs) => match keyOf i with
      | some k => lookK kvs k
      | none => none
    | _ => none
  | _ => none
/-- a walked dict may be written again -/
def rlk (n : Nat) (kvs : List (L2.Key × D)) (r : Rs) : Rs := match r with
  | .nx ρ h => if h[n]? = some (.frd kvs) then .nx ρ (h.set n (.dic kvs)) else .bad
  | .rt d h => if h[n]? = some (.frd kvs) then .rt d (h.set n (.dic kvs)) else .bad
  | _ => .bad
/-- which errors there are: the fields' names of the class c, and whether class c is under class k -/
structure Xs where
  cls : Nat → Option (Str × List Str)
  sub : Str → Nat → Bool
  /-- so many turns of a while at most -/
  wf : Nat
mutual
def exs (Γ : Gm) (G : Nat → Option D) (X : Xs) : Ss → Env → Hm → Rs
  | .nil, ρ, h => .nx ρ h
  | .cons s ss, ρ, h => sq (ex Γ G X s ρ h) (exs Γ G X ss)
def ex (Γ : Gm) (G : Nat → Option D) (X : Xs) : St → Env → Hm → Rs
  | .asg t e, ρ, h => bns ρ (ev Γ G e ρ h) fun d h => bns ρ (own d h) fun d h => bns ρ (opt (asgT t d ρ) h) .nx
  | .asgI o i e, ρ, h => bns ρ (ev Γ G e ρ h) fun d h => bns ρ (own d h) fun d h => bns ρ (ev Γ G o ρ h) fun o h => bns ρ (ev Γ G i ρ h) fun i h => bns ρ (setI h o i d) fun _ h => .nx ρ h
  | .asg2I o i o2 i2 e, ρ, h => bns ρ (ev Γ G e ρ h) fun d h => bns ρ (own d h) fun d h => match d with
    | .tup [d1, d2] => bns ρ (ev Γ G o ρ h) fun o h => bns ρ (ev Γ G i ρ h) fun i h => bns ρ (setI h o i d1) fun _ h => bns ρ (ev Γ G o2 ρ h) fun o h => bns ρ (ev Γ G i2 ρ h) fun i h => bns ρ (setI h o i d2) fun _ h => .nx ρ h
    | _ => .bad
  | .stop, _, _ => .bad
  | .asgL ts e, ρ, h => bns ρ (ev Γ G e ρ h) fun d h => bns ρ (own d h) fun d h => bns ρ (opt ((lstOf h d).bind fun ds => asgTs ts ds ρ) h) .nx
  | .aug op i e, ρ, h => bns ρ (ev Γ G (.v i) ρ h) fun x h => bns ρ (ev Γ G e ρ h) fun y h => bns ρ (opt (augD op x y) h) fun z h => .nx (ρ.set i (some z)) h
  | .augI op o i e, ρ, h => bns ρ (ev Γ G o ρ h) fun o h => bns ρ (ev Γ G i ρ h) fun i h => bns ρ (opt (ixW h o i) h) fun x h => bns ρ (ev Γ G e ρ h) fun y h => bns ρ (opt (augD op x y) h) fun z h => bns ρ (setI h o i z) fun _ h => .nx ρ h
  | .ex e, ρ, h => bns ρ (ev Γ G e ρ h) fun _ h => .nx ρ h
  | .ret e, ρ, h => bns ρ (ev Γ G e ρ h) fun d h => bns ρ (own d h) .rt
  | .ret0, _, h => .rt .non h
  | .ifs t a b, ρ, h => bns ρ (ev Γ G t ρ h) fun d h => bns ρ (opt (truth h d) h) fun k h => if k = true then exs Γ G X a ρ h else exs Γ G X b ρ h
  | .for_ t i b, ρ, h => bns ρ (evI Γ G i ρ h) fun (ds, src) h =>
      forL (forS (exs Γ G X b) t) src ds ρ h
  | .lock v s, ρ, h => match ρ[v]? with
    | some (some (.ref n)) => match h[n]? with
      | some (.dic kvs) => rlk n kvs (ex Γ G X s ρ (h.set n (.frd kvs)))
      | _ => .bad
    | _ => .bad
  | .while_ t b, ρ, h => whileL (truF (ev Γ G t)) (exs Γ G X b) X.wf ρ h
  | .raise c es, ρ, h => bns ρ (evs Γ G es ρ h) fun ds h => match X.cls c with
    | some (n, fs) => if fs.length = ds.length then .xx n (fs.zip ds) ρ h else .bad
    | none => .bad
  | .try_ b c s, ρ, h => match exs Γ G X b ρ h with
    | .xx n v ρ' h' => if X.sub n c = true then exs Γ G X s ρ' h' else .xx n v ρ' h'
    | r => r
  | .pass, ρ, h => .nx ρ h
  | .brk, ρ, h => .bk ρ h
  | .cnt, ρ, h => .ct ρ h
end

/-! ### calls -/
def ixOf : List Nat → Nat → Nat
  | [], _ => 0
  | a :: t, n => if n = a then 0 else ixOf t n + 1
def reach : Nat → Hm → List Nat → List Nat → List Nat
  | 0, _, _, seen => seen
  | _ + 1, _, [], seen => seen
  | f + 1, h, n :: t, seen => if seen.contains n = true then reach f h t seen else
      reach f h ((match h[n]? with | some o => o.refs | none => []) ++ t) (seen ++ [n])
/-- rs, no one twice, bears all that hangs on it, and ns -/
def closedB (h : Hm) (rs ns : List Nat) : Bool :=
  decide rs.Nodup && ns.all (fun n => rs.contains n) && rs.all fun n => match h[n]? with
    | some o => o.refs.all fun n => rs.contains n
    | none => false
def subH (h : Hm) (rs : List Nat) : Hm := rs.map fun n => (h.getD n default).map (ixOf rs)
def bk (rs : List Nat) (len i : Nat) : Nat := if i < rs.length then rs.getD i 0 else len + (i - rs.length)
def setAll (h : Hm) : List Nat → List O → Hm
  | n :: ns, o :: os => setAll (h.set n o) ns os
  | _, _ => h
def putH (h : Hm) (rs : List Nat) (h' : Hm) : Hm :=
  setAll h rs ((h'.take rs.length).map (O.map (bk rs h.length))) ++ (h'.drop rs.length).map (O.map (bk rs h.length))
/-- a call sees what hangs on its arguments alone, under numbers of its own -/
def callM (Γ : Gm) : Gm := fun f args h =>
  let ns := D.refsL args
  let rs := reach 100000 h ns []
  gd (closedB h rs ns) <| match Γ f (D.mapL (ixOf rs) args) (subH h rs) with
    | .ok v h' => .ok (v.map (bk rs h.length)) (putH h rs h')
    | .ex c v h' => .ex c (kvMap (D.map (bk rs h.length)) v) (putH h rs h')
    | .bad => .bad
def nums (s : Nat) : Nat → List Nat
  | 0 => []
  | n + 1 => s :: nums (s + 1) n
/-- what nothing holds any more goes -/
def gcH (k : Nat) (h : Hm) (ns : List Nat) : List Nat := reach 100000 h (((nums 0 k).flatMap fun n => match h[n]? with | some o => o.refs | none => []) ++ ns) (nums 0 k)
def gcR (k : Nat) (r : R D) : R D := match r with
  | .ok v h =>
    let rs := gcH k h v.refs
    gd (closedB h rs (nums 0 k ++ v.refs) && decide (rs.take k = nums 0 k)) (.ok (v.map (ixOf rs)) (subH h rs))
  | .ex c v h =>
    let rs := gcH k h (kvRefs v)
    gd (closedB h rs (nums 0 k ++ kvRefs v) && decide (rs.take k = nums 0 k)) (.ex c (kvMap (D.map (ixOf rs)) v) (subH h rs))
  | .bad => .bad
structure FD where
  n : Nat
  m : Nat
  b : Ss
def outR (r : Rs) : R D := match r with
  | .nx _ h => .ok .non h
  | .rt v h => .ok v h
  | .xx c v _ h => .ex c v h
  | _ => .bad
@[simp] theorem outR_nx (ρ h) : outR (.nx ρ h) = .ok .non h := rfl
@[simp] theorem outR_rt (v h) : outR (.rt v h) = .ok v h := rfl
@[simp] theorem outR_xx (c v ρ h) : outR (.xx c v ρ h) = .ex c v h := rfl
def runB (Γ : Gm) (G : Nat → Option D) (X : Xs) (d : FD) (args : List D) (h : Hm) : R D :=
  gd (decide (args.length = d.n)) (gcR h.length (outR (exs Γ G X d.b (args.map some ++ List.replicate (d.m - d.n) none) h)))
def callF (G : Nat → Option D) (X : Xs) (tab : Nat → Option FD) : Nat → Gm
  | 0 => fun _ _ _ => .bad
  | n + 1 => fun f args h => match tab f with
    | some d => runB (callM (callF G X tab n)) G X d args h
    | none => .bad
end Mi

set_option Elab.async false
set_option linter.all false
set_option maxRecDepth 100000
/-! Mini: what a small value and the small heap say of the model's. -/
namespace Mi
open PySem PySem.Spec PyProof.Rows L2
/-- a list that is read alone: locked, or an object of the module -/
def SqF (K : PySem.W.Frag) (H : Hp) (a : Addr) (xs : List V) : Prop :=
  (∃ o, H a = some (.frz o (.lst xs))) ∨
    ∃ (o : Obj) (its : Array Value) (n : Nat), K.lookup a = some o ∧ o.cls = .type "list" ∧ o.dict = none ∧ o.data = .seq its n ∧ its.size ≤ sizeLine ∧ Vals xs its.toList
theorem SqF.sq {K : PySem.W.Frag} {H : Hp} {a : Addr} {xs : List V} (h : SqF K H a xs) : SqL K H a xs := by
  rcases h with h | h
  · exact .inl (.inr h)
  · exact .inr h
/-- a tuple whose object is known, on which no dict hangs -/
def SqN (K : PySem.W.Frag) (H : Hp) (a : Addr) (xs : List V) : Prop :=
  (∃ o : Obj, H a = some (.frz o (.tup xs)) ∧ o.dict = none) ∨
    ∃ (o : Obj) (its : Array Value) (n : Nat), K.lookup a = some o ∧ o.cls = .type "tuple" ∧ o.dict = none ∧ o.data = .seq its n ∧ its.size ≤ sizeLine ∧ Vals xs its.toList
theorem SqN.sq {K : PySem.W.Frag} {H : Hp} {a : Addr} {xs : List V} (h : SqN K H a xs) : SqT K H a xs := by
  rcases h with ⟨o, h, _⟩ | ⟨o, its, n, h1, h2, _, h4⟩
  · exact .inl (.inr ⟨o, h⟩)
  · exact .inr ⟨o, its, n, h1, h2, h4⟩
theorem SqN.of {K : PySem.W.Frag} {H : Hp} {a : Addr} {xs : List V} {o : Obj} (h : H a = some (.frz o (.tup xs))) (n : o.dict = none) : SqN K H a xs := .inl ⟨o, h, n⟩
theorem stL_append (a b : List D) : D.stL (a ++ b) = (D.stL a && D.stL b) := by
  induction a with
  | nil => simp [D.stL]
  | cons x r ih => simp [D.stL, ih, Bool.and_assoc]
theorem stL_iff (a : List D) : D.stL a = true ↔ ∀ d ∈ a, D.st d = true := by
  induction a with
  | nil => simp [D.stL]
  | cons x r ih => simp [D.stL, ih]
mutual
inductive Rp (K : PySem.W.Frag) (m : List Addr) (H : Hp) : V → D → Prop
  | non : Rp K m H .non .non
  | bl (b : Bool) : Rp K m H (.bl b) (.bl b)
  | int (i : Int) : Rp K m H (.int i) (.int i)
  | str (x : Str) : Rp K m H (.str x) (.str x)
  | tup {a : Addr} {xs : List V} {ds : List D} : SqN K H a xs → D.stL ds = true → RpL K m H xs ds → Rp K m H (.ref a) (.tup ds)
  | ref {a : Addr} {n : Nat} : m[n]? = some a → Rp K m H (.ref a) (.ref n)
  | lv {a : Addr} {xs : List V} {ds : List D} : H a = some (.lst xs) → a ∉ m → D.stL ds = true → RpL K m H xs ds → Rp K m H (.ref a) (.lv ds)
  | fl {a : Addr} {xs : List V} {ds : List D} : SqF K H a xs → D.stL ds = true → RpL K m H xs ds → Rp K m H (.ref a) (.fl ds)
inductive RpL (K : PySem.W.Frag) (m : List Addr) (H : Hp) : List V → List D → Prop
  | nil : RpL K m H [] []
  | cons {v : V} {vs : List V} {d : D} {ds : List D} : Rp K m H v d → RpL K m H vs ds → RpL K m H (v :: vs) (d :: ds)
end
section
variable {K : PySem.W.Frag} {m : List Addr} {H : Hp}
theorem RpL.length : ∀ {vs : List V} {ds : List D}, RpL K m H vs ds → vs.length = ds.length
  | _, _, .nil => rfl
  | _, _, .cons _ t => congrArg Nat.succ t.length
theorem RpL.append : ∀ {vs ws : List V} {ds es : List D}, RpL K m H vs ds → RpL K m H ws es → RpL K m H (vs ++ ws) (ds ++ es)
  | _, _, _, _, .nil, s => s
  | _, _, _, _, .cons r t, s => .cons r (t.append s)
theorem RpL.get : ∀ {vs : List V} {ds : List D} {i : Nat} {d : D}, RpL K m H vs ds → ds[i]? = some d → ∃ v, vs[i]? = some v ∧ Rp K m H v d
  | _, _, _, _, .nil, e => by simp at e
  | _, _, 0, _, .cons r _, e => by simp at e; subst e; exact ⟨_, rfl, r⟩
  | _, _, i + 1, d, .cons _ t, e => by
    obtain ⟨v, h1, h2⟩ := RpL.get (i := i) (d := d) t (by simpa using e)
    exact ⟨v, by simpa using h1, h2⟩
theorem RpL.take : ∀ {vs : List V} {ds : List D} (n : Nat), RpL K m H vs ds → RpL K m H (vs.take n) (ds.take n)
  | _, _, 0, _ => by simpa using RpL.nil
  | _, _, _ + 1, .nil => by simpa using RpL.nil
  | _, _, n + 1, .cons r t => by simpa using RpL.cons r (t.take n)
theorem RpL.drop : ∀ {vs : List V} {ds : List D} (n : Nat), RpL K m H vs ds → RpL K m H (vs.drop n) (ds.drop n)
  | _, _, 0, r => by simpa using r
  | _, _, _ + 1, .nil => by simpa using RpL.nil
  | _, _, n + 1, .cons _ t => by simpa using t.drop n
theorem RpL.set {v : V} {d : D} (r : Rp K m H v d) : ∀ {vs : List V} {ds : List D} (i : Nat), RpL K m H vs ds → RpL K m H (vs.set i v) (ds.set i d)
  | _, _, _, .nil => .nil
  | _, _, 0, .cons _ t => .cons r t
  | _, _, i + 1, .cons q t => .cons q (t.set r i)
theorem RpL.one {v : V} {d : D} (r : Rp K m H v d) : RpL K m H [v] [d] := .cons r .nil
theorem RpL.reps : ∀ {vs : List V} {ds : List D} (k : Nat), RpL K m H vs ds → RpL K m H (reps vs k) (reps ds k)
  | _, _, 0, _ => .nil
  | _, _, k + 1, r => by
    have q := RpL.reps k r
    unfold Mi.reps at q ⊢
    rw [List.replicate_succ, List.flatten_cons, List.replicate_succ, List.flatten_cons]
    exact r.append q
end

/-- a dict's pairs -/
def KvR (K : PySem.W.Frag) (m : List Addr) (H : Hp) (kvs : List (L2.Key × V)) (kds : List (L2.Key × D)) : Prop :=
  kvs.map (·.1) = kds.map (·.1) ∧ D.stL (kds.map (·.2)) = true ∧ RpL K m H (kvs.map (·.2)) (kds.map (·.2))
inductive OAt (K : PySem.W.Frag) (m : List Addr) (H : Hp) (a : Addr) : O → Prop
  | lst {xs : List V} {ds : List D} : H a = some (.lst xs) → D.stL ds = true → RpL K m H xs ds → OAt K m H a (.lst ds)
  | dic {kvs : List (L2.Key × V)} {kds : List (L2.Key × D)} : H a = some (.dK kvs) → KvR K m H kvs kds → OAt K m H a (.dic kds)
  | frd {o : Obj} {kvs : List (L2.Key × V)} {kds : List (L2.Key × D)} : H a = some (.frz o (.dK kvs)) → KvR K m H kvs kds → OAt K m H a (.frd kds)
/-- the kind of what may have a number -/
def isReg : HO → Bool
  | .lst _ => true
  | .dK _ => true
  | .frz _ (.dK _) => true
  | _ => false
theorem OAt.reg {K : PySem.W.Frag} {m : List Addr} {H : Hp} {a : Addr} {o : O} (h : OAt K m H a o) : ∃ u, H a = some u ∧ isReg u = true := by
  cases h with
  | lst e _ _ => exact ⟨_, e, rfl⟩
  | dic e _ => exact ⟨_, e, rfl⟩
  | frd e _ => exact ⟨_, e, rfl⟩
structure HRp (K : PySem.W.Frag) (m : List Addr) (H : Hp) (h : Hm) : Prop where
  len : m.length = h.length
  nd : m.Nodup
  at_ : ∀ (n : Nat) (o : O) (a : Addr), h[n]? = some o → m[n]? = some a → OAt K m H a o
structure Ext (m : List Addr) (H : Hp) (m' : List Addr) (H' : Hp) : Prop where
  pre : ∃ l, m' = m ++ l ∧ ∀ a ∈ l, H a = none
  fr : ∀ a o, H a = some o → a ∉ m → H' a = some o
  fz : ∀ a o u, H a = some (.frz o u) → H' a = some (.frz o u)
section
variable {K : PySem.W.Frag} {m m' m1 m2 : List Addr} {H H' H1 H2 : Hp} {h h' h1 h2 : Hm}
theorem HRp.reg (r : HRp K m H h) {a : Addr} (ha : a ∈ m) : ∃ u, H a = some u ∧ isReg u = true := by
  obtain ⟨n, hn, e⟩ := List.getElem_of_mem ha
  have hl : n < h.length := by rw [← r.len]; exact hn
  exact (r.at_ n h[n] a (List.getElem?_eq_getElem hl) (by rw [List.getElem?_eq_getElem hn, e])).reg
theorem HRp.notIn (r : HRp K m H h) {a : Addr} {u : HO} (e : H a = some u) (hu : isReg u = false) : a ∉ m := fun ha => by
  obtain ⟨v, e', q⟩ := r.reg ha
  rw [e] at e'; cases e'
  rw [hu] at q; cases q
theorem HRp.fresh (r : HRp K m H h) {a : Addr} (e : H a = none) : a ∉ m := fun ha => by
  obtain ⟨v, e', q⟩ := r.reg ha
  rw [e] at e'; cases e'
theorem HRp.get (r : HRp K m H h) {n : Nat} {o : O} (e : h[n]? = some o) : ∃ a, m[n]? = some a ∧ OAt K m H a o := by
  have hl := (List.getElem?_eq_some_iff.mp e).1
  have hm : n < m.length := by rw [r.len]; exact hl
  exact ⟨m[n], List.getElem?_eq_getElem hm, r.at_ n o _ e (List.getElem?_eq_getElem hm)⟩
theorem Ext.refl : Ext m H m H := ⟨⟨[], by simp, fun _ h => nomatch h⟩, fun _ _ h _ => h, fun _ _ _ h => h⟩
theorem Ext.trans (r : HRp K m2 H2 h2) (a : Ext m H m1 H1) (b : Ext m1 H1 m2 H2) : Ext m H m2 H2 := by
  obtain ⟨l1, e1, f1⟩ := a.pre
  obtain ⟨l2, e2, f2⟩ := b.pre
  refine ⟨⟨l1 ++ l2, by rw [e2, e1, List.append_assoc], fun x hx => ?_⟩, fun x o e hn => ?_, fun x o u e => b.fz x o u (a.fz x o u e)⟩
  · rcases List.mem_append.mp hx with hx | hx
    · exact f1 x hx
    · cases q : H x with
      | none => rfl
      | some o =>
        have nx : x ∉ m := fun hm => by
          have nd := r.nd
          rw [e2, e1, List.append_assoc] at nd
          exact (List.nodup_append.mp nd).2.2 x hm x (List.mem_append_right _ hx) rfl
        have q1 := a.fr x o q nx
        rw [f2 x hx] at q1; cases q1
  · refine b.fr x o (a.fr x o e hn) fun hm => ?_
    rw [e1] at hm
    rcases List.mem_append.mp hm with hm | hm
    · exact hn hm
    · rw [f1 x hm] at e; cases e
theorem Ext.get (x : Ext m H m' H') {n : Nat} {a : Addr} (e : m[n]? = some a) : m'[n]? = some a := by
  obtain ⟨l, el, _⟩ := x.pre
  rw [el, List.getElem?_append_left (List.getElem?_eq_some_iff.mp e).1]
  exact e
theorem SqT.ext (r : HRp K m H h) (x : Ext m H m' H') {a : Addr} {xs : List V} (q : SqT K H a xs) : SqT K H' a xs := by
  rcases q with (q | ⟨o, q⟩) | q
  · exact .inl (.inl (x.fr a _ q (r.notIn q rfl)))
  · exact .inl (.inr ⟨o, x.fr a _ q (r.notIn q rfl)⟩)
  · exact .inr q
theorem SqN.ext (r : HRp K m H h) (x : Ext m H m' H') {a : Addr} {xs : List V} (q : SqN K H a xs) : SqN K H' a xs := by
  rcases q with ⟨o, q, n⟩ | q
  · exact .inl ⟨o, x.fr a _ q (r.notIn q rfl), n⟩
  · exact .inr q
theorem SqF.ext (r : HRp K m H h) (x : Ext m H m' H') {a : Addr} {xs : List V} (q : SqF K H a xs) : SqF K H' a xs := by
  rcases q with ⟨o, q⟩ | q
  · exact .inl ⟨o, x.fr a _ q (r.notIn q rfl)⟩
  · exact .inr q
mutual
theorem Rp.ext (r : HRp K m H h) (x : Ext m H m' H') : ∀ {v : V} {d : D}, Rp K m H v d → Rp K m' H' v d
  | _, _, .non => .non
  | _, _, .bl b => .bl b
  | _, _, .int i => .int i
  | _, _, .str y => .str y
  | _, _, .tup q s t => .tup (SqN.ext r x q) s (RpL.ext r x t)
  | _, _, .ref e => .ref (x.get e)
  | _, _, .lv e n s t => .lv (x.fr _ _ e n) (fun hm => by
      obtain ⟨l, el, f⟩ := x.pre
      rw [el] at hm
      rcases List.mem_append.mp hm with hm | hm
      · exact n hm
      · rw [f _ hm] at e; cases e) s (RpL.ext r x t)
  | _, _, .fl q s t => .fl (SqF.ext r x q) s (RpL.ext r x t)
theorem RpL.ext (r : HRp K m H h) (x : Ext m H m' H') : ∀ {v : List V} {d : List D}, RpL K m H v d → RpL K m' H' v d
  | _, _, .nil => .nil
  | _, _, .cons a t => .cons (Rp.ext r x a) (RpL.ext r x t)
end
theorem KvR.ext (r : HRp K m H h) (x : Ext m H m' H') {kvs : List (L2.Key × V)} {kds : List (L2.Key × D)} (q : KvR K m H kvs kds) : KvR K m' H' kvs kds := ⟨q.1, q.2.1, RpL.ext r x q.2.2⟩
mutual
/-- values without transient lists under more numbers -/
theorem Rp.more (l : List Addr) : ∀ {v : V} {d : D}, D.st d = true → Rp K m H v d → Rp K (m ++ l) H v d
  | _, _, _, .non => .non
  | _, _, _, .bl b => .bl b
  | _, _, _, .int i => .int i
  | _, _, _, .str y => .str y
  | _, _, _, .tup q s t => .tup q s (RpL.more l s t)
  | _, _, _, .ref e => .ref (by rw [List.getElem?_append_left (List.getElem?_eq_some_iff.mp e).1]; exact e)
  | _, _, z, .lv e n s t => by simp [D.st] at z
  | _, _, _, .fl q s t => .fl q s (RpL.more l s t)
theorem RpL.more (l : List Addr) : ∀ {v : List V} {d : List D}, D.stL d = true → RpL K m H v d → RpL K (m ++ l) H v d
  | _, _, _, .nil => .nil
  | _, _, z, .cons a t => .cons (Rp.more l (by simp [D.stL] at z; exact z.1) a) (RpL.more l (by simp [D.stL] at z; exact z.2) t)
end
theorem KvR.more (l : List Addr) {kvs : List (L2.Key × V)} {kds : List (L2.Key × D)} (q : KvR K m H kvs kds) : KvR K (m ++ l) H kvs kds := ⟨q.1, q.2.1, RpL.more l q.2.1 q.2.2⟩

/-- a new object that gets no number -/
theorem Ext.lay {p : Addr} {u : HO} (hp : H p = none) : Ext m H m (upd H p u) :=
  ⟨⟨[], by simp, fun _ h => nomatch h⟩, fun a o e _ => by rw [upd_ne (ne_of_none e hp)]; exact e, fun a o v e => by rw [upd_ne (ne_of_none e hp)]; exact e⟩
theorem OAt.ext (r : HRp K m H h) (x : Ext m H m' H') {a : Addr} {o : O} (e : H' a = H a) (q : OAt K m H a o) : OAt K m' H' a o := by
  cases q with
  | lst e' s t => exact .lst (e.trans e') s (RpL.ext r x t)
  | dic e' t => exact .dic (e.trans e') (KvR.ext r x t)
  | frd e' t => exact .frd (e.trans e') (KvR.ext r x t)
theorem HRp.lay (r : HRp K m H h) {p : Addr} {u : HO} (hp : H p = none) : HRp K m (upd H p u) h := by
  refine ⟨r.len, r.nd, fun n o a e1 e2 => ?_⟩
  have q := r.at_ n o a e1 e2
  obtain ⟨v, e, _⟩ := q.reg
  exact q.ext r (Ext.lay hp) (upd_ne (ne_of_none e hp))
theorem OAt.more (l : List Addr) {a : Addr} {o : O} (q : OAt K m H a o) : OAt K (m ++ l) H a o := by
  cases q with
  | lst e s t => exact .lst e s (RpL.more l s t)
  | dic e t => exact .dic e (KvR.more l t)
  | frd e t => exact .frd e (KvR.more l t)
/-- an object gets a number -/
theorem HRp.num (r : HRp K m H h) {p : Addr} {o : O} (hp : p ∉ m) (ho : OAt K m H p o) : HRp K (m ++ [p]) H (h ++ [o]) := by
  refine ⟨by simp [r.len], by
    rw [List.nodup_append]
    exact ⟨r.nd, by simp, fun a ha b hb e => by
      have : b = p := by simpa using hb
      subst this; subst e; exact hp ha⟩, fun n o' a e1 e2 => ?_⟩
  by_cases hn : n < h.length
  · rw [List.getElem?_append_left hn] at e1
    rw [List.getElem?_append_left (by rw [r.len]; exact hn)] at e2
    exact (r.at_ n o' a e1 e2).more [p]
  · have hl : n < (h ++ [o]).length := (List.getElem?_eq_some_iff.mp e1).1
    have en : n = h.length := by simp at hl; omega
    subst en
    rw [List.getElem?_append_right (Nat.le_refl _)] at e1
    rw [← r.len, List.getElem?_append_right (Nat.le_refl _)] at e2
    simp at e1 e2
    subst e1; subst e2
    exact ho.more [p]
/-- an object is written -/
theorem HRp.write (r : HRp K m H h) {n : Nat} {a : Addr} {u : HO} {o : O} (hn : m[n]? = some a) (hz : ∀ o w, H a ≠ some (.frz o w)) (hu : isReg u = true) (ho : ∀ H', H' = upd H a u → Ext m H m H' → OAt K m H' a o) :
    HRp K m (upd H a u) (h.set n o) ∧ Ext m H m (upd H a u) := by
  have ha : a ∈ m := List.mem_of_getElem? hn
  have x : Ext m H m (upd H a u) := ⟨⟨[], by simp, fun _ h => nomatch h⟩, fun b o e nb => by rw [upd_ne (fun z : b = a => nb (by rw [z]; exact ha))]; exact e, fun b o w e => by rw [upd_ne (fun z : b = a => hz o w (by rw [← z]; exact e))]; exact e⟩
  refine ⟨⟨by simp [r.len], r.nd, fun k o' b e1 e2 => ?_⟩, x⟩
  by_cases hk : k = n
  · subst hk
    rw [hn] at e2; cases e2
    have hl : k < h.length := by rw [← r.len]; exact (List.getElem?_eq_some_iff.mp hn).1
    rw [List.getElem?_set_self hl] at e1
    cases e1
    exact ho _ rfl x
  · rw [List.getElem?_set_ne (Ne.symm hk)] at e1
    have ne : b ≠ a := fun z => by
      subst z
      obtain ⟨h1, q1⟩ := List.getElem?_eq_some_iff.mp e2
      obtain ⟨h2, q2⟩ := List.getElem?_eq_some_iff.mp hn
      exact hk ((List.getElem_inj r.nd).mp (q1.trans q2.symm))
    exact (r.at_ k o' b e1 e2).ext r x (upd_ne ne)
end
end Mi

set_option Elab.async false
set_option linter.all false
set_option maxRecDepth 100000
/-! Mini: what is wanted behind an answer. -/
namespace Mi
open PySem PySem.Spec PyProof.Rows L2
/-- what stays through the law: the written part, where the errors' classes stand -/
structure Wi where
  K : PySem.W.Frag
  xc : Str → Option Addr
/-- an error that is raised -/
def XRp (Z : Wi) (m : List Addr) (H : Hp) (cls : Value) (dx : Option Addr) (c : Str) (fs : List (Str × D)) : Prop :=
  ∃ C, Z.xc c = some C ∧ cls = .ref C ∧ D.stL (fs.map (·.2)) = true ∧
    (fs ≠ [] → ∃ d vs, dx = some d ∧ H d = some (.xd vs) ∧ vs.map (·.1) = fs.map (·.1) ∧ RpL Z.K m H (vs.map (·.2)) (fs.map (·.2))) ∧ dx = none
/-- a transient list is new since H -/
def newV (H : Hp) (v : V) (d : D) : Prop := ∀ ds a, d = .lv ds → v = .ref a → H a = none
def newL (H : Hp) : List V → List D → Prop
  | v :: vs, d :: ds => newV H v d ∧ newL H vs ds
  | _, _ => True
theorem newV_st {H : Hp} {v : V} {d : D} (h : D.st d = true) : newV H v d := fun ds a e _ => by subst e; simp [D.st] at h
theorem newL_st {H : Hp} : ∀ {vs : List V} {ds : List D}, D.stL ds = true → newL H vs ds
  | [], _, _ => by simp [newL]
  | _ :: _, [], _ => by simp [newL]
  | v :: vs, d :: ds, h => by
    simp [D.stL] at h
    exact ⟨newV_st h.1, newL_st h.2⟩
/-- errors' wish: at the slots -/
abbrev Wx := WX
def Pst {α β : Type} (Z : Wi) (W : WX) (σ : L2.St) (rel : List Addr → Hp → α → β → Prop) (new : Hp → α → β → Prop) (m : List Addr) (H : Hp) (r : R β) (Q : α → Hp → Prop) : Prop :=
  match r with
  | .ok d h => ∀ v H' m', HRp Z.K m' H' h → Ext m H m' H' → rel m' H' v d → new H v d → Q v H'
  | .ex c fs h => ∀ cls dx H' m', HRp Z.K m' H' h → Ext m H m' H' → XRp Z m' H' cls dx c fs → W cls dx σ H'
  | .bad => False
abbrev PV (Z : Wi) (W : WX) (σ : L2.St) (m : List Addr) (H : Hp) (r : R D) (Q : VK) : Prop := Pst Z W σ (Rp Z.K) newV m H r Q
abbrev PL (Z : Wi) (W : WX) (σ : L2.St) (m : List Addr) (H : Hp) (r : R (List D)) (Q : List V → Hp → Prop) : Prop := Pst Z W σ (RpL Z.K) newL m H r Q
/-- a value that is known apart from the model's values -/
abbrev PB {β : Type} (Z : Wi) (W : WX) (σ : L2.St) (m : List Addr) (H : Hp) (r : R β) (Q : β → Hp → Prop) : Prop := Pst Z W σ (fun _ _ a b => a = b) (fun _ _ _ => True) m H r Q
section
variable {Z : Wi} {W : WX} {σ : L2.St} {m m' : List Addr} {H H' : Hp} {h h' : Hm} {α β γ δ : Type}
theorem none_back (r : HRp Z.K m' H' h') (x : Ext m H m' H') {a : Addr} (e : H' a = none) : H a = none := by
  cases q : H a with
  | none => rfl
  | some o =>
    by_cases ha : a ∈ m
    · obtain ⟨l, el, _⟩ := x.pre
      obtain ⟨u, e', _⟩ := r.reg (a := a) (by rw [el]; exact List.mem_append_left _ ha)
      rw [e] at e'; cases e'
    · have := x.fr a o q ha
      rw [e] at this; cases this
theorem newV.back (r : HRp Z.K m' H' h') (x : Ext m H m' H') {v : V} {d : D} (n : newV H' v d) : newV H v d := fun ds a e1 e2 => none_back r x (n ds a e1 e2)
theorem newL.back (r : HRp Z.K m' H' h') (x : Ext m H m' H') : ∀ {v : List V} {d : List D}, newL H' v d → newL H v d
  | [], _, _ => by simp [newL]
  | _ :: _, [], _ => by simp [newL]
  | _ :: _, _ :: _, n => ⟨newV.back r x n.1, newL.back r x n.2⟩
variable {rel : List Addr → Hp → α → β → Prop} {new : Hp → α → β → Prop} {rel2 : List Addr → Hp → γ → δ → Prop} {new2 : Hp → γ → δ → Prop} {r : R β} {Q Q' : α → Hp → Prop}
theorem Pst.mono (p : Pst Z W σ rel new m H r Q) (hq : ∀ v H', Q v H' → Q' v H') : Pst Z W σ rel new m H r Q' := by
  cases r with
  | ok d h => exact fun v H' m' a b c n => hq v H' (p v H' m' a b c n)
  | ex c fs h => exact p
  | bad => exact p
theorem Pst.rebase (nb : ∀ {v d}, new H' v d → new H v d) (x : Ext m H m' H') (p : Pst Z W σ rel new m H r Q) : Pst Z W σ rel new m' H' r Q := by
  cases r with
  | ok d h => exact fun v H2 m2 a b c n => p v H2 m2 a (x.trans a b) c (nb n)
  | ex c fs h => exact fun cls dx H2 m2 a b c => p cls dx H2 m2 a (x.trans a b) c
  | bad => exact p
/-- a step, and what comes behind it -/
theorem Pst.bnd {f : β → Hm → R δ} {Q : γ → Hp → Prop} (nb : ∀ {m' H' h'} , HRp Z.K m' H' h' → Ext m H m' H' → ∀ {v d}, new2 H' v d → new2 H v d) (p : Pst Z W σ rel2 new2 m H (Mi.bnd r f) Q) :
    Pst Z W σ rel new m H r fun v H1 => ∃ m1 d h1, r = .ok d h1 ∧ HRp Z.K m1 H1 h1 ∧ Ext m H m1 H1 ∧ rel m1 H1 v d ∧ new H v d ∧ Pst Z W σ rel2 new2 m1 H1 (f d h1) Q := by
  cases r with
  | ok d h => exact fun v H1 m1 a b c n => ⟨m1, d, h, rfl, a, b, c, n, Pst.rebase (nb a b) b p⟩
  | ex c fs h => exact p
  | bad => exact p
theorem PV.bnd {f : β → Hm → R D} {Q : VK} (p : PV Z W σ m H (Mi.bnd r f) Q) :
    Pst Z W σ rel new m H r fun v H1 => ∃ m1 d h1, r = .ok d h1 ∧ HRp Z.K m1 H1 h1 ∧ Ext m H m1 H1 ∧ rel m1 H1 v d ∧ new H v d ∧ PV Z W σ m1 H1 (f d h1) Q := Pst.bnd (fun {_ _ _} a b {_ _} n => newV.back a b n) p
theorem PL.bnd {f : β → Hm → R (List D)} {Q : List V → Hp → Prop} (p : PL Z W σ m H (Mi.bnd r f) Q) :
    Pst Z W σ rel new m H r fun v H1 => ∃ m1 d h1, r = .ok d h1 ∧ HRp Z.K m1 H1 h1 ∧ Ext m H m1 H1 ∧ rel m1 H1 v d ∧ new H v d ∧ PL Z W σ m1 H1 (f d h1) Q := Pst.bnd (fun {_ _ _} a b {_ _} n => newL.back a b n) p
theorem PB.bnd {f : β → Hm → R δ} {Q : δ → Hp → Prop} (p : PB Z W σ m H (Mi.bnd r f) Q) :
    Pst Z W σ rel new m H r fun v H1 => ∃ m1 d h1, r = .ok d h1 ∧ HRp Z.K m1 H1 h1 ∧ Ext m H m1 H1 ∧ rel m1 H1 v d ∧ new H v d ∧ PB Z W σ m1 H1 (f d h1) Q := Pst.bnd (fun {_ _ _} a b {_ _} n => trivial) p
theorem PV.opt {o : Option D} {Q : VK} (p : PV Z W σ m H (opt o h) Q) : ∃ d, o = some d ∧ PV Z W σ m H (.ok d h) Q := by
  cases o with
  | none => exact False.elim p
  | some d => exact ⟨d, rfl, p⟩
theorem PV.gd {c : Bool} {r : R D} {Q : VK} (p : PV Z W σ m H (gd c r) Q) : c = true ∧ PV Z W σ m H r Q := by
  cases c with
  | false => exact False.elim p
  | true => exact ⟨rfl, p⟩

/-- the slots -/
structure EnvR (K : PySem.W.Frag) (m : List Addr) (H : Hp) (σ : L2.St) (ρ : Env) : Prop where
  len : σ.length = ρ.length
  at_ : ∀ (i : Nat) (d : D), ρ[i]? = some (some d) → D.st d = true ∧ ∃ v, σ[i]? = some (some v) ∧ Rp K m H v d
theorem EnvR.ext {K : PySem.W.Frag} {ρ : Env} (e : EnvR K m H σ ρ) (r : HRp K m H h) (x : Ext m H m' H') : EnvR K m' H' σ ρ :=
  ⟨e.len, fun i d q => let ⟨a, v, b, c⟩ := e.at_ i d q; ⟨a, v, b, Rp.ext r x c⟩⟩
theorem EnvR.set {K : PySem.W.Frag} {ρ : Env} (e : EnvR K m H σ ρ) {i : Nat} {v : V} {d : D} (s : D.st d = true) (r : Rp K m H v d) : EnvR K m H (σ.set i (some v)) (ρ.set i (some d)) := by
  refine ⟨by simp [e.len], fun j d' q => ?_⟩
  by_cases hj : j = i
  · subst hj
    by_cases hl : j < ρ.length
    · rw [List.getElem?_set_self hl] at q
      cases q
      exact ⟨s, v, by rw [List.getElem?_set_self (by rw [e.len]; exact hl)], r⟩
    · rw [List.getElem?_eq_none (by simpa using hl)] at q; cases q
  · rw [List.getElem?_set_ne (Ne.symm hj)] at q
    rw [List.getElem?_set_ne (Ne.symm hj)]
    exact e.at_ j d' q
theorem EnvR.wipe1 {K : PySem.W.Frag} {ρ : Env} (e : EnvR K m H σ ρ) (i : Nat) : EnvR K m H (σ.set i none) (ρ.set i none) := by
  refine ⟨by simp [e.len], fun j d' q => ?_⟩
  by_cases hj : j = i
  · subst hj
    by_cases hl : j < ρ.length
    · rw [List.getElem?_set_self hl] at q; cases q
    · rw [List.getElem?_eq_none (by simpa using hl)] at q; cases q
  · rw [List.getElem?_set_ne (Ne.symm hj)] at q
    rw [List.getElem?_set_ne (Ne.symm hj)]
    exact e.at_ j d' q
theorem EnvR.wipe {K : PySem.W.Frag} {ρ : Env} (e : EnvR K m H σ ρ) : ∀ l : List Nat, EnvR K m H (L2.wipe σ l) (wipeD ρ l)
  | [] => e
  | v :: vs => (EnvR.wipe e vs).wipe1 v
structure StR (K : PySem.W.Frag) (m : List Addr) (H : Hp) (h : Hm) (σ : L2.St) (ρ : Env) : Prop where
  hr : HRp K m H h
  en : EnvR K m H σ ρ
theorem StR.go {K : PySem.W.Frag} {ρ : Env} (s : StR K m H h σ ρ) (r : HRp K m' H' h') (x : Ext m H m' H') : StR K m' H' h' σ ρ := ⟨r, s.en.ext s.hr x⟩

/-! ### the readings -/
/-- an expression's reading by the interpreter -/
def tE (Z : Wi) (W : WX) (f : Env → Hm → R D) : TE := fun σ H Q => ∃ m ρ h, StR Z.K m H h σ ρ ∧ PV Z W σ m H (f ρ h) Q
def tL (Z : Wi) (W : WX) (f : Env → Hm → R (List D)) : TA := fun σ H Q => ∃ m ρ h, StR Z.K m H h σ ρ ∧ PL Z W σ m H (f ρ h) Q
def tT (Z : Wi) (W : WX) (f : Env → Hm → R Bool) : TT := fun σ H Q => ∃ m ρ h, StR Z.K m H h σ ρ ∧ PB Z W σ m H (f ρ h) Q

/-- a transient list gets its number -/
theorem PV.own {d : D} {v : V} {H0 : Hp} {m0 : List Addr} (r : HRp Z.K m H h) (x : Ext m0 H0 m H) (q : Rp Z.K m H v d) (n : newV H0 v d) :
    ∃ m' d' h', Mi.own d h = .ok d' h' ∧ HRp Z.K m' H h' ∧ Ext m0 H0 m' H ∧ Rp Z.K m' H v d' ∧ D.st d' = true ∧ (∀ e w, D.st e = true → Rp Z.K m H w e → Rp Z.K m' H w e) := by
  cases q with
  | lv e nm s t =>
    rename_i a xs ds
    refine ⟨m ++ [a], .ref h.length, h ++ [.lst ds], rfl, r.num nm (.lst e s t), ⟨?_, fun b o e' nb => x.fr b o e' nb, x.fz⟩, .ref ?_, rfl, fun e w s q => Rp.more [a] s q⟩
    · obtain ⟨l, el, f⟩ := x.pre
      refine ⟨l ++ [a], by rw [el, List.append_assoc], fun b hb => ?_⟩
      rcases List.mem_append.mp hb with hb | hb
      · exact f b hb
      · have : b = a := by simpa using hb
        subst this
        exact n ds b rfl rfl
    · rw [← r.len, List.getElem?_append_right (Nat.le_refl _)]; simp
  | non => exact ⟨m, _, h, rfl, r, x, .non, rfl, fun _ _ _ q => q⟩
  | bl b => exact ⟨m, _, h, rfl, r, x, .bl b, rfl, fun _ _ _ q => q⟩
  | int i => exact ⟨m, _, h, rfl, r, x, .int i, rfl, fun _ _ _ q => q⟩
  | str y => exact ⟨m, _, h, rfl, r, x, .str y, rfl, fun _ _ _ q => q⟩
  | tup a s t => exact ⟨m, _, h, rfl, r, x, .tup a s t, s, fun _ _ _ q => q⟩
  | ref e => exact ⟨m, _, h, rfl, r, x, .ref e, rfl, fun _ _ _ q => q⟩
  | fl a s t => exact ⟨m, _, h, rfl, r, x, .fl a s t, s, fun _ _ _ q => q⟩

/-! ### views -/
theorem lst_view {n : Nat} {ds : List D} (r : HRp Z.K m H h) (e : h[n]? = some (.lst ds)) : ∃ a xs, m[n]? = some a ∧ H a = some (.lst xs) ∧ D.stL ds = true ∧ RpL Z.K m H xs ds := by
  obtain ⟨a, e1, q⟩ := r.get e
  cases q with
  | lst e2 s t => exact ⟨a, _, e1, e2, s, t⟩
theorem lstOf_view {d : D} {v : V} {ds : List D} (r : HRp Z.K m H h) (q : Rp Z.K m H v d) (e : lstOf h d = some ds) : ∃ a xs, v = .ref a ∧ SqL Z.K H a xs ∧ D.stL ds = true ∧ RpL Z.K m H xs ds := by
  cases q with
  | lv e1 nm s t =>
    simp [lstOf] at e; subst e
    exact ⟨_, _, rfl, .of e1, s, t⟩
  | fl q s t =>
    simp [lstOf] at e; subst e
    exact ⟨_, _, rfl, q.sq, s, t⟩
  | ref e1 =>
    rename_i a n
    simp only [lstOf] at e
    split at e
    · rename_i ds' e2
      cases e
      obtain ⟨a', xs, e3, e4, s, t⟩ := lst_view r e2
      rw [e1] at e3; cases e3
      exact ⟨a, xs, rfl, .of e4, s, t⟩
    · cases e
  | _ => simp [lstOf] at e
theorem seqOf_view {d : D} {v : V} {ds : List D} (r : HRp Z.K m H h) (q : Rp Z.K m H v d) (e : seqOf h d = some ds) : ∃ a xs, v = .ref a ∧ (SqL Z.K H a xs ∨ SqT Z.K H a xs) ∧ D.stL ds = true ∧ RpL Z.K m H xs ds := by
  cases q with
  | tup q s t =>
    simp [seqOf] at e; subst e
    exact ⟨_, _, rfl, .inr q.sq, s, t⟩
  | lv e1 nm s t =>
    obtain ⟨a, xs, h1, h2, h3⟩ := lstOf_view r (.lv e1 nm s t) (show lstOf h _ = some ds from e)
    exact ⟨a, xs, h1, .inl h2, h3⟩
  | fl q s t =>
    obtain ⟨a, xs, h1, h2, h3⟩ := lstOf_view r (.fl q s t) (show lstOf h _ = some ds from e)
    exact ⟨a, xs, h1, .inl h2, h3⟩
  | ref e1 =>
    obtain ⟨a, xs, h1, h2, h3⟩ := lstOf_view r (.ref e1) (show lstOf h _ = some ds from e)
    exact ⟨a, xs, h1, .inl h2, h3⟩
  | _ => simp [seqOf] at e
theorem seqOf_viewN {d : D} {v : V} {ds : List D} (r : HRp Z.K m H h) (q : Rp Z.K m H v d) (e : seqOf h d = some ds) : ∃ a xs, v = .ref a ∧ (SqL Z.K H a xs ∨ SqN Z.K H a xs) ∧ D.stL ds = true ∧ RpL Z.K m H xs ds := by
  cases q with
  | tup q s t =>
    simp [seqOf] at e; subst e
    exact ⟨_, _, rfl, .inr q, s, t⟩
  | lv e1 nm s t =>
    obtain ⟨a, xs, h1, h2, h3⟩ := lstOf_view r (.lv e1 nm s t) (show lstOf h _ = some ds from e)
    exact ⟨a, xs, h1, .inl h2, h3⟩
  | fl q s t =>
    obtain ⟨a, xs, h1, h2, h3⟩ := lstOf_view r (.fl q s t) (show lstOf h _ = some ds from e)
    exact ⟨a, xs, h1, .inl h2, h3⟩
  | ref e1 =>
    obtain ⟨a, xs, h1, h2, h3⟩ := lstOf_view r (.ref e1) (show lstOf h _ = some ds from e)
    exact ⟨a, xs, h1, .inl h2, h3⟩
  | _ => simp [seqOf] at e
end
end Mi

set_option Elab.async false
set_option linter.all false
set_option maxRecDepth 100000
/-! Mini: new tuples, their objects known. -/
namespace Mi
open PySem PySem.Spec PyProof.Rows L2
abbrev tupO (a : Array Value) : Obj := { cls := .type "tuple", data := .seq a }
section
variable {X : Cx} {es : List Expr} {t : TA} {pos : Pos}
/-- (e, ..) -/
theorem pe_tupN {x1} (h : PA X es t) : PE X (.Tuple es x1 pos) (fun σ H Q => t σ H fun xs H1 => xs.length ≤ sizeLine ∧ ∀ p o, o.dict = none → H1 p = none → Q (.ref p) (upd H1 p (.frz o (.tup xs)))) := by
  refine ⟨fun pins s σ H Q I hq => ?_⟩
  refine wpAny_Tuple_spliced (thn (h.run pos pins s σ H _ I hq) fun us s1 ⟨xs, H1, I1, r, z, q⟩ => ⟨by rw [← r.length]; exact z, ?_⟩)
  have hf : H1 s1.heap.objs.size = none := I1.hok.fresh (Nat.le_refl _)
  refine ⟨.ref s1.heap.objs.size, _, I1.laid (t' := s1.toks) (o := .frz (tupO us.toArray) (.tup xs)) (fun b u e => Heap.get?_push_of_some _ e) (Nat.le_refl _) ?_, rfl, q _ _ rfl hf⟩
  exact ⟨Heap.get?_push_size _ rfl, z, us, r, ⟨_, Heap.get?_push_size _ rfl, rfl, _, rfl⟩⟩
/-- t + u -/
theorem op_catN : OpR X (binaryOp .Add) (fun x y H Q => ∃ a b xs ys, x = .ref a ∧ y = .ref b ∧ SqT X.K H a xs ∧ SqT X.K H b ys ∧ xs.length + ys.length ≤ sizeLine ∧
    (xs = [] → Q (.ref b) H) ∧ (xs ≠ [] → ys = [] → Q (.ref a) H) ∧ (xs ≠ [] → ys ≠ [] → ∀ p o, o.dict = none → H p = none → Q (.ref p) (upd H p (.frz o (.tup (xs ++ ys)))))) := by
  intro pins s σ H x y v u Q I rx ry h
  obtain ⟨a, b, xs, ys, rfl, rfl, ha, hb, hz, q0, q1, q2⟩ := h
  cases rx
  cases ry
  obtain ⟨its, r1, p1, _⟩ := I.tuple ha
  obtain ⟨its2, r2, p2, _⟩ := I.tuple hb
  by_cases hx : xs = []
  · subst hx
    cases r1
    exact cat_tup0 p1 p2 ⟨.ref b, H, I, rfl, q0 rfl⟩
  · refine HT.cat_tup p1 p2 (fun z => hx (r1.nil_iff.mp z)) (fun z => ⟨.ref a, H, I, rfl, q1 hx (r2.nil_iff.mp z)⟩) (fun z => ?_) (by rw [← r1.length, ← r2.length]; exact hz)
    refine ⟨.ref s.heap.objs.size, _, I.laid (t' := s.toks) (o := .frz (tupO (its ++ its2).toArray) (.tup (xs ++ ys))) (fun b ob q => Heap.get?_push_of_some _ q) (Nat.le_refl _) ?_, rfl, q2 hx (fun w => z (r2.nil_iff.mpr w)) _ _ rfl (I.hok.fresh (Nat.le_refl _))⟩
    exact ⟨Heap.get?_push_size _ rfl, by rw [List.length_append]; exact hz, _, r1.append r2, IsTup.new _ _⟩
/-- t[lo:hi] -/
theorem sl_tupN : SlR X (fun x lo hi H Q => ∃ a xs, x = .ref a ∧ SqT X.K H a xs ∧
    (HT.sIx xs.length 0 lo = 0 ∧ HT.sIx xs.length xs.length hi = xs.length → Q (.ref a) H) ∧ (¬ (HT.sIx xs.length 0 lo = 0 ∧ HT.sIx xs.length xs.length hi = xs.length) → ∀ p o, o.dict = none → H p = none → Q (.ref p) (upd H p (.frz o (.tup (cutV xs lo hi)))))) := by
  intro pins s σ H x v vl vu lo hi sl Q I rx hs pl pu h
  obtain ⟨a, xs, rfl, hx, q1, q2⟩ := h
  cases rx
  obtain ⟨its, r, ht, hz⟩ := I.tuple hx
  have hlen : its.toArray.size = xs.length := by rw [List.size_toArray]; exact r.length.symm
  by_cases hw : HT.sIx xs.length 0 lo = 0 ∧ HT.sIx xs.length xs.length hi = xs.length
  · refine ⟨"tuple", _, PyProof.Rows.slot_tuple_getitem.lookup, ht.typeIs, ?_⟩
    exact getItem_tuple_whole ht hs pl pu (by rw [hlen]; exact hw) ⟨.ref a, H, I, rfl, q1 hw⟩
  · refine ⟨"tuple", _, PyProof.Rows.slot_tuple_getitem.lookup, ht.typeIs, ?_⟩
    refine HT.getItem_tuple_cut ht hs pl pu (by rw [hlen]; exact hw) ?_ (by rw [hlen]; exact hz)
    rw [hlen]
    refine ⟨.ref s.heap.objs.size, _, I.laid (t' := s.toks) (o := .frz (tupO ((its.drop (HT.sIx xs.length 0 lo)).take (HT.sIx xs.length xs.length hi - HT.sIx xs.length 0 lo)).toArray) (.tup (cutV xs lo hi))) (fun b ob q => Heap.get?_push_of_some _ q) (Nat.le_refl _) ?_, rfl, q2 hw _ _ rfl (I.hok.fresh (Nat.le_refl _))⟩
    exact ⟨Heap.get?_push_size _ rfl, Nat.le_trans (cutV_length xs lo hi) hz, _, (r.drop (HT.sIx xs.length 0 lo)).take (HT.sIx xs.length xs.length hi - HT.sIx xs.length 0 lo), IsTup.new _ _⟩
/-- tuple(xs) -/
theorem call_tupleN : CallR X (.type "tuple") (fun xs H Q => ∃ p ys, xs = [.ref p] ∧ ((SqL X.K H p ys ∧ ∀ l o, o.dict = none → H l = none → Q (.ref l) (upd H l (.frz o (.tup ys)))) ∨ (SqT X.K H p ys ∧ Q (.ref p) H))) := by
  intro pins s σ H xs us Q I r h
  obtain ⟨p, ys, rfl, h⟩ := h
  obtain ⟨u, rfl, rx⟩ := vals1 r
  cases rx
  rcases h with ⟨hq, q⟩ | ⟨hq, q⟩
  · obtain ⟨its, r', pl, hz⟩ := I.list hq
    have hlen := r'.length
    refine call_tuple_list pl.isList (fun h' kp => ?_) (by simp only [List.size_toArray] <;> omega)
    have I1 : Inv X pins σ H { s with heap := h' } := I.kept (t' := s.toks) kp
    refine ⟨.ref h'.objs.size, _, I1.laid (t' := s.toks) (o := .frz (tupO its.toArray) (.tup ys)) (fun b o e => Heap.get?_push_of_some _ e) (Nat.le_refl _) ?_, rfl, q _ _ rfl (I1.hok.fresh (Nat.le_refl _))⟩
    exact ⟨Heap.get?_push_size _ rfl, hz, its, r', IsTup.new _ _⟩
  · obtain ⟨its, r', pl, hz⟩ := I.tuple hq
    exact call_tuple_same pl ⟨.ref p, H, I, rfl, q⟩
end
/-! ### enumerate: pairs -/
def IteN (K : PySem.W.Frag) (a : Addr) : It :=
  ⟨fun i H => ∃ (xs : List V) (x : V), SqL K H a xs ∧ xs[i]? = some x, fun i H v H' => ∃ T x o, v = .ref T ∧ H T = none ∧ o.dict = none ∧ H' = upd H T (.frz o (.tup [.int (i : Nat), x])) ∧ ∀ xs, SqL K H a xs → xs[i]? = some x, fun i H => ∃ xs : List V, SqL K H a xs ∧ xs.length ≤ i⟩
theorem turn_enumN {P : Program} {w : World} {K : PySem.W.Frag} {elts : List Expr} {kk : Nat} {tpos : Pos} (a e it : Addr) :
    Turn P w K (.Tuple elts kk tpos) (IteN K a) [e, it] e (fun i h => (∃ old, IsEnum h e it ((i : Nat) : Int) old) ∧ h.IsListIter it a i ∧ e ≠ it) where
  mem := by simp
  obj := fun i h st b hb => by
    obtain ⟨⟨old, he⟩, ⟨o, ho, hc, hd⟩, _⟩ := st
    have e' : b = e ∨ b = it := by simpa using hb
    rcases e' with z | z
    · rw [z]; exact ⟨_, he, fun v q => nomatch q⟩
    · rw [z]; exact ⟨o, ho, fun v q => by rw [hd] at q; cases q⟩
  keep := fun i h h' st k => let ⟨⟨old, he⟩, hi, hne⟩ := st; ⟨⟨old, k e (by simp) _ he⟩, hi.at fun o q => k it (by simp) o q, hne⟩
  item := by
    intro X hP hw hK hc i pins s σ H E I hf st hg
    subst hP hw hK
    obtain ⟨⟨old, he⟩, hit, hne⟩ := st
    obtain ⟨xs, x, hq, hx⟩ := hg
    obtain ⟨its, rv, p, hz⟩ := I.list hq
    obtain ⟨u, hu, ru⟩ := rv.get hx
    have hel : e < s.heap.objs.size := Heap.lt_size he
    have hil : it < s.heap.objs.size := by obtain ⟨_, q, _⟩ := hit; exact Heap.lt_size q
    refine wpAny_pyNext_enum_item he hit p.isList (x := u) (by simpa using hu) hne fun h' ho hit' hT hsz hk => ?_
    refine ⟨_, rfl, wpAny_letOwnedTupleGo_enum (s := { s with heap := h', toks := s.toks + 1 }) ho fun h'' he' sb => ?_⟩
    have hT2 : h''.get? s.heap.objs.size = some { cls := .type "tuple", data := .seq #[.int i s.toks, u] } := (sb.2 _ (Nat.ne_of_gt hel)).trans hT
    have new : ObjOk X.prog X.w (upd H s.heap.objs.size (.frz { cls := .type "tuple", data := .seq #[.int i s.toks, u] } (.tup [.int (i : Nat), x]))) h'' s.heap.objs.size (.frz { cls := .type "tuple", data := .seq #[.int i s.toks, u] } (.tup [.int (i : Nat), x])) :=
      ⟨hT2, by show 2 ≤ sizeLine; decide, [.int i s.toks, u], .cons ⟨_, rfl⟩ (.cons ru .nil), ⟨_, hT2, rfl, _, rfl⟩⟩
    have I1 : Inv X pins σ (upd H s.heap.objs.size (.frz { cls := .type "tuple", data := .seq #[.int i s.toks, u] } (.tup [.int (i : Nat), x]))) { s with heap := h'', toks := s.toks + 1 } :=
      I.turnedNew (ch := [e, it]) (fun b ob hb q => (sb.2 b (fun z => hb (by simp [z]))).trans (hk b ob (fun z => hb (by simp [z])) (fun z => hb (by simp [z])) q)) hf (Nat.le_refl _) new
    refine ⟨.ref s.heap.objs.size, _, I1, rfl, ⟨_, x, _, rfl, I.hok.fresh (Nat.le_refl _), rfl, rfl, fun ys hy => by rw [I.list_inj hy hq]; exact hx⟩, ⟨⟨u, ?_⟩, hit'.at fun o q => (sb.2 it (Ne.symm hne)).trans q, hne⟩, fun b hb => ?_⟩
    · have e1 : ((i + 1 : Nat) : Int) = (i : Int) + 1 := by omega
      rw [e1]; exact he'
    · have hb' : b < s.heap.objs.size := by
        have e' : b = e ∨ b = it := by simpa using hb
        rcases e' with z | z
        · rw [z]; exact hel
        · rw [z]; exact hil
      rw [upd_ne (Nat.ne_of_lt hb')]
      exact (hf b hb).1
  done := by
    intro X hP hw hK hc i pins s σ H E I hf st hg
    subst hP hw hK
    obtain ⟨⟨old, he⟩, hit, hne⟩ := st
    obtain ⟨xs, hq, hx⟩ := hg
    obtain ⟨its, rv, p, hz⟩ := I.list hq
    obtain ⟨f0, f1, f2, f3, f4, f5⟩ := hf it (by simp)
    have hl := rv.length
    exact wpAny_pyNext_enum_end (I.ok.hd hc) he hit p.isList (by simp; omega) fun h' eb => ⟨rfl, I.turned (t' := s.toks) (fun b o hb q => eb b o hb q) f0 f1 f3 f4 f5⟩
  self := fun A i s Q E st h => let ⟨⟨_, he⟩, _⟩ := st; wpAny_pyIter_enum he h
end Mi

set_option Elab.async false
set_option linter.all false
set_option maxRecDepth 100000
/-! tuple * int for every int. -/
namespace Mi
open PySem PySem.Spec PyProof.Rows L2
theorem tuple_mulS (l : Addr) (items : Array Value) (n : Nat) (dd : Option Addr) (sl : Array (Option Value)) (x : Int) (u : Tok) (c0 : (decide (x < -(2 ^ 63)) || decide (x ≥ 2 ^ 63)) = false) (c1 : (items.isEmpty || x == 1) = true) :
    Meets (Builtin.«tuple.__mul__» ⟨[.ref l, .int x u], []⟩) (fun _ R s => s.heap.get? l = some { cls := .type "tuple", dict := dd, data := .seq items n, slots := sl } ∧
      R (.ok (.ret (Value.ref l))) s) :=
  .of_wp fun prog w A R s h => by
    obtain ⟨hp, g, d, tk, os⟩ := s
    obtain ⟨hl, h⟩ := h
    have f1 := AutoSeq1.idx_int
    wp_walk using wpAny_loadPart' hl
    repeat (first
      | (refine wpAny_ite_false (decide_eq_false (by rw [c0]; exact Bool.false_ne_true)) ?_; wp_walk using wpAny_loadPart' hl)
      | (refine wpAny_ite_true (decide_eq_true c1) ?_; wp_walk using wpAny_loadPart' hl))
    exact ⟨_, rfl, h⟩
theorem tuple_mulZ (l : Addr) (items : Array Value) (n : Nat) (dd : Option Addr) (sl : Array (Option Value)) (x : Int) (u : Tok) (c0 : (decide (x < -(2 ^ 63)) || decide (x ≥ 2 ^ 63)) = false) (c1 : (items.isEmpty || x == 1) = false) (c2 : (decide (x ≤ 0) || items.isEmpty) = true) :
    Meets (Builtin.«tuple.__mul__» ⟨[.ref l, .int x u], []⟩) (fun _ R s => s.heap.get? l = some { cls := .type "tuple", dict := dd, data := .seq items n, slots := sl } ∧
      R (.ok (.ret (Value.ref s.heap.objs.size))) { s with heap := s.heap.push { cls := Value.type "tuple", data := Data.seq #[] }, toks := s.toks }) :=
  .of_wp fun prog w A R s h => by
    obtain ⟨hp, g, d, tk, os⟩ := s
    obtain ⟨hl, h⟩ := h
    have f1 := AutoSeq1.idx_int
    wp_walk using wpAny_loadPart' hl
    repeat (first
      | (refine wpAny_ite_false (decide_eq_false (by rw [c0]; exact Bool.false_ne_true)) ?_; wp_walk using wpAny_loadPart' hl)
      | (refine wpAny_ite_false (decide_eq_false (by rw [c1]; exact Bool.false_ne_true)) ?_; wp_walk using wpAny_loadPart' hl)
      | (refine wpAny_ite_true (decide_eq_true c2) ?_; wp_walk using wpAny_loadPart' hl)
      | (refine wpAny_ite_false (decide_eq_false (Nat.not_lt.mpr (by show 0 ≤ sizeLine; decide))) ?_; wp_walk using wpAny_loadPart' hl))
    exact ⟨_, rfl, h⟩
end Mi

set_option Elab.async false
set_option linter.all false
set_option maxRecDepth 100000
/-! Mini: operators. -/
namespace Mi
open PySem PySem.Spec PyProof.Rows L2
/-- what is wanted of an answer z at (m, H) -/
def Fin1 (K : PySem.W.Frag) (m : List Addr) (H : Hp) (h : Hm) (z : D) (Q : VK) : Prop := ∀ v H' m', HRp K m' H' h → Ext m H m' H' → Rp K m' H' v z → newV H v z → Q v H'
section
variable {K : PySem.W.Frag} {m : List Addr} {H : Hp} {h : Hm} {z : D} {Q : VK}
/-- the answer is an elder value -/
theorem Fin1.same (r : HRp K m H h) (f : Fin1 K m H h z Q) {v : V} (q : Rp K m H v z) (s : D.st z = true) : Q v H := f v H m r .refl q (newV_st s)
/-- the answer is a new tuple -/
theorem Fin1.tup {ds : List D} (r : HRp K m H h) (f : Fin1 K m H h (.tup ds) Q) {xs : List V} (s : D.stL ds = true) (q : RpL K m H xs ds) {p : Addr} (hp : H p = none) {o : Obj} (n : o.dict = none) : Q (.ref p) (upd H p (.frz o (.tup xs))) :=
  f _ _ m (r.lay hp) (Ext.lay hp) (.tup (.of upd_same n) s (RpL.ext r (Ext.lay hp) q)) (newV_st s)
/-- the answer is a new list -/
theorem Fin1.lst {ds : List D} (r : HRp K m H h) (f : Fin1 K m H h (.lv ds) Q) {xs : List V} (s : D.stL ds = true) (q : RpL K m H xs ds) {p : Addr} (hp : H p = none) : Q (.ref p) (upd H p (.lst xs)) :=
  f _ _ m (r.lay hp) (Ext.lay hp) (.lv upd_same (r.fresh hp) s (RpL.ext r (Ext.lay hp) q)) (fun _ a e1 e2 => by cases e2; exact hp)
end
theorem mulOk_ok {i j : Int} (h : mulOk i j = true) : IntMulOk i j := by
  unfold mulOk at h
  simp only [Bool.or_eq_true, decide_eq_true_eq] at h
  have b : ∀ x : Int, Builtin.Int.intBits x ≤ x.natAbs.log2 + 1 := fun x => by
    unfold Builtin.Int.intBits
    split <;> omega
  rcases h with (h | h) | h
  · exact .of_left (intBits_le_64 (by omega) (by omega))
  · exact .of_right (intBits_le_64 (by omega) (by omega))
  · have h1 := b i
    have h2 := b j
    have e : bitsLine = 134217728 := by decide
    unfold IntMulOk
    intro z
    rw [Bool.and_eq_true] at z
    have z2 := z.2
    unfold Builtin.Int.intTooBig at z2
    have z3 := of_decide_eq_true z2
    rw [e] at z3
    omega
theorem divOk_ok {i j : Int} (h : divOk j = true) : CDivW i j := by
  unfold divOk at h
  simp only [Bool.and_eq_true, decide_eq_true_eq] at h
  exact ⟨h.1, h.2⟩
theorem powOk_ok {i j : Int} (h : powOk i j = true) : CPow i j := by
  unfold powOk at h
  simp only [Bool.and_eq_true, decide_eq_true_eq] at h
  exact ⟨h.1.1, h.1.2, h.2⟩
theorem stL_reps {ds : List D} (h : D.stL ds = true) (k : Nat) : D.stL (reps ds k) = true := by
  unfold reps
  rw [stL_iff] at h ⊢
  intro d hd
  obtain ⟨l, hl, hm⟩ := List.mem_flatten.mp hd
  rw [List.mem_replicate] at hl
  rw [hl.2] at hm
  exact h d hm
theorem repOk_ok {n : Nat} {k : Int} (h : repOk n k = true) : -(2 ^ 63) ≤ k ∧ k < 2 ^ 63 ∧ n * k.toNat ≤ sizeLine := by
  unfold repOk at h
  simp only [Bool.and_eq_true, decide_eq_true_eq] at h
  have := h.1
  exact ⟨by omega, by omega, h.2⟩
def rBin (K : PySem.W.Frag) (o : Operator) : R2 := fun x y H Q => ∃ m h d e z, HRp K m H h ∧ Rp K m H x d ∧ Rp K m H y e ∧ binD h o d e = some z ∧ Fin1 K m H h z Q
theorem rpL_nil {K : PySem.W.Frag} {m : List Addr} {H : Hp} {xs : List V} {ds : List D} (q : RpL K m H xs ds) : xs = [] ↔ ds = [] := by
  cases q <;> simp
theorem wls_view {K : PySem.W.Frag} {m : List Addr} {H : Hp} {h : Hm} {d : D} {v : V} {ds : List D} (r : HRp K m H h) (q : Rp K m H v d) (e : wlsOf h d = some ds) : ∃ a xs, v = .ref a ∧ H a = some (.lst xs) ∧ D.stL ds = true ∧ RpL K m H xs ds := by
  cases q with
  | lv e1 nm s t =>
    simp [wlsOf] at e; subst e
    exact ⟨_, _, rfl, e1, s, t⟩
  | ref e1 =>
    rename_i a n
    simp only [wlsOf] at e
    split at e
    · rename_i ds' e2
      cases e
      obtain ⟨a', xs, e3, e4, s, t⟩ := lst_view (Z := ⟨K, fun _ => none⟩) r e2
      rw [e1] at e3; cases e3
      exact ⟨a, xs, rfl, e4, s, t⟩
    · cases e
  | _ => simp [wlsOf] at e
section
variable {X : Cx}
theorem op_addL {pins : List (Addr × Obj)} {s : Shared} {σ : L2.St} {H : Hp} {x y : V} {v u : Value} {Q : VK} {m : List Addr} {h : Hm} {d e z : D} (I : Inv X pins σ H s) (rx : RelV x v) (ry : RelV y u) (hr : HRp X.K m H h) (qd : Rp X.K m H x d) (qe : Rp X.K m H y e)
    (hz : addL h d e = some z) (fin : Fin1 X.K m H h z Q) : wpAny (model X.prog X.w) X.A (binaryOp .Add v u) (EP X pins σ Q) X.xe s := by
  unfold addL at hz
  split at hz
  · rename_i a b ea eb
    split at hz
    · rename_i hl
      cases hz
      obtain ⟨p, xs, rfl, hp, sa, ta⟩ := wls_view hr qd ea
      obtain ⟨p2, ys, rfl, hp2, sb, tb⟩ := wls_view hr qe eb
      refine op_cat pins s σ H _ _ v u Q I rx ry ⟨p, p2, xs, ys, rfl, rfl, hp, hp2, by rw [ta.length, tb.length]; exact hl, fun q hq => ?_⟩
      exact fin.lst hr (by rw [stL_append, sa, sb]; rfl) (ta.append tb) hq
    · cases hz
  · cases hz
theorem op_mulL {pins : List (Addr × Obj)} {s : Shared} {σ : L2.St} {H : Hp} {x : V} {k : Int} {v u : Value} {Q : VK} {m : List Addr} {h : Hm} {d : D} {ds : List D} (I : Inv X pins σ H s) (rx : RelV x v) (ry : RelV (.int k) u) (hr : HRp X.K m H h) (qd : Rp X.K m H x d)
    (ea : wlsOf h d = some ds) (hk : repOk ds.length k = true) (fin : Fin1 X.K m H h (.lv (reps ds k.toNat)) Q) : wpAny (model X.prog X.w) X.A (binaryOp .Mult v u) (EP X pins σ Q) X.xe s := by
  obtain ⟨p, xs, rfl, hp, sa, ta⟩ := wls_view hr qd ea
  obtain ⟨h1, h2, h3⟩ := repOk_ok hk
  refine op_rep pins s σ H _ _ v u Q I rx ry ⟨p, k, xs, rfl, rfl, hp, h1, h2, by rw [ta.length]; exact h3, fun q hq => ?_⟩
  exact fin.lst hr (stL_reps sa _) (ta.reps _) hq
/-- t * k -/
theorem op_mulT {pins : List (Addr × Obj)} {s : Shared} {σ : L2.St} {H : Hp} {l : Addr} {xs : List V} {k : Int} {u : Value} {Q : VK} (I : Inv X pins σ H s) (ry : RelV (.int k) u) (hT : SqT X.K H l xs) (hk : repOk xs.length k = true)
    (h1 : (xs = [] ∨ k = 1) → Q (.ref l) H) (h2 : ¬ (xs = [] ∨ k = 1) → ∀ p o, o.dict = none → H p = none → Q (.ref p) (upd H p (.frz o (.tup (reps xs k.toNat))))) : wpAny (model X.prog X.w) X.A (binaryOp .Mult (.ref l) u) (EP X pins σ Q) X.xe s := by
  obtain ⟨t, rfl⟩ := ry
  obtain ⟨k1, k2, k3⟩ := repOk_ok hk
  obtain ⟨its, r, ⟨⟨cls, dd, data, sl⟩, ho, hc, n, hd⟩, hs⟩ := I.tuple hT
  simp only at hc hd
  subst hc hd
  have hle : its.length = xs.length := r.length.symm
  have hsz0 : its.toArray.size = xs.length := by rw [List.size_toArray, hle]
  have c0 : (decide (k < -(2 ^ 63)) || decide (k ≥ 2 ^ 63)) = false := by
    rw [decide_eq_false (by omega), decide_eq_false (by omega)] <;> rfl
  have hie : its.toArray.isEmpty = decide (xs = []) := by
    cases r <;> simp
  refine wpAny_binaryOp_repeat_ref (T := "tuple") (U := "int") (by decide) ⟨_, ho, rfl⟩ (fun s' => typeIs_int s' k t) noFill_tuple_mul F.fills_int_mul F.slot_int_rmul repeat_tuple F.slot_int_index.lookup
    (call_meets F.slot_int_rmul (typeIs_int s k t) F.entry_int_rmul (F.args_int_rmul_2 _ _) (int_rmul_tuple k t l its.toArray n dd sl) ⟨ho, rfl, ⟨_, ho, rfl⟩, ?_⟩)
  by_cases hw : xs = [] ∨ k = 1
  · have c1 : (its.toArray.isEmpty || k == 1) = true := by
      rw [hie]
      rcases hw with z | z
      · simp [z]
      · simp [z]
    exact call_meets F.slot_tuple_mul ⟨_, ho, rfl⟩ F.entry_tuple_mul (F.args_tuple_mul_2 _ _) (tuple_mulS l its.toArray n dd sl k t c0 c1) ⟨ho, ⟨.ref l, H, I, rfl, h1 hw⟩⟩
  · have hn : xs ≠ [] := fun z => hw (.inl z)
    have hk1 : k ≠ 1 := fun z => hw (.inr z)
    have c1 : (its.toArray.isEmpty || k == 1) = false := by
      rw [hie, decide_eq_false hn, Bool.false_or]
      exact beq_eq_false_iff_ne.mpr hk1
    have fin := h2 hw
    by_cases hz : k ≤ 0
    · have c2 : (decide (k ≤ 0) || its.toArray.isEmpty) = true := by simp [hz]
      have e0 : k.toNat = 0 := by omega
      refine call_meets F.slot_tuple_mul ⟨_, ho, rfl⟩ F.entry_tuple_mul (F.args_tuple_mul_2 _ _) (tuple_mulZ l its.toArray n dd sl k t c0 c1 c2) ⟨ho, ?_⟩
      rw [e0] at fin
      exact ⟨.ref s.heap.objs.size, _, I.laid (t' := s.toks) (o := .frz (tupO #[]) (.tup [])) (fun b ob q => Heap.get?_push_of_some _ q) (Nat.le_refl _) ⟨Heap.get?_push_size _ rfl, Nat.zero_le _, [], .nil, IsTup.new _ _⟩, rfl, fin _ _ rfl (I.hok.fresh (Nat.le_refl _))⟩
    · have hi : its.toArray.isEmpty = false := by rw [hie]; exact decide_eq_false hn
      have c2 : (decide (k ≤ 0) || its.toArray.isEmpty) = false := by rw [hi, Bool.or_false]; exact decide_eq_false hz
      have hm : ((its.toArray.size : Nat) : Int) * k ≤ 16777216 := by
        rw [hsz0]
        have a1 : ((xs.length * k.toNat : Nat) : Int) ≤ 16777216 := by rw [sizeLine_eq] at k3; omega
        have e1 : (k.toNat : Int) = k := by omega
        rw [Int.natCast_mul, e1] at a1
        exact a1
      have flen : (List.replicate k.toNat its).flatten.length ≤ sizeLine := by
        rw [PyProof.Rows.lm_len_rep_flat, hle, Nat.mul_comm]
        exact k3
      have c4 : Builtin.Tuple.tupleTooMany (((its.toArray.size : Nat) : Int) * k) = false := by
        unfold Builtin.Tuple.tupleTooMany
        rw [sizeLine_eq]
        exact decide_eq_false (by omega)
      refine call_meets F.slot_tuple_mul ⟨_, ho, rfl⟩ F.entry_tuple_mul (F.args_tuple_mul_2 _ _) (tuple_mulW l its.toArray n dd sl k t c0 c1 c2 (by omega) c4 (by rw [size_rep, List.size_toArray]; exact flen)) ⟨ho, ?_⟩
      rw [size_rep]
      refine ⟨.ref s.heap.objs.size, _, I.laid (t' := s.toks) (o := .frz (tupO (List.replicate k.toNat its).flatten.toArray) (.tup (reps xs k.toNat))) (fun b ob q => Heap.get?_push_of_some _ q) (Nat.le_refl _) ?_, rfl, fin _ _ rfl (I.hok.fresh (Nat.le_refl _))⟩
      exact ⟨Heap.get?_push_size _ rfl, by unfold reps; rw [PyProof.Rows.lm_len_rep_flat, Nat.mul_comm]; exact k3, _, r.rep k.toNat, IsTup.new _ _⟩
/-- x * k, x a text -/
theorem op_mulS {pins : List (Addr × Obj)} {s : Shared} {σ : L2.St} {H : Hp} {x : Str} {k : Int} {v u : Value} {Q : VK} (I : Inv X pins σ H s) (rx : RelV (.str x) v) (ry : RelV (.int k) u) (hk : repOk x.length k = true)
    (hq : Q (.str ⟨(reps x.cps.toList k.toNat).toArray⟩) H) : wpAny (model X.prog X.w) X.A (binaryOp .Mult v u) (EP X pins σ Q) X.xe s := by
  obtain ⟨t, rfl⟩ := rx
  obtain ⟨t', rfl⟩ := ry
  obtain ⟨k1, k2, k3⟩ := repOk_ok hk
  have hlen : x.length = x.cps.toList.length := by simp [Str.length]
  refine P.mul_str ?_ (fun h1 h2 => ?_) (fun h1 h2 => ?_) ?_
  · rw [decide_eq_false (by omega), decide_eq_false (by omega)] <;> rfl
  · have e1 : (k.toNat : Int) = k := by omega
    have a1 : (x.length : Int) * k ≤ 16777216 := by
      have : ((x.length * k.toNat : Nat) : Int) ≤ 16777216 := by rw [sizeLine_eq] at k3; omega
      rwa [Int.natCast_mul, e1] at this
    intro z
    have z' : (2 ^ 63 - 1) / k < (x.length : Int) := z
    have z2 := (Int.ediv_lt_iff_lt_mul (by omega : (0 : Int) < k)).mp z'
    have : (2 : Int) ^ 63 = 9223372036854775808 := by decide
    omega
  · unfold Builtin.Str.tooLong
    exact decide_eq_false (Nat.not_lt.mpr k3)
  · by_cases h1 : k < 1
    · rw [if_pos h1]
      have e0 : k.toNat = 0 := by omega
      rw [e0] at hq
      exact ⟨by decide, .str Str.empty, H, I.tok _, ⟨_, rfl⟩, hq⟩
    · rw [if_neg h1]
      by_cases h2 : (k == 1 || x.length == 0) = true
      · rw [if_pos h2]
        have e : (⟨(reps x.cps.toList k.toNat).toArray⟩ : Str) = x := by
          rw [Bool.or_eq_true] at h2
          rcases h2 with h2 | h2
          · have : k = 1 := by simpa using h2
            subst this
            simp [reps]
          · have e0 : x.cps.toList = [] := by
              have : x.length = 0 := by simpa using h2
              rw [hlen] at this
              exact List.eq_nil_of_length_eq_zero this
            have e1 : x.cps = #[] := by simpa using e0
            obtain ⟨c⟩ := x
            simp only at e1
            subst e1
            simp [reps]
        rw [e] at hq
        exact ⟨.str x, H, I, ⟨_, rfl⟩, hq⟩
      · rw [if_neg h2]
        have e : (List.replicate k.toNat x.cps).foldl (· ++ ·) #[] = (reps x.cps.toList k.toNat).toArray := by
          have q : ∀ (j : Nat) (acc : List Nat), List.foldl (fun x1 x2 => x1 ++ x2) acc.toArray (List.replicate j x.cps) = (acc ++ (List.replicate j x.cps.toList).flatten).toArray := by
            intro j
            induction j with
            | zero => intro acc; simp
            | succ j ih =>
              intro acc
              rw [List.replicate_succ, List.foldl_cons, List.replicate_succ, List.flatten_cons]
              have : acc.toArray ++ x.cps = (acc ++ x.cps.toList).toArray := by simp
              rw [this, ih, List.append_assoc]
          have := q k.toNat []
          simpa [reps] using this
        rw [e]
        refine ⟨?_, .str _, H, I.tok _, ⟨_, rfl⟩, hq⟩
        show (reps x.cps.toList k.toNat).toArray.size ≤ sizeLine
        rw [List.size_toArray]
        unfold reps
        rw [List.length_flatten]
        simp [← hlen]
        rw [Nat.mul_comm]; exact k3
theorem op_bin (o : Operator) : OpR X (binaryOp o) (rBin X.K o) := by
  intro pins s σ H x y v u Q I rx ry ⟨m, h, d, e, z, hr, qd, qe, hz, fin⟩
  cases o with
  | Add =>
    cases qd with
    | int a =>
      cases qe with
      | int b => cases hz; exact op_add pins s σ H _ _ v u Q I rx ry ⟨_, _, rfl, rfl, fin.same hr (.int _) rfl⟩
      | _ => simp [binD] at hz
    | str a =>
      cases qe with
      | str b =>
        simp only [binD] at hz
        split at hz
        · cases hz
          exact op_add_str pins s σ H _ _ v u Q I rx ry ⟨_, _, rfl, rfl, by assumption, fin.same hr (.str _) rfl⟩
        · cases hz
      | _ => simp [binD] at hz
    | tup qa sa ta =>
      cases qe with
      | tup qb sb tb =>
        simp only [binD] at hz
        split at hz
        · rename_i hl
          cases hz
          refine op_catN pins s σ H _ _ v u Q I rx ry ⟨_, _, _, _, rfl, rfl, qa.sq, qb.sq, by rw [ta.length, tb.length]; exact hl, fun e => ?_, fun e1 e2 => ?_, fun e1 e2 p o no hp => ?_⟩
          · have e' := (rpL_nil ta).mp e
            rw [e', List.nil_append] at fin
            exact fin.same hr (.tup qb sb tb) sb
          · have e' := (rpL_nil tb).mp e2
            rw [e', List.append_nil] at fin
            exact fin.same hr (.tup qa sa ta) sa
          · exact fin.tup hr (by rw [stL_append, sa, sb]; rfl) (ta.append tb) hp no
        · cases hz
      | _ => simp [binD] at hz
    | lv e1 nm sa ta => exact op_addL I rx ry hr (.lv e1 nm sa ta) qe hz fin
    | ref e1 => exact op_addL I rx ry hr (.ref e1) qe hz fin
    | _ => simp [binD] at hz
  | Sub =>
    cases qd <;> cases qe <;> first | (simp [binD] at hz; done) | skip
    cases hz
    exact op_sub pins s σ H _ _ v u Q I rx ry ⟨_, _, rfl, rfl, fin.same hr (.int _) rfl⟩
  | FloorDiv =>
    cases qd <;> cases qe <;> first | (simp [binD] at hz; done) | skip
    simp only [binD] at hz
    split at hz
    · cases hz
      rename_i hc
      exact op_fdivW pins s σ H _ _ v u Q I rx ry ⟨_, _, rfl, rfl, divOk_ok hc, fin.same hr (.int _) rfl⟩
    · cases hz
  | Mod =>
    cases qd <;> cases qe <;> first | (simp [binD] at hz; done) | skip
    simp only [binD] at hz
    split at hz
    · cases hz
      rename_i hc
      exact op_mod pins s σ H _ _ v u Q I rx ry ⟨_, _, rfl, rfl, hc, fin.same hr (.int _) rfl⟩
    · cases hz
  | Pow =>
    cases qd <;> cases qe <;> first | (simp [binD] at hz; done) | skip
    simp only [binD] at hz
    split at hz
    · cases hz
      rename_i hc
      exact op_pow pins s σ H _ _ v u Q I rx ry ⟨_, _, rfl, rfl, powOk_ok hc, fin.same hr (.int _) rfl⟩
    · cases hz
  | LShift =>
    cases qd <;> cases qe <;> first | (simp [binD] at hz; done) | skip
    simp only [binD] at hz
    split at hz
    · cases hz
      rename_i hc
      exact op_shl pins s σ H _ _ v u Q I rx ry ⟨_, _, rfl, rfl, powOk_ok hc, fin.same hr (.int _) rfl⟩
    · cases hz
  | RShift =>
    cases qd <;> cases qe <;> first | (simp [binD] at hz; done) | skip
    simp only [binD] at hz
    split at hz
    · cases hz
      rename_i hc
      exact op_shr pins s σ H _ _ v u Q I rx ry ⟨_, _, rfl, rfl, hc, fin.same hr (.int _) rfl⟩
    · cases hz
  | BitAnd =>
    cases qd <;> cases qe <;> first | (simp [binD] at hz; done) | skip
    cases hz
    exact op_and pins s σ H _ _ v u Q I rx ry ⟨_, _, rfl, rfl, fin.same hr (.int _) rfl⟩
  | BitOr =>
    cases qd <;> cases qe <;> first | (simp [binD] at hz; done) | skip
    cases hz
    exact op_or pins s σ H _ _ v u Q I rx ry ⟨_, _, rfl, rfl, fin.same hr (.int _) rfl⟩
  | Mult =>
    cases qd with
    | int a =>
      cases qe with
      | int b =>
        simp only [binD] at hz
        split at hz
        · cases hz
          rename_i hc
          obtain ⟨t, rfl⟩ := rx
          obtain ⟨t', rfl⟩ := ry
          exact mul_int ⟨.int _, H, I.tok _, ⟨_, rfl⟩, fin.same hr (.int _) rfl⟩ (mulOk_ok hc)
        · cases hz
      | _ => simp [binD] at hz
    | str a =>
      cases qe with
      | int b =>
        simp only [binD] at hz
        split at hz
        · cases hz
          exact op_mulS I rx ry (by assumption) (fin.same hr (.str _) rfl)
        · cases hz
      | _ => simp [binD] at hz
    | tup qa sa ta =>
      cases qe with
      | int b =>
        simp only [binD] at hz
        split at hz
        · rename_i hc
          cases hz
          cases rx
          refine op_mulT I ry qa.sq (by rw [ta.length]; exact hc) (fun e => ?_) fun e p o no hp => fin.tup hr (stL_reps sa _) (ta.reps _) hp no
          rcases e with e | e
          · have e' := (rpL_nil ta).mp e
            rw [e'] at fin
            have e3 : reps ([] : List D) b.toNat = [] := by simp [reps]
            rw [e3] at fin
            rw [e'] at ta
            exact fin.same hr (.tup qa rfl ta) rfl
          · subst e
            have e3 : ∀ l : List D, reps l (1 : Int).toNat = l := fun l => by simp [reps]
            rw [e3] at fin
            exact fin.same hr (.tup qa sa ta) sa
        · cases hz
      | _ => simp [binD] at hz
    | lv e1 nm sa ta =>
      cases qe with
      | int b =>
        simp only [binD] at hz
        split at hz
        · cases hz
          exact op_mulL I rx ry hr (.lv e1 nm sa ta) rfl (by assumption) fin
        · cases hz
      | _ => simp [binD] at hz
    | ref e1 =>
      cases qe with
      | int b =>
        simp only [binD] at hz
        split at hz
        · rename_i l el
          split at hz
          · cases hz
            exact op_mulL I rx ry hr (.ref e1) el (by assumption) fin
          · cases hz
        · cases hz
      | _ => simp [binD] at hz
    | _ => simp [binD] at hz
  | _ => simp [binD] at hz
end
end Mi

set_option Elab.async false
set_option linter.all false
set_option maxRecDepth 100000
/-! Mini: data with dicts among them: what they read as, what repr tells. -/
namespace Mi
open PySem PySem.Spec PyProof.Rows L2
mutual
inductive Dq (K : PySem.W.Frag) (H : Hp) : V → PyData → Prop
  | non : Dq K H .non .none
  | bl (b : Bool) : Dq K H (.bl b) (.bool b)
  | int (i : Int) : Dq K H (.int i) (.int i)
  | str (x : Str) : Dq K H (.str x) (.str x)
  | lst {a : Addr} {xs : List V} {ds : List PyData} : SqL K H a xs → DqAll K H xs ds → Dq K H (.ref a) (.list ds)
  | tup {a : Addr} {xs : List V} {ds : List PyData} : SqT K H a xs → DqAll K H xs ds → Dq K H (.ref a) (.tuple ds)
  | dic {a : Addr} {kvs : List (L2.Key × V)} {ds : List PyData} : H a = some (.dK kvs) → DqAll K H (kvs.map (·.2)) ds → Dq K H (.ref a) (.dict ((kvs.map fun q => keyPy q.1).zip ds))
inductive DqAll (K : PySem.W.Frag) (H : Hp) : List V → List PyData → Prop
  | nil : DqAll K H [] []
  | cons {v : V} {vs : List V} {d : PyData} {ds : List PyData} : Dq K H v d → DqAll K H vs ds → DqAll K H (v :: vs) (d :: ds)
end
section
variable {K : PySem.W.Frag} {H : Hp}
mutual
theorem Dq.dp : ∀ {v : V} {p : PyData}, Dq K H v p → p.canLay0 = true → Dp K H v p
  | _, _, .non, _ => .non
  | _, _, .bl b, _ => .bl b
  | _, _, .int i, _ => .int i
  | _, _, .str x, _ => .str x
  | _, _, .lst q t, c => .lst q (DqAll.dp t (by simpa [PyData.canLay0] using c))
  | _, _, .tup q t, c => .tup q (DqAll.dp t (by simpa [PyData.canLay0] using c))
  | _, _, .dic q t, c => by simp [PyData.canLay0] at c
theorem DqAll.dp : ∀ {v : List V} {p : List PyData}, DqAll K H v p → PyData.canLayAll0 p = true → DpAll K H v p
  | _, _, .nil, _ => .nil
  | _, _, .cons q t, c => by
    simp only [PyData.canLayAll0, Bool.and_eq_true] at c
    exact .cons (Dq.dp q c.1) (DqAll.dp t c.2)
end
theorem DqAll.length : ∀ {v : List V} {p : List PyData}, DqAll K H v p → v.length = p.length
  | _, _, .nil => rfl
  | _, _, .cons _ t => congrArg Nat.succ t.length
end
theorem map_fst_zip' {α β : Type} : ∀ {a : List α} {b : List β}, a.length = b.length → (a.zip b).map (·.1) = a
  | [], [], _ => rfl
  | a :: as, b :: bs, e => by
    simp only [List.zip_cons_cons, List.map_cons]
    rw [map_fst_zip' (by simpa using e)]
theorem map_snd_zip' {α β : Type} : ∀ {a : List α} {b : List β}, a.length = b.length → (a.zip b).map (·.2) = b
  | [], [], _ => rfl
  | a :: as, b :: bs, e => by
    simp only [List.zip_cons_cons, List.map_cons]
    rw [map_snd_zip' (by simpa using e)]
theorem keys_reads {h : Heap} {P : Program} {w : World} : ∀ {es : List DictEntry} {vs : List (L2.Key × Value)}, Pairs (mixKind P w) es vs → ReadsAll h (es.map (·.key)) (vs.map fun q => keyPy q.1) []
  | _, _, .nil => .nil
  | _, _, .cons k _ t => by
    have ih := keys_reads (h := h) t
    refine ReadsAll.cons (as := []) (bs := []) ?_ ih
    rcases keyIs_shape k with ⟨i, u, e1, e2⟩ | ⟨x, u, e1, e2⟩
    · simp only [e1, e2]; exact .int i u
    · simp only [e1, e2]; exact .str x u
theorem vals_pairs {P : Program} {w : World} : ∀ {es : List DictEntry} {vs : List (L2.Key × Value)}, Pairs (mixKind P w) es vs → es.map (·.val) = vs.map (·.2)
  | _, _, .nil => rfl
  | _, _, .cons _ e t => by simp [e, vals_pairs t]
theorem kv_vals {kvs : List (L2.Key × V)} {vs : List (L2.Key × Value)} (r : KV kvs vs) : Vals (kvs.map (·.2)) (vs.map (·.2)) ∧ kvs.map (·.1) = vs.map (·.1) := by
  induction r with
  | nil => exact ⟨.nil, rfl⟩
  | cons q t ih => exact ⟨.cons q.2 ih.1, by simp [q.1, ih.2]⟩
section
variable {X : Cx} {pins : List (Addr × Obj)} {σ : L2.St} {H : Hp} {s : Shared}
/-- a dict as the heap has it -/
theorem dic_at (I : Inv X pins σ H s) {a : Addr} {kvs : List (L2.Key × V)} (e : H a = some (.dK kvs)) : ∃ (o : Obj) (es : Array DictEntry) (n : Nat) (us : List Value), s.heap.get? a = some o ∧ o.cls = .type "dict" ∧ o.data = .dict es n ∧ (a == sysModules) = false ∧
    es.toList.map (·.val) = us ∧ Vals (kvs.map (·.2)) us ∧ ReadsAll s.heap (es.toList.map (·.key)) (kvs.map fun q => keyPy q.1) [] := by
  obtain ⟨z, lo, vs, rk, o, es, ep, h1, h2, h3, ko, ps, nd⟩ := dk_of I.hok e
  obtain ⟨rv, ke⟩ := kv_vals rk
  refine ⟨o, es, ep, _, h1, h2.1, h3, lo, vals_pairs ps, rv, ?_⟩
  have := keys_reads (h := s.heap) ps
  have e2 : (kvs.map fun q => keyPy q.1) = vs.map fun q => keyPy q.1 := by
    have := congrArg (List.map keyPy) ke
    simpa [List.map_map, Function.comp_def] using this
  rw [e2]; exact this
mutual
theorem Dq.reads (I : Inv X pins σ H s) : ∀ {v : V} {p : PyData}, Dq X.K H v p → ∀ u, RelV v u → ∃ as, Reads s.heap u p as
  | _, _, .non, _, r => by cases r; exact ⟨_, .none⟩
  | _, _, .bl b, _, r => by cases r; exact ⟨_, .bool b⟩
  | _, _, .int i, _, r => by obtain ⟨t, rfl⟩ := r; exact ⟨_, .int i t⟩
  | _, _, .str x, _, r => by obtain ⟨t, rfl⟩ := r; exact ⟨_, .str x t⟩
  | _, _, .lst hs ha, _, r => by
    cases r
    obtain ⟨its, rv, ⟨o, n, ho, hc, _, hd⟩, _⟩ := I.list hs
    obtain ⟨as, hr⟩ := DqAll.reads I ha its rv
    exact ⟨_, .list ho hc hd hr⟩
  | _, _, .tup hs ha, _, r => by
    cases r
    obtain ⟨its, rv, ⟨o, ho, hc, n, hd⟩, _⟩ := I.tuple hs
    obtain ⟨as, hr⟩ := DqAll.reads I ha its rv
    exact ⟨_, .tuple ho hc hd hr⟩
  | _, _, .dic e ha, _, r => by
    cases r
    obtain ⟨o, es, n, us, h1, h2, h3, _, h4, rv, h5⟩ := dic_at I e
    obtain ⟨bs, hr⟩ := DqAll.reads I ha us rv
    have l := ha.length
    refine ⟨_, .dict h1 h2 h3 (by rw [map_fst_zip' (by simpa using l)]; exact h5) (by rw [map_snd_zip' (by simpa using l), h4]; exact hr)⟩
theorem DqAll.reads (I : Inv X pins σ H s) : ∀ {v : List V} {p : List PyData}, DqAll X.K H v p → ∀ u, Vals v u → ∃ as, ReadsAll s.heap u p as
  | _, _, .nil, _, r => by cases r; exact ⟨_, .nil⟩
  | _, _, .cons q t, _, r => by
    cases r with
    | cons r1 r2 =>
      obtain ⟨as, q1⟩ := Dq.reads I q _ r1
      obtain ⟨bs, q2⟩ := DqAll.reads I t _ r2
      exact ⟨_, .cons q1 q2⟩
end
mutual
theorem Dq.rk (I : Inv X pins σ H s) : ∀ {v : V} {p : PyData}, Dq X.K H v p → ∀ u, RelV v u → p.showable = true → p.shown.length ≤ sizeLine → ∃ bs, ReadAtMost s.heap p.depth bs ∧ ReprK X.prog X.w bs s.heap p.depth u p.shown
  | _, _, .non, _, r, _, _ => by cases r; exact ⟨[], (fun _ h => nomatch h), by simp only [PyData.shown]; exact .of_is ReprIs.none _ _ _⟩
  | _, _, .bl b, _, r, _, _ => by cases r; exact ⟨[], (fun _ h => nomatch h), by simp only [PyData.shown]; exact .of_is (ReprIs.bool b) _ _ _⟩
  | _, _, .int i, _, r, hs, _ => by
    obtain ⟨t, rfl⟩ := r
    exact ⟨[], (fun _ h => nomatch h), by simp only [PyData.shown]; exact .of_is (ReprIs.int t (by simpa [PyData.showable] using hs)) _ _ _⟩
  | _, _, .str x, _, r, _, hz => by
    obtain ⟨t, rfl⟩ := r
    exact ⟨[], (fun _ h => nomatch h), by simp only [PyData.shown]; exact .of_is (ReprIs.str x t (by simpa only [PyData.shown] using hz)) _ _ _⟩
  | _, _, .lst (a := a) (ds := ds) hq ha, _, r, hs, hz => by
    cases r
    obtain ⟨its, rv, ⟨o, n, h1, h2, _, h3⟩, _⟩ := I.list hq
    obtain ⟨as, h4⟩ := DqAll.reads I ha its rv
    have hz' : (listText (PyData.shownAll ds)).length ≤ sizeLine := by simpa only [PyData.shown] using hz
    obtain ⟨bs, hb, hk⟩ := DqAll.rk I ha its rv (by simpa [PyData.showable] using hs) (fun t ht => Nat.le_trans (listText_mem_le ht) hz')
    have rd : Reads s.heap (.ref a) (.list ds) _ := .list h1 h2 h3 h4
    have hna : a ∉ bs := not_mem_of_deeper rd (by simp only [PyData.depth]; omega) hb
    refine ⟨a :: bs, ReadAtMost.cons rd (by simp only [PyData.depth]; omega) hb, ?_⟩
    simp only [PyData.depth, PyData.shown]
    cases its with
    | nil =>
      cases h4
      simp only [PyData.shownAll, listText_nil]
      exact ReprK.listEmpty h1 h2 h3
    | cons x l => exact ReprK.list h1 h2 h3 hna (by simpa using hk.length_eq) (fun i y e => hk.item i y (by simpa using e))
  | _, _, .tup (a := a) (ds := ds) hq ha, _, r, hs, hz => by
    cases r
    obtain ⟨its, rv, ⟨o, h1, h2, n, h3⟩, _⟩ := I.tuple hq
    obtain ⟨as, h4⟩ := DqAll.reads I ha its rv
    have hz' : (tupleText (PyData.shownAll ds)).length ≤ sizeLine := by simpa only [PyData.shown] using hz
    obtain ⟨bs, hb, hk⟩ := DqAll.rk I ha its rv (by simpa [PyData.showable] using hs) (fun t ht => Nat.le_trans (tupleText_mem_le ht) hz')
    have rd : Reads s.heap (.ref a) (.tuple ds) _ := .tuple h1 h2 h3 h4
    have hna : a ∉ bs := not_mem_of_deeper rd (by simp only [PyData.depth]; omega) hb
    refine ⟨a :: bs, ReadAtMost.cons rd (by simp only [PyData.depth]; omega) hb, ?_⟩
    simp only [PyData.depth, PyData.shown]
    exact ReprK.tuple h1 h2 h3 hna hk
  | _, _, .dic (a := a) (kvs := kvs) (ds := ds) e ha, _, r, hs, hz => by
    cases r
    obtain ⟨o, es, n, us, h1, h2, h3, lo, h4, rv, h5⟩ := dic_at I e
    obtain ⟨as, h6⟩ := DqAll.reads I ha us rv
    have l := ha.length
    have l' : (kvs.map fun q => keyPy q.1).length = ds.length := by simpa using l
    have ef := map_fst_zip' l'
    have es2 := map_snd_zip' l'
    generalize hZ : (kvs.map fun q => keyPy q.1).zip ds = Z at *
    have hz' : (dictText (PyData.shownKv Z)).length ≤ sizeLine := by simpa only [PyData.shown] using hz
    obtain ⟨hs1, hs2⟩ := PyData.showableKv_split Z (by simpa [PyData.showable] using hs)
    rw [← ef] at h5
    rw [← es2] at h6
    obtain ⟨b1, hb1, k1⟩ := ReprAllK.of_readsAll (prog := X.prog) (w := X.w) h5 hs1 (fun _ hm => nomatch hm) (fun t ht => let ⟨p, hp, hl⟩ := PyData.shownKv_key_le Z t ht; Nat.le_trans hl (Nat.le_trans (dictText_mem_le hp) hz'))
    obtain ⟨b2, hb2, k2⟩ := DqAll.rk I ha us rv (by rw [← es2]; exact hs2) (fun t ht => by
      rw [← es2] at ht
      obtain ⟨p, hp, hl⟩ := PyData.shownKv_val_le Z t ht
      exact Nat.le_trans hl (Nat.le_trans (dictText_mem_le hp) hz'))
    rw [← es2] at hb2 k2
    rw [← h4] at k2 h6
    have rd : Reads s.heap (.ref a) (.dict Z) _ := .dict h1 h2 h3 h5 h6
    have hb : ReadAtMost s.heap (PyData.depthKv Z) (b1 ++ b2) := (hb1.mono (PyData.depthAll_keys_le Z)).append (hb2.mono (PyData.depthAll_vals_le Z))
    have hna : a ∉ b1 ++ b2 := not_mem_of_deeper rd (by simp only [PyData.depth]; omega) hb
    refine ⟨a :: (b1 ++ b2), ReadAtMost.cons rd (by simp only [PyData.depth]; omega) hb, ?_⟩
    simp only [PyData.depth, PyData.shown, PyData.shownKv_eq]
    exact ReprK.dict h1 h2 h3 lo hna (ReprEntriesK.of_two es.toList _ _
      (k1.more_le (fun b hb => List.mem_append_left _ hb) (PyData.depthAll_keys_le Z)) (k2.more_le (fun b hb => List.mem_append_right _ hb) (PyData.depthAll_vals_le Z)))
theorem DqAll.rk (I : Inv X pins σ H s) : ∀ {v : List V} {p : List PyData}, DqAll X.K H v p → ∀ u, Vals v u → PyData.showableAll p = true → (∀ t ∈ PyData.shownAll p, t.length ≤ sizeLine) → ∃ bs, ReadAtMost s.heap (PyData.depthAll p) bs ∧ ReprAllK X.prog X.w bs s.heap (PyData.depthAll p) u (PyData.shownAll p)
  | _, _, .nil, _, r, _, _ => by cases r; exact ⟨[], (fun _ h => nomatch h), by simp only [PyData.shownAll]; exact .nil⟩
  | _, _, .cons q t, _, r, hs, hz => by
    cases r with
    | cons r1 r2 =>
      simp only [PyData.showableAll, Bool.and_eq_true] at hs
      obtain ⟨b1, hb1, k1⟩ := Dq.rk I q _ r1 hs.1 (hz _ (by simp only [PyData.shownAll]; exact List.mem_cons_self ..))
      obtain ⟨b2, hb2, k2⟩ := DqAll.rk I t _ r2 hs.2 (fun t ht => hz t (by simp only [PyData.shownAll]; exact List.mem_cons_of_mem _ ht))
      refine ⟨b1 ++ b2, ?_, ?_⟩
      · simp only [PyData.depthAll]
        exact (hb1.mono (Nat.le_max_left _ _)).append (hb2.mono (Nat.le_max_right _ _))
      · simp only [PyData.depthAll, PyData.shownAll]
        exact .cons ((k1.more fun b hb => List.mem_append_left _ hb).level_le (Nat.le_max_left _ _)) (k2.more_le (fun b hb => List.mem_append_right _ hb) (Nat.le_max_right _ _))
end
/-- repr of what is read -/
theorem call_repr_Q (hg : X.A.guards = some []) (hu : X.A.units + 65 < cLine) {v : V} {u : Value} {Q : VK} {p : PyData} (I : Inv X pins σ H s) (r : RelV v u) (q : Dq X.K H v p) (hs : p.showable = true) (hd : p.depth ≤ 64) (hl : p.shown.length ≤ sizeLine)
    (fin : Q (.str p.shown) H) : wpAny (model X.prog X.w) X.A (call (.builtin "repr") [u]) (EP X pins σ Q) X.xe s := by
  have hu1 : X.A.in1.units + p.depth < cLine := by show X.A.units + 1 + p.depth < cLine; omega
  have hg1 : X.A.in1.guards = some [] := hg
  cases q with
  | int i =>
    have hs' : i.natAbs.log2 < 1920 := by simpa [PyData.showable] using hs
    obtain ⟨t, rfl⟩ := r
    exact PySem.P.repr_of_int hs' ⟨.str _, H, I.tok _, ⟨_, rfl⟩, fin⟩
  | str x =>
    obtain ⟨t, rfl⟩ := r
    exact PySem.P.repr_of_str ⟨.str _, H, I.tok _, ⟨_, rfl⟩, fin⟩ hl
  | bl b =>
    cases r
    exact PySem.P.repr_of_bool ⟨.str _, H, I.tok _, ⟨_, rfl⟩, fin⟩
  | non =>
    cases r
    exact PySem.P.repr_of_none ⟨.str _, H, I.tok _, ⟨_, rfl⟩, fin⟩
  | @lst a xs ds hq ha =>
    cases r
    obtain ⟨its, rv, ⟨o, n, h1, h2, _, h3⟩, _⟩ := I.list hq
    obtain ⟨as, h4⟩ := DqAll.reads I ha its rv
    have hz' : (listText (PyData.shownAll ds)).length ≤ sizeLine := by simpa only [PyData.shown] using hl
    obtain ⟨bs, hb, hk⟩ := DqAll.rk I ha its rv (by simpa [PyData.showable] using hs) (fun t ht => Nat.le_trans (listText_mem_le ht) hz')
    have rd : Reads s.heap (.ref a) (.list ds) _ := .list h1 h2 h3 h4
    have hna : a ∉ bs := not_mem_of_deeper rd (by simp only [PyData.depth]; omega) hb
    simp only [PyData.depth] at hu1
    simp only [PyData.shown] at fin
    refine call_repr_slot (by omega) ⟨o, h1, h2⟩ F.slot_list_repr.toG ?_
    cases its with
    | nil =>
      cases h4
      simp only [PyData.shownAll, listText_nil] at fin
      exact call_list_repr_empty ⟨o, h1, h2⟩ h1 h3 ⟨_, _, rfl, ⟨.str _, H, I.tok _, ⟨_, rfl⟩, fin⟩⟩
    | cons x l =>
      exact call_list_reprK h1 h2 h3 hna (by simpa using hk.length_eq) (fun i y e => hk.item i y (by simpa using e)) hg1 (fun b _ => Clear.nil b) hu1 (fun _ _ e => e) (fun h' t tk hk => ⟨_, _, rfl, ⟨.str _, H, I.kept hk, ⟨_, rfl⟩, fin⟩⟩) hz'
  | @tup a xs ds hq ha =>
    cases r
    obtain ⟨its, rv, ⟨o, h1, h2, n, h3⟩, _⟩ := I.tuple hq
    obtain ⟨as, h4⟩ := DqAll.reads I ha its rv
    have hz' : (tupleText (PyData.shownAll ds)).length ≤ sizeLine := by simpa only [PyData.shown] using hl
    obtain ⟨bs, hb, hk⟩ := DqAll.rk I ha its rv (by simpa [PyData.showable] using hs) (fun t ht => Nat.le_trans (tupleText_mem_le ht) hz')
    have rd : Reads s.heap (.ref a) (.tuple ds) _ := .tuple h1 h2 h3 h4
    have hna : a ∉ bs := not_mem_of_deeper rd (by simp only [PyData.depth]; omega) hb
    simp only [PyData.depth] at hu1
    simp only [PyData.shown] at fin
    refine call_repr_slot (by omega) ⟨o, h1, h2⟩ F.slot_tuple_repr ?_
    exact call_tuple_reprK h1 h2 h3 hna hk hg1 (fun b _ => Clear.nil b) hu1 (fun _ _ e => e) (fun h' t tk hk => ⟨_, _, rfl, ⟨.str _, H, I.kept hk, ⟨_, rfl⟩, fin⟩⟩) hz'
  | @dic a kvs ds e ha =>
    cases r
    obtain ⟨o, es, n, us, h1, h2, h3, lo, h4, rv, h5⟩ := dic_at I e
    obtain ⟨as, h6⟩ := DqAll.reads I ha us rv
    have l := ha.length
    have l' : (kvs.map fun q => keyPy q.1).length = ds.length := by simpa using l
    have ef := map_fst_zip' l'
    have es2 := map_snd_zip' l'
    generalize hZ : (kvs.map fun q => keyPy q.1).zip ds = Z at *
    have hz' : (dictText (PyData.shownKv Z)).length ≤ sizeLine := by simpa only [PyData.shown] using hl
    obtain ⟨hs1, hs2⟩ := PyData.showableKv_split Z (by simpa [PyData.showable] using hs)
    rw [← ef] at h5
    rw [← es2] at h6
    obtain ⟨b1, hb1, k1⟩ := ReprAllK.of_readsAll (prog := X.prog) (w := X.w) h5 hs1 (fun _ hm => nomatch hm) (fun t ht => let ⟨p, hp, hl⟩ := PyData.shownKv_key_le Z t ht; Nat.le_trans hl (Nat.le_trans (dictText_mem_le hp) hz'))
    obtain ⟨b2, hb2, k2⟩ := DqAll.rk I ha us rv (by rw [← es2]; exact hs2) (fun t ht => by
      rw [← es2] at ht
      obtain ⟨p, hp, hl⟩ := PyData.shownKv_val_le Z t ht
      exact Nat.le_trans hl (Nat.le_trans (dictText_mem_le hp) hz'))
    rw [← es2] at hb2 k2
    rw [← h4] at k2 h6
    have rd : Reads s.heap (.ref a) (.dict Z) _ := .dict h1 h2 h3 h5 h6
    have hb : ReadAtMost s.heap (PyData.depthKv Z) (b1 ++ b2) := (hb1.mono (PyData.depthAll_keys_le Z)).append (hb2.mono (PyData.depthAll_vals_le Z))
    have hna : a ∉ b1 ++ b2 := not_mem_of_deeper rd (by simp only [PyData.depth]; omega) hb
    simp only [PyData.depth] at hu1
    simp only [PyData.shown, PyData.shownKv_eq] at fin
    refine call_repr_slot (by omega) ⟨o, h1, h2⟩ F.slot_dict_repr ?_
    exact call_dict_reprK h1 h2 h3 lo hna (ReprEntriesK.of_two es.toList _ _
      (k1.more_le (fun b hb => List.mem_append_left _ hb) (PyData.depthAll_keys_le Z)) (k2.more_le (fun b hb => List.mem_append_right _ hb) (PyData.depthAll_vals_le Z))) hg1 (fun b _ => Clear.nil b) hu1 (fun _ _ e => e) (fun h' t tk hk => ⟨_, _, rfl, ⟨.str _, H, I.kept hk, ⟨_, rfl⟩, fin⟩⟩) (by rw [← PyData.shownKv_eq]; exact hz')
end
/-! a list beside one without items -/
section
variable {X : Cx} {pins : List (Addr × Obj)} {σ : L2.St} {H : Hp} {s : Shared}
theorem eq_nilL (hu : X.A.units < cLine) (I : Inv X pins σ H s) {a b : Addr} {xs : List V} {Q : VK} (qa : SqL X.K H a xs) (qb : SqL X.K H b []) :
    (Q (.bl xs.isEmpty) H → wpAny (model X.prog X.w) X.A (compareOp .Eq (.ref a) (.ref b)) (EP X pins σ Q) X.xe s) ∧ (Q (.bl (!xs.isEmpty)) H → wpAny (model X.prog X.w) X.A (compareOp .NotEq (.ref a) (.ref b)) (EP X pins σ Q) X.xe s) := by
  obtain ⟨its, rv, ⟨o, n, h1, h2, _, h3⟩, _⟩ := I.list qa
  obtain ⟨its', rv', ⟨o', n', k1, k2, _, k3⟩, _⟩ := I.list qb
  cases rv'
  have hl : s.heap.IsList a its.toArray := ⟨_, h1, h2, _, h3⟩
  have hl' : s.heap.IsList b #[] := ⟨_, k1, k2, _, k3⟩
  have le := rv.length
  cases its with
  | nil =>
    obtain rfl : xs = [] := List.length_eq_zero_iff.mp (by simpa using le)
    have e := SeqAt.RcAt.lists (A := X.A) (e := fun _ => true) hl hl' rfl hu (fun j j1 _ => absurd j1 (Nat.not_lt_zero _))
    have e' := SeqAt.RcNeAt.lists (A := X.A) (e := fun _ => true) hl hl' rfl hu (fun j j1 _ => absurd j1 (Nat.not_lt_zero _))
    exact ⟨fun q => e X.prog X.w X.xe _ ⟨.bl _, H, I, rfl, q⟩, fun q => e' X.prog X.w X.xe _ ⟨.bl _, H, I, rfl, q⟩⟩
  | cons y r =>
    have ne : xs ≠ [] := fun q => by subst q; simp at le
    have hb : xs.isEmpty = false := by cases xs <;> simp_all
    rw [hb]
    have e := SeqAt.RcAt.lists_lengths (A := X.A) hl hl' (by simp) hu
    have e' := SeqAt.RcNeAt.lists_lengths (A := X.A) hl hl' (by simp) hu
    exact ⟨fun q => e X.prog X.w X.xe _ ⟨.bl _, H, I, rfl, q⟩, fun q => e' X.prog X.w X.xe _ ⟨.bl _, H, I, rfl, q⟩⟩
theorem eq_nilT (hu : X.A.units < cLine) (I : Inv X pins σ H s) {a b : Addr} {xs : List V} {Q : VK} (qa : SqT X.K H a xs) (qb : SqT X.K H b []) :
    (Q (.bl xs.isEmpty) H → wpAny (model X.prog X.w) X.A (compareOp .Eq (.ref a) (.ref b)) (EP X pins σ Q) X.xe s) ∧ (Q (.bl (!xs.isEmpty)) H → wpAny (model X.prog X.w) X.A (compareOp .NotEq (.ref a) (.ref b)) (EP X pins σ Q) X.xe s) := by
  obtain ⟨its, rv, ⟨o, h1, h2, n, h3⟩, _⟩ := I.tuple qa
  obtain ⟨its', rv', ⟨o', k1, k2, n', k3⟩, _⟩ := I.tuple qb
  cases rv'
  have hl : s.heap.IsTuple a its.toArray := ⟨_, h1, h2, _, h3⟩
  have hl' : s.heap.IsTuple b #[] := ⟨_, k1, k2, _, k3⟩
  have le := rv.length
  have e := SeqAt.RcAt.tuples (A := X.A) (e := fun _ => true) hl hl' hu (fun j _ j2 => absurd j2 (Nat.not_lt_zero _))
  have e' := SeqAt.RcNeAt.tuples (A := X.A) (e := fun _ => true) hl hl' hu (fun j _ j2 => absurd j2 (Nat.not_lt_zero _))
  have hb : ((List.range (min its.toArray.size (#[] : Array Value).size)).all (fun _ => true) && its.toArray.size == (#[] : Array Value).size) = xs.isEmpty := by
    cases xs with
    | nil => have : its = [] := List.length_eq_zero_iff.mp (by simpa using le.symm); subst this; rfl
    | cons x r => cases its with
      | nil => simp at le
      | cons y r => simp
  rw [hb] at e e'
  exact ⟨fun q => e X.prog X.w X.xe _ ⟨.bl _, H, I, rfl, q⟩, fun q => e' X.prog X.w X.xe _ ⟨.bl _, H, I, rfl, q⟩⟩
end
end Mi

set_option Elab.async false
set_option linter.all false
set_option maxRecDepth 100000
/-! Mini: comparisons, truth. -/
namespace Mi
open PySem PySem.Spec PyProof.Rows L2
section
variable {K : PySem.W.Frag} {m : List Addr} {H : Hp} {h : Hm}
theorem allSome_dq {f : D → Option PyData} : ∀ {d : List D} {v : List V} {p : List PyData}, (∀ {d : D} {v : V} {p : PyData}, Rp K m H v d → f d = some p → Dq K H v p) → RpL K m H v d → allSome f d = some p → DqAll K H v p
  | _, _, _, _, .nil, e => by simp [allSome] at e; subst e; exact .nil
  | _, _, _, hf, .cons a t, e => by
    simp only [allSome] at e
    split at e
    · rename_i p ps e1 e2
      cases e
      exact .cons (hf a e1) (allSome_dq hf t e2)
    · cases e
theorem pyOf_dq (r : HRp K m H h) : ∀ (n : Nat) {d : D} {v : V} {p : PyData}, Rp K m H v d → pyOf n h d = some p → Dq K H v p
  | n, _, _, _, .non, e => by cases n <;> (simp [pyOf] at e; subst e; exact .non)
  | n, _, _, _, .bl b, e => by cases n <;> (simp [pyOf] at e; subst e; exact .bl b)
  | n, _, _, _, .int i, e => by cases n <;> (simp [pyOf] at e; subst e; exact .int i)
  | n, _, _, _, .str x, e => by cases n <;> (simp [pyOf] at e; subst e; exact .str x)
  | 0, _, _, _, .tup q s t, e => by simp [pyOf] at e
  | n + 1, _, _, _, .tup q s t, e => by
    simp only [pyOf, Option.map_eq_some_iff] at e
    obtain ⟨ps, e1, rfl⟩ := e
    exact .tup q.sq (allSome_dq (pyOf_dq r n) t e1)
  | 0, _, _, _, .lv q m s t, e => by simp [pyOf] at e
  | n + 1, _, _, _, .lv q m s t, e => by
    simp only [pyOf, Option.map_eq_some_iff] at e
    obtain ⟨ps, e1, rfl⟩ := e
    exact .lst (.of q) (allSome_dq (pyOf_dq r n) t e1)
  | 0, _, _, _, .fl q s t, e => by simp [pyOf] at e
  | n + 1, _, _, _, .fl q s t, e => by
    simp only [pyOf, Option.map_eq_some_iff] at e
    obtain ⟨ps, e1, rfl⟩ := e
    exact .lst q.sq (allSome_dq (pyOf_dq r n) t e1)
  | 0, _, _, _, .ref q, e => by simp [pyOf] at e
  | n + 1, _, _, _, .ref q, e => by
    simp only [pyOf] at e
    split at e
    · rename_i ds e2
      rw [Option.map_eq_some_iff] at e
      obtain ⟨ps, e1, rfl⟩ := e
      obtain ⟨a, xs, e3, e4, s, t⟩ := lst_view (Z := ⟨K, fun _ => none⟩) r e2
      rw [q] at e3; cases e3
      exact .lst (.of e4) (allSome_dq (pyOf_dq r n) t e1)
    · rename_i kds e2
      rw [Option.map_eq_some_iff] at e
      obtain ⟨ps, e1, rfl⟩ := e
      obtain ⟨a, e3, oa⟩ := r.get e2
      rw [q] at e3; cases e3
      cases oa with
      | dic e4 t =>
        rename_i kvs
        have ek : (kds.map fun q => keyPy q.1) = kvs.map fun q => keyPy q.1 := by
          have := congrArg (List.map keyPy) t.1
          simpa [List.map_map, Function.comp_def] using this.symm
        rw [ek]
        exact .dic e4 (allSome_dq (pyOf_dq r n) t.2.2 e1)
    · cases e
theorem pyOf_dp (r : HRp K m H h) (n : Nat) {d : D} {v : V} {p : PyData} (q : Rp K m H v d) (e : pyOf n h d = some p) (c : p.canLay0 = true) : Dp K H v p := (pyOf_dq r n q e).dp c
theorem intsOf_eq : ∀ {ds : List D} {ns : List Int}, intsOf ds = some ns → ds = ns.map .int
  | [], _, e => by simp [intsOf] at e; subst e; rfl
  | .int i :: ds, _, e => by
    simp only [intsOf, Option.map_eq_some_iff] at e
    obtain ⟨ms, e1, rfl⟩ := e
    rw [intsOf_eq e1]; rfl
  | .non :: _, _, e => by simp [intsOf] at e
  | .bl _ :: _, _, e => by simp [intsOf] at e
  | .str _ :: _, _, e => by simp [intsOf] at e
  | .tup _ :: _, _, e => by simp [intsOf] at e
  | .ref _ :: _, _, e => by simp [intsOf] at e
  | .lv _ :: _, _, e => by simp [intsOf] at e
  | .fl _ :: _, _, e => by simp [intsOf] at e
theorem rpL_ints : ∀ {ns : List Int} {xs : List V}, RpL K m H xs (ns.map .int) → xs = ns.map V.int
  | [], _, .nil => rfl
  | n :: ns, _, .cons (.int _) t => by rw [rpL_ints t]; rfl
theorem isN_view {v : V} {d : D} (q : Rp K m H v d) : decide (v = .non) = isN d := by cases q <;> simp [isN]
theorem dic_view {n : Nat} {a : Addr} {kds : List (L2.Key × D)} (r : HRp K m H h) (e1 : m[n]? = some a) (e : dicOf h (.ref n) = some kds) : ∃ kvs, Rd H a (.dK kvs) ∧ KvR K m H kvs kds := by
  simp only [dicOf] at e
  split at e
  · rename_i ds' e2
    cases e
    obtain ⟨a', e3, q⟩ := r.get e2
    rw [e1] at e3; cases e3
    cases q with
    | dic e4 t => exact ⟨_, .inl e4, t⟩
  · rename_i ds' e2
    cases e
    obtain ⟨a', e3, q⟩ := r.get e2
    rw [e1] at e3; cases e3
    cases q with
    | frd e4 t => exact ⟨_, .inr ⟨_, e4⟩, t⟩
  · cases e
theorem keyOf_view {v : V} {d : D} {k : L2.Key} (q : Rp K m H v d) (e : keyOf d = some k) : v = kV k := by
  cases q <;> simp [keyOf] at e <;> (subst e; rfl)
/-- what a dict holds -/
theorem kv_look : ∀ {kvs : List (L2.Key × V)} {kds : List (L2.Key × D)} (k : L2.Key), kvs.map (·.1) = kds.map (·.1) → RpL K m H (kvs.map (·.2)) (kds.map (·.2)) →
    (valV kvs k = none ∧ lookK kds k = none) ∨ ∃ v d, valV kvs k = some v ∧ lookK kds k = some d ∧ Rp K m H v d
  | [], [], k, _, _ => .inl ⟨rfl, rfl⟩
  | [], _ :: _, _, e, _ => by simp at e
  | _ :: _, [], _, e, _ => by simp at e
  | (k1, v) :: r, (k2, d) :: r', k, e, q => by
    simp only [List.map_cons, List.cons.injEq] at e
    obtain ⟨e1, e2⟩ := e
    subst e1
    cases q with
    | cons a t =>
      have ih := kv_look (kvs := r) (kds := r') k e2 t
      by_cases hk : k1 = k
      · subst hk
        refine .inr ⟨v, d, ?_, by simp [lookK], a⟩
        unfold valV; simp
      · have h1 : valV ((k1, v) :: r) k = valV r k := by unfold valV; simp [hk]
        have h2 : lookK ((k1, d) :: r') k = lookK r' k := by simp [lookK, hk]
        rw [h1, h2]
        exact ih
end
theorem isB_some {d e : D} {b : Bool} (h : isB d e = some b) : ∃ x y, d = .bl x ∧ e = .bl y ∧ b = decide (x = y) := by
  unfold isB at h
  split at h
  · cases h; exact ⟨_, _, rfl, rfl, rfl⟩
  · cases h
def rCmp (K : PySem.W.Frag) (o : CmpOp) : R2 := fun x y H Q => ∃ m h d e b, HRp K m H h ∧ Rp K m H x d ∧ Rp K m H y e ∧ cmpD h o d e = some b ∧ Q (.bl b) H
section
variable {X : Cx}
theorem cmp_eqE (hu : X.A.units < cLine) {pins : List (Addr × Obj)} {s : Shared} {σ : L2.St} {H : Hp} {x y : V} {v u : Value} {Q : VK} {m : List Addr} {h : Hm} {d e : D} {b : Bool} (I : Inv X pins σ H s) (rx : RelV x v) (ry : RelV y u) (hr : HRp X.K m H h)
    (qd : Rp X.K m H x d) (qe : Rp X.K m H y e) (hz : eqE h d e = some b) : (Q (.bl b) H → wpAny (model X.prog X.w) X.A (compareOp .Eq v u) (EP X pins σ Q) X.xe s) ∧ (Q (.bl (!b)) H → wpAny (model X.prog X.w) X.A (compareOp .NotEq v u) (EP X pins σ Q) X.xe s) := by
  have em : ∀ {xs : List V} {ds : List D}, RpL X.K m H xs ds → ds.isEmpty = xs.isEmpty := fun t => by cases t <;> rfl
  unfold eqE at hz
  split at hz
  · rw [Option.map_eq_some_iff] at hz
    obtain ⟨ds, e1, rfl⟩ := hz
    obtain ⟨a, xs, rfl, hs, _, t⟩ := lstOf_view (Z := ⟨X.K, fun _ => none⟩) hr qd e1
    cases qe with
    | lv e2 _ _ t2 =>
      cases t2
      obtain rfl : v = _ := rx
      obtain rfl : u = _ := ry
      rw [em t]
      exact eq_nilL hu I hs (.of e2)
  · split at hz
    · cases hz
      cases qd with
      | tup q1 _ t =>
        cases qe with
        | tup q2 _ t2 =>
          cases t2
          obtain rfl : v = _ := rx
          obtain rfl : u = _ := ry
          rw [em t]
          exact eq_nilT hu I q1.sq q2.sq
    · cases hz
  · cases hz
theorem cmp_eq (hu : X.A.units + 65 < cLine) {pins : List (Addr × Obj)} {s : Shared} {σ : L2.St} {H : Hp} {x y : V} {v u : Value} {Q : VK} {m : List Addr} {h : Hm} {d e : D} {b : Bool} (I : Inv X pins σ H s) (rx : RelV x v) (ry : RelV y u) (hr : HRp X.K m H h)
    (qd : Rp X.K m H x d) (qe : Rp X.K m H y e) (hz : eqD h d e = some b) : (Q (.bl b) H → wpAny (model X.prog X.w) X.A (compareOp .Eq v u) (EP X pins σ Q) X.xe s) ∧ (Q (.bl (!b)) H → wpAny (model X.prog X.w) X.A (compareOp .NotEq v u) (EP X pins σ Q) X.xe s) := by
  have hu' : X.A.units + 64 < cLine := by omega
  unfold eqD at hz
  simp only [shp_eq, eqQ_eq] at hz
  split at hz
  · cases hz
    rename_i i j
    cases qd
    cases qe
    have e : PyData.eqv (.int i) (.int j) = decide (i = j) := by simp [PyData.eqv, Bool.beq_eq_decide_eq]
    refine ⟨fun q => op_eqD hu' pins s σ H _ _ v u Q I rx ry ⟨.int i, .int j, .int i, .int j, rfl, rfl, by rw [e]; exact q⟩, fun q => op_neD hu' pins s σ H _ _ v u Q I rx ry ⟨.int i, .int j, .int i, .int j, rfl, rfl, by rw [e]; exact q⟩⟩
  · cases hz
    cases qd
    cases qe
    obtain ⟨t, rfl⟩ := rx
    obtain ⟨t', rfl⟩ := ry
    exact ⟨fun q => PyProof.Rows.eq_str ⟨.bl _, H, I, rfl, q⟩, fun q => PyProof.Rows.ne_str ⟨.bl _, H, I, rfl, q⟩⟩
  · split at hz
    · rename_i a c ea ec
      split at hz
      · rename_i hs
        cases hz
        exact ⟨fun q => op_eqD hu' pins s σ H _ _ v u Q I rx ry ⟨_, _, pyOf_dp hr _ qd ea (SeqAt.canLay_of_shaped hs.1), pyOf_dp hr _ qe ec (SeqAt.canLay_of_shaped hs.2), hs.1, hs.2, q⟩, fun q => op_neD hu' pins s σ H _ _ v u Q I rx ry ⟨_, _, pyOf_dp hr _ qd ea (SeqAt.canLay_of_shaped hs.1), pyOf_dp hr _ qe ec (SeqAt.canLay_of_shaped hs.2), hs.1, hs.2, q⟩⟩
      · exact cmp_eqE (by omega) I rx ry hr qd qe hz
    · exact cmp_eqE (by omega) I rx ry hr qd qe hz
theorem cmp_in (hu : X.A.units + 65 < cLine) {pins : List (Addr × Obj)} {s : Shared} {σ : L2.St} {H : Hp} {x y : V} {v u : Value} {Q : VK} {m : List Addr} {h : Hm} {d e : D} {b : Bool} (I : Inv X pins σ H s) (rx : RelV x v) (ry : RelV y u) (hr : HRp X.K m H h)
    (qd : Rp X.K m H x d) (qe : Rp X.K m H y e) (hz : inD h d e = some b) : (Q (.bl b) H → wpAny (model X.prog X.w) X.A (compareOp .In v u) (EP X pins σ Q) X.xe s) ∧ (Q (.bl (!b)) H → wpAny (model X.prog X.w) X.A (compareOp .NotIn v u) (EP X pins σ Q) X.xe s) := by
  have hu1 : X.A.units + 1 < cLine := by omega
  unfold inD at hz
  simp only [shp_eq, eqQ_eq] at hz
  split at hz
  · split at hz
    · cases hz
      cases qe
      cases qd
      exact ⟨fun q => op_in_str pins s σ H _ _ v u Q I rx ry ⟨_, _, rfl, rfl, q⟩, fun q => op_notin_str pins s σ H _ _ v u Q I rx ry ⟨_, _, rfl, rfl, q⟩⟩
    · cases hz
  · split at hz
    · rename_i kvs ek
      rw [Option.map_eq_some_iff] at hz
      obtain ⟨k, ek2, rfl⟩ := hz
      cases qe with
      | ref e1 =>
        obtain ⟨kv, rd, t⟩ := dic_view hr e1 ek
        obtain rfl := keyOf_view qd ek2
        obtain rfl : u = _ := ry
        have g : DGet H _ (kV k) (valV kv k) := .inl ⟨kv, k, rd, rfl, rfl⟩
        have eb : (valV kv k).isSome = (lookK kvs k).isSome := by
          rcases kv_look k t.1 t.2.2 with ⟨h1, h2⟩ | ⟨_, _, h1, h2, _⟩ <;> rw [h1, h2] <;> rfl
        exact ⟨fun q => d_in hu1 I g rx fun s3 I3 => ⟨.bl _, H, I3, rfl, by rw [eb]; exact q⟩, fun q => d_notIn hu1 I g rx fun s3 I3 => ⟨.bl _, H, I3, rfl, by rw [eb]; exact q⟩⟩
      | _ => simp [dicOf] at ek
    · split at hz
      · rename_i d' ds ed ee
        split at hz
        · rename_i hs
          cases hz
          exact ⟨fun q => op_inD hu pins s σ H _ _ v u Q I rx ry ⟨_, _, pyOf_dp hr _ qd ed (SeqAt.canLay_of_shaped hs.1), pyOf_dp hr _ qe ee (SeqAt.canLay_of_shaped hs.2), hs.1, hs.2, q⟩, fun q => op_notInD hu pins s σ H _ _ v u Q I rx ry ⟨_, _, pyOf_dp hr _ qd ed (SeqAt.canLay_of_shaped hs.1), pyOf_dp hr _ qe ee (SeqAt.canLay_of_shaped hs.2), hs.1, hs.2, q⟩⟩
        · cases hz
      · rename_i d' ds ed ee
        split at hz
        · rename_i hs
          cases hz
          obtain ⟨as, r1⟩ := Dp.reads I _ x v (pyOf_dp hr _ qd ed (SeqAt.canLay_of_shaped hs.1)) rx
          obtain ⟨bs, r2⟩ := Dp.reads I _ y u (pyOf_dp hr _ qe ee (SeqAt.canLay_of_shaped hs.2)) ry
          exact ⟨fun q => SeqAt.in_tuple_reads r2 r1 (SeqAt.canLay_of_shaped hs.2) (SeqAt.canLay_of_shaped hs.1) (room_in_shaped hs.1 hu) ⟨.bl _, H, I, rfl, q⟩,
            fun q => SeqAt.notIn_tuple_reads r2 r1 (SeqAt.canLay_of_shaped hs.2) (SeqAt.canLay_of_shaped hs.1) (room_in_shaped hs.1 hu) ⟨.bl _, H, I, rfl, q⟩⟩
        · cases hz
      · cases hz
theorem op_cmp (hu : X.A.units + 65 < cLine) (o : CmpOp) : OpR X (compareOp o) (rCmp X.K o) := by
  intro pins s σ H x y v u Q I rx ry ⟨m, h, d, e, b, hr, qd, qe, hz, fin⟩
  have hu1 : X.A.units < cLine := by omega
  cases o with
  | Eq => exact (cmp_eq hu I rx ry hr qd qe hz).1 fin
  | NotEq =>
    simp only [cmpD, Option.map_eq_some_iff] at hz
    obtain ⟨c, hc, rfl⟩ := hz
    exact (cmp_eq hu I rx ry hr qd qe hc).2 fin
  | Lt =>
    simp only [cmpD] at hz
    unfold ltD at hz
    split at hz
    · cases hz
      cases qd
      cases qe
      exact op_lt pins s σ H _ _ v u Q I rx ry ⟨_, _, rfl, rfl, fin⟩
    · split at hz
      · rename_i ns ms e1 e2
        cases hz
        rw [intsOf_eq e1] at qd
        rw [intsOf_eq e2] at qe
        cases qd with
        | tup q1 s1 t1 =>
          cases qe with
          | tup q2 s2 t2 =>
            obtain rfl := rpL_ints t1
            obtain rfl := rpL_ints t2
            exact op_ltT hu1 pins s σ H _ _ v u Q I rx ry ⟨_, _, ns, ms, rfl, rfl, q1.sq, q2.sq, fin⟩
      · cases hz
    · cases hz
  | LtE =>
    simp only [cmpD] at hz
    unfold leD at hz
    split at hz
    · cases hz
      cases qd
      cases qe
      exact op_le pins s σ H _ _ v u Q I rx ry ⟨_, _, rfl, rfl, fin⟩
    · split at hz
      · rename_i ns ms e1 e2
        cases hz
        rw [intsOf_eq e1] at qd
        rw [intsOf_eq e2] at qe
        cases qd with
        | tup q1 s1 t1 =>
          cases qe with
          | tup q2 s2 t2 =>
            obtain rfl := rpL_ints t1
            obtain rfl := rpL_ints t2
            exact op_leT hu1 pins s σ H _ _ v u Q I rx ry ⟨_, _, ns, ms, rfl, rfl, q1.sq, q2.sq, fin⟩
      · cases hz
    · cases hz
  | Gt =>
    simp only [cmpD] at hz
    unfold gtD at hz
    split at hz
    · cases hz
      cases qd
      cases qe
      exact op_gt pins s σ H _ _ v u Q I rx ry ⟨_, _, rfl, rfl, fin⟩
    · cases hz
  | GtE =>
    simp only [cmpD] at hz
    unfold geD at hz
    split at hz
    · cases hz
      cases qd
      cases qe
      exact op_ge pins s σ H _ _ v u Q I rx ry ⟨_, _, rfl, rfl, fin⟩
    · cases hz
  | Is =>
    simp only [cmpD] at hz
    split at hz
    · rename_i hn
      cases hz
      have ey : y = .non := by cases qe <;> simp [isN] at hn <;> rfl
      subst ey
      exact op_isN pins s σ H _ _ v u Q I rx ry ⟨rfl, by rw [isN_view qd]; exact fin⟩
    · obtain ⟨a, b, rfl, rfl, rfl⟩ := isB_some hz
      cases qd
      cases qe
      exact op_is_bl pins s σ H _ _ v u Q I rx ry ⟨_, _, rfl, rfl, fin⟩
  | IsNot =>
    simp only [cmpD] at hz
    split at hz
    · rename_i hn
      cases hz
      have ey : y = .non := by cases qe <;> simp [isN] at hn <;> rfl
      subst ey
      exact op_notN pins s σ H _ _ v u Q I rx ry ⟨rfl, by rw [isN_view qd]; exact fin⟩
    · rw [Option.map_eq_some_iff] at hz
      obtain ⟨c, hz, rfl⟩ := hz
      obtain ⟨a, b, rfl, rfl, rfl⟩ := isB_some hz
      cases qd
      cases qe
      exact op_isnot_bl pins s σ H _ _ v u Q I rx ry ⟨_, _, rfl, rfl, fin⟩
  | In => exact (cmp_in hu I rx ry hr qd qe hz).1 fin
  | NotIn =>
    simp only [cmpD, Option.map_eq_some_iff] at hz
    obtain ⟨c, hc, rfl⟩ := hz
    exact (cmp_in hu I rx ry hr qd qe hc).2 fin
theorem truth_view {K : PySem.W.Frag} {m : List Addr} {H : Hp} {h : Hm} {d : D} {v : V} {b : Bool} (r : HRp K m H h) (q : Rp K m H v d) (e : truth h d = some b) : TruV K v H b := by
  cases q with
  | non => simp [truth] at e; subst e; rfl
  | bl c => simp [truth] at e; subst e; rfl
  | int i => simp only [truth, Option.some.injEq] at e; subst e; rfl
  | str x =>
    simp only [truth] at e
    split at e
    · cases e; exact ⟨by assumption, rfl⟩
    · cases e
  | tup q s t =>
    simp only [truth, Option.some.injEq] at e
    subst e
    refine .inr (.inl ⟨_, q.sq, ?_⟩)
    cases t <;> rfl
  | lv q nm s t =>
    simp only [truth, lstOf, Option.map_some, Option.some.injEq] at e
    subst e
    refine .inl ⟨_, .of q, ?_⟩
    cases t <;> rfl
  | fl q s t =>
    simp only [truth, lstOf, Option.map_some, Option.some.injEq] at e
    subst e
    refine .inl ⟨_, q.sq, ?_⟩
    cases t <;> rfl
  | ref q =>
    simp only [truth, Option.map_eq_some_iff] at e
    obtain ⟨ds, e1, rfl⟩ := e
    obtain ⟨a, xs, e2, sq, s, t⟩ := lstOf_view (Z := ⟨K, fun _ => none⟩) r (.ref q) e1
    cases e2
    refine .inl ⟨_, sq, ?_⟩
    cases t <;> rfl
end
end Mi

set_option Elab.async false
set_option linter.all false
set_option maxRecDepth 100000
/-! Mini: subscripts, slices. -/
namespace HT
open PySem PySem.Spec PyProof.Rows
section
variable {prog : Program} {w : World} {A : Around} {E : Value → Shared → Prop} {s : Shared}
theorem sliceApplied_rev {sl : Addr} {vs : Value} {n : Nat} {Q : Int × Int × Nat → Shared → Prop} (hs : s.heap.IsSliceOf sl .none .none vs) (ps : IsPart vs (some (-1)))
    (h : Q ((n : Int) - 1, -1, n) s) : wpAny (model prog w) A (Builtin.Slice.sliceApplied (.ref sl) (pure (n : Int))) Q E s := by
  obtain ⟨os, hos, hcs, hds⟩ := id hs
  unfold Builtin.Slice.sliceApplied Builtin.Slice.sliceFields
  refine wpAny_bind (wpAny_bind (wpAny_field hos hds (x := .none) rfl (wpAny_bind (wpAny_field hos hds (x := .none) rfl (wpAny_bind (wpAny_field hos hds (x := vs) rfl (wpAny_pure ?_)))))))
  refine wpAny_bind (slicePart_ ps ?_)
  show wpAny _ _ (if ((-1 : Int) == 0) = true then _ else _) _ _ s
  rw [if_neg (by decide)]
  refine wpAny_bind (slicePart_none (wpAny_bind (slicePart_none (wpAny_bind (wpAny_pure ?_)))))
  have e1 : Builtin.Slice.sliceAdjust none none (-1) (n : Int) = ((n : Int) - 1, -1) := by
    unfold Builtin.Slice.sliceAdjust
    simp
  have e2 : Builtin.Slice.slicePlaces ((n : Int) - 1) (-1) (-1) = n := by
    unfold Builtin.Slice.slicePlaces
    simp
    try omega
  show wpAny _ _ (match Builtin.Slice.sliceAdjust none none (-1) (n : Int) with | (lo, hi) => pure (lo, (-1 : Int), Builtin.Slice.slicePlaces lo hi (-1))) _ _ s
  rw [e1]
  show wpAny _ _ (pure ((n : Int) - 1, (-1 : Int), Builtin.Slice.slicePlaces ((n : Int) - 1) (-1) (-1))) _ _ s
  rw [e2]
  exact wpAny_pure h
theorem filterMap_congr_mem {α β : Type} {f g : α → Option β} : ∀ {l : List α}, (∀ x ∈ l, f x = g x) → l.filterMap f = l.filterMap g
  | [], _ => rfl
  | x :: r, h => by
    have e := h x List.mem_cons_self
    have ih := filterMap_congr_mem (l := r) fun y hy => h y (List.mem_cons_of_mem _ hy)
    rw [List.filterMap_cons, List.filterMap_cons, e, ih]
theorem pick_rev (xs : Array Value) : ((List.range xs.size).filterMap fun (m : Nat) => xs[(((xs.size : Int) - 1) + (m : Int) * -1).toNat]?).toArray = xs.toList.reverse.toArray := by
  have e : ((List.range xs.size).filterMap fun (m : Nat) => xs[(((xs.size : Int) - 1) + (m : Int) * -1).toNat]?) = ((List.range xs.size).map fun k => xs.size - 1 - k).filterMap (xs[·]?) := by
    rw [List.filterMap_map]
    refine filterMap_congr_mem fun m hm => ?_
    have := List.mem_range.mp hm
    have e : (((xs.size : Int) - 1) + (m : Int) * -1).toNat = xs.size - 1 - m := by omega
    show xs[(((xs.size : Int) - 1) + (m : Int) * -1).toNat]? = xs[xs.size - 1 - m]?
    rw [e]
  rw [e, PySem.W.krv_range, List.filterMap_reverse, PySem.W.krv_all]
theorem getItem_tuple_rev {t sl : Addr} {items : Array Value} {vs : Value} {Q : Value → Shared → Prop} (ht : IsTup s.heap t items) (hs : s.heap.IsSliceOf sl .none .none vs) (ps : IsPart vs (some (-1)))
    (h : Q (.ref s.heap.objs.size) { s with heap := s.heap.push { cls := .type "tuple", data := .seq items.toList.reverse.toArray } })
    (hsz : items.size ≤ sizeLine) : wpAny (model prog w) A (getItem (.ref t) (.ref sl)) Q E s := by
  have htake : sizeOk (.seq items.toList.reverse.toArray) := by
    show items.toList.reverse.toArray.size ≤ sizeLine
    simpa using hsz
  obtain ⟨os, hos, hcs, hds⟩ := id hs
  have hTs : s.TypeIs (.ref sl) "slice" := ⟨os, hos, hcs⟩
  unfold getItem
  try with_reducible refine wpAny_holding ?_
  first | refine wpAny_bind (wpAny_pure ?_) | skip
  refine wpAny_bind (wpAny_sequenceKey ht.typeIs (by decide) ?_)
  refine wpAny_bind (wpAny_callSpecial?_slot (name := Str.ofString "__getitem__") ht.typeIs PyProof.Rows.slot_tuple_getitem
    (wpAny_call_entry PyProof.Rows.slot_tuple_getitem ht.typeIs entry_tuple_getitem ?_ (args_tuple_getitem _ _)))
  show wpAny _ _ (Builtin.Tuple.tupleItemsOf (.ref t) >>= _) _ _ s
  refine wpAny_bind (tupleItemsOf_ ht ?_)
  refine wpAny_bind (wpAny_typeOf hTs ?_)
  rw [if_pos (by decide)]
  refine wpAny_bind (sliceApplied_rev hs ps ?_)
  have hno : ¬ ((((items.size : Int) - 1) == 0 && (-1 : Int) == 1 && items.size == items.size) = true) := by
    intro q
    rw [Bool.and_eq_true, Bool.and_eq_true] at q
    have q1 : (-1 : Int) = 1 := eq_of_beq q.1.2
    omega
  show wpAny _ _ (if (((items.size : Int) - 1) == 0 && (-1 : Int) == 1 && items.size == items.size) = true then _ else _) _ _ s
  rw [if_neg hno, pick_rev]
  first
    | exact wpAny_bind (m := Builtin.Tuple.tupleExact _) (wpAny_newObj_type (wpAny_pure ⟨_, rfl, wpAny_pure h⟩) htake)
    | exact wpAny_bind (m := Builtin.Tuple.tupleExact _) (wpAny_newObj_type (wpAny_bind (wpAny_pure (wpAny_pure ⟨_, rfl, wpAny_pure h⟩))) htake)
    | exact wpAny_bind (wpAny_bind (m := Builtin.Tuple.tupleExact _) (wpAny_newObj_type (wpAny_pure (wpAny_pure ⟨_, rfl, wpAny_pure h⟩)) htake))
    | exact wpAny_bind (wpAny_bind (m := Builtin.Tuple.tupleExact _) (wpAny_newObj_type (wpAny_pure ⟨_, rfl, wpAny_pure h⟩) htake))
end
end HT
namespace Mi
open PySem PySem.Spec PyProof.Rows L2
section
variable {K : PySem.W.Frag} {m : List Addr} {H : Hp} {h : Hm}
theorem rpL_atI {xs : List V} {ds : List D} {i : Int} {d : D} (q : RpL K m H xs ds) (e : L2.atI ds i = some d) : ∃ v, L2.atI xs i = some v ∧ Rp K m H v d := by
  unfold L2.atI at e ⊢
  rw [q.length]
  cases e2 : ixN ds.length i with
  | none => rw [e2] at e; simp at e
  | some j =>
    rw [e2] at e
    exact q.get (i := j) (by simpa using e)
theorem stL_atI {ds : List D} {i : Int} {d : D} (s : D.stL ds = true) (e : L2.atI ds i = some d) : D.st d = true := by
  unfold L2.atI at e
  cases e2 : ixN ds.length i with
  | none => rw [e2] at e; simp at e
  | some j =>
    rw [e2] at e
    exact (stL_iff ds).mp s d (List.mem_of_getElem? (by simpa using e))
theorem rpL_cut {xs : List V} {ds : List D} (lo hi : Option Int) (q : RpL K m H xs ds) : RpL K m H (cutV xs lo hi) (cutL ds lo hi) := by
  unfold cutV cutL
  rw [q.length]
  exact (q.drop _).take _
theorem stL_cut {ds : List D} (lo hi : Option Int) (s : D.stL ds = true) : D.stL (cutL ds lo hi) = true := by
  rw [stL_iff] at s ⊢
  intro d hd
  unfold cutL at hd
  exact s d (List.mem_of_mem_drop (List.mem_of_mem_take hd))
theorem RpL.reverse : ∀ {xs : List V} {ds : List D}, RpL K m H xs ds → RpL K m H xs.reverse ds.reverse
  | _, _, .nil => by simpa using RpL.nil
  | _, _, .cons a t => by
    rw [List.reverse_cons, List.reverse_cons]
    exact t.reverse.append (.one a)
theorem stL_rev {ds : List D} (s : D.stL ds = true) : D.stL ds.reverse = true := by
  rw [stL_iff] at s ⊢
  intro d hd
  exact s d (List.mem_reverse.mp hd)
theorem stL_look : ∀ {kvs : List (L2.Key × D)} {k : L2.Key} {d : D}, D.stL (kvs.map (·.2)) = true → lookK kvs k = some d → D.st d = true
  | [], _, _, _, e => by simp [lookK] at e
  | (k', d') :: r, k, d, s, e => by
    simp only [List.map_cons, D.stL, Bool.and_eq_true] at s
    unfold lookK at e
    split at e
    · cases e; exact s.1
    · exact stL_look s.2 e
end
def rIx (K : PySem.W.Frag) : R2 := fun x y H Q => ∃ m h d e z, HRp K m H h ∧ Rp K m H x d ∧ Rp K m H y e ∧ ixD h d e = some z ∧ Fin1 K m H h z Q
section
variable {X : Cx}
theorem ix_dic (hu : X.A.units + 1 < cLine) {value slice : Expr} {pins : List (Addr × Obj)} {s : Shared} {σ : L2.St} {H : Hp} {a : Addr} {y : V} {u : Value} {Q : VK} {m : List Addr} {h : Hm} {e z : D} {kds : List (L2.Key × D)} {k : L2.Key} {kvs : List (L2.Key × V)}
    (I : Inv X pins σ H s) (ry : RelV y u) (hr : HRp X.K m H h) (rd : Rd H a (.dK kvs)) (t : KvR X.K m H kvs kds) (qe : Rp X.K m H y e) (ek : keyOf e = some k) (ez : lookK kds k = some z) (fin : Fin1 X.K m H h z Q)
    (hs : subscripted slice false (.ref a) u = operate [.ref a, u] (getItem (.ref a) u)) : wpAny (model X.prog X.w) X.A (subscriptTail value slice (.ref a) u) (EP X pins σ Q) X.xe s := by
  obtain rfl := keyOf_view qe ek
  obtain ⟨v, hv, rv⟩ : ∃ v, valV kvs k = some v ∧ Rp X.K m H v z := by
    rcases kv_look k t.1 t.2.2 with ⟨h1, h2⟩ | ⟨v, d, h1, h2, h3⟩
    · rw [ez] at h2; cases h2
    · rw [ez] at h2; cases h2; exact ⟨v, h1, h3⟩
  have g : DGet H a (kV k) (some v) := .inl ⟨kvs, k, rd, rfl, hv.symm⟩
  have hT := dict_typeIs I g
  unfold subscriptTail
  refine wpAny_bind ?_
  rw [getitemInPython_of_ne hT.not_modules]
  refine wpAny_bind (wpAny_specialOf hT PySem.F.slot_dict_getitem.lookup ?_)
  have fin2 : wpAny (model X.prog X.w) X.A (subscripted slice false (.ref a) u) (fun r s₃ => wpAny (model X.prog X.w) X.A (letTemporaryGo value (.ref a) r >>= fun _ => pure r) (EP X pins σ Q) X.xe s₃) X.xe s := by
    rw [hs]
    exact wpAny_operating (d_getItem hu I g ry fun w' s3 I3 rw' => wpAny_bind (wpAny_letTemporaryGo (wpAny_pure ⟨v, H, I3, rw', fin.same hr rv (stL_look t.2.1 ez)⟩)))
  first
    | exact wpAny_pure (wpAny_bind fin2)
    | exact wpAny_bind (wpAny_pure (wpAny_bind fin2))
    | exact wpAny_bind fin2
theorem op_ix (hu : X.A.units + 1 < cLine) : IxR X (rIx X.K) := by
  intro value slice pins s σ H x y v u Q I rx ry ⟨m, h, d, e, z, hr, qd, qe, hz, fin⟩ hs
  cases qd with
  | tup q1 s1 t1 =>
    simp only [ixD] at hz
    split at hz
    · cases qe
      obtain ⟨w, ew, rw'⟩ := rpL_atI t1 hz
      exact ix_tup value slice pins s σ H _ _ v u Q I rx ry ⟨_, _, _, w, rfl, rfl, q1.sq, ew, fin.same hr rw' (stL_atI s1 hz)⟩ hs
    · cases hz
  | str x =>
    simp only [ixD] at hz
    split at hz
    · split at hz
      · rename_i hl
        cases qe
        rw [Option.map_eq_some_iff] at hz
        obtain ⟨c, hc, rfl⟩ := hz
        exact ix_str value slice pins s σ H _ _ v u Q I rx ry ⟨_, _, c, rfl, rfl, hl, hc, fin.same hr (.str _) rfl⟩ hs
      · cases hz
    · cases hz
  | lv q1 nm s1 t1 =>
    simp only [ixD] at hz
    split at hz
    · cases qe
      obtain ⟨w, ew, rw'⟩ := rpL_atI t1 hz
      exact ix_list value slice pins s σ H _ _ v u Q I rx ry ⟨_, _, _, w, rfl, rfl, .of q1, ew, fin.same hr rw' (stL_atI s1 hz)⟩ hs
    · cases hz
  | fl q1 s1 t1 =>
    simp only [ixD] at hz
    split at hz
    · cases qe
      obtain ⟨w, ew, rw'⟩ := rpL_atI t1 hz
      exact ix_list value slice pins s σ H _ _ v u Q I rx ry ⟨_, _, _, w, rfl, rfl, q1.sq, ew, fin.same hr rw' (stL_atI s1 hz)⟩ hs
    · cases hz
  | ref q1 =>
    simp only [ixD] at hz
    split at hz
    · rename_i ds e2
      split at hz
      · cases qe
        obtain ⟨a, xs, e3, e4, s1, t1⟩ := lst_view (Z := ⟨X.K, fun _ => none⟩) hr e2
        rw [q1] at e3; cases e3
        obtain ⟨w, ew, rw'⟩ := rpL_atI t1 hz
        exact ix_list value slice pins s σ H _ _ v u Q I rx ry ⟨_, _, _, w, rfl, rfl, .of e4, ew, fin.same hr rw' (stL_atI s1 hz)⟩ hs
      · cases hz
    · rename_i kvs e2
      split at hz
      · rename_i k ek
        obtain ⟨kv, rd, t⟩ := dic_view hr q1 (show dicOf h _ = some kvs by simp only [dicOf, e2])
        cases rx
        exact ix_dic hu I ry hr rd t qe ek hz fin hs
      · cases hz
    · rename_i kvs e2
      split at hz
      · rename_i k ek
        obtain ⟨kv, rd, t⟩ := dic_view hr q1 (show dicOf h _ = some kvs by simp only [dicOf, e2])
        cases rx
        exact ix_dic hu I ry hr rd t qe ek hz fin hs
      · cases hz
    · cases hz
  | _ => simp [ixD] at hz
def rSl (K : PySem.W.Frag) : V → Option Int → Option Int → Hp → VK → Prop := fun x lo hi H Q => ∃ m h d z, HRp K m H h ∧ Rp K m H x d ∧ cutD h d lo hi = some z ∧ Fin1 K m H h z Q
theorem cutL_whole {ds : List D} {lo hi : Option Int} (h : HT.sIx ds.length 0 lo = 0 ∧ HT.sIx ds.length ds.length hi = ds.length) : cutL ds lo hi = ds := by
  unfold cutL
  rw [h.1, h.2]
  simp
theorem cut_lst {pins : List (Addr × Obj)} {s : Shared} {σ : L2.St} {H : Hp} {x : V} {v vl vu : Value} {lo hi : Option Int} {sl : Addr} {Q : VK} {m : List Addr} {h : Hm} {d : D} {ds : List D} (I : Inv X pins σ H s) (rx : RelV x v) (hs : s.heap.IsSliceOf sl vl vu .none) (pl : IsPart vl lo) (pu : IsPart vu hi)
    (hr : HRp X.K m H h) (qd : Rp X.K m H x d) (e : lstOf h d = some ds) (fin : Fin1 X.K m H h (.lv (cutL ds lo hi)) Q) :
    ∃ T id, typeLookup (.type T) "__getitem__" = pure (some (.builtin id)) ∧ s.TypeIs v T ∧ wpAny (model X.prog X.w) X.A (getItem v (.ref sl)) (EP X pins σ Q) X.xe s := by
  obtain ⟨a, xs, rfl, sq, sd, td⟩ := lstOf_view (Z := ⟨X.K, fun _ => none⟩) hr qd e
  exact sl_list pins s σ H _ v vl vu lo hi sl Q I rx hs pl pu ⟨a, xs, rfl, sq, fun p hp => fin.lst hr (stL_cut _ _ sd) (rpL_cut _ _ td) hp⟩
theorem op_sl : SlR X (rSl X.K) := by
  intro pins s σ H x v vl vu lo hi sl Q I rx hs pl pu ⟨m, h, d, z, hr, qd, hz, fin⟩
  cases qd with
  | tup q1 s1 t1 =>
    simp only [cutD, Option.some.injEq] at hz
    subst hz
    refine sl_tupN pins s σ H _ v vl vu lo hi sl Q I rx hs pl pu ⟨_, _, rfl, q1.sq, fun hw => ?_, fun hw p o no hp => fin.tup hr (stL_cut _ _ s1) (rpL_cut _ _ t1) hp no⟩
    rw [t1.length] at hw
    rw [cutL_whole hw] at fin
    exact fin.same hr (.tup q1 s1 t1) s1
  | str x =>
    simp only [cutD] at hz
    split at hz
    · cases hz
      refine sl_str pins s σ H _ v vl vu lo hi sl Q I rx hs pl pu ⟨_, rfl, by assumption, ?_⟩
      have e : cutS x lo hi = ⟨(cutL x.cps.toList lo hi).toArray⟩ := by
        have : x.length = x.cps.toList.length := by simp [Str.length]
        unfold cutS cutL
        rw [this]
      rw [e]
      exact fin.same hr (.str _) rfl
    · cases hz
  | lv q1 nm s1 t1 =>
    simp only [cutD, Option.map_eq_some_iff] at hz
    obtain ⟨ds, e, rfl⟩ := hz
    exact cut_lst I rx hs pl pu hr (.lv q1 nm s1 t1) e fin
  | fl q1 s1 t1 =>
    simp only [cutD, Option.map_eq_some_iff] at hz
    obtain ⟨ds, e, rfl⟩ := hz
    exact cut_lst I rx hs pl pu hr (.fl q1 s1 t1) e fin
  | ref q1 =>
    simp only [cutD, Option.map_eq_some_iff] at hz
    obtain ⟨ds, e, rfl⟩ := hz
    exact cut_lst I rx hs pl pu hr (.ref q1) e fin
  | _ => simp [cutD, lstOf] at hz
def tRevD (K : PySem.W.Frag) (te : TE) : TE := fun σ H Q => te σ H fun x H1 => ∃ m h d z, HRp K m H1 h ∧ Rp K m H1 x d ∧ revD h d = some z ∧ Fin1 K m H1 h z Q
theorem pe_revD {e : Expr} {te : TE} {k : Nat} {p1 p2 p3 pos : Pos} (he : PE X e te) : PE X (.Subscript e (.Slice none none (some (.UnaryOp .USub (.Constant (.int 1) k p1) p2)) p3) pos) (tRevD X.K te) := by
  refine ⟨fun pins s σ H Q I h => ?_⟩
  refine Subscript_ (thn (he.run pins s σ H _ I h) fun v s1 ⟨x, H1, I1, r1, m, hm, d, z, hr, qd, hz, fin⟩ => ?_)
  have hst : PO X (some (.UnaryOp .USub (.Constant (.int 1) k p1) p2)) (tPart (tUn (rU fun i => .int (-i)) (tC (.int 1)))) := po_some (pe_un un_neg pe_int)
  refine wpAny_Slice (thn (po_none.run pins s1 σ H1 (fun o H2 => o = none ∧ H2 = H1) I1 ⟨rfl, rfl⟩) fun vl s2 ⟨l, H2, I2, pl, el, e2⟩ => ?_)
  subst el e2
  refine thn (po_none.run pins s2 σ H2 (fun o H3 => o = none ∧ H3 = H2) I2 ⟨rfl, rfl⟩) fun vu s3 ⟨u, H3, I3, pu, eu, e3⟩ => ?_
  subst eu e3
  refine thn (hst.run pins s3 σ H3 (fun o H4 => o = some (-1) ∧ H4 = H3) I3 ⟨1, rfl, -1, rfl, rfl, rfl⟩) fun vs s4 ⟨o, H4, I4, ps, eo, e4⟩ => ?_
  subst eo e4
  have I5 : Inv X pins σ H4 { s4 with heap := s4.heap.push { cls := .type "slice", data := .fields #[vl, vu, vs] } } := I4.kept (t' := s4.toks) fun b ob q => Heap.get?_push_of_some _ q
  have go_list : ∀ {a : Addr} {xs : List V} {ds : List D}, x = .ref a → SqL X.K H4 a xs → D.stL ds = true → RpL X.K m H4 xs ds → Fin1 X.K m H4 hm (.lv ds.reverse) Q →
      wpAny (model X.prog X.w) X.A (subscriptTail e (.Slice none none (some (.UnaryOp .USub (.Constant (.int 1) k p1) p2)) p3) v (.ref s4.heap.objs.size)) (EP X pins σ Q) X.xe { s4 with heap := s4.heap.push { cls := .type "slice", data := .fields #[vl, vu, vs] } } := by
    intro a xs ds ex hx sd td fin
    subst ex
    cases r1
    obtain ⟨its, r, ht, hz⟩ := I5.list hx
    refine tail_any (ops := [.ref a, .ref s4.heap.objs.size]) ht.isList.typeIs (PySem.slot_list_getitem.lookup) ?_ (by with_unfolding_all rfl)
    have hlen := r.length
    refine wpAny_getItem_list_slice ht.isList (Heap.IsSliceOf.new _ vl vu vs) pl pu ps (by decide) ?_ (by rw [List.size_toArray]; omega)
    rw [PySem.W.krv_pick]
    refine ⟨.ref _, _, I5.laid (t' := s4.toks) (o := .lst xs.reverse) (fun b ob q => Heap.get?_push_of_some _ q) (Nat.le_refl _) ?_, rfl, fin.lst hr (stL_rev sd) td.reverse (I5.hok.fresh (Nat.le_refl _))⟩
    exact ⟨by rw [List.length_reverse]; exact hz, _, 0, r.reverse, Heap.get?_push_size _ rfl⟩
  cases qd with
  | tup q1 sd td =>
    simp only [revD, Option.some.injEq] at hz
    subst hz
    cases r1
    obtain ⟨its, r, ht, hzz⟩ := I5.tuple q1.sq
    cases pl
    cases pu
    refine tail_any (ops := [_, .ref s4.heap.objs.size]) ht.typeIs PyProof.Rows.slot_tuple_getitem.lookup ?_ (by with_unfolding_all rfl)
    have hlen := r.length
    refine HT.getItem_tuple_rev ht (Heap.IsSliceOf.new _ .none .none vs) ps ?_ (by rw [List.size_toArray]; omega)
    refine ⟨.ref _, _, I5.laid (t' := s4.toks) (o := .frz (tupO its.reverse.toArray) (.tup _)) (fun b ob q => Heap.get?_push_of_some _ q) (Nat.le_refl _) ?_, rfl, fin.tup hr (stL_rev sd) td.reverse (I5.hok.fresh (Nat.le_refl _)) rfl⟩
    exact ⟨Heap.get?_push_size _ rfl, by rw [List.length_reverse]; exact hzz, _, r.reverse, IsTup.new _ _⟩
  | lv a b c dd =>
    simp only [revD, Option.map_eq_some_iff] at hz
    obtain ⟨ds, e1, rfl⟩ := hz
    obtain ⟨a, xs, ex, sq, sd, td⟩ := lstOf_view (Z := ⟨X.K, fun _ => none⟩) hr (.lv a b c dd) e1
    exact go_list ex sq sd td fin
  | fl a b c =>
    simp only [revD, Option.map_eq_some_iff] at hz
    obtain ⟨ds, e1, rfl⟩ := hz
    obtain ⟨a, xs, ex, sq, sd, td⟩ := lstOf_view (Z := ⟨X.K, fun _ => none⟩) hr (.fl a b c) e1
    exact go_list ex sq sd td fin
  | ref a =>
    simp only [revD, Option.map_eq_some_iff] at hz
    obtain ⟨ds, e1, rfl⟩ := hz
    obtain ⟨a, xs, ex, sq, sd, td⟩ := lstOf_view (Z := ⟨X.K, fun _ => none⟩) hr (.ref a) e1
    exact go_list ex sq sd td fin
  | _ => simp [revD, lstOf] at hz
end
end Mi

set_option Elab.async false
set_option linter.all false
set_option maxRecDepth 100000
set_option maxHeartbeats 4000000
/-! Mini: sorted of a dict, any number of keys. -/
namespace Mi
open PySem PySem.Spec PyProof.Rows L2
section
variable {X : Cx}
theorem cr_sortedDU (hcalm : X.calm = true) : CallR X (.builtin "sorted") (fun xs H Q => ∃ (a : Addr) (kvs : List (L2.Key × V)) (ks : List Int), xs = [.ref a] ∧ Rd H a (.dK kvs) ∧ kvs.map (·.1) = ks.map Sum.inl ∧ ks.length ≤ sizeLine ∧
    ∀ (ys : List Int) (p : Addr), ys.Perm ks → ys.Pairwise (· ≤ ·) → H p = none → Q (.ref p) (upd H p (.lst (ys.map V.int)))) := by
  intro pins s σ H xs us Q I r q
  obtain ⟨a, kvs, ks, ex, hd, hks, h64, q⟩ := q
  subst ex
  obtain ⟨u, eu, rx⟩ := vals1 r
  subst eu
  cases rx
  obtain ⟨z, lo, vs, rel, dd⟩ := dk_rd I.hok hd
  obtain ⟨ep, hat⟩ := dd.dictAt
  have hkeys : vs.map (·.1) = ks.map Sum.inl := rel.keys.symm.trans hks
  have hl : vs.length = ks.length := by
    have e := congrArg List.length hkeys
    rw [List.length_map, List.length_map] at e
    exact e
  have h16 : vs.length ≤ sizeLine := by rw [hl]; exact h64
  refine Calls.call_function_entry PyProof.Rows.kind_sorted PyProof.Rows.plain_sorted PyProof.Rows.entry_sorted (PyProof.Rows.args_sorted1 _) ?_
  unfold Builtin.«sorted»
  refine wpAny_bind (m := checkCount "sorted" 1 1 _) (wpAny_pure ?_)
  refine wpAny_bind (PySem.W.kdu_collect (A := X.A.in1) (PySem.W.kdl_dict (knd := mixKind X.prog X.w) (kvs := vs) (ep := ep) lo) (I.ok.hd hcalm) hat h16 fun h' tk acc hk hacc => ?_)
  have hal : acc.toList.length = ks.length := by rw [Array.length_toList, hacc.1, hl]
  have hS : IntsAre acc.toList ks := ints_each hal fun j v e => by
    obtain ⟨k, x, e1, e2⟩ := hacc.2 j v (by rw [← Array.getElem?_toList]; exact e)
    have e3 : (vs.map (·.1))[j]? = some k := by rw [List.getElem?_map, e1]; rfl
    rw [hkeys, List.getElem?_map] at e3
    cases e4 : ks[j]? with
    | none => rw [e4] at e3; cases e3
    | some y =>
      rw [e4] at e3
      have e5 : Sum.inl y = k := Option.some.inj e3
      subst e5
      rcases keyIs_shape (show keyIs (Sum.inl y) v = true from e2) with ⟨i, t, ek, ev⟩ | ⟨z, t, ek, ev⟩
      · cases ek
        exact ⟨y, t, rfl, ev⟩
      · cases ek
  have I1 : Inv X pins σ H { s with heap := h', toks := tk } := I.kept hk
  have hzl : acc.toList.length ≤ sizeLine := by rw [hal]; exact h64
  refine wpAny_bind (wpAny_newList ?_ hzl)
  have hoL : (h'.push (seqObj "list" acc.toList.toArray 0)).get? h'.objs.size = some (seqObj "list" acc.toList.toArray 0) := Heap.get?_push_size _ rfl
  show wpAny _ _ _ _ _ { s with heap := h'.push (seqObj "list" acc.toList.toArray 0), toks := tk }
  refine wpAny_bind (wpAny_holding (wpAny_call_entry PyProof.Rows.slot_list_sort ⟨_, hoL, rfl⟩ PyProof.Rows.entry_list_sort
    (SrtO.list_sort_ord (s := { s with heap := h'.push (seqObj "list" acc.toList.toArray 0), toks := tk }) SrtO.swo_int hoL hzl (fun h2 => SrtO.ints_sortable hS h2) fun out h1 h2 => ⟨_, rfl, ?_⟩) (PyProof.Rows.args_list_sort _)))
  obtain ⟨k1, k2, k3⟩ := SrtO.ints_out hS h1 h2
  obtain ⟨e', he'⟩ := PyProof.Rows.sortedHeap_at (vs := acc.toList) (out := out.toArray) hoL
  have hlen : ((out.map SrtO.iv).map V.int).length ≤ sizeLine := by
    rw [List.length_map, k2.length_eq]
    exact h64
  refine wpAny_pure ⟨_, rfl, .ref h'.objs.size, upd H h'.objs.size (.lst ((out.map SrtO.iv).map V.int)), I1.laid (t' := tk) (fun b u e => ?_) (Nat.le_refl _)
    (show ObjOk X.prog X.w _ _ _ (.lst ((out.map SrtO.iv).map V.int)) from ⟨hlen, out, e', vals_of_ints k1, he'⟩), rfl, q _ _ k2 k3 (I1.hok.fresh (Nat.le_refl _))⟩
  have hb : b < h'.objs.size := Heap.lt_size e
  rw [PyProof.Rows.sortedHeap_old (Nat.ne_of_lt hb) (by rw [size_push']; exact Nat.lt_succ_of_lt hb)]
  exact Heap.get?_push_of_some _ e
/-- sorted(t) of a tuple of ints -/
theorem cr_sortedT : CallR X (.builtin "sorted") (fun xs H Q => ∃ (a : Addr) (ks : List Int), xs = [.ref a] ∧ SqT X.K H a (ks.map V.int) ∧
    ∀ (ys : List Int) (p : Addr), ys.Perm ks → ys.Pairwise (· ≤ ·) → H p = none → Q (.ref p) (upd H p (.lst (ys.map V.int)))) := by
  intro pins s σ H xs us Q I r q
  obtain ⟨a, ks, ex, hd, q⟩ := q
  subst ex
  obtain ⟨u, eu, rx⟩ := vals1 r
  subst eu
  cases rx
  obtain ⟨its, rv, ⟨o, ho, hc, n, hdd⟩, hz⟩ := I.tuple hd
  have hal : its.length = ks.length := by rw [← rv.length, List.length_map]
  have hsz : its.toArray.size ≤ sizeLine := by rw [List.size_toArray, hal]; simpa using hz
  refine Calls.call_function_entry PyProof.Rows.kind_sorted PyProof.Rows.plain_sorted PyProof.Rows.entry_sorted (PyProof.Rows.args_sorted1 _) ?_
  unfold Builtin.«sorted»
  refine wpAny_bind (m := checkCount "sorted" 1 1 _) (wpAny_pure ?_)
  refine wpAny_bind (wpAny_collect_seq (A := X.A.in1) a (T := "tuple") (.inr rfl) ho hc hdd (fun h' hk => ?_) hsz)
  have hS : IntsAre its ks := intsAre_of rv
  have I1 : Inv X pins σ H { s with heap := h', toks := s.toks } := I.kept hk
  have hzl : its.length ≤ sizeLine := by rw [hal]; simpa using hz
  rw [List.toList_toArray]
  refine wpAny_bind (wpAny_newList ?_ hzl)
  have hoL : (h'.push (seqObj "list" its.toArray 0)).get? h'.objs.size = some (seqObj "list" its.toArray 0) := Heap.get?_push_size _ rfl
  show wpAny _ _ _ _ _ { s with heap := h'.push (seqObj "list" its.toArray 0), toks := s.toks }
  refine wpAny_bind (wpAny_holding (wpAny_call_entry PyProof.Rows.slot_list_sort ⟨_, hoL, rfl⟩ PyProof.Rows.entry_list_sort
    (SrtO.list_sort_ord (s := { s with heap := h'.push (seqObj "list" its.toArray 0), toks := s.toks }) SrtO.swo_int hoL hzl (fun h2 => SrtO.ints_sortable hS h2) fun out h1 h2 => ⟨_, rfl, ?_⟩) (PyProof.Rows.args_list_sort _)))
  obtain ⟨k1, k2, k3⟩ := SrtO.ints_out hS h1 h2
  obtain ⟨e', he'⟩ := PyProof.Rows.sortedHeap_at (vs := its) (out := out.toArray) hoL
  have hlen : ((out.map SrtO.iv).map V.int).length ≤ sizeLine := by
    rw [List.length_map, k2.length_eq]
    simpa using hz
  refine wpAny_pure ⟨_, rfl, .ref h'.objs.size, upd H h'.objs.size (.lst ((out.map SrtO.iv).map V.int)), I1.laid (t' := s.toks) (fun b u e => ?_) (Nat.le_refl _)
    (show ObjOk X.prog X.w _ _ _ (.lst ((out.map SrtO.iv).map V.int)) from ⟨hlen, out, e', vals_of_ints k1, he'⟩), rfl, q _ _ k2 k3 (I1.hok.fresh (Nat.le_refl _))⟩
  have hb : b < h'.objs.size := Heap.lt_size e
  rw [PyProof.Rows.sortedHeap_old (Nat.ne_of_lt hb) (by rw [size_push']; exact Nat.lt_succ_of_lt hb)]
  exact Heap.get?_push_of_some _ e
end
end Mi

set_option Elab.async false
set_option linter.all false
set_option maxRecDepth 100000
set_option maxHeartbeats 4000000
/-! Mini: sorted of a list of tuples of ints. -/
namespace Mi
open PySem PySem.Spec PyProof.Rows L2
def IsTup (h : Heap) (v : Value) (ns : List Int) : Prop := ∃ a o its n, v = .ref a ∧ h.get? a = some o ∧ o.cls = .type "tuple" ∧ o.data = .seq its n ∧ IntsAre its.toList ns
theorem IsTup.keeps {h h' : Heap} {v : Value} {ns : List Int} (x : IsTup h v ns) (k : ∀ b o, h.get? b = some o → o.cls = .type "tuple" → h'.get? b = some o) : IsTup h' v ns := by
  obtain ⟨a, o, its, n, e, ho, hc, hd, hi⟩ := x
  exact ⟨a, o, its, n, e, k _ _ ho hc, hc, hd, hi⟩
section
variable {prog : Program} {w : World} {A : Around} {E : Value → Shared → Prop} {s : Shared}
theorem lex_items {xs ys : Nat} : ∀ {ps qs : List Value} {ns ms : List Int} (i : Nat), IntsAre ps ns → IntsAre qs ms → ns.length + ys = ms.length + xs →
    PySem.W.KatLex prog w A true (decide (xs < ys)) (fun r s' => s' = s ∧ r = HT.lexLt ns ms) (ps.zip qs) i s
  | _, _, _, _, i, .nil, .nil, hl => by
    refine PySem.W.kat_nil ⟨rfl, ?_⟩
    simp only [List.length_nil] at hl
    rw [HT.lexLt_nil_nil]
    exact decide_eq_false (by omega)
  | _, _, _, _, i, .nil, .cons c u hw, hl => by
    refine PySem.W.kat_nil ⟨rfl, ?_⟩
    simp only [List.length_nil, List.length_cons] at hl
    rw [HT.lexLt_nil_cons]
    exact decide_eq_true (by omega)
  | _, _, _, _, i, .cons a t hv, .nil, hl => by
    refine PySem.W.kat_nil ⟨rfl, ?_⟩
    simp only [List.length_nil, List.length_cons] at hl
    rw [HT.lexLt_cons_nil]
    exact decide_eq_false (by omega)
  | _, _, _, _, i, .cons a t hv, .cons c u hw, hl => by
    simp only [List.length_cons] at hl
    refine PySem.W.kat_cons (SeqAt.EqAt.int_int a t c u prog w _ _ ?_)
    refine PySem.W.kat_go (fun e1 => ?_) (fun e1 => ?_)
    · have ex : a = c := by simpa using e1
      subst ex
      have ih := lex_items (xs := xs) (ys := ys) (i + 1) hv hw (by omega)
      rw [HT.lexLt_cons, if_pos rfl]
      exact PySem.W.kat_yes ih
    · have ex : ¬ a = c := by simpa using e1
      rw [HT.lexLt_cons, if_neg ex]
      exact PySem.W.kat_no (oneLt_any_int ⟨rfl, rfl⟩)
theorem tups_cmp {vs : List Value} {k : Value → List Int} (hp : ∀ v ∈ vs, IsTup s.heap v (k v)) : SrtO.Cmp prog w A s (tuples' true) (fun p => p.1 ∈ vs) (SrtO.lt2 fun v u => HT.lexLt (k v) (k u)) := by
  intro p q hm hm'
  have h1 := hp _ hm
  have h2 := hp _ hm'
  show wpAny (model prog w) A (keyLt' (tuples' true) p.1 q.1) (fun r s' => s' = s ∧ r = HT.lexLt (k p.1) (k q.1)) (fun _ _ => False) s
  generalize k p.1 = x at h1 ⊢
  generalize k q.1 = y at h2 ⊢
  obtain ⟨a, o, its, n, e, ho, hc, hd, hi⟩ := h1
  obtain ⟨a', o', its', n', e', ho', hc', hd', hi'⟩ := h2
  rw [e, e']
  refine PySem.W.kat_lt ho hd ho' hd' (lex_items 0 hi hi' ?_)
  have z1 : its.size = x.length := by rw [← hi.length]; simp
  have z2 : its'.size = y.length := by rw [← hi'.length]; simp
  omega
theorem tups_firsts {k : Value → List Int} : ∀ {vs : List Value}, (∀ v ∈ vs, IsTup s.heap v (k v) ∧ k v ≠ []) → ∃ fs : List Value, PySem.W.KatTups s.heap vs fs ∧ fs.length = vs.length ∧ ∀ f ∈ fs, ∃ x t, f = Value.int x t
  | [], _ => ⟨[], .nil, rfl, fun f hf => by cases hf⟩
  | v :: vs, h => by
    obtain ⟨fs, a, b, c⟩ := tups_firsts (vs := vs) fun u hu => h u (List.mem_cons_of_mem _ hu)
    obtain ⟨⟨a', o, its, n, e, ho, hc, hd, hi⟩, ne⟩ := h v List.mem_cons_self
    subst e
    generalize k (.ref a') = ns at hi ne
    obtain ⟨il, rfl⟩ : ∃ il : List Value, its = il.toArray := ⟨its.toList, by simp⟩
    rw [List.toList_toArray] at hi
    cases hi with
    | nil => exact absurd rfl ne
    | cons x t hi => exact ⟨_ :: fs, .cons (f := .int x t) ho hc hd (by simp) a, by simp [b], fun f hf => by
        rcases List.mem_cons.mp hf with rfl | hf
        · exact ⟨_, _, rfl⟩
        · exact c f hf⟩
theorem tups_sortableO {a : Addr} {vs : List Value} {k : Value → List Int} (h0 : 0 < vs.length) (hp : ∀ v ∈ vs, IsTup s.heap v (k v) ∧ k v ≠ []) (ha : ∀ o, s.heap.get? a = some o → o.cls ≠ .type "tuple") : SrtO.SortableO prog w A s a vs fun v u => HT.lexLt (k v) (k u) := by
  intro h' keep
  have hp' : ∀ v ∈ vs, IsTup h' v (k v) ∧ k v ≠ [] := fun v hm => ⟨(hp v hm).1.keeps fun b o e c => keep b o (fun z => by subst z; exact ha o e c) e, (hp v hm).2⟩
  obtain ⟨fs, h1, h2, h3⟩ := tups_firsts (s := { s with heap := h' }) hp'
  refine ⟨tuples' true, fun Q E hq => ?_, tups_cmp fun v hm => (hp' v hm).1⟩
  refine PySem.W.kat_kind (T := .type "int") h1 (by omega) (fun f hm => ?_) (by rfl) ?_
  · obtain ⟨x, t, rfl⟩ := h3 f hm
    exact PySem.W.Looks.now
  · have e : (Value.type "int" != Value.type "tuple") = true := by first | decide +kernel | rfl | decide
    rw [e]
    exact hq
/-- sorted(l) of tuples of ints -/
theorem sorted_tupsO {l : Addr} {vs : List Value} {k : Value → List Int} {Q : Value → Shared → Prop} (hl : s.heap.IsList l vs.toArray) (hz : vs.length ≤ sizeLine) (hp : ∀ v ∈ vs, IsTup s.heap v (k v) ∧ k v ≠ [])
    (h : ∀ (h' : Heap) (d : Addr) (out : List Value), SrtO.Srtd (fun v u => HT.lexLt (k v) (k u)) out → SrtO.Stb (fun v u => HT.lexLt (k v) (k u)) out vs → (∀ b o, s.heap.get? b = some o → h'.get? b = some o) → s.heap.objs.size ≤ d → (∃ n, h'.get? d = some (seqObj "list" out.toArray n)) → Q (.ref d) { s with heap := h' }) :
    wpAny (model prog w) A (call (.builtin "sorted") [.ref l]) Q E s := by
  refine SrtO.sorted_ord (NtL.swo_lexL k) hl hz (fun h2 h₁ a ha kk => ?_) fun out hs hb => ?_
  · refine tups_sortableO (s := { s with heap := h₁ }) (by omega) (fun v hm => ⟨(hp v hm).1.keeps fun b o e _ => (kk b o e).2, (hp v hm).2⟩) fun o e => ?_
    have e' : some o = some (seqObj "list" vs.toArray 0) := e.symm.trans ha
    cases e'
    intro c
    exact absurd (Value.type.inj c) (by decide)
  · exact h _ _ out hs hb (fun b o e => sortedAll_old e) (Nat.le_succ _) (sortedAll_at s.heap vs out.toArray)
end
theorem intsAre_uniq : ∀ {vs : List Value} {ns ms : List Int}, IntsAre vs ns → IntsAre vs ms → ns = ms
  | _, _, _, .nil, .nil => rfl
  | _, _, _, .cons a t h, .cons _ _ h' => by rw [intsAre_uniq h h']
theorem IsTup.uniq {h : Heap} {v : Value} {ns ms : List Int} (x : IsTup h v ns) (y : IsTup h v ms) : ns = ms := by
  obtain ⟨a, o, its, n, rfl, ho, hc, hd, hi⟩ := x
  obtain ⟨a', o', its', n', e, ho', hc', hd', hi'⟩ := y
  cases e
  rw [ho] at ho'
  cases ho'
  rw [hd] at hd'
  cases hd'
  exact intsAre_uniq hi hi'
open Classical in
noncomputable def tupOf (h : Heap) (v : Value) : List Int := if x : ∃ ns, IsTup h v ns then x.choose else []
theorem IsTup.of {h : Heap} {v : Value} {ns : List Int} (x : IsTup h v ns) : tupOf h v = ns := by
  have e : ∃ ns, IsTup h v ns := ⟨_, x⟩
  unfold tupOf
  rw [dif_pos e]
  exact e.choose_spec.uniq x
/-- these are tuples of these numbers -/
inductive TupsAt (K : PySem.W.Frag) (H : Hp) : List V → List (List Int) → Prop
  | nil : TupsAt K H [] []
  | cons {t : Addr} {ns : List Int} {vs : List V} {nss : List (List Int)} : Mi.SqN K H t (ns.map V.int) → TupsAt K H vs nss → TupsAt K H (.ref t :: vs) (ns :: nss)
section
variable {X : Cx}
theorem tups_its {pins : List (Addr × Obj)} {s : Shared} {σ : L2.St} {H : Hp} (I : Inv X pins σ H s) : ∀ {vs : List V} {nss : List (List Int)} {its : List Value}, TupsAt X.K H vs nss → Vals vs its →
    its.map (tupOf s.heap) = nss ∧ ∀ v ∈ its, ∃ t, v = .ref t ∧ IsTup s.heap v (tupOf s.heap v) ∧ SqN X.K H t ((tupOf s.heap v).map V.int) ∧ tupOf s.heap v ∈ nss
  | _, _, _, .nil, .nil => ⟨rfl, fun v hv => by cases hv⟩
  | _, _, v :: its, .cons (t := t) (ns := ns) (nss := nss) hd ts, .cons r rs => by
    obtain ⟨e1, e2⟩ := tups_its I ts rs
    obtain rfl : v = Value.ref t := r
    obtain ⟨il, rv, ⟨o, ho, hc, n, hdd⟩, hz⟩ := I.tuple hd.sq
    have x : IsTup s.heap (.ref t) ns := ⟨t, o, il.toArray, n, rfl, ho, hc, hdd, by rw [List.toList_toArray]; exact intsAre_of rv⟩
    refine ⟨by rw [List.map_cons, x.of, e1], fun u hu => ?_⟩
    rcases List.mem_cons.mp hu with rfl | hu
    · exact ⟨t, rfl, by rw [x.of]; exact x, by rw [x.of]; exact hd, by rw [x.of]; exact List.mem_cons_self⟩
    · obtain ⟨t', a, b, c, d⟩ := e2 u hu
      exact ⟨t', a, b, c, List.mem_cons_of_mem _ d⟩
theorem tups_back {s : Shared} {H : Hp} : ∀ {out : List Value}, (∀ v ∈ out, ∃ t, v = .ref t ∧ SqN X.K H t ((tupOf s.heap v).map V.int)) → TupsAt X.K H (out.map backV) (out.map (tupOf s.heap))
  | [], _ => .nil
  | v :: out, h => by
    obtain ⟨t, rfl, hd⟩ := h v List.mem_cons_self
    exact .cons hd (tups_back fun u hu => h u (List.mem_cons_of_mem _ hu))
theorem cr_sortedTups : CallR X (.builtin "sorted") (fun xs H Q => ∃ (a : Addr) (vs : List V) (nss : List (List Int)), xs = [.ref a] ∧ SqL X.K H a vs ∧ TupsAt X.K H vs nss ∧ (∀ ns ∈ nss, ns ≠ []) ∧
    ∀ (ws : List V) (mss : List (List Int)) (p : Addr), TupsAt X.K H ws mss → mss.Perm nss → mss.Pairwise (fun a b => HT.lexLt b a = false) → H p = none → Q (.ref p) (upd H p (.lst ws))) := by
  intro pins s σ H xs us Q I r q
  obtain ⟨a, vs, nss, ex, hs, ht, hne, q⟩ := q
  subst ex
  obtain ⟨u, rfl, ru⟩ := vals1 r
  obtain rfl : u = Value.ref a := ru
  obtain ⟨its, rv, hl, hz⟩ := I.list hs
  obtain ⟨e1, e2⟩ := tups_its I ht rv
  refine sorted_tupsO (k := tupOf s.heap) hl.isList (by rw [← rv.length]; exact hz) (fun v hv => ?_) fun h' d out hsr hst k hd hn => ?_
  · obtain ⟨t, _, b, _, c⟩ := e2 v hv
    exact ⟨b, hne _ c⟩
  · have hp := hst.perm
    have h3 : ∀ v ∈ out, ∃ t, v = Value.ref t ∧ SqN X.K H t ((tupOf s.heap v).map V.int) := fun v hv => by
      obtain ⟨t, a, _, b, _⟩ := e2 v (hp.mem_iff.mp hv)
      exact ⟨t, a, b⟩
    obtain ⟨n, hn⟩ := hn
    refine ⟨.ref d, upd H d (.lst (out.map backV)), I.laid (t' := s.toks) k hd ⟨?_, out, n, vals_back fun v hv => ?_, hn⟩, rfl, q _ _ d (tups_back h3) ?_ ?_ (I.hok.fresh hd)⟩
    · rw [List.length_map, hp.length_eq, ← rv.length]; exact hz
    · obtain ⟨t, a, _⟩ := h3 v hv
      exact ⟨t, a⟩
    · rw [← e1]
      exact hp.map _
    · rw [List.pairwise_map]
      exact hsr
/-- sorted(t), t a tuple of tuples of ints -/
theorem cr_sortedTupsT : CallR X (.builtin "sorted") (fun xs H Q => ∃ (a : Addr) (vs : List V) (nss : List (List Int)), xs = [.ref a] ∧ SqT X.K H a vs ∧ TupsAt X.K H vs nss ∧ (∀ ns ∈ nss, ns ≠ []) ∧
    ∀ (ws : List V) (mss : List (List Int)) (p : Addr), TupsAt X.K H ws mss → mss.Perm nss → mss.Pairwise (fun a b => HT.lexLt b a = false) → H p = none → Q (.ref p) (upd H p (.lst ws))) := by
  intro pins s σ H xs us Q I r q
  obtain ⟨a, vs, nss, ex, hs, ht, hne, q⟩ := q
  subst ex
  obtain ⟨u, rfl, ru⟩ := vals1 r
  obtain rfl : u = Value.ref a := ru
  obtain ⟨its, rv, ⟨o, ho, hc, n, hdd⟩, hz⟩ := I.tuple hs
  obtain ⟨e1, e2⟩ := tups_its I ht rv
  have hal : its.length = vs.length := rv.length.symm
  have hsz : its.toArray.size ≤ sizeLine := by rw [List.size_toArray, hal]; simpa using hz
  refine Calls.call_function_entry PyProof.Rows.kind_sorted PyProof.Rows.plain_sorted PyProof.Rows.entry_sorted (PyProof.Rows.args_sorted1 _) ?_
  unfold Builtin.«sorted»
  refine wpAny_bind (m := checkCount "sorted" 1 1 _) (wpAny_pure ?_)
  refine wpAny_bind (wpAny_collect_seq (A := X.A.in1) a (T := "tuple") (.inr rfl) ho hc hdd (fun h' hk => ?_) hsz)
  have I1 : Inv X pins σ H { s with heap := h', toks := s.toks } := I.kept hk
  have hzl : its.length ≤ sizeLine := by rw [hal]; simpa using hz
  rw [List.toList_toArray]
  refine wpAny_bind (wpAny_newList ?_ hzl)
  have hoL : (h'.push (seqObj "list" its.toArray 0)).get? h'.objs.size = some (seqObj "list" its.toArray 0) := Heap.get?_push_size _ rfl
  have hk2 : ∀ b o, s.heap.get? b = some o → (h'.push (seqObj "list" its.toArray 0)).get? b = some o := fun b o e => Heap.get?_push_of_some _ (hk _ _ e)
  show wpAny _ _ _ _ _ { s with heap := h'.push (seqObj "list" its.toArray 0), toks := s.toks }
  refine wpAny_bind (wpAny_holding (wpAny_call_entry PyProof.Rows.slot_list_sort ⟨_, hoL, rfl⟩ PyProof.Rows.entry_list_sort
    (SrtO.list_sort_ord (s := { s with heap := h'.push (seqObj "list" its.toArray 0), toks := s.toks }) (NtL.swo_lexL (tupOf s.heap)) hoL hzl (fun h2 => tups_sortableO (by omega) (fun v hv => by
      obtain ⟨t, _, b, _, c⟩ := e2 v hv
      exact ⟨b.keeps fun b o e _ => hk2 b o e, hne _ c⟩) fun o e => by
        have e' : some o = some (seqObj "list" its.toArray 0) := e.symm.trans hoL
        cases e'
        intro c
        exact absurd (Value.type.inj c) (by decide)) fun out h1 h2 => ⟨_, rfl, ?_⟩) (PyProof.Rows.args_list_sort _)))
  obtain ⟨e', he'⟩ := PyProof.Rows.sortedHeap_at (vs := its) (out := out.toArray) hoL
  have hp := h2.perm
  have h3 : ∀ v ∈ out, ∃ t, v = Value.ref t ∧ SqN X.K H t ((tupOf s.heap v).map V.int) := fun v hv => by
    obtain ⟨t, a, _, b, _⟩ := e2 v (hp.mem_iff.mp hv)
    exact ⟨t, a, b⟩
  have hlen : (out.map backV).length ≤ sizeLine := by
    rw [List.length_map, hp.length_eq]
    exact hzl
  refine wpAny_pure ⟨_, rfl, .ref h'.objs.size, upd H h'.objs.size (.lst (out.map backV)), I1.laid (t' := s.toks) (fun b u e => ?_) (Nat.le_refl _)
    (show ObjOk X.prog X.w _ _ _ (.lst (out.map backV)) from ⟨hlen, out, e', vals_back fun v hv => ?_, he'⟩), rfl, q _ _ _ (tups_back h3) ?_ ?_ (I1.hok.fresh (Nat.le_refl _))⟩
  · have hb : b < h'.objs.size := Heap.lt_size e
    rw [PyProof.Rows.sortedHeap_old (Nat.ne_of_lt hb) (by rw [size_push']; exact Nat.lt_succ_of_lt hb)]
    exact Heap.get?_push_of_some _ e
  · obtain ⟨t, a, _⟩ := h3 v hv
    exact ⟨t, a⟩
  · rw [← e1]
    exact hp.map _
  · rw [List.pairwise_map]
    exact h1
end
end Mi

set_option Elab.async false
set_option linter.all false
set_option maxRecDepth 100000
/-! Mini: built-ins. -/
namespace Mi
open PySem PySem.Spec PyProof.Rows L2
def rBi (K : PySem.W.Frag) (f : Bi) : List V → Hp → VK → Prop := fun vs H Q => ∃ m h ds z, HRp K m H h ∧ RpL K m H vs ds ∧ biD h f ds = some z ∧ Fin1 K m H h z Q
section
variable {K : PySem.W.Frag} {m : List Addr} {H : Hp} {h : Hm}
theorem rp_one {vs : List V} {d : D} (q : RpL K m H vs [d]) : ∃ v, vs = [v] ∧ Rp K m H v d := by
  cases q with
  | cons a t => cases t; exact ⟨_, rfl, a⟩
theorem blsOf_eq : ∀ {ds : List D} {bs : List Bool}, blsOf ds = some bs → ds = bs.map .bl
  | [], _, e => by simp [blsOf] at e; subst e; rfl
  | .bl i :: ds, _, e => by
    simp only [blsOf, Option.map_eq_some_iff] at e
    obtain ⟨ms, e1, rfl⟩ := e
    rw [blsOf_eq e1]; rfl
  | .non :: _, _, e => by simp [blsOf] at e
  | .int _ :: _, _, e => by simp [blsOf] at e
  | .str _ :: _, _, e => by simp [blsOf] at e
  | .tup _ :: _, _, e => by simp [blsOf] at e
  | .ref _ :: _, _, e => by simp [blsOf] at e
  | .lv _ :: _, _, e => by simp [blsOf] at e
  | .fl _ :: _, _, e => by simp [blsOf] at e
theorem rpL_bls : ∀ {ns : List Bool} {xs : List V}, RpL K m H xs (ns.map .bl) → xs = ns.map V.bl
  | [], _, .nil => rfl
  | n :: ns, _, .cons (.bl _) t => by rw [rpL_bls t]; rfl
theorem rpL_ofInts : ∀ (ns : List Int), RpL K m H (ns.map V.int) (ns.map .int)
  | [] => .nil
  | n :: ns => .cons (.int n) (rpL_ofInts ns)
theorem stL_ofInts (ns : List Int) : D.stL (ns.map .int) = true := by
  induction ns with
  | nil => rfl
  | cons n ns ih => simp [D.stL, D.st, ih]
theorem insI_perm (x : Int) : ∀ l : List Int, (insI x l).Perm (x :: l)
  | [] => .refl _
  | y :: ys => by
    unfold insI
    split
    · exact .refl _
    · exact ((insI_perm x ys).cons y).trans (.swap x y ys)
theorem sortI_perm : ∀ l : List Int, (sortI l).Perm l
  | [] => .refl _
  | x :: xs => (insI_perm x _).trans ((sortI_perm xs).cons x)
theorem insI_sorted (x : Int) : ∀ l : List Int, l.Pairwise (· ≤ ·) → (insI x l).Pairwise (· ≤ ·)
  | [], _ => by simp [insI]
  | y :: ys, h => by
    unfold insI
    rw [List.pairwise_cons] at h
    split
    · rename_i hxy
      rw [List.pairwise_cons]
      refine ⟨fun a ha => ?_, List.pairwise_cons.mpr h⟩
      rcases List.mem_cons.mp ha with rfl | ha
      · exact hxy
      · exact Int.le_trans hxy (h.1 a ha)
    · rename_i hxy
      rw [List.pairwise_cons]
      refine ⟨fun a ha => ?_, insI_sorted x ys h.2⟩
      rcases List.mem_cons.mp ((insI_perm x ys).mem_iff.mp ha) with rfl | ha
      · omega
      · exact h.1 a ha
theorem sortI_sorted : ∀ l : List Int, (sortI l).Pairwise (· ≤ ·)
  | [] => .nil
  | x :: xs => insI_sorted x _ (sortI_sorted xs)
theorem sorted_unique : ∀ {l l' : List Int}, l.Perm l' → l.Pairwise (· ≤ ·) → l'.Pairwise (· ≤ ·) → l = l'
  | [], l', p, _, _ => (List.nil_perm.mp p).symm
  | a :: l, [], p, _, _ => absurd p.length_eq (by simp)
  | a :: l, b :: l', p, h1, h2 => by
    have e : a = b := by
      rw [List.pairwise_cons] at h1 h2
      have ha := p.mem_iff.mp (List.mem_cons_self (a := a) (l := l))
      have hb := p.mem_iff.mpr (List.mem_cons_self (a := b) (l := l'))
      rcases List.mem_cons.mp ha with q | q
      · exact q
      · rcases List.mem_cons.mp hb with q' | q'
        · exact q'.symm
        · exact Int.le_antisymm (h1.1 b q') (h2.1 a q)
    subst e
    rw [sorted_unique (List.perm_cons a |>.mp p) (List.pairwise_cons.mp h1).2 (List.pairwise_cons.mp h2).2]
theorem insT_perm (x : List Int) : ∀ l : List (List Int), (insT x l).Perm (x :: l)
  | [] => .refl _
  | y :: ys => by
    unfold insT
    split
    · exact ((insT_perm x ys).cons y).trans (.swap x y ys)
    · exact .refl _
theorem sortT_perm : ∀ l : List (List Int), (sortT l).Perm l
  | [] => .refl _
  | x :: xs => (insT_perm x _).trans ((sortT_perm xs).cons x)
theorem insT_sorted (x : List Int) : ∀ l : List (List Int), l.Pairwise (fun a b => HT.lexLt b a = false) → (insT x l).Pairwise (fun a b => HT.lexLt b a = false)
  | [], _ => by simp [insT]
  | y :: ys, h => by
    unfold insT
    rw [List.pairwise_cons] at h
    split
    · rename_i hxy
      rw [List.pairwise_cons]
      refine ⟨fun a ha => ?_, insT_sorted x ys h.2⟩
      rcases List.mem_cons.mp ((insT_perm x ys).mem_iff.mp ha) with rfl | ha
      · exact NtL.lex_asym _ _ hxy
      · exact h.1 a ha
    · rename_i hxy
      have hxy := Bool.eq_false_iff.mpr hxy
      rw [List.pairwise_cons]
      refine ⟨fun a ha => ?_, List.pairwise_cons.mpr h⟩
      rcases List.mem_cons.mp ha with rfl | ha
      · exact hxy
      · exact NtL.lex_tr _ _ _ hxy (h.1 a ha)
theorem sortT_sorted : ∀ l : List (List Int), (sortT l).Pairwise (fun a b => HT.lexLt b a = false)
  | [] => .nil
  | x :: xs => insT_sorted x _ (sortT_sorted xs)
theorem lex_eq : ∀ {a b : List Int}, HT.lexLt a b = false → HT.lexLt b a = false → a = b
  | [], [], _, _ => rfl
  | [], _ :: _, h, _ => by cases h
  | _ :: _, [], _, h => by cases h
  | x :: a, y :: b, h1, h2 => by
    rw [HT.lexLt_cons] at h1 h2
    by_cases e : x = y
    · subst e
      rw [if_pos rfl] at h1 h2
      rw [lex_eq h1 h2]
    · rw [if_neg e] at h1
      rw [if_neg (Ne.symm e)] at h2
      have a1 := of_decide_eq_false h1
      have a2 := of_decide_eq_false h2
      omega
theorem sortedT_unique : ∀ {l l' : List (List Int)}, l.Perm l' → l.Pairwise (fun a b => HT.lexLt b a = false) → l'.Pairwise (fun a b => HT.lexLt b a = false) → l = l'
  | [], l', p, _, _ => (List.nil_perm.mp p).symm
  | a :: l, [], p, _, _ => absurd p.length_eq (by simp)
  | a :: l, b :: l', p, h1, h2 => by
    have e : a = b := by
      rw [List.pairwise_cons] at h1 h2
      have ha := p.mem_iff.mp (List.mem_cons_self (a := a) (l := l))
      have hb := p.mem_iff.mpr (List.mem_cons_self (a := b) (l := l'))
      rcases List.mem_cons.mp ha with q | q
      · exact q
      · rcases List.mem_cons.mp hb with q' | q'
        · exact q'.symm
        · exact lex_eq (h2.1 a q) (h1.1 b q')
    subst e
    rw [sortedT_unique (List.perm_cons a |>.mp p) (List.pairwise_cons.mp h1).2 (List.pairwise_cons.mp h2).2]
theorem tupI_eq {d : D} {ns : List Int} (e : tupI d = some ns) : d = .tup (ns.map .int) ∧ ns ≠ [] := by
  unfold tupI at e
  split at e
  · rename_i d ds
    have q := intsOf_eq e
    refine ⟨by rw [q], fun z => ?_⟩
    subst z
    cases q
  · cases e
theorem tupsI_at {K : PySem.W.Frag} {m : List Addr} {H : Hp} : ∀ {ds : List D} {nss : List (List Int)} {xs : List V}, tupsI ds = some nss → RpL K m H xs ds → TupsAt K H xs nss ∧ ∀ ns ∈ nss, ns ≠ []
  | [], _, _, e, .nil => by cases e; exact ⟨.nil, fun ns h => by cases h⟩
  | d :: ds, nss, _, e, .cons r t => by
    unfold tupsI at e
    split at e
    · rename_i ns nss' e1 e2
      cases e
      obtain ⟨rfl, ne⟩ := tupI_eq e1
      obtain ⟨a, b⟩ := tupsI_at e2 t
      cases r with
      | tup q s t2 =>
        obtain rfl := rpL_ints t2
        exact ⟨.cons q a, fun x hx => by
          rcases List.mem_cons.mp hx with rfl | hx
          · exact ne
          · exact b x hx⟩
    · cases e
theorem stL_tups : ∀ nss : List (List Int), D.stL (nss.map fun ns => .tup (ns.map .int)) = true
  | [] => rfl
  | ns :: nss => by
    rw [List.map_cons, D.stL, stL_tups nss, Bool.and_true, D.st]
    exact stL_ofInts _
theorem rpL_tups {K : PySem.W.Frag} {m : List Addr} {H : Hp} : ∀ {ws : List V} {nss : List (List Int)}, TupsAt K H ws nss → RpL K m H ws (nss.map fun ns => .tup (ns.map .int))
  | _, _, .nil => .nil
  | _, _, .cons q t => .cons (.tup q (stL_ofInts _) (rpL_ofInts _)) (rpL_tups t)
theorem maxI_spec : ∀ (l : List Int) (x : Int), (maxI x l ∈ x :: l) ∧ ∀ y ∈ x :: l, y ≤ maxI x l
  | [], x => ⟨by simp [maxI], fun y hy => by simp at hy; subst hy; simp [maxI]⟩
  | z :: l, x => by
    obtain ⟨h1, h2⟩ := maxI_spec l (if z > x then z else x)
    unfold maxI
    refine ⟨?_, fun y hy => ?_⟩
    · rcases List.mem_cons.mp h1 with h1 | h1
      · rw [h1]; split <;> simp
      · exact List.mem_cons_of_mem _ (List.mem_cons_of_mem _ h1)
    · have h0 := h2 _ List.mem_cons_self
      rcases List.mem_cons.mp hy with rfl | hy
      · refine Int.le_trans ?_ h0; split <;> omega
      · rcases List.mem_cons.mp hy with rfl | hy
        · refine Int.le_trans ?_ h0; split <;> omega
        · exact h2 y (List.mem_cons_of_mem _ hy)
theorem minI_spec : ∀ (l : List Int) (x : Int), (minI x l ∈ x :: l) ∧ ∀ y ∈ x :: l, minI x l ≤ y
  | [], x => ⟨by simp [minI], fun y hy => by simp at hy; subst hy; simp [minI]⟩
  | z :: l, x => by
    obtain ⟨h1, h2⟩ := minI_spec l (if z < x then z else x)
    unfold minI
    refine ⟨?_, fun y hy => ?_⟩
    · rcases List.mem_cons.mp h1 with h1 | h1
      · rw [h1]; split <;> simp
      · exact List.mem_cons_of_mem _ (List.mem_cons_of_mem _ h1)
    · have h0 := h2 _ List.mem_cons_self
      rcases List.mem_cons.mp hy with rfl | hy
      · refine Int.le_trans h0 ?_; split <;> omega
      · rcases List.mem_cons.mp hy with rfl | hy
        · refine Int.le_trans h0 ?_; split <;> omega
        · exact h2 y (List.mem_cons_of_mem _ hy)
/-- a list of whole numbers -/
theorem ints_view {d : D} {v : V} {ds : List D} {ns : List Int} (r : HRp K m H h) (q : Rp K m H v d) (e : lstOf h d = some ds) (e2 : intsOf ds = some ns) : ∃ a, v = .ref a ∧ SqL K H a (ns.map V.int) := by
  obtain ⟨a, xs, rfl, sq, _, t⟩ := lstOf_view (Z := ⟨K, fun _ => none⟩) r q e
  rw [intsOf_eq e2] at t
  obtain rfl := rpL_ints t
  exact ⟨a, rfl, sq⟩
theorem k_NoneType_tuple : kitB "NoneType" "tuple" = some false := by decide +kernel
theorem k_NoneType_int : kitB "NoneType" "int" = some false := by decide +kernel
theorem k_NoneType_str : kitB "NoneType" "str" = some false := by decide +kernel
theorem k_NoneType_bool : kitB "NoneType" "bool" = some false := by decide +kernel
theorem k_bool_tuple : kitB "bool" "tuple" = some false := by decide +kernel
theorem k_bool_int : kitB "bool" "int" = some true := by decide +kernel
theorem k_bool_str : kitB "bool" "str" = some false := by decide +kernel
theorem k_bool_bool : kitB "bool" "bool" = some true := by decide +kernel
theorem k_int_tuple : kitB "int" "tuple" = some false := by decide +kernel
theorem k_int_int : kitB "int" "int" = some true := by decide +kernel
theorem k_int_str : kitB "int" "str" = some false := by decide +kernel
theorem k_int_bool : kitB "int" "bool" = some false := by decide +kernel
theorem k_str_tuple : kitB "str" "tuple" = some false := by decide +kernel
theorem k_str_int : kitB "str" "int" = some false := by decide +kernel
theorem k_str_str : kitB "str" "str" = some true := by decide +kernel
theorem k_str_bool : kitB "str" "bool" = some false := by decide +kernel
theorem k_tuple_tuple : kitB "tuple" "tuple" = some true := by decide +kernel
theorem k_tuple_int : kitB "tuple" "int" = some false := by decide +kernel
theorem k_tuple_str : kitB "tuple" "str" = some false := by decide +kernel
theorem k_tuple_bool : kitB "tuple" "bool" = some false := by decide +kernel
theorem k_list_tuple : kitB "list" "tuple" = some false := by decide +kernel
theorem k_list_int : kitB "list" "int" = some false := by decide +kernel
theorem k_list_str : kitB "list" "str" = some false := by decide +kernel
theorem k_list_bool : kitB "list" "bool" = some false := by decide +kernel
theorem k_dict_tuple : kitB "dict" "tuple" = some false := by decide +kernel
theorem k_dict_int : kitB "dict" "int" = some false := by decide +kernel
theorem k_dict_str : kitB "dict" "str" = some false := by decide +kernel
theorem k_dict_bool : kitB "dict" "bool" = some false := by decide +kernel
theorem keysI_eq : ∀ {kvs : List (L2.Key × D)} {ns : List Int}, keysI kvs = some ns → kvs.map (·.1) = ns.map Sum.inl
  | [], _, e => by simp [keysI] at e; subst e; rfl
  | (.inl i, _) :: r, _, e => by
    simp only [keysI, Option.map_eq_some_iff] at e
    obtain ⟨ms, e1, rfl⟩ := e
    simp [keysI_eq e1]
  | (.inr _, _) :: _, _, e => by simp [keysI] at e
/-- a value's type -/
theorem ty_view {d : D} {v : V} (r : HRp K m H h) (q : Rp K m H v d) : ∃ t, TyX K H v (.type t) ∧ kitB t "tuple" = some (isTup d) ∧ kitB t "int" = some (isIn d) ∧ kitB t "str" = some (isSt d) ∧ kitB t "bool" = some (isBl d) := by
  cases q with
  | non => exact ⟨_, .base .non, k_NoneType_tuple, k_NoneType_int, k_NoneType_str, k_NoneType_bool⟩
  | bl b => exact ⟨_, .base (.bl b), k_bool_tuple, k_bool_int, k_bool_str, k_bool_bool⟩
  | int b => exact ⟨_, .base (.int b), k_int_tuple, k_int_int, k_int_str, k_int_bool⟩
  | str b => exact ⟨_, .base (.str b), k_str_tuple, k_str_int, k_str_str, k_str_bool⟩
  | tup q s t =>
    rcases q with ⟨o, q, _⟩ | ⟨o, its, n, q, c, _⟩
    · exact ⟨_, .fTuple q, k_tuple_tuple, k_tuple_int, k_tuple_str, k_tuple_bool⟩
    · exact ⟨_, .kTuple q c, k_tuple_tuple, k_tuple_int, k_tuple_str, k_tuple_bool⟩
  | lv q nm s t => exact ⟨_, .base (.lst q), k_list_tuple, k_list_int, k_list_str, k_list_bool⟩
  | fl q s t =>
    rcases q with ⟨o, q⟩ | ⟨o, its, n, q, c, _⟩
    · exact ⟨_, .base (.frz q), k_list_tuple, k_list_int, k_list_str, k_list_bool⟩
    · exact ⟨_, .kList q c, k_list_tuple, k_list_int, k_list_str, k_list_bool⟩
  | ref e =>
    rename_i a n
    have hl : n < h.length := by rw [← r.len]; exact (List.getElem?_eq_some_iff.mp e).1
    have := r.at_ n h[n] a (List.getElem?_eq_getElem hl) e
    generalize h[n] = o at this
    cases this with
    | lst q _ _ => exact ⟨_, .base (.lst q), k_list_tuple, k_list_int, k_list_str, k_list_bool⟩
    | dic q _ => exact ⟨_, .base (.dK q), k_dict_tuple, k_dict_int, k_dict_str, k_dict_bool⟩
    | frd q _ => exact ⟨_, .fDict q, k_dict_tuple, k_dict_int, k_dict_str, k_dict_bool⟩
end
section
variable {X : Cx}
theorem call_len_dicts : CallR X (.builtin "len") (fun xs H Q => ∃ (p : Addr) (kvs : List (L2.Key × V)), xs = [.ref p] ∧ H p = some (.dK kvs) ∧ Q (.int ((kvs.length : Nat) : Int)) H) := by
  intro pins s σ H xs us Q I r ⟨p, kvs, e, hk, q⟩
  subst e
  obtain ⟨u, eu, rx⟩ := vals1 r
  subst eu
  obtain rfl : u = Value.ref p := rx
  obtain ⟨z, lo, vs, rk, hd⟩ := (show ObjOk X.prog X.w H s.heap p (.dK kvs) from I.hok p _ hk)
  have hl : kvs.length = vs.length := Paired.length rk
  refine call_len_dict lo hd (by rw [← hl]; rw [sizeLine_eq] at z; omega) ?_
  rw [← hl]
  exact ⟨.int ((kvs.length : Nat) : Int), H, I.tok _, ⟨_, rfl⟩, q⟩
theorem call_sum_tups (hc : X.calm = true) : CallR X (.builtin "sum") (fun vs H Q => ∃ (a : Addr) (ns : List Int), vs = [V.ref a] ∧ SqT X.K H a (ns.map V.int) ∧ Q (.int ns.sum) H) := by
  intro pins s σ H vs us Q I r ⟨a, ns, e, hs, q⟩
  subst e
  obtain ⟨its, rv, hl, _⟩ := I.tuple hs
  rw [Vals.ref1 r]
  have hi := rv.ints
  obtain ⟨xs, e⟩ := hi.allInts.items
  have hn : numsOf (intItems xs).toList = ns := by rw [← e]; exact hi.numsOf
  rw [nums_intItems] at hn
  have hl : s.heap.IsTuple a its.toArray := hl
  rw [e] at hl
  refine PySem.W.ktm_sumG (I.ok.hd hc) hl fun h' tk t' hk => ?_
  rw [preSum_eq, List.take_of_length_le (by simp), hn]
  exact ⟨.int _, H, I.kept hk, ⟨_, rfl⟩, q⟩
def chV (x : Str) : List V := x.cps.toList.map fun c => .str ⟨#[c]⟩
theorem chrs_st (x : Str) : D.stL (chrs x) = true := by
  rw [stL_iff]
  intro d hd
  obtain ⟨c, _, rfl⟩ := List.mem_map.mp hd
  rfl
theorem chrs_rp {K : PySem.W.Frag} {m : List Addr} {H : Hp} (x : Str) : RpL K m H (chV x) (chrs x) := by
  unfold chV chrs
  generalize x.cps.toList = l
  induction l with
  | nil => exact .nil
  | cons a r ih => exact .cons (.str _) ih
theorem vals_signs : ∀ (cs : List Nat) (vs : List Value), vs.length = cs.length → (∀ (j : Nat) (v : Value), vs[j]? = some v → ∃ c u, cs[j]? = some c ∧ v = .str ⟨#[c]⟩ u) → Vals (cs.map fun c => V.str ⟨#[c]⟩) vs
  | [], [], _, _ => .nil
  | [], _ :: _, e, _ => by simp at e
  | _ :: _, [], e, _ => by simp at e
  | c :: cs, v :: vs, e, h => by
    obtain ⟨c', u, h1, h2⟩ := h 0 v rfl
    simp at h1
    subst h1
    exact .cons ⟨u, h2⟩ (vals_signs cs vs (by simpa using e) fun j w hw => by simpa using h (j + 1) w (by simpa using hw))
theorem call_list_signs (hc : X.calm = true) : CallR X (.type "list") (fun xs H Q => ∃ x, xs = [.str x] ∧ x.length ≤ sizeLine ∧ ∀ l, H l = none → Q (.ref l) (upd H l (.lst (chV x)))) := by
  intro pins s σ H xs us Q I r ⟨x, ex, hx, q⟩
  subst ex
  obtain ⟨u, rfl, t, rfl⟩ := vals1 r
  refine PySem.call_list_str (hn := hx) (I.ok.hd hc) x t fun h' tk acc' c' kp e it => ?_
  have vv : Vals (chV x) acc'.toList := vals_signs _ _ (by simpa using it.1) fun j v hv => by
    obtain ⟨c, u, h1, h2⟩ := it.2 j v (by simpa using hv)
    exact ⟨c, u, by simpa using h1, h2⟩
  have hz : (chV x).length ≤ sizeLine := by unfold chV; rw [List.length_map, Array.length_toList]; exact hx
  exact ⟨.ref s.heap.objs.size, _, I.laid (t' := tk) kp (Nat.le_refl _) (show ObjOk X.prog X.w _ h' _ (.lst (chV x)) from ⟨hz, acc'.toList, c', vv, by simpa using e⟩), rfl, q _ (I.hok.fresh (Nat.le_refl _))⟩
theorem call_bi (hc : X.calm = true) (hg : X.A.guards = some []) (hu : X.A.units + 65 < cLine) : ∀ f : Bi, match f with
    | .len => CallR X (.builtin "len") (rBi X.K .len)
    | .abs => CallR X (.builtin "abs") (rBi X.K .abs)
    | .int => CallR X (.type "int") (rBi X.K .int)
    | .str => CallR X (.type "str") (rBi X.K .str)
    | .repr => CallR X (.builtin "repr") (rBi X.K .repr)
    | .tuple => CallR X (.type "tuple") (rBi X.K .tuple)
    | .list => CallR X (.type "list") (rBi X.K .list)
    | .sum => CallR X (.builtin "sum") (rBi X.K .sum)
    | .all => CallR X (.builtin "all") (rBi X.K .all)
    | .sorted => CallR X (.builtin "sorted") (rBi X.K .sorted)
    | .max => CallR X (.builtin "max") (rBi X.K .max)
    | .min => CallR X (.builtin "min") (rBi X.K .min)
    | .lend => CallR X (.builtin "len") (rBi X.K .lend)
    | .sumt => CallR X (.builtin "sum") (rBi X.K .sumt)
    | _ => True := by
  intro f
  have one : ∀ {h : Hm} {f : Bi} {ds : List D} {z : D}, f ≠ .lrange → biD h f ds = some z → (∃ d, ds = [d] ∧ bi1 h f d = some z) ∨ ∃ i j, ds = [.int i, .int j] ∧ ((f = .min ∧ z = .int (if j < i then j else i)) ∨ (f = .max ∧ z = .int (if j > i then j else i))) := by
    intro h f ds z nl e
    unfold biD at e
    split at e
    · exact .inl ⟨_, rfl, e⟩
    · refine .inr ⟨_, _, rfl, ?_⟩
      split at e
      · cases e; exact .inl ⟨rfl, rfl⟩
      · cases e; exact .inr ⟨rfl, rfl⟩
      · exact absurd rfl nl
      · cases e
    · cases e
  have lst1 : ∀ {h : Hm} {H : Hp} {m : List Addr} {d : D} {v : V} {ds : List D}, HRp X.K m H h → Rp X.K m H v d → seqOf h d = some ds → ∃ a xs, v = .ref a ∧ (SqL X.K H a xs ∨ SqT X.K H a xs) ∧ D.stL ds = true ∧ RpL X.K m H xs ds := fun r q e => seqOf_view (Z := ⟨X.K, fun _ => none⟩) r q e
  cases f with
  | len =>
    intro pins s σ H vs us Q I r ⟨m, h, ds, z, hr, qv, hz, fin⟩
    rcases one (by simp) hz with ⟨d, rfl, e⟩ | ⟨i, j, rfl, ⟨e, _⟩ | ⟨e, _⟩⟩
    · obtain ⟨v, rfl, qd⟩ := rp_one qv
      simp only [bi1, Option.map_eq_some_iff] at e
      obtain ⟨n, e, rfl⟩ := e
      have fin' := fin.same hr (.int _) rfl
      unfold lenD at e
      split at e
      · split at e
        · cases e
          cases qd
          exact call_len pins s σ H _ us Q I r ⟨_, _, rfl, ⟨by assumption, rfl⟩, fin'⟩
        · cases e
      · rw [Option.map_eq_some_iff] at e
        obtain ⟨ds, e, rfl⟩ := e
        obtain ⟨a, xs, rfl, sq, _, t⟩ := lst1 hr qd e
        exact call_len_seq pins s σ H _ us Q I r ⟨a, xs, rfl, sq, by rw [t.length]; exact fin'⟩
    · cases e
    · cases e
  | lend =>
    intro pins s σ H vs us Q I r ⟨m, h, ds, z, hr, qv, hz, fin⟩
    rcases one (by simp) hz with ⟨d, rfl, e⟩ | ⟨i, j, rfl, ⟨e, _⟩ | ⟨e, _⟩⟩
    · obtain ⟨v, rfl, qd⟩ := rp_one qv
      simp only [bi1, Option.map_eq_some_iff] at e
      obtain ⟨n, e, rfl⟩ := e
      have fin' := fin.same hr (.int _) rfl
      cases qd with
      | ref qa =>
        simp only [dicN] at e
        split at e
        · rename_i e4
          split at e
          · rename_i hx
            cases e
            obtain ⟨a', e5, oa⟩ := hr.get e4
            rw [qa] at e5; cases e5
            cases oa with
            | dic e6 t =>
              exact call_len_dicts pins s σ H _ us Q I r ⟨_, _, rfl, e6, by
                have ln := congrArg List.length t.1
                simp at ln
                rw [ln]; exact fin'⟩
          · cases e
        · cases e
      | _ => simp [dicN] at e
    · cases e
    · cases e
  | sumt =>
    intro pins s σ H vs us Q I r ⟨m, h, ds, z, hr, qv, hz, fin⟩
    rcases one (by simp) hz with ⟨d, rfl, e⟩ | ⟨i, j, rfl, ⟨e, _⟩ | ⟨e, _⟩⟩
    · obtain ⟨v, rfl, qd⟩ := rp_one qv
      simp only [bi1] at e
      split at e
      · rw [Option.map_eq_some_iff] at e
        obtain ⟨ns, e, rfl⟩ := e
        cases qd with
        | tup q st t =>
          rw [intsOf_eq e] at t
          obtain rfl := rpL_ints t
          exact call_sum_tups hc pins s σ H _ us Q I r ⟨_, ns, rfl, q.sq, fin.same hr (.int _) rfl⟩
      · cases e
    · cases e
    · cases e
  | abs =>
    intro pins s σ H vs us Q I r ⟨m, h, ds, z, hr, qv, hz, fin⟩
    rcases one (by simp) hz with ⟨d, rfl, e⟩ | ⟨i, j, rfl, ⟨e, _⟩ | ⟨e, _⟩⟩
    · obtain ⟨v, rfl, qd⟩ := rp_one qv
      cases qd <;> simp [bi1] at e
      subst e
      exact call_abs pins s σ H _ us Q I r ⟨_, rfl, fin.same hr (.int _) rfl⟩
    · cases e
    · cases e
  | int =>
    intro pins s σ H vs us Q I r ⟨m, h, ds, z, hr, qv, hz, fin⟩
    rcases one (by simp) hz with ⟨d, rfl, e⟩ | ⟨i, j, rfl, ⟨e, _⟩ | ⟨e, _⟩⟩
    · obtain ⟨v, rfl, qd⟩ := rp_one qv
      cases qd with
      | int i =>
        simp only [bi1, Option.some.injEq] at e
        subst e
        exact call_int1 pins s σ H _ us Q I r (.inl ⟨_, rfl, fin.same hr (.int _) rfl⟩)
      | bl b =>
        simp only [bi1, Option.some.injEq] at e
        subst e
        exact call_int1 pins s σ H _ us Q I r (.inr ⟨_, rfl, fin.same hr (.int _) rfl⟩)
      | _ => simp [bi1] at e
    · cases e
    · cases e
  | str =>
    intro pins s σ H vs us Q I r ⟨m, h, ds, z, hr, qv, hz, fin⟩
    rcases one (by simp) hz with ⟨d, rfl, e⟩ | ⟨i, j, rfl, ⟨e, _⟩ | ⟨e, _⟩⟩
    · obtain ⟨v, rfl, qd⟩ := rp_one qv
      cases qd with
      | int i =>
        simp only [bi1] at e
        split at e
        · cases e
          exact call_str_int pins s σ H _ us Q I r ⟨_, rfl, by assumption, fin.same hr (.str _) rfl⟩
        · cases e
      | _ => simp [bi1] at e
    · cases e
    · cases e
  | repr =>
    intro pins s σ H vs us Q I r ⟨m, h, ds, z, hr, qv, hz, fin⟩
    rcases one (by simp) hz with ⟨d, rfl, e⟩ | ⟨i, j, rfl, ⟨e, _⟩ | ⟨e, _⟩⟩
    · obtain ⟨v, rfl, qd⟩ := rp_one qv
      obtain ⟨u, rfl, ru⟩ := vals1 r
      simp only [bi1, reprOf, shp_eq] at e
      split at e
      · rename_i p ep
        split at e
        · rename_i hc
          cases e
          exact call_repr_Q hg hu I ru (pyOf_dq hr _ qd ep) hc.1 (SeqAt.depth_of_shaped hc.2.1) hc.2.2 (fin.same hr (.str _) rfl)
        · split at e
          · rename_i hc
            cases e
            exact call_repr_Q hg hu I ru (pyOf_dq hr _ qd ep) hc.1 hc.2.1 hc.2.2 (fin.same hr (.str _) rfl)
          · cases e
      · cases e
    · cases e
    · cases e
  | tuple =>
    intro pins s σ H vs us Q I r ⟨m, h, ds, z, hr, qv, hz, fin⟩
    rcases one (by simp) hz with ⟨d, rfl, e⟩ | ⟨i, j, rfl, ⟨e, _⟩ | ⟨e, _⟩⟩
    · obtain ⟨v, rfl, qd⟩ := rp_one qv
      simp only [bi1, Option.map_eq_some_iff] at e
      obtain ⟨ds, e, rfl⟩ := e
      obtain ⟨a, xs, rfl, sq, sd, t⟩ := seqOf_viewN (Z := ⟨X.K, fun _ => none⟩) hr qd e
      refine call_tupleN pins s σ H _ us Q I r ⟨a, xs, rfl, ?_⟩
      rcases sq with sq | sq
      · exact .inl ⟨sq, fun l o no hl => fin.tup hr sd t hl no⟩
      · exact .inr ⟨sq.sq, fin.same hr (.tup sq sd t) sd⟩
    · cases e
    · cases e
  | list =>
    intro pins s σ H vs us Q I r ⟨m, h, ds, z, hr, qv, hz, fin⟩
    rcases one (by simp) hz with ⟨d, rfl, e⟩ | ⟨i, j, rfl, ⟨e, _⟩ | ⟨e, _⟩⟩
    · obtain ⟨v, rfl, qd⟩ := rp_one qv
      simp only [bi1] at e
      split at e
      · rename_i x ex
        split at e
        · rename_i hx
          cases e
          cases qd <;> simp [strOf] at ex
          subst ex
          exact call_list_signs hc pins s σ H _ us Q I r ⟨_, rfl, hx, fun l hl => fin.lst hr (chrs_st _) (chrs_rp _) hl⟩
        · cases e
      · simp only [Option.map_eq_some_iff] at e
        obtain ⟨ds, e, rfl⟩ := e
        obtain ⟨a, xs, rfl, sq, sd, t⟩ := lst1 hr qd e
        exact call_list_of pins s σ H _ us Q I r ⟨a, xs, rfl, sq, fun l hl => fin.lst hr sd t hl⟩
    · cases e
    · cases e
  | sum =>
    intro pins s σ H vs us Q I r ⟨m, h, ds, z, hr, qv, hz, fin⟩
    rcases one (by simp) hz with ⟨d, rfl, e⟩ | ⟨i, j, rfl, ⟨e, _⟩ | ⟨e, _⟩⟩
    · obtain ⟨v, rfl, qd⟩ := rp_one qv
      simp only [bi1, sumD] at e
      split at e
      · rename_i l el
        rw [Option.map_eq_some_iff] at e
        obtain ⟨ns, e, rfl⟩ := e
        obtain ⟨a, rfl, sq⟩ := ints_view hr qd el e
        exact cr_sum hc pins s σ H _ us Q I r ⟨a, ns, rfl, sq, fin.same hr (.int _) rfl⟩
      · cases e
    · cases e
    · cases e
  | all =>
    intro pins s σ H vs us Q I r ⟨m, h, ds, z, hr, qv, hz, fin⟩
    rcases one (by simp) hz with ⟨d, rfl, e⟩ | ⟨i, j, rfl, ⟨e, _⟩ | ⟨e, _⟩⟩
    · obtain ⟨v, rfl, qd⟩ := rp_one qv
      simp only [bi1] at e
      split at e
      · rename_i l el
        rw [Option.map_eq_some_iff] at e
        obtain ⟨bs, e, rfl⟩ := e
        obtain ⟨a, xs, rfl, sq, _, t⟩ := lstOf_view (Z := ⟨X.K, fun _ => none⟩) hr qd el
        rw [blsOf_eq e] at t
        obtain rfl := rpL_bls t
        exact cr_all hc pins s σ H _ us Q I r ⟨a, bs, rfl, sq, fin.same hr (.bl _) rfl⟩
      · cases e
    · cases e
    · cases e
  | sorted =>
    intro pins s σ H vs us Q I r ⟨m, h, ds, z, hr, qv, hz, fin⟩
    rcases one (by simp) hz with ⟨d, rfl, e⟩ | ⟨i, j, rfl, ⟨e, _⟩ | ⟨e, _⟩⟩
    · obtain ⟨v, rfl, qd⟩ := rp_one qv
      simp only [bi1] at e
      split at e
      · rename_i l el
        obtain ⟨a, xs, rfl, sq, sd, t⟩ := lst1 hr qd el
        split at e
        · rename_i ns ei
          cases e
          obtain rfl := intsOf_eq ei
          obtain rfl := rpL_ints t
          rcases sq with sq | sq
          · refine cr_sortedI pins s σ H _ us Q I r ⟨a, ns, rfl, sq, fun ns' p hp1 hp2 hp => ?_⟩
            have e3 : ns' = sortI ns := sorted_unique (hp1.trans (sortI_perm ns).symm) hp2 (sortI_sorted ns)
            rw [e3]
            exact fin.lst hr (stL_ofInts _) (rpL_ofInts _) hp
          · refine cr_sortedT pins s σ H _ us Q I r ⟨a, ns, rfl, sq, fun ns' p hp1 hp2 hp => ?_⟩
            have e3 : ns' = sortI ns := sorted_unique (hp1.trans (sortI_perm ns).symm) hp2 (sortI_sorted ns)
            rw [e3]
            exact fin.lst hr (stL_ofInts _) (rpL_ofInts _) hp
        · rw [Option.map_eq_some_iff] at e
          obtain ⟨nss, et, rfl⟩ := e
          obtain ⟨tt, hne⟩ := tupsI_at et t
          rcases sq with sq | sq
          · refine cr_sortedTups pins s σ H _ us Q I r ⟨a, xs, nss, rfl, sq, tt, hne, fun ws mss p tw hp1 hp2 hp => ?_⟩
            have e3 : mss = sortT nss := sortedT_unique (hp1.trans (sortT_perm nss).symm) hp2 (sortT_sorted nss)
            subst e3
            exact fin.lst hr (stL_tups _) (rpL_tups tw) hp
          · refine cr_sortedTupsT pins s σ H _ us Q I r ⟨a, xs, nss, rfl, sq, tt, hne, fun ws mss p tw hp1 hp2 hp => ?_⟩
            have e3 : mss = sortT nss := sortedT_unique (hp1.trans (sortT_perm nss).symm) hp2 (sortT_sorted nss)
            subst e3
            exact fin.lst hr (stL_tups _) (rpL_tups tw) hp
      · split at e
        · rename_i kds ed
          split at e
          · rename_i ns ek
            split at e
            · rename_i hz2
              cases e
              obtain ⟨n, rfl⟩ : ∃ n, d = .ref n := by cases d <;> simp [dicOf] at ed; exact ⟨_, rfl⟩
              cases qd with
              | ref qa =>
                obtain ⟨kvs, rd, t⟩ := dic_view hr qa ed
                refine cr_sortedDU hc pins s σ H _ us Q I r ⟨_, kvs, ns, rfl, rd, by rw [t.1, keysI_eq ek], hz2, fun ns' p hp1 hp2 hp => ?_⟩
                have e3 : ns' = sortI ns := sorted_unique (hp1.trans (sortI_perm ns).symm) hp2 (sortI_sorted ns)
                rw [e3]
                exact fin.lst hr (stL_ofInts _) (rpL_ofInts _) hp
            · cases e
          · cases e
        · cases e
    · cases e
    · cases e
  | max =>
    intro pins s σ H vs us Q I r ⟨m, h, ds, z, hr, qv, hz, fin⟩
    rcases one (by simp) hz with ⟨d, rfl, e⟩ | ⟨i, j, rfl, ⟨e, _⟩ | ⟨_, rfl⟩⟩
    · obtain ⟨v, rfl, qd⟩ := rp_one qv
      simp only [bi1] at e
      split at e
      · rename_i l el
        split at e
        · rename_i n ns ei
          cases e
          obtain ⟨a, rfl, sq⟩ := ints_view hr qd el ei
          refine cr_max hc pins s σ H _ us Q I r ⟨a, _, rfl, sq, by simp, fun k h1 h2 => ?_⟩
          have sp := maxI_spec ns n
          have ek : k = maxI n ns := Int.le_antisymm (sp.2 k h1) (h2 _ sp.1)
          rw [ek]
          exact fin.same hr (.int _) rfl
        · cases e
      · cases e
    · cases e
    · cases qv with
      | cons a t =>
        cases t with
        | cons b t =>
          cases t
          cases a
          cases b
          exact call_max2 hc pins s σ H _ us Q I r ⟨_, _, rfl, fin.same hr (.int _) rfl⟩
  | min =>
    intro pins s σ H vs us Q I r ⟨m, h, ds, z, hr, qv, hz, fin⟩
    rcases one (by simp) hz with ⟨d, rfl, e⟩ | ⟨i, j, rfl, ⟨_, rfl⟩ | ⟨e, _⟩⟩
    · obtain ⟨v, rfl, qd⟩ := rp_one qv
      simp only [bi1] at e
      split at e
      · rename_i l el
        split at e
        · rename_i n ns ei
          cases e
          obtain ⟨a, rfl, sq⟩ := ints_view hr qd el ei
          refine cr_min hc pins s σ H _ us Q I r ⟨a, _, rfl, sq, by simp, fun k h1 h2 => ?_⟩
          have sp := minI_spec ns n
          have ek : k = minI n ns := Int.le_antisymm (h2 _ sp.1) (sp.2 k h1)
          rw [ek]
          exact fin.same hr (.int _) rfl
        · cases e
      · cases e
    · cases qv with
      | cons a t =>
        cases t with
        | cons b t =>
          cases t
          cases a
          cases b
          exact call_min2 hc pins s σ H _ us Q I r ⟨_, _, rfl, fin.same hr (.int _) rfl⟩
    · cases e
  | _ => trivial
end
end Mi

set_option Elab.async false
set_option linter.all false
set_option maxRecDepth 100000
/-! Mini: what a def promises, where nothing is being shown. -/
namespace Mi
open PySem PySem.Spec PyProof.Rows L2
/-- a def's promise in rooms where no repr is under way -/
structure FnG (P : Program) (w : World) (K : PySem.W.Frag) (mg : Str → Option Value) (base : Heap) (k : Nat) (f : Addr) (fd : FuncData) (ps : List Str) (sp : Sp) : Prop where
  len : ∀ vs H Q E, sp vs H Q E → vs.length = ps.length
  run : ∀ (A : Around) (outer : List PySem.Env) (s : Shared) (H : Hp) (args : Args) (us : List Value) (vs : List V) (Q : VK) (E : XK), Room k A → A.guards = some [] → Env0 P w K mg base A outer s H → BindsTo s fd args (ps.zip us) → Vals vs us → sp vs H Q E →
    codeAny (model P w) A (.call (.ref f) args) (CR (L2.CX P w) outer P w H s Q E) s
/-- the callee runs; its errors are wished for at the caller's slots -/
theorem run_fnG {X : Cx} {W : WX} {k : Nat} {f : Addr} {fd : FuncData} {ps : List Str} {sp : Sp} {pins : List (Addr × Obj)} {σ : L2.St} {H : Hp} {s : Shared} {Q : VK} {us ws : List Value} {kw : List (Str × Value)} {vs : List V}
    (F : FnG X.prog X.w X.K X.mg X.base k f fd ps sp) (hr : Room k X.A) (hg : X.A.guards = some []) (tk : Takes X W) (hb : BindsTo s fd ⟨ws, kw⟩ (ps.zip us))
    (I : Inv X pins σ H s) (r : Vals vs us) (h : sp vs H Q (fun cls d H' => W cls d σ H')) : wpAny (model X.prog X.w) X.A (call (.ref f) ws kw) (EP X pins σ Q) X.xe s := by
  refine wpAny_call (codeAny_mono (F.run X.A X.stack s H ⟨ws, kw⟩ us vs Q (fun cls d H' => W cls d σ H') hr hg I.env0 hb r h) fun r s' hq => ?_)
  cases r with
  | error e => exact passAt tk σ pins H s e s' I hq
  | ok fl =>
    cases fl with
    | ret u => exact I.after hq
    | next => exact False.elim hq
    | brk => exact False.elim hq
    | cont => exact False.elim hq
section
variable {P : Program} {w : World} {K : PySem.W.Frag} {mg : Str → Option Value} {base : Heap}
/-- THE RULE for a def -/
theorem Fun.okG {x qual : Str} {st : Stmt} {f : Addr} {fd : FuncData} {N ps : List Str} {k : Nat} {sp : Sp} (F : Fun K x qual st f fd) (S : FnScope N ps (defScope st)) (len : ∀ vs H Q E, sp vs H Q E → vs.length = ps.length)
    (hbody : ∀ (cdv : Value) (A : Around) (outer : List PySem.Env) (s : Shared) (H : Hp) (vs : List V) (Q : VK) (E : XK), Room k (A.deeper (envOfC qual (defScope st) s.heap.objs.size f cdv)) → A.guards = some [] → sp vs H Q E →
      ∃ t, PSs (cxOf (L2.CX P w) P w K mg base N qual (defScope st) f cdv A outer s H E) (defBody st) t ∧ t { nx := fun _ H' => Q .non H', rt := Q } (start N vs) H) : FnG P w K mg base (k + 1) f fd ps sp := by
  obtain ⟨oc, od, kV, doc, pm, an, cdv, ct, osl, rfl, lk, hcd⟩ := F.ex
  refine ⟨len, fun A outer s H args us vs Q E hr hg e0 hb r hsp => ?_⟩
  have hl := len _ _ _ _ hsp
  have KX : K.In s.heap := e0.mod.kin.keeps fun b o e => (e0.bs b o e).1
  have lim : s.heap.NoLimit := e0.mod.nolimit.keeps fun b o e => (e0.bs b o e).1
  have hkind : ∀ y ∈ ps.zip us, (defScope st).names.lookup y.1 = some .local ∨ ((defScope st).names.lookup y.1 = some .cell ∧ ((cellsFrom (s.heap.objs.size + 1) (defScope st).names []).lookup y.1).isSome = true) := fun ⟨n, v⟩ hy => by
    rcases S.par n (List.of_mem_zip hy).1 with q | q
    · exact .inl q
    · exact .inr ⟨q, PySem.W.cellsFrom_some _ _ _ (.inl q)⟩
  refine codeAny_call_function hr.depth (KX _ _ lk) rfl S.co S.gen rfl (PySem.W.codeRec_of KX hcd) (hb _ _ _ _ ?_)
  refine wpAny_newFunctionEnv_cells S.kind hkind fun env he s1 x => ?_
  subst he
  refine ⟨lim.keeps x.toInCall.keep, codeAny_func ?_⟩
  obtain ⟨t, ht, hq⟩ := hbody cdv A outer s H vs Q E (hr.deeper _) hg hsp
  have I := inv_start (CX := L2.CX P w) (E := E) S hr.hd e0 hl r x
  refine wpAny_mono (ht.run [] s1 (start N vs) H _ I hq) (fun fl s' hs => ?_) fun e s' hs => hs
  have fin : ∀ {σ' : L2.St} {H' : Hp} {v : V} {u : Value}, Inv (cxOf (L2.CX P w) P w K mg base N qual (defScope st) f cdv A outer s H E) [] σ' H' s' → RelV v u → Q v H' → CE outer P w H s Q u s' :=
    fun {σ' H' v u} J rv q => ⟨v, H', J.os, J.bare, J.base, J.hok, rv, q⟩
  cases fl with
  | ret u =>
    obtain ⟨v, σ', H', J, rv, q⟩ := hs
    exact fin J rv q
  | next =>
    obtain ⟨σ', H', J, q⟩ := hs
    exact fin (v := V.non) (u := Value.none) J rfl q
  | brk =>
    obtain ⟨_, _, _, q⟩ := hs
    exact False.elim q
  | cont =>
    obtain ⟨_, _, _, q⟩ := hs
    exact False.elim q
end

/-! ### the law's own call -/
/-- nothing is tracked but the script -/
theorem law_callG {P : Program} {w : World} {K : PySem.W.Frag} {mg mb : Str → Option Value} {k : Nat} {fa a : Addr} {fd : FuncData} {x : Str} {sp : Sp} {s₁ : Shared} {vs : List Value} {ns : List Int}
    (KX : K.In s₁.heap) (hns : s₁.heap.Ns mainGlobals mg) (hb : s₁.heap.Ns builtinsNs mb) (hbb : ∀ x : Str, x ≠ "__name__" → mb x = bootBuiltins x) (hlim : s₁.heap.NoLimit) (hg : s₁.gens = #[])
    (ha : s₁.heap.get? a = some { cls := .type "list", data := .seq vs.toArray }) (hi : IntsAre vs ns) (hl : ns.length ≤ sizeLine) (hr : Room k callerA)
    (F : ∀ base : Heap, K.In base → base.Ns mainGlobals mg → FnG P w K mg base k fa fd [x] sp) (hbind : ∀ (s : Shared) (u : Value), BindsTo s fd ⟨[u], []⟩ [(x, u)])
    (hsp : ∀ H : Hp, SqF K H a (ns.map V.int) → sp [.ref a] H (fun v _ => v = .bl true) fun _ _ _ => False) :
    codeAny (model P w) callerA (.call (.ref fa) ⟨[.ref a], []⟩) (fun r s' => r = .ok (.ret (.bool true)) ∧ OldK s₁.heap s'.heap ∧ s'.os = s₁.os ∧ AllBare s'.gens) s₁ := by
  have rv := vals_ints hi
  have lenV := hi.length
  have core : ∀ H : Hp, Only H → SqF K H a (ns.map V.int) → HOk P w H s₁.heap → (∀ b, H b ≠ none → b = a) → (H a ≠ none → K.lookup a = none) →
      codeAny (model P w) callerA (.call (.ref fa) ⟨[.ref a], []⟩) (fun r s' => r = .ok (.ret (.bool true)) ∧ OldK s₁.heap s'.heap ∧ s'.os = s₁.os ∧ AllBare s'.gens) s₁ := by
    intro H hO hS hok hA hK
    have base_of : ∀ {b : Addr} {o : Obj}, s₁.heap.get? b = some o → H b = none → (hidT s₁.heap H).get? b = some o := fun e n => hidT_get e n
    have noA : ∀ {b : Addr} {o : Obj} {es : Array DictEntry} {ep : Nat}, s₁.heap.get? b = some o → o.data = .dict es ep → H b = none := fun {b o es ep} e d => by
      cases q : H b with
      | none => rfl
      | some u =>
        have e' : b = a := hA b (by rw [q]; simp)
        subst e'
        rw [ha] at e; cases e
        have d' : Data.seq vs.toArray _ = Data.dict es ep := d
        cases d'
    have nsK : ∀ {b : Addr} {m : Str → Option Value}, s₁.heap.Ns b m → (hidT s₁.heap H).Ns b m := fun {b m} ⟨o, es, ep, e, d, r⟩ => ⟨o, es, ep, base_of e (noA e d), d, r⟩
    have hKb : K.In (hidT s₁.heap H) := fun b o e => base_of (KX b o e) (by
      cases q : H b with
      | none => rfl
      | some u =>
        have e' : b = a := hA b (by rw [q]; simp)
        subst e'
        rw [hK (by rw [q]; simp)] at e; cases e)
    have hM : Mod K mg (hidT s₁.heap H) := ⟨hKb, nsK hns, ⟨mb, nsK hb, hbb⟩, let ⟨mc, h1, h2⟩ := hlim; ⟨mc, nsK h1, h2⟩⟩
    have e0 : Env0 P w K mg (hidT s₁.heap H) callerA [] s₁ H := ⟨rfl, hM, fun b o e => of_hidT e, Nat.le_of_eq (hidT_size _ _), trivial, fun b hb => absurd (show b ∈ ([] : List Addr) from hb) (by simp), hok, .of_eq hg⟩
    refine codeAny_mono ((F _ hKb (nsK hns)).run callerA [] s₁ H ⟨[.ref a], []⟩ [.ref a] [.ref a] _ _ hr rfl e0 (hbind s₁ (.ref a)) (.cons rfl .nil) (hsp H hS)) fun r s' h => ?_
    cases r with
    | error e =>
      obtain ⟨_, _, _, _, _, _, _, _, _, _, _, _, z⟩ := h
      exact z.elim
    | ok fl =>
      cases fl with
      | next => exact False.elim h
      | brk => exact False.elim h
      | cont => exact False.elim h
      | ret u =>
        obtain ⟨v, H', os, bare, un, hok', r', q⟩ := h
        have q' : v = .bl true := q
        subst q'
        obtain rfl : u = Value.bool true := r'
        refine ⟨rfl, OldK.of_keep fun b o e => ?_, os, bare⟩
        cases q : H b with
        | none => exact un.keep b o e q (by intro z; exact absurd (show b ∈ ([] : List Addr) from z) (by simp)) (by simp)
        | some u =>
          rcases hO b with z | ⟨ob, xs, z⟩
          · rw [q] at z; cases z
          · have z2 := un.frzs b ob _ z
            obtain ⟨e1, _⟩ := hok b _ z
            obtain ⟨e2, _⟩ := hok' b _ z2
            rw [e] at e1; cases e1
            exact e2
  cases hk : K.lookup a with
  | some o =>
    have e := KX a o hk
    rw [ha] at e
    cases e
    refine core (fun _ => none) (fun _ => .inl rfl) (.inr ⟨_, vs.toArray, _, hk, rfl, rfl, rfl, by rw [List.size_toArray, lenV]; exact hl, by simpa using rv⟩) (fun b u z => by have z' : (none : Option HO) = some u := z; cases z') (fun b z => absurd rfl z) fun z => absurd rfl z
  | none =>
    refine core (fun b => if b = a then some (.frz { cls := .type "list", data := .seq vs.toArray } (.lst (ns.map V.int))) else none) (fun b => ?_) (.inl ⟨{ cls := .type "list", data := .seq vs.toArray }, if_pos rfl⟩) (fun b u z => ?_) (fun b z => ?_) fun _ => hk
    · by_cases hb : b = a
      · exact .inr ⟨_, _, if_pos hb⟩
      · exact .inl (if_neg hb)
    · by_cases hb : b = a
      · have z' := (if_pos hb).symm.trans z
        cases z'
        subst hb
        exact ⟨ha, by rw [List.length_map]; exact hl, vs, _, rv, ha⟩
      · have z' := (if_neg hb).symm.trans z
        cases z'
    · by_cases hb : b = a
      · exact hb
      · exact absurd (if_neg hb) z
/-- the end of a law's row -/
theorem walk_ofG {l : PySem.W.OpenLaw} {n k : Nat} {q : Program} {loose : List Str} {XP : (Str → Option Value) → Heap → Prop} {YP : World → Heap → Prop} {d : DefRec} {K : Params → PySem.W.Frag} {sp : World → Sp} {x : Str}
    (hn : l.most = some n) (hn2 : n ≤ sizeLine) (hdf : d.params.defaults = []) (hr : Room k callerA)
    (hY : ∀ (w : World) (h : Heap), YP w h → (K w.params).In h)
    (F : ∀ (w : World) (mg : Str → Option Value) (fa : Addr) (h : Heap), (K w.params).In h → h.Ns mainGlobals mg → mg d.name = some (.ref fa) →
      ∃ fd : FuncData, (∀ (s : Shared) (u : Value), BindsTo s fd ⟨[u], []⟩ [(x, u)]) ∧
        ∀ base : Heap, (K w.params).In base → base.Ns mainGlobals mg → FnG l.prog w (K w.params) mg base k fa fd [x] (sp w))
    (hsp : ∀ (w : World) (H : Hp) (a : Addr) (ns : List Int), ns.length ≤ n → SqF (K w.params) H a (ns.map V.int) → sp w [.ref a] H (fun v _ => v = .bl true) fun _ _ _ => False) :
    PySem.W.WalkO q loose XP YP l.row.toRowW d [] (fun f vs => PySem.call f vs) := by
  refine Att.attach_call hn hdf fun w s₀ s₁ mg mb fa o pm cd doc a vs ns G Y ho hd hcd hmg hobj hints hlen hg => ?_
  have KX := hY w _ Y
  obtain ⟨fd, hb, hF⟩ := F w mg fa _ KX G.T.g hmg
  exact law_callG KX G.T.g G.T.b G.T.builtins G.T.nolimit hg hobj hints (Nat.le_trans hlen hn2) hr hF hb fun H hS => hsp w H a ns hlen hS
end Mi

set_option Elab.async false
set_option linter.all false
set_option maxRecDepth 100000
/-! Mini: argument lists; methods of built-in types. -/
namespace Mi
open PySem PySem.Spec PyProof.Rows L2
def noStar : Expr → Bool
  | .Starred _ _ => false
  | _ => true
theorem starEach_cons {e : Expr} {es : List Expr} {env : PySem.Env} (h : noStar e = true) : starEach (e :: es) env = (false, eval e env) :: starEach es env := by
  cases e <;> first | rfl | simp [noStar] at h
theorem starEach_map : ∀ {es : List Expr} {env : PySem.Env}, es.all noStar = true → starEach es env = es.map fun e => (false, eval e env)
  | [], _, _ => rfl
  | e :: es, env, h => by
    simp only [List.all_cons, Bool.and_eq_true] at h
    rw [starEach_cons h.1, starEach_map h.2]; rfl
theorem backTo_plain {pos : Pos} {es : List Expr} {env : PySem.Env} (h : es.all noStar = true) : (backTo pos (starEach es env)).any (·.1) = false := by
  rw [starEach_map h]
  unfold backTo
  simp
theorem fewArgs {pos : Pos} {es : List Expr} {env : PySem.Env} (h : es.all noStar = true) (hl : es.length < 29) : ((backTo pos (starEach es env)).all (fun x => !x.1) && (backToKw pos (keywordEach [] env)).all (fun x => x.1.isSome)
      && decide (es.length + ([] : List Keyword).length + (if ([] : List Keyword).isEmpty then 0 else 1) < 30)) = true := by
  rw [starEach_map h]
  unfold backTo backToKw
  simp [keywordEach]
  omega
def notSuper : Expr → Bool
  | .Call (.Name id _) [] [] _ => id != "super"
  | _ => true
theorem base_plain {o : Expr} {f : Str} {env : PySem.Env} {whole : Sem Value} (h : notSuper o = true) : attributeBase o f env whole = whole := by
  unfold attributeBase
  split
  · rename_i id p pos
    simp only [notSuper] at h
    rw [h]
    rfl
  · rfl
theorem evalArgs_sp {M : Model} {A : Around} {E : Value → Shared → Prop} {s : Shared} {f : Value} {Q : Args → Shared → Prop}
    (h : wpAny M A (spliced []) (fun vs s' => Q ⟨vs, []⟩ s') E s) : wpAny M A (evalArgs f true [] []) Q E s := by
  unfold evalArgs
  show wpAny M A (spliced [] >>= _) Q E s
  refine wpAny_bind (wpAny_mono h (fun vs s' h' => ?_) fun _ _ x => x)
  refine wpAny_holding ?_
  exact wpAny_bind (wpAny_pure (wpAny_bind (wpAny_pure (wpAny_pure h'))))
section
variable {X : Cx}
/-- a method of a builtin type, the type looked up when the receiver stands -/
theorem pe_late {o : Expr} {es : List Expr} {to : TE} {ta : TA} {name : Str} {apos cpos : Pos} {R : V → List V → Hp → VK → Prop} {R0 : V → Hp → Prop} (ho : PE X o to) (ha : PA X es ta) (hst : es.all noStar = true) (hl : es.length < 29) (hs : notSuper o = true) (hline : (apos.endLine == cpos.line) = true)
    (hr : ∀ (pins : List (Addr × Obj)) (s : Shared) (σ : L2.St) (H : Hp) (x : V) (v : Value), Inv X pins σ H s → RelV x v → R0 x H →
      ∃ T id, PlainAttrs T ∧ Slot T name id ∧ typeOf (.builtin id) = pure (.type "method_descriptor") ∧ s.TypeIs v T ∧ (∀ a, v = .ref a → ∃ ob, s.heap.get? a = some ob ∧ ob.dict = none) ∧ MtR X id R) :
    PE X (.Call (.Attribute o name apos) es [] cpos) (fun σ H Q => to σ H fun x H1 => R0 x H1 ∧ ta σ H1 fun xs H2 => R x xs H2 Q) := by
  refine ⟨fun pins s σ H Q I h => ?_⟩
  refine wpAny_Call_method_late (base_plain hs) (fewArgs hst hl) hline rfl (thn (ho.run pins s σ H _ I h) fun v s1 ⟨x, H1, I1, r1, r0, q1⟩ => ?_)
  obtain ⟨T, id, pa, slot, hty, h1, h2, hm⟩ := hr pins s1 σ H1 x v I1 r1 r0
  refine ⟨T, id, pa, slot, hty, h1, h2, ?_⟩
  have hA := ha.run cpos pins s1 σ H1 _ I1 q1
  cases es with
  | nil =>
    refine Calls.callWith_builtin rfl (evalArgs_sp ?_)
    exact thn hA fun us s2 ⟨vs, H2, I2, r2, q2⟩ => hm pins s2 σ H2 x vs v us Q I2 r1 r2 q2
  | cons e es =>
    have e1 : starEach (e :: es) X.env = (false, eval e X.env) :: starEach es X.env := starEach_cons (by simp at hst; exact hst.1)
    rw [e1] at hA ⊢
    refine Calls.callWith_builtin (by show (false || (backTo cpos (starEach es X.env)).any (·.1)) = false; rw [backTo_plain (by simp at hst; simpa using hst.2)] <;> rfl) (Calls.evalArgs_plain ?_)
    exact thn hA fun us s2 ⟨vs, H2, I2, r2, q2⟩ => hm pins s2 σ H2 x vs v us Q I2 r1 r2 q2
end
/-- a numbered list -/
def isLm (h : Hm) (d : D) : Bool := match d with
  | .ref n => match h[n]? with
    | some (.lst _) => true
    | _ => false
  | _ => false
theorem isLm_iff {h : Hm} {d : D} (q : isLm h d = true) : ∃ n es, d = .ref n ∧ h[n]? = some (.lst es) := by
  unfold isLm at q
  split at q
  · split at q
    · rename_i e; exact ⟨_, _, rfl, e⟩
    · cases q
  · cases q
/-- methods of lists alone, that write -/
@[simp] def Me.onL : Me → Bool
  | .append => true
  | .extend => true
  | .pop => true
  | .insert => true
  | _ => false
theorem meD_lm {h : Hm} {f : Me} {d : D} {ds : List D} (nf : f.onL = true) : meD h f d ds = .bad ∨ ∃ n es, d = .ref n ∧ h[n]? = some (.lst es) ∧ meD h f d ds = meL h n es f ds := by
  cases f <;> first
    | exact absurd nf (by decide)
    | (cases d <;> first
        | exact .inl rfl
        | (rename_i n
           cases e : h[n]? with
           | none => left; simp only [meD, e]
           | some o => cases o <;> first
              | (left; simp only [meD, e]; done)
              | (right; exact ⟨n, _, rfl, e, by simp only [meD, e]⟩)))
def meName : Me → Option Str
  | .append => some "append"
  | .extend => some "extend"
  | .pop => some "pop"
  | .insert => some "insert"
  | .get => some "get"
  | .count => some "count"
  | .index => some "index"
  | .tindex => some "index"
  | .sindex => some "index"
  | .join => some "join"
  | .split => some "split"
  | _ => none
/-- what is wanted of a method's answer -/
def FinM (K : PySem.W.Frag) (m : List Addr) (H : Hp) (r : R D) (Q : VK) : Prop := match r with
  | .ok z h => Fin1 K m H h z Q
  | _ => False
def rMe (K : PySem.W.Frag) (f : Me) : V → List V → Hp → VK → Prop := fun x vs H Q => ∃ m h d ds, HRp K m H h ∧ Rp K m H x d ∧ RpL K m H vs ds ∧ (f.owns = true → D.stL ds = true) ∧ FinM K m H (meD h f d ds) Q
section
variable {K : PySem.W.Frag} {m : List Addr} {H : Hp} {h : Hm}
theorem RpL.dropLast : ∀ {xs : List V} {ds : List D}, RpL K m H xs ds → RpL K m H xs.dropLast ds.dropLast
  | _, _, .nil => .nil
  | _, _, .cons a .nil => .nil
  | _, _, .cons a (.cons b t) => .cons a (RpL.dropLast (.cons b t))
theorem RpL.eraseIdx : ∀ {xs : List V} {ds : List D} (i : Nat), RpL K m H xs ds → RpL K m H (xs.eraseIdx i) (ds.eraseIdx i)
  | _, _, _, .nil => .nil
  | _, _, 0, .cons _ t => t
  | _, _, i + 1, .cons a t => .cons a (RpL.eraseIdx i t)
theorem stL_mem {ds es : List D} (s : D.stL ds = true) (h : ∀ d ∈ es, d ∈ ds) : D.stL es = true := by
  rw [stL_iff] at s ⊢
  exact fun d hd => s d (h d hd)
/-- a list is written anew -/
theorem Fin1.wlst {n : Nat} {a : Addr} {xs : List V} {ds : List D} {z : D} {v : V} {Q : VK} (r : HRp K m H h) (e : m[n]? = some a) {x0 : List V} (ez : H a = some (.lst x0)) (f : Fin1 K m H (h.set n (.lst ds)) z Q) (s : D.stL ds = true) (t : RpL K m H xs ds) (sz : D.st z = true) (qz : Rp K m H v z) : Q v (upd H a (.lst xs)) := by
  obtain ⟨r', x'⟩ := r.write (u := .lst xs) (o := .lst ds) e (fun _ _ w => by rw [ez] at w; cases w) rfl fun H' eH x' => by
    subst eH
    exact .lst upd_same s (RpL.ext r x' t)
  exact f v _ m r' x' (Rp.ext r x' qz) (newV_st sz)
end
theorem txts_eq : ∀ {ds : List D} {ys : List Str}, txts ds = some ys → ds = ys.map .str
  | [], _, e => by simp [txts] at e; subst e; rfl
  | .str x :: ds, _, e => by
    simp only [txts, Option.map_eq_some_iff] at e
    obtain ⟨ms, e1, rfl⟩ := e
    rw [txts_eq e1]; rfl
  | .non :: _, _, e => by simp [txts] at e
  | .bl _ :: _, _, e => by simp [txts] at e
  | .int _ :: _, _, e => by simp [txts] at e
  | .tup _ :: _, _, e => by simp [txts] at e
  | .ref _ :: _, _, e => by simp [txts] at e
  | .lv _ :: _, _, e => by simp [txts] at e
  | .fl _ :: _, _, e => by simp [txts] at e
theorem stL_strs : ∀ ys : List Str, D.stL (ys.map .str) = true
  | [] => rfl
  | y :: ys => by simp [D.stL, D.st, stL_strs ys]
theorem rpL_ofStrs {K : PySem.W.Frag} {m : List Addr} {H : Hp} : ∀ ys : List Str, RpL K m H (ys.map V.str) (ys.map .str)
  | [] => .nil
  | y :: ys => .cons (.str y) (rpL_ofStrs ys)
theorem rpL_strs {K : PySem.W.Frag} {m : List Addr} {H : Hp} : ∀ {ns : List Str} {xs : List V}, RpL K m H xs (ns.map .str) → xs = ns.map V.str
  | [], _, .nil => rfl
  | n :: ns, _, .cons (.str _) t => by rw [rpL_strs t]; rfl
section
variable {X : Cx}
theorem tup_ty {pins : List (Addr × Obj)} {s : Shared} {σ : L2.St} {H : Hp} {a : Addr} {xs : List V} (I : Inv X pins σ H s) (q1 : SqN X.K H a xs) : s.TypeIs (.ref a) "tuple" ∧ ∀ b, Value.ref a = .ref b → ∃ ob, s.heap.get? b = some ob ∧ ob.dict = none := by
  rcases q1 with ⟨o, e, no⟩ | ⟨o, its, k, e, c, no, _⟩
  · obtain ⟨e1, _, its, _, ⟨o2, e2, c2, _⟩⟩ := I.hok _ _ e
    exact ⟨⟨o2, e2, c2⟩, fun b eb => by cases eb; exact ⟨o, e1, no⟩⟩
  · have e1 := I.kIn _ o e
    exact ⟨⟨o, e1, c⟩, fun b eb => by cases eb; exact ⟨o, e1, no⟩⟩
/-- t.count(x) of a tuple of any data -/
theorem mt_countD (hu : X.A.units + 65 < cLine) : MtR X "tuple.count" (fun x vs H Q => ∃ y d es, vs = [y] ∧ Dp X.K H x (.tuple es) ∧ Dp X.K H y d ∧ SeqAt.shaped (.tuple es) = true ∧ SeqAt.shaped d = true ∧ Q (.int ((es.countP fun z => PyData.eqv z d : Nat) : Int)) H) := by
  intro pins s σ H x xs v us Q I rx rxs h
  obtain ⟨y, d, es, rfl, hl, hy, sl, sd, q⟩ := h
  cases rxs with
  | cons ry rt =>
    rename_i uy ut
    cases rt
    obtain ⟨bs, r1⟩ := Dp.reads I d y uy hy ry
    have hxs : PyData.canLayAll0 es = true := SeqAt.canLay_of_shaped sl
    have hroom : X.A.units + 1 + min (PyData.depthAll es) d.depth < cLine := room_in_shaped sd hu
    cases hl with
    | tup hs ha =>
      cases rx
      obtain ⟨its, rv, ⟨⟨cls, dd, data, sls⟩, ho, hc, n, hd⟩, hz⟩ := I.tuple hs
      simp only at hc hd
      subst hc hd
      obtain ⟨as, h4⟩ := Dp.readsAll I es _ its ha rv
      have hmap : its.map (SeqAt.readOf s.heap) = es := SeqAt.readsAll_map es its as hxs h4
      refine call_meets PySem.F.slot_tuple_count ⟨_, ho, rfl⟩ PySem.F.entry_tuple_count (PySem.F.args_tuple_count_2 _ _)
        (SeqAt.tuple_countAt _ its.toArray n dd sls uy (fun u => PyData.eqv (SeqAt.readOf s.heap u) d)) ⟨ho, SeqAt.items_eqAt (vs := its.toArray) (show ReadsAll s.heap its.toArray.toList es as from h4) r1 hxs (SeqAt.canLay_of_shaped sd) hroom, ?_⟩
      have e : (its.toArray.toList.countP fun u => PyData.eqv (SeqAt.readOf s.heap u) d) = es.countP fun z => PyData.eqv z d := by
        rw [← hmap, List.countP_map]; rfl
      rw [e]
      exact ⟨.int _, H, I.tok _, ⟨_, rfl⟩, q⟩
end
section
variable {X : Cx}
theorem pe_meR (hu : X.A.units + 65 < cLine) (f : Me) (pins : List (Addr × Obj)) (s : Shared) (σ : L2.St) (H : Hp) (x : V) (v : Value) (I : Inv X pins σ H s) (rx : RelV x v)
    (h0 : ∃ m h d, HRp X.K m H h ∧ Rp X.K m H x d ∧ meOk h f d = true) (name : Str) (hn : meName f = some name) :
      ∃ T id, PlainAttrs T ∧ Slot T name id ∧ typeOf (.builtin id) = pure (.type "method_descriptor") ∧ s.TypeIs v T ∧ (∀ a, v = .ref a → ∃ ob, s.heap.get? a = some ob ∧ ob.dict = none) ∧ MtR X id (rMe X.K f) := by
  obtain ⟨m, h, d, hr, qd, ok⟩ := h0
  have hu1 : X.A.units + 1 < cLine := by omega
  have lst : isLm h d = true → s.TypeIs v "list" ∧ ∀ a, v = .ref a → ∃ ob, s.heap.get? a = some ob ∧ ob.dict = none := by
    intro ok
    obtain ⟨n, es, rfl, e⟩ := isLm_iff ok
    obtain ⟨a, xs, e1, e2, _⟩ := lst_view (Z := ⟨X.K, fun _ => none⟩) hr e
    cases qd with
    | ref q =>
      rw [q] at e1; cases e1
      cases rx
      obtain ⟨_, its, k, _, ho⟩ := I.hok _ _ e2
      exact ⟨⟨_, ho, rfl⟩, fun b eb => by cases eb; exact ⟨_, ho, rfl⟩⟩
  have wl : ∀ {pins : List (Addr × Obj)} {s : Shared} {σ : L2.St} {H : Hp} {x : V} {v : Value} {m : List Addr} {h : Hm} {d : D} {ds : List D} {vs : List V} {us : List Value} {Q : VK} {id : String} {f : Me}, f.onL = true →
      (∀ (a : Addr) (n : Nat) (xs : List V) (es : List D), m[n]? = some a → x = .ref a → H a = some (.lst xs) → D.stL es = true → RpL X.K m H xs es → FinM X.K m H (meL h n es f ds) Q → wpAny (model X.prog X.w) X.A (call (.builtin id) (v :: us)) (EP X pins σ Q) X.xe s) →
      HRp X.K m H h → Rp X.K m H x d → FinM X.K m H (meD h f d ds) Q → wpAny (model X.prog X.w) X.A (call (.builtin id) (v :: us)) (EP X pins σ Q) X.xe s := by
    intro pins s σ H x v m h d ds vs us Q id f nf k hr qd fin
    rcases meD_lm (h := h) (f := f) (d := d) (ds := ds) nf with e | ⟨n, es, rfl, e2, e⟩
    · rw [e] at fin; exact fin.elim
    · rw [e] at fin
      obtain ⟨a, xs, e3, e4, s1, t1⟩ := lst_view (Z := ⟨X.K, fun _ => none⟩) hr e2
      cases qd with
      | ref q =>
        rw [q] at e3; cases e3
        exact k _ n xs es q rfl e4 s1 t1 fin
  cases f with
  | append =>
    obtain rfl := Option.some.inj hn
    obtain ⟨h1, h2⟩ := lst ok
    refine ⟨"list", "list.append", PySem.F.plainAttrs_list, PySem.F.slot_list_append, PySem.F.type_list_append, h1, h2, ?_⟩
    intro pins s σ H x vs v us Q I rx rv ⟨m, h, d, ds, hr, qd, qv, so, fin⟩
    refine wl (vs := vs) rfl (fun a n xs es e1 ex e2 s1 t1 fin => ?_) hr qd fin
    simp only [meL] at fin
    split at fin
    · rename_i z
      split at fin
      · rename_i hl
        obtain ⟨y, rfl, qy⟩ := rp_one qv
        have sz := so rfl
        simp [D.stL] at sz
        exact mt_append pins s σ H x _ v us Q I rx rv ⟨a, xs, y, ex, rfl, e2, by rw [t1.length]; exact hl, Fin1.wlst hr e1 e2 fin (by rw [stL_append, s1]; simp [D.stL, sz]) (t1.append (.one qy)) rfl .non⟩
      · exact fin.elim
    · exact fin.elim
  | extend =>
    obtain rfl := Option.some.inj hn
    obtain ⟨h1, h2⟩ := lst ok
    refine ⟨"list", "list.extend", PySem.F.plainAttrs_list, PySem.F.slot_list_extend, PySem.F.type_list_extend, h1, h2, ?_⟩
    intro pins s σ H x vs v us Q I rx rv ⟨m, h, d, ds, hr, qd, qv, so, fin⟩
    refine wl (vs := vs) rfl (fun a n xs es e1 ex e2 s1 t1 fin => ?_) hr qd fin
    simp only [meL] at fin
    split at fin
    · split at fin
      · rename_i z ys ey
        split at fin
        · rename_i hl
          obtain ⟨y, rfl, qy⟩ := rp_one qv
          obtain ⟨b, zs, rfl, hb, sb, tb⟩ := wls_view hr qy ey
          exact mt_extend pins s σ H x _ v us Q I rx rv ⟨a, b, xs, zs, ex, rfl, e2, hb, by rw [t1.length, tb.length]; exact hl, Fin1.wlst hr e1 e2 fin (by rw [stL_append, s1, sb]; rfl) (t1.append tb) rfl .non⟩
        · exact fin.elim
      · exact fin.elim
    · exact fin.elim
  | pop =>
    obtain rfl := Option.some.inj hn
    obtain ⟨h1, h2⟩ := lst ok
    refine ⟨"list", "list.pop", PySem.F.plainAttrs_list, PySem.F.slot_list_pop, PySem.F.type_list_pop, h1, h2, ?_⟩
    intro pins s σ H x vs v us Q I rx rv ⟨m, h, d, ds, hr, qd, qv, so, fin⟩
    refine wl (vs := vs) rfl (fun a n xs es e1 ex e2 s1 t1 fin => ?_) hr qd fin
    simp only [meL] at fin
    split at fin
    · split at fin
      · rename_i z ez
        cases qv
        obtain ⟨y, ey, qy⟩ := t1.get ez
        rw [← t1.length] at ey
        exact mt_pop pins s σ H x _ v us Q I rx rv ⟨a, xs, y, ex, rfl, e2, ey, Fin1.wlst hr e1 e2 fin (stL_mem s1 fun d hd => List.dropLast_subset _ hd) t1.dropLast ((stL_iff es).mp s1 z (List.mem_of_getElem? ez)) qy⟩
      · exact fin.elim
    · split at fin
      · rename_i i _ hi
        split at fin
        · rename_i z ez
          obtain ⟨y, rfl, qy⟩ := rp_one qv
          cases qy
          obtain ⟨y, ey, qy⟩ := t1.get ez
          refine mt_popAt pins s σ H x _ v us Q I rx rv ⟨a, xs, i, i.toNat, y, ex, rfl, e2, by have := hi.1; omega, hi.2.2, seqIndex_of hi.1 (by rw [t1.length]; omega), ey, Fin1.wlst hr e1 e2 fin (stL_mem s1 fun d hd => List.mem_of_mem_eraseIdx hd) (t1.eraseIdx _) ((stL_iff es).mp s1 z (List.mem_of_getElem? ez)) qy⟩
        · exact fin.elim
      · exact fin.elim
    · exact fin.elim
  | insert =>
    obtain rfl := Option.some.inj hn
    obtain ⟨h1, h2⟩ := lst ok
    refine ⟨"list", "list.insert", PySem.F.plainAttrs_list, PySem.F.slot_list_insert, PySem.F.type_list_insert, h1, h2, ?_⟩
    intro pins s σ H x vs v us Q I rx rv ⟨m, h, d, ds, hr, qd, qv, so, fin⟩
    refine wl (vs := vs) rfl (fun a n xs es e1 ex e2 s1 t1 fin => ?_) hr qd fin
    simp only [meL] at fin
    split at fin
    · rename_i i z _
      split at fin
      · rename_i hi
        cases qv with
        | cons qi t =>
          cases qi
          obtain ⟨y, rfl, qy⟩ := rp_one t
          have sz := so rfl
          simp [D.stL, D.st] at sz
          refine mt_insert pins s σ H x _ v us Q I rx rv ⟨a, xs, i, y, ex, rfl, e2, by rw [t1.length]; exact hi.2.2, hi.1, hi.2.1, Fin1.wlst hr e1 e2 fin ?_ (((t1.take _).append (.one qy)).append (t1.drop _)) rfl .non⟩
          rw [stL_append, stL_append, stL_mem s1 fun d hd => List.mem_of_mem_take hd, stL_mem s1 fun d hd => List.mem_of_mem_drop hd]
          simp [D.stL, sz]
      · exact fin.elim
    · exact fin.elim
  | get =>
    obtain rfl := Option.some.inj hn
    obtain ⟨kds, ek⟩ := Option.isSome_iff_exists.mp (show (dicOf h d).isSome = true from ok)
    cases qd with
    | ref q =>
      obtain ⟨kvs, rd, t⟩ := dic_view hr q ek
      cases rx
      obtain ⟨t1, t2, _⟩ := isD_at I (.inl ⟨kvs, rd⟩)
      refine ⟨"dict", "dict.get", PySem.F.plainAttrs_dict, PySem.F.slot_dict_get, PySem.F.type_dict_get, t1, t2, ?_⟩
      intro pins s σ H x vs v us Q I rx rv ⟨m, h, d, ds, hr, qd, qv, so, fin⟩
      simp only [meD, getD] at fin
      split at fin
      · rename_i kds ek
        cases qd with
        | ref q =>
          obtain ⟨kvs, rd, t⟩ := dic_view hr q ek
          cases rx
          split at fin
          · split at fin
            · rename_i e1 k ek1
              obtain ⟨y, rfl, qy⟩ := rp_one qv
              obtain ⟨u, rfl, ru⟩ := vals1 rv
              obtain rfl := keyOf_view qy ek1
              refine d_get1 (o := valV kvs k) hu1 I (.inl ⟨kvs, k, rd, rfl, rfl⟩) ru fun w' s3 I3 rw' => ⟨_, H, I3, rw', ?_⟩
              rcases kv_look k t.1 t.2.2 with ⟨h1, h2⟩ | ⟨v, d, h1, h2, h3⟩
              · rw [h1]; rw [h2] at fin; exact fin.same hr .non rfl
              · rw [h1]; rw [h2] at fin; exact fin.same hr h3 (stL_look t.2.1 h2)
            · exact fin.elim
          · split at fin
            · rename_i e1 e2 k ek1
              cases qv with
              | cons qy t2 =>
                obtain ⟨y2, rfl, qy2⟩ := rp_one t2
                obtain ⟨u, u2, rfl, ru, ru2⟩ := vals2 rv
                obtain rfl := keyOf_view qy ek1
                have sz := so rfl
                simp [D.stL] at sz
                refine d_get2 (o := valV kvs k) hu1 I (.inl ⟨kvs, k, rd, rfl, rfl⟩) ru ru2 fun w' s3 I3 rw' => ⟨_, H, I3, rw', ?_⟩
                rcases kv_look k t.1 t.2.2 with ⟨h1, h2⟩ | ⟨v, d, h1, h2, h3⟩
                · rw [h1]; rw [h2] at fin; exact fin.same hr qy2 sz.2
                · rw [h1]; rw [h2] at fin; exact fin.same hr h3 (stL_look t.2.1 h2)
            · exact fin.elim
          · exact fin.elim
        | _ => simp [dicOf] at ek
      · exact fin.elim
    | _ => simp [dicOf] at ek
  | count =>
    obtain rfl := Option.some.inj hn
    cases qd with
    | tup q1 s1 t1 =>
      cases rx
      have hT := tup_ty I q1
      refine ⟨"tuple", "tuple.count", PySem.F.plainAttrs_tuple, PySem.F.slot_tuple_count, PySem.F.type_tuple_count, hT.1, hT.2, ?_⟩
      intro pins s σ H x vs v us Q I rx rv ⟨m, h, d, ds, hr, qd, qv, so, fin⟩
      simp only [meD] at fin
      cases ec : countD h d ds with
      | none => rw [ec] at fin; exact fin.elim
      | some z =>
        rw [ec] at fin
        unfold countD at ec
        simp only [shp_eq, eqQ_eq] at ec
        split at ec
        · split at ec
          · rename_i e1 e2
            split at ec
            · rename_i hs
              cases ec
              obtain ⟨y, rfl, qy⟩ := rp_one qv
              exact mt_countD hu pins s σ H x _ v us Q I rx rv ⟨y, _, _, rfl, pyOf_dp hr _ qd e2 (SeqAt.canLay_of_shaped hs.2), pyOf_dp hr _ qy e1 (SeqAt.canLay_of_shaped hs.1), hs.2, hs.1, fin.same hr (.int _) rfl⟩
            · cases ec
          · cases ec
        · cases ec
    | _ => simp [meOk, isTup] at ok
  | tindex =>
    obtain rfl := Option.some.inj hn
    cases qd with
    | tup q1 s1 t1 =>
      cases rx
      have hT := tup_ty I q1
      refine ⟨"tuple", "tuple.index", PySem.F.plainAttrs_tuple, PySem.F.slot_tuple_index, PySem.F.type_tuple_index, hT.1, hT.2, ?_⟩
      intro pins s σ H x vs v us Q I rx rv ⟨m, h, d, ds, hr, qd, qv, so, fin⟩
      simp only [meD] at fin
      cases ec : tindexD d ds with
      | none => rw [ec] at fin; exact fin.elim
      | some z =>
        rw [ec] at fin
        unfold tindexD at ec
        split at ec
        · split at ec
          · rename_i ys et
            rw [Option.map_eq_some_iff] at ec
            obtain ⟨j, ej, rfl⟩ := ec
            obtain ⟨y, rfl, qy⟩ := rp_one qv
            cases qy
            cases qd with
            | tup q1 s1 t1 =>
              obtain rfl := txts_eq et
              obtain rfl := rpL_strs t1
              obtain ⟨h1, h2, h3⟩ := List.findIdx?_eq_some_iff_getElem.mp ej
              refine mt_tup_index pins s σ H _ _ v us Q I rx rv ⟨_, ys, _, j, rfl, rfl, q1.sq, by rw [List.getElem?_eq_getElem h1]; simpa using h2, fun k hk e => ?_, fin.same hr (.int _) rfl⟩
              obtain ⟨h4, h5⟩ := List.getElem?_eq_some_iff.mp e
              have := h3 k hk
              simp [h5] at this
          · cases ec
        · cases ec
    | _ => simp [meOk, isTup] at ok
  | index =>
    obtain rfl := Option.some.inj hn
    obtain ⟨es, ek⟩ := Option.isSome_iff_exists.mp (show (lstOf h d).isSome = true from ok)
    obtain ⟨a, xs, rfl, sq, _, _⟩ := lstOf_view (Z := ⟨X.K, fun _ => none⟩) hr qd ek
    cases rx
    obtain ⟨its, rv0, pl, hz⟩ := I.list sq
    refine ⟨"list", "list.index", PySem.F.plainAttrs_list, PySem.F.slot_list_index, PySem.F.type_list_index, pl.isList.typeIs, fun b eb => by cases eb; obtain ⟨o, n, e, c, hd, _⟩ := pl; exact ⟨o, e, hd⟩, ?_⟩
    intro pins s σ H x vs v us Q I rx rv ⟨m, h, d, ds, hr, qd, qv, so, fin⟩
    simp only [meD] at fin
    cases ec : indexD h d ds with
    | none => rw [ec] at fin; exact fin.elim
    | some z =>
      rw [ec] at fin
      unfold indexD at ec
      simp only [shp_eq, eqQ_eq] at ec
      split at ec
      · split at ec
        · rename_i e1 e2
          split at ec
          · rename_i hs
            rw [Option.map_eq_some_iff] at ec
            obtain ⟨j, ej, rfl⟩ := ec
            obtain ⟨y, rfl, qy⟩ := rp_one qv
            obtain ⟨h1, h2, h3⟩ := List.findIdx?_eq_some_iff_getElem.mp ej
            have dp := pyOf_dp hr _ qd e2 (SeqAt.canLay_of_shaped hs.2)
            cases dp with
            | lst hs2 ha2 =>
              refine mt_indexD hu pins s σ H _ _ v us Q I rx rv ⟨_, y, _, _, j, _, rfl, rfl, .lst hs2 ha2, pyOf_dp hr _ qy e1 (SeqAt.canLay_of_shaped hs.1), hs.2, hs.1, List.getElem?_eq_getElem h1, h2, fun k z' hk e => ?_, fin.same hr (.int _) rfl⟩
              obtain ⟨h4, h5⟩ := List.getElem?_eq_some_iff.mp e
              have := h3 k hk
              rw [← h5]
              simpa using this
          · cases ec
        · cases ec
      · cases ec
  | sindex =>
    obtain rfl := Option.some.inj hn
    cases qd with
    | str y =>
      obtain ⟨t, rfl⟩ := rx
      refine ⟨"str", "str.index", PySem.F.plainAttrs_str, PySem.F.slot_str_index, PySem.F.type_str_index, typeIs_str _ _ _, (fun _ e => nomatch e), ?_⟩
      intro pins s σ H x vs v us Q I rx rv ⟨m, h, d, ds, hr, qd, qv, so, fin⟩
      simp only [meD] at fin
      cases ec : sindexD d ds with
      | none => rw [ec] at fin; exact fin.elim
      | some z =>
        rw [ec] at fin
        unfold sindexD at ec
        split at ec
        · split at ec
          · rename_i i r eo
            cases ec
            obtain ⟨y, rfl, qy⟩ := rp_one qv
            cases qy
            cases qd
            exact mt_sindex pins s σ H _ _ v us Q I rx rv ⟨_, _, i, r, rfl, rfl, eo, fin.same hr (.int _) rfl⟩
          · cases ec
        · cases ec
    | _ => simp [meOk, isSt] at ok
  | join =>
    obtain rfl := Option.some.inj hn
    cases qd with
    | str y =>
      obtain ⟨t, rfl⟩ := rx
      refine ⟨"str", "str.join", PySem.F.plainAttrs_str, PySem.F.slot_str_join, PySem.F.type_str_join, typeIs_str _ _ _, (fun _ e => nomatch e), ?_⟩
      intro pins s σ H x vs v us Q I rx rv ⟨m, h, d, ds, hr, qd, qv, so, fin⟩
      simp only [meD] at fin
      cases ec : joinD h d ds with
      | none => rw [ec] at fin; exact fin.elim
      | some z =>
        rw [ec] at fin
        unfold joinD at ec
        split at ec
        · split at ec
          · rename_i es e1
            split at ec
            · rename_i ys et
              split at ec
              · rename_i hl
                cases ec
                obtain ⟨y, rfl, qy⟩ := rp_one qv
                cases qd
                obtain ⟨a, xs, rfl, sq, _, t1⟩ := seqOf_view (Z := ⟨X.K, fun _ => none⟩) hr qy e1
                obtain rfl := txts_eq et
                obtain rfl := rpL_strs t1
                exact mt_join pins s σ H _ _ v us Q I rx rv ⟨_, a, ys, rfl, rfl, sq, hl, fin.same hr (.str _) rfl⟩
              · cases ec
            · cases ec
          · cases ec
        · cases ec
    | _ => simp [meOk, isSt] at ok
  | split =>
    obtain rfl := Option.some.inj hn
    cases qd with
    | str y =>
      obtain ⟨t, rfl⟩ := rx
      refine ⟨"str", "str.split", PySem.F.plainAttrs_str, PySem.F.slot_str_split, PySem.F.type_str_split, typeIs_str _ _ _, (fun _ e => nomatch e), ?_⟩
      intro pins s σ H x vs v us Q I rx rv ⟨m, h, d, ds, hr, qd, qv, so, fin⟩
      simp only [meD] at fin
      cases ec : splitD d ds with
      | none => rw [ec] at fin; exact fin.elim
      | some z =>
        rw [ec] at fin
        unfold splitD at ec
        split at ec
        · split at ec
          · rename_i hl
            cases ec
            obtain ⟨y, rfl, qy⟩ := rp_one qv
            cases qy
            cases qd
            exact mt_split pins s σ H _ _ v us Q I rx rv ⟨_, _, rfl, rfl, hl.1, hl.2, fun p hp => fin.lst hr (stL_strs _) (rpL_ofStrs _) hp⟩
          · cases ec
        · cases ec
    | _ => simp [meOk, isSt] at ok
  | _ => simp [meName] at hn
end
end Mi

set_option Elab.async false
set_option linter.all false
set_option maxRecDepth 100000
/-! Mini: targets, walks, glue. -/
namespace Mi
open PySem PySem.Spec PyProof.Rows L2
/-! ### what a call is to answer -/
def PostF (Z : Wi) (m : List Addr) (H : Hp) (r : R D) (Q : VK) (E : XK) : Prop := match r with
  | .ok d h' => ∀ v H' m', HRp Z.K m' H' h' → Ext m H m' H' → Rp Z.K m' H' v d → D.st d = true → Q v H'
  | .ex c fs h' => ∀ cls dx H' m', HRp Z.K m' H' h' → Ext m H m' H' → XRp Z m' H' cls dx c fs → E cls dx H'
  | .bad => False
def spF (Z : Wi) (g : List D → Hm → R D) (n : Nat) : Sp := fun vs H Q E => vs.length = n ∧ ∃ m h args, HRp Z.K m H h ∧ RpL Z.K m H vs args ∧ D.stL args = true ∧ PostF Z m H (g args h) Q E
theorem FnG.imp {P : Program} {w : World} {K : PySem.W.Frag} {mg : Str → Option Value} {base : Heap} {k : Nat} {f : Addr} {fd : FuncData} {ps : List Str} {sp sp' : Sp} (F : FnG P w K mg base k f fd ps sp) (h : ∀ vs H Q E, sp' vs H Q E → sp vs H Q E) : FnG P w K mg base k f fd ps sp' :=
  ⟨fun vs H Q E q => F.len vs H Q E (h vs H Q E q), fun A outer s H args us vs Q E a b c d e f => F.run A outer s H args us vs Q E a b c d e (h _ _ _ _ f)⟩

structure Tb where
  fns : List (Str × List Str)
  cns : List (Str × D)
  bts : List Str
  /-- a call by names: the def, how many stand by place, the names, where each parameter's value stands -/
  kws : List (Nat × Nat × List Str × List Nat)
  /-- own errors, by names -/
  exs : List Str
  /-- dicts of the module, by names -/
  dcs : List (Str × List (Str × Int))
  /-- which classes an error that an except clause takes surely is under -/
  iss : List (Nat × Str)
def WF : WX := fun _ _ _ _ => False
/-- a dict of the module with text keys and ints -/
def DcAt (K : PySem.W.Frag) (w : World) (mg : Str → Option Value) (x : Str) (kvs : List (Str × Int)) : Prop :=
  ∃ a es n, mg x = some (.ref a) ∧ KDict K w a es n ∧ ∀ z, ∃ r, PySem.W.nsIn K a z = some r ∧ ∀ d : Int, ∃ t : Tok → Tok, ∀ td : Tok, r.getD (Value.int d td) = Value.int ((lookS kvs z).getD d) (t td)
structure Good (T : Tb) (Z : Wi) (W : WX) (Γ : Gm) (G : Nat → Option D) (X : Cx) : Prop where
  calm : X.calm = true
  nod : X.N.Nodup
  k : X.K = Z.K
  tk : Takes X W
  gd : X.A.guards = some []
  un : X.A.units + 65 < cLine
  fns : ∀ i x ps, T.fns[i]? = some (x, ps) → ∃ f fd k, X.mg x = some (.ref f) ∧ PySem.W.keepIn X.K (.ref f) = true ∧ Room k X.A ∧ FnG X.prog X.w X.K X.mg X.base k f fd ps (spF Z (Γ i) ps.length) ∧
    (∀ (s : Shared) (us : List Value), us.length = ps.length → BindsTo s fd ⟨us, []⟩ (ps.zip us)) ∧
    ∀ n ks pm, (i, n, ks, pm) ∈ T.kws → pm.length = ps.length ∧ (∀ j ∈ pm, j < n + ks.length) ∧ ∀ (s : Shared) (us ws : List Value), us.length = n → ws.length = ks.length → BindsTo s fd ⟨us, ks.zip ws⟩ (ps.zip (pm.map fun j => (us ++ ws).getD j .none))
  cns : ∀ i x d, T.cns[i]? = some (x, d) → G i = some d ∧ D.st d = true ∧ ∃ u v, X.mg x = some u ∧ RelV v u ∧ ∀ m H, Rp X.K m H v d
  bts : ∀ x ∈ T.bts, X.mg x = none
  dcs : ∀ x kvs, (x, kvs) ∈ T.dcs → DcAt X.K X.w X.mg x kvs
theorem WF_takes (X : Cx) (s : Shared) (H : Hp) (sc : Scope) (e : PySem.Env) (fp : List Addr) : Takes (X.blk s H sc e fp) WF := by
  intro u s' h
  obtain ⟨a, B, sI, pins, σ, H, cls, d, e, I, nb, up, sky, na, os, ag, w⟩ := h
  exact w.elim
theorem Good.blk {T : Tb} {Z : Wi} {W : WX} {Γ : Gm} {G : Nat → Option D} {X : Cx} (g : Good T Z W Γ G X) (s : Shared) (H : Hp) (sc : Scope) (e : PySem.Env) (fp : List Addr) : Good T Z WF Γ G (X.blk s H sc e fp) :=
  ⟨g.calm, g.nod, g.k, WF_takes X s H sc e fp, g.gd, g.un, g.fns, g.cns, g.bts, g.dcs⟩

section
variable {Z : Wi} {W : WX} {σ : L2.St} {m : List Addr} {H : Hp} {h : Hm} {ρ : Env}
theorem PE.of {X : Cx} {e : Expr} {t t' : TE} (p : PE X e t) (h : ∀ σ H Q, t' σ H Q → t σ H Q) : PE X e t' := ⟨fun pins s σ H Q I q => p.run pins s σ H Q I (h σ H Q q)⟩
theorem PT.of {X : Cx} {e : Expr} {t t' : TT} (p : PT X e t) (h : ∀ σ H Q, t' σ H Q → t σ H Q) : PT X e t' := ⟨fun pins s σ H Q I q => p.run pins s σ H Q I (h σ H Q q)⟩
theorem PA.of {X : Cx} {e : List Expr} {t t' : TA} (p : PA X e t) (h : ∀ σ H Q, t' σ H Q → t σ H Q) : PA X e t' := ⟨fun pos pins s σ H Q I q => p.run pos pins s σ H Q I (h σ H Q q)⟩
theorem PI.of {X : Cx} {tg e : Expr} {t t' : TI} (p : PI X tg e t) (h : ∀ σ H Q, t' σ H Q → t σ H Q) : PI X tg e t' := ⟨fun pins s σ H Q I q => p.run pins s σ H Q I (h σ H Q q)⟩
theorem PG.of {X : Cx} {e : Expr} {t t' : TG} (p : PG X e t) (h : ∀ v σ H Q, t' v σ H Q → t v σ H Q) : PG X e t' := ⟨fun pins s σ H v u Q I r q => p.run pins s σ H v u Q I r (h v σ H Q q)⟩
theorem PGs.of {X : Cx} {e : List Expr} {t t' : TGs} (p : PGs X e t) (h : ∀ v σ H Q, t' v σ H Q → t v σ H Q) : PGs X e t' := ⟨fun pins s σ H v u Q I r q => p.run pins s σ H v u Q I r (h v σ H Q q)⟩
/-- an expression first -/
theorem tE_bnd {β : Type} {γ : Type} {rel2 : List Addr → Hp → γ → β → Prop} {new2 : Hp → γ → β → Prop} {f : Env → Hm → R D} {k : D → Hm → R β} {Q : γ → Hp → Prop} {Q' : VK} (nb : ∀ {m' H' h'} , HRp Z.K m' H' h' → Ext m H m' H' → ∀ {v d}, new2 H' v d → new2 H v d) (s : StR Z.K m H h σ ρ) (p : Pst Z W σ rel2 new2 m H (bnd (f ρ h) k) Q)
    (go : ∀ v H1 m1 d h1, StR Z.K m1 H1 h1 σ ρ → Ext m H m1 H1 → Rp Z.K m1 H1 v d → newV H v d → Pst Z W σ rel2 new2 m1 H1 (k d h1) Q → Q' v H1) : tE Z W f σ H Q' :=
  ⟨m, ρ, h, s, Pst.mono (Pst.bnd nb p) fun v H1 ⟨m1, d, h1, _, a, b, c, n, q⟩ => go v H1 m1 d h1 (s.go a b) b c n q⟩
theorem tL_bnd {β : Type} {γ : Type} {rel2 : List Addr → Hp → γ → β → Prop} {new2 : Hp → γ → β → Prop} {f : Env → Hm → R (List D)} {k : List D → Hm → R β} {Q : γ → Hp → Prop} {Q' : List V → Hp → Prop} (nb : ∀ {m' H' h'} , HRp Z.K m' H' h' → Ext m H m' H' → ∀ {v d}, new2 H' v d → new2 H v d) (s : StR Z.K m H h σ ρ) (p : Pst Z W σ rel2 new2 m H (bnd (f ρ h) k) Q)
    (go : ∀ v H1 m1 d h1, StR Z.K m1 H1 h1 σ ρ → Ext m H m1 H1 → RpL Z.K m1 H1 v d → newL H v d → Pst Z W σ rel2 new2 m1 H1 (k d h1) Q → Q' v H1) : tL Z W f σ H Q' :=
  ⟨m, ρ, h, s, Pst.mono (Pst.bnd nb p) fun v H1 ⟨m1, d, h1, _, a, b, c, n, q⟩ => go v H1 m1 d h1 (s.go a b) b c n q⟩
theorem tT_bnd {β : Type} {γ : Type} {rel2 : List Addr → Hp → γ → β → Prop} {new2 : Hp → γ → β → Prop} {f : Env → Hm → R Bool} {k : Bool → Hm → R β} {Q : γ → Hp → Prop} {Q' : Bool → Hp → Prop} (nb : ∀ {m' H' h'} , HRp Z.K m' H' h' → Ext m H m' H' → ∀ {v d}, new2 H' v d → new2 H v d) (s : StR Z.K m H h σ ρ) (p : Pst Z W σ rel2 new2 m H (bnd (f ρ h) k) Q)
    (go : ∀ b H1 m1 h1, StR Z.K m1 H1 h1 σ ρ → Ext m H m1 H1 → Pst Z W σ rel2 new2 m1 H1 (k b h1) Q → Q' b H1) : tT Z W f σ H Q' :=
  ⟨m, ρ, h, s, Pst.mono (Pst.bnd nb p) fun v H1 ⟨m1, d, h1, _, a, b, c, n, q⟩ => by subst c; exact go v H1 m1 h1 (s.go a b) b q⟩
theorem nbV : ∀ {m' : List Addr} {H' : Hp} {h' : Hm}, HRp Z.K m' H' h' → Ext m H m' H' → ∀ {v : V} {d : D}, newV H' v d → newV H v d := fun {_ _ _} a b {_ _} n => newV.back a b n
theorem nbL : ∀ {m' : List Addr} {H' : Hp} {h' : Hm}, HRp Z.K m' H' h' → Ext m H m' H' → ∀ {v : List V} {d : List D}, newL H' v d → newL H v d := fun {_ _ _} a b {_ _} n => newL.back a b n
theorem Pst.opt {α β : Type} {rel : List Addr → Hp → α → β → Prop} {new : Hp → α → β → Prop} {o : Option β} {Q : α → Hp → Prop} (p : Pst Z W σ rel new m H (Mi.opt o h) Q) : ∃ d, o = some d ∧ Pst Z W σ rel new m H (.ok d h) Q := by
  cases o with
  | none => exact False.elim p
  | some d => exact ⟨d, rfl, p⟩
theorem Pst.gd {α β : Type} {rel : List Addr → Hp → α → β → Prop} {new : Hp → α → β → Prop} {c : Bool} {r : R β} {Q : α → Hp → Prop} (p : Pst Z W σ rel new m H (Mi.gd c r) Q) : c = true ∧ Pst Z W σ rel new m H r Q := by
  cases c with
  | false => exact False.elim p
  | true => exact ⟨rfl, p⟩
/-- an answer that is known -/
theorem PV.fin {d : D} {Q : VK} (p : PV Z W σ m H (.ok d h) Q) : Fin1 Z.K m H h d Q := fun v H' m' a b c n => p v H' m' a b c n
end

/-! ### targets -/
section
variable {K : PySem.W.Frag} {m : List Addr} {H : Hp} {σ : L2.St} {ρ ρ' : Env}
/-- the slots that are not i's stay -/
def Same (l : List Nat) (σ σ' : L2.St) : Prop := σ'.length = σ.length ∧ ∀ i, i ∉ l → σ'[i]? = σ[i]?
theorem wipe_get (σ : L2.St) : ∀ (vs : List Nat) (i : Nat), (wipe σ vs)[i]? = if i ∈ vs ∧ i < σ.length then some none else σ[i]?
  | [], i => by simp [wipe]
  | v :: vs, i => by
    rw [wipe]
    by_cases h : i = v
    · subst h
      by_cases hl : i < σ.length
      · rw [List.getElem?_set_self (by rw [wipe_length]; exact hl)]; simp [hl]
      · rw [List.getElem?_eq_none (by simp [wipe_length]; omega)]
        simp [hl, List.getElem?_eq_none (Nat.le_of_not_lt hl)]
    · rw [List.getElem?_set_ne (Ne.symm h), wipe_get σ vs i]
      simp [h]
theorem wipe_same {l vs : List Nat} {σ σ' : L2.St} (s : Same l (wipe σ vs) σ') (h : ∀ i ∈ l, i ∈ vs) : wipe σ' vs = wipe σ vs := by
  have hl : σ'.length = σ.length := by rw [s.1, wipe_length]
  refine List.ext_getElem? fun i => ?_
  rw [wipe_get, wipe_get, hl]
  by_cases hi : i ∈ vs
  · simp only [hi, true_and]
    by_cases h2 : i < σ.length
    · simp [h2]
    · simp [h2]; omega
  · have := s.2 i (fun z => hi (h i z))
    rw [wipe_get] at this
    simp only [hi, false_and, if_false] at this ⊢
    exact this
def tG (K : PySem.W.Frag) (t : T) : TG := fun v σ H Q => ∃ m ρ h d ρ', StR K m H h σ ρ ∧ Rp K m H v d ∧ D.st d = true ∧ asgT t d ρ = some ρ' ∧ ∀ σ', EnvR K m H σ' ρ' → Same (T.slots t) σ σ' → Q σ' H
def tGs (K : PySem.W.Frag) (ts : Ts) : TGs := fun vs σ H Q => ∃ m ρ h ds ρ', StR K m H h σ ρ ∧ RpL K m H vs ds ∧ D.stL ds = true ∧ asgTs ts ds ρ = some ρ' ∧ ∀ σ', EnvR K m H σ' ρ' → Same (Ts.slots ts) σ σ' → Q σ' H
/-- everywhere in a def -/
abbrev allT : Str → Bool := fun _ => true
/-- stores: at a local, or a def's own cell -/
def stoB (sc : Scope) (top : Str → Bool) (y : Str) : Bool := match sc.names.lookup y with
  | some .local => true
  | some .cell => top y
  | _ => false
mutual
def mT (N : List Str) (sc : Scope) (top : Str → Bool) : T → Expr → Bool
  | .n i, x => match x with
    | .Name y _ => decide (N[i]? = some y) && stoB sc top y
    | _ => false
  | .t ts, x => match x with
    | .Tuple xs _ _ => mTs N sc top ts xs
    | _ => false
def mTs (N : List Str) (sc : Scope) (top : Str → Bool) : Ts → List Expr → Bool
  | .nil, [] => true
  | .cons t ts, x :: xs => mT N sc top t x && mTs N sc top ts xs
  | .nil, _ :: _ => false
  | .cons _ _, [] => false
end
theorem mT_star {N : List Str} {sc : Scope} {top : Str → Bool} {t : T} {x : Expr} (h : mT N sc top t x = true) : noStar x = true := by
  cases x <;> first | rfl | (cases t <;> simp [mT] at h)
def Ts.len : Ts → Nat
  | .nil => 0
  | .cons _ ts => Ts.len ts + 1
theorem asgTs_len : ∀ {ts : Ts} {ds : List D} {ρ ρ' : Env}, asgTs ts ds ρ = some ρ' → ds.length = Ts.len ts
  | .nil, [], _, _, _ => rfl
  | .cons t ts, d :: ds, ρ, ρ', e => by
    simp only [asgTs] at e
    split at e
    · rw [List.length_cons, asgTs_len e, Ts.len]
    · cases e
  | .nil, _ :: _, _, _, e => by simp [asgTs] at e
  | .cons _ _, [], _, _, e => by simp [asgTs] at e
theorem assignEach_cons {e : Expr} {es : List Expr} {env : PySem.Env} (h : noStar e = true) : assignEach (e :: es) env = (false, assign e env) :: assignEach es env := by
  cases e <;> first | rfl | simp [noStar] at h
theorem mTs_each {N : List Str} {sc : Scope} {top : Str → Bool} {env : PySem.Env} : ∀ {ts : Ts} {xs : List Expr}, mTs N sc top ts xs = true → (assignEach xs env).length = Ts.len ts ∧ (assignEach xs env).findIdx? (·.1) = none
  | .nil, [], _ => ⟨rfl, rfl⟩
  | .cons t ts, x :: xs, h => by
    simp only [mTs, Bool.and_eq_true] at h
    obtain ⟨a, b⟩ := mTs_each (env := env) h.2
    rw [assignEach_cons (mT_star h.1)]
    refine ⟨by simp [a, Ts.len], ?_⟩
    rw [List.findIdx?_cons, b]; rfl
  | .nil, _ :: _, h => by simp [mTs] at h
  | .cons _ _, [], h => by simp [mTs] at h
end
section
variable {X : Cx} {N : List Str} {sc : Scope} {top : Str → Bool}
theorem sto_of {y : Str} (hsc : X.env.scope = sc) (hf : ∀ y, top y = true → sc.names.lookup y = some .cell → X.fn y = true) (h : stoB sc top y = true) : Loc X.env.scope y ∧ (X.fn y = true ∨ X.env.scope.names.lookup y = some .local) := by
  subst hsc
  unfold stoB at h
  split at h
  · rename_i e; exact ⟨.inl e, .inr e⟩
  · rename_i e; exact ⟨.inr e, .inl (hf _ h e)⟩
  · cases h
mutual
theorem sT_t (hc : X.calm = true) (hN : X.N.Nodup) (hNN : X.N = N) (hsc : X.env.scope = sc) (hf : ∀ y, top y = true → sc.names.lookup y = some .cell → X.fn y = true) : ∀ (t : T) (x : Expr), mT N sc top t x = true → PG X x (tG X.K t)
  | .n i, x, h => by
    cases x with
    | Name y p =>
      simp only [mT, Bool.and_eq_true, decide_eq_true_eq] at h
      obtain ⟨h1, h2⟩ := sto_of hsc hf h.2
      refine PG.of (pg_name hN (by rw [hNN]; exact h.1) h1 h2) fun v σ H Q ⟨m, ρ, hh, d, ρ', s, r, st, e, q⟩ => ?_
      simp only [asgT] at e
      split at e
      · cases e
        exact q _ (s.en.set st r) ⟨by simp, fun j hj => by rw [List.getElem?_set_ne]; intro z; subst z; exact hj (by simp [T.slots])⟩
      · cases e
    | _ => simp [mT] at h
  | .t ts, x, h => by
    cases x with
    | Tuple xs k p =>
      have h : mTs N sc top ts xs = true := h
      refine PG.of (pg_tup hc (sT_ts hc hN hNN hsc hf ts xs h) (mTs_each h).1 (mTs_each h).2) fun v σ H Q ⟨m, ρ, hh, d, ρ', s, r, st, e, q⟩ => ?_
      cases r with
      | tup q1 s1 t1 =>
        simp only [asgT] at e
        exact ⟨_, _, rfl, q1.sq, by rw [t1.length]; exact asgTs_len e, m, ρ, hh, _, ρ', s, t1, s1, e, q⟩
      | _ => simp [asgT] at e
    | _ => simp [mT] at h
theorem sT_ts (hc : X.calm = true) (hN : X.N.Nodup) (hNN : X.N = N) (hsc : X.env.scope = sc) (hf : ∀ y, top y = true → sc.names.lookup y = some .cell → X.fn y = true) : ∀ (ts : Ts) (xs : List Expr), mTs N sc top ts xs = true → PGs X xs (tGs X.K ts)
  | .nil, [], h => PGs.of pgs_nil fun v σ H Q ⟨m, ρ, hh, ds, ρ', s, r, st, e, q⟩ => by
    cases r with
    | nil => simp only [asgTs, Option.some.injEq] at e; subst e; exact ⟨rfl, q σ s.en ⟨rfl, fun _ _ => rfl⟩⟩
    | cons a b => simp [asgTs] at e
  | .cons t ts, x :: xs, h => by
    simp only [mTs, Bool.and_eq_true] at h
    refine PGs.of (pgs_cons (sT_t hc hN hNN hsc hf t x h.1) (sT_ts hc hN hNN hsc hf ts xs h.2) (by rw [assignEach_cons (mT_star h.1)]; rfl)) fun v σ H Q ⟨m, ρ, hh, ds, ρ', s, r, st, e, q⟩ => ?_
    cases r with
    | nil => simp [asgTs] at e
    | cons a b =>
      simp only [asgTs] at e
      simp only [D.stL, Bool.and_eq_true] at st
      split at e
      · rename_i ρ1 e1
        exact ⟨_, _, rfl, m, ρ, hh, _, ρ1, s, a, st.1, e1, fun σ1 en1 sa1 => ⟨m, ρ1, hh, _, ρ', ⟨s.hr, en1⟩, b, st.2, e, fun σ2 en2 sa2 => q σ2 en2 ⟨sa2.1.trans sa1.1, fun i hi => by
          simp only [Ts.slots, List.mem_append, not_or] at hi
          exact (sa2.2 i hi.2).trans (sa1.2 i hi.1)⟩⟩⟩
      · cases e
  | .nil, _ :: _, h => by simp [mTs] at h
  | .cons _ _, [], h => by simp [mTs] at h
end
end
end Mi

set_option Elab.async false
set_option linter.all false
set_option maxRecDepth 100000
/-! Mini: what is walked. -/
namespace Mi
open PySem PySem.Spec PyProof.Rows L2
structure WalkD (Z : Wi) (m0 : List Addr) (H0 : Hp) (src : Src) (ds : List D) (J : It) : Prop where
  st : D.stL ds = true
  go : ∀ i m H h, i < ds.length → HRp Z.K m H h → Ext m0 H0 m H → srcOk src h = true → J.go i H
  stop : ∀ m H h, HRp Z.K m H h → Ext m0 H0 m H → srcOk src h = true → J.stop ds.length H
  yld : ∀ i m H h x H', i < ds.length → HRp Z.K m H h → Ext m0 H0 m H → srcOk src h = true → J.yld i H x H' → ∃ d, ds[i]? = some d ∧ HRp Z.K m H' h ∧ Ext m H m H' ∧ Rp Z.K m H' x d
abbrev relI (Z : Wi) : List Addr → Hp → It → List D × Src → Prop := fun m H J p => WalkD Z m H p.2 p.1 J ∧ ∀ h, HRp Z.K m H h → True
/-- .. and the source is as it was -/
def tI (Z : Wi) (W : WX) (f : Env → Hm → R (List D × Src)) : TI := fun σ H R => ∃ m ρ h, StR Z.K m H h σ ρ ∧ match f ρ h with
  | .ok (ds, src) h' => ∀ J H' m', HRp Z.K m' H' h' → Ext m H m' H' → WalkD Z m' H' src ds J → srcOk src h' = true → R J H'
  | .ex c fs h' => ∀ cls dx H' m', HRp Z.K m' H' h' → Ext m H m' H' → XRp Z m' H' cls dx c fs → W cls dx σ H'
  | .bad => False
section
variable {Z : Wi} {m0 m : List Addr} {H0 H : Hp} {h : Hm}
theorem stL_get {ds : List D} {i : Nat} {d : D} (s : D.stL ds = true) (e : ds[i]? = some d) : D.st d = true := (stL_iff ds).mp s d (List.mem_of_getElem? e)
theorem get_of_rp {xs : List V} {ds : List D} {i : Nat} {x : V} {K : PySem.W.Frag} (t : RpL K m H xs ds) (e : xs[i]? = some x) : ∃ d, ds[i]? = some d ∧ Rp K m H x d := by
  have hl : i < ds.length := by rw [← t.length]; exact (List.getElem?_eq_some_iff.mp e).1
  obtain ⟨v, h1, h2⟩ := t.get (List.getElem?_eq_getElem hl)
  rw [e] at h1; cases h1
  exact ⟨_, List.getElem?_eq_getElem hl, h2⟩
/-- a list of any kind, later -/
theorem list_later {d : D} {a : Addr} {ds : List D} (hr0 : HRp Z.K m0 H0 h0) (q : Rp Z.K m0 H0 (.ref a) d) (e : lstOf h0 d = some ds) (hr : HRp Z.K m H h) (x : Ext m0 H0 m H) (so : srcOk (srcOf h0 d) h = true) :
    ∃ xs, SqL Z.K H a xs ∧ D.stL ds = true ∧ RpL Z.K m H xs ds := by
  have q' := Rp.ext hr0 x q
  have e' : lstOf h d = some ds := by
    cases d with
    | ref n =>
      simp only [lstOf] at e
      cases e2 : h0[n]? with
      | none => rw [e2] at e; cases e
      | some o =>
        rw [e2] at e
        have so : decide (h[n]? = some o) = true := by simpa [srcOf, e2, srcOk] using so
        have so := of_decide_eq_true so
        simp only [lstOf, so]
        exact e
    | lv xs => exact e
    | fl xs => exact e
    | _ => simp [lstOf] at e
  obtain ⟨a', xs, e1, s, st, t⟩ := lstOf_view (Z := Z) hr q' e'
  cases e1
  exact ⟨xs, s, st, t⟩
theorem walkD_list {d : D} {a : Addr} {ds : List D} (hr0 : HRp Z.K m0 H0 h0) (q : Rp Z.K m0 H0 (.ref a) d) (e : lstOf h0 d = some ds) : WalkD Z m0 H0 (srcOf h0 d) ds (Itl Z.K a) := by
  obtain ⟨a0, xs0, e1, s0, st0, t0⟩ := lstOf_view (Z := Z) hr0 q e
  refine ⟨st0, fun i m H h hi hr x so => ?_, fun m H h hr x so => ?_, fun i m H h y H' hi hr x so yl => ?_⟩
  · obtain ⟨xs, s, st, t⟩ := list_later hr0 q e hr x so
    exact (walk_list (K := Z.K) (a := a) (xs := xs)).goes i H (by rw [t.length]; exact hi) s
  · obtain ⟨xs, s, st, t⟩ := list_later hr0 q e hr x so
    rw [← t.length]
    exact (walk_list (K := Z.K) (a := a) (xs := xs)).stops H s
  · obtain ⟨xs, s, st, t⟩ := list_later hr0 q e hr x so
    obtain ⟨e2, e3⟩ := (walk_list (K := Z.K) (a := a) (xs := xs)).yields i H y H' (by rw [t.length]; exact hi) s yl
    subst e2
    obtain ⟨d, h1, h2⟩ := get_of_rp t e3
    exact ⟨d, h1, hr, .refl, h2⟩
theorem walkD_tup {a : Addr} {ds : List D} (hr0 : HRp Z.K m0 H0 h0) (q : Rp Z.K m0 H0 (.ref a) (.tup ds)) : WalkD Z m0 H0 none ds (Itt Z.K a) := by
  have tv : ∀ {m H h}, HRp Z.K m H h → Ext m0 H0 m H → ∃ xs, SqT Z.K H a xs ∧ D.stL ds = true ∧ RpL Z.K m H xs ds := fun hr x => by
    cases Rp.ext hr0 x q with
    | tup q s t => exact ⟨_, q.sq, s, t⟩
  obtain ⟨xs0, _, st0, _⟩ := tv hr0 .refl
  refine ⟨st0, fun i m H h hi hr x so => ?_, fun m H h hr x so => ?_, fun i m H h y H' hi hr x so yl => ?_⟩
  · obtain ⟨xs, s, st, t⟩ := tv hr x
    exact (walk_tup (K := Z.K) (a := a) (xs := xs)).goes i H (by rw [t.length]; exact hi) s
  · obtain ⟨xs, s, st, t⟩ := tv hr x
    rw [← t.length]
    exact (walk_tup (K := Z.K) (a := a) (xs := xs)).stops H s
  · obtain ⟨xs, s, st, t⟩ := tv hr x
    obtain ⟨e2, e3⟩ := (walk_tup (K := Z.K) (a := a) (xs := xs)).yields i H y H' (by rw [t.length]; exact hi) s yl
    subst e2
    obtain ⟨d, h1, h2⟩ := get_of_rp t e3
    exact ⟨d, h1, hr, .refl, h2⟩
theorem pairs_len : ∀ (n : Nat) (ds : List D), (pairs n ds).length = ds.length
  | _, [] => rfl
  | n, d :: ds => by simp [pairs, pairs_len (n + 1) ds]
theorem pairs_get : ∀ (n : Nat) (ds : List D) (i : Nat) (d : D), ds[i]? = some d → (pairs n ds)[i]? = some (.tup [.int ((n + i : Nat) : Int), d])
  | n, d :: ds, 0, e, h => by simp at h; subst h; simp [pairs]
  | n, d :: ds, i + 1, e, h => by
    simp only [List.getElem?_cons_succ] at h
    simp only [pairs, List.getElem?_cons_succ]
    rw [pairs_get (n + 1) ds i e h, show n + 1 + i = n + (i + 1) by omega]
  | _, [], _, _, h => by simp at h
theorem pairs_st : ∀ (n : Nat) (ds : List D), D.stL ds = true → D.stL (pairs n ds) = true
  | _, [], _ => rfl
  | n, d :: ds, h => by
    simp only [D.stL, Bool.and_eq_true] at h
    simp [pairs, D.stL, D.st, h.1, pairs_st (n + 1) ds h.2]
theorem walkD_enum {d : D} {a : Addr} {ds : List D} (hr0 : HRp Z.K m0 H0 h0) (q : Rp Z.K m0 H0 (.ref a) d) (e : lstOf h0 d = some ds) : WalkD Z m0 H0 (srcOf h0 d) (pairs 0 ds) (IteN Z.K a) := by
  obtain ⟨a0, xs0, e1, s0, st0, t0⟩ := lstOf_view (Z := Z) hr0 q e
  refine ⟨pairs_st 0 ds st0, fun i m H h hi hr x so => ?_, fun m H h hr x so => ?_, fun i m H h y H' hi hr x so yl => ?_⟩
  · obtain ⟨xs, s, st, t⟩ := list_later hr0 q e hr x so
    rw [pairs_len] at hi
    exact ⟨xs, xs[i]'(by rw [t.length]; exact hi), s, List.getElem?_eq_getElem _⟩
  · obtain ⟨xs, s, st, t⟩ := list_later hr0 q e hr x so
    exact ⟨xs, s, by rw [pairs_len, t.length]; exact Nat.le_refl _⟩
  · obtain ⟨xs, s, st, t⟩ := list_later hr0 q e hr x so
    rw [pairs_len] at hi
    obtain ⟨T, x1, o, rfl, hT, no, rfl, h2⟩ := yl
    obtain ⟨d2, h3, h4⟩ := get_of_rp t (h2 xs s)
    have std := stL_get st h3
    exact ⟨_, pairs_get 0 ds i d2 h3, hr.lay hT, Ext.lay hT, .tup (.of upd_same no) (by simp [D.stL, D.st, std]) (by
      rw [Nat.zero_add]
      exact .cons (.int _) (.one (Rp.ext hr (Ext.lay hT) h4)))⟩
theorem upto_get : ∀ (n : Nat) (lo : Int) (i : Nat), i < n → (upto lo n)[i]? = some (.int (lo + i))
  | n + 1, lo, 0, _ => by simp [upto]
  | n + 1, lo, i + 1, h => by
    simp only [upto, List.getElem?_cons_succ]
    rw [upto_get n (lo + 1) i (by omega), show lo + 1 + (i : Int) = lo + ((i + 1 : Nat) : Int) by omega]
theorem upto_len : ∀ (n : Nat) (lo : Int), (upto lo n).length = n
  | 0, _ => rfl
  | n + 1, lo => by simp [upto, upto_len n]
theorem upto_st : ∀ (n : Nat) (lo : Int), D.stL (upto lo n) = true
  | 0, _ => rfl
  | n + 1, lo => by simp [upto, D.stL, D.st, upto_st n]
theorem rngC_get : ∀ (n : Nat) (lo c : Int) (i : Nat), i < n → (rngC lo c n)[i]? = some (.int (lo + i * c))
  | n + 1, lo, c, 0, _ => by simp [rngC]
  | n + 1, lo, c, i + 1, h => by
    simp only [rngC, List.getElem?_cons_succ]
    rw [rngC_get n (lo + c) c i (by omega)]
    have : lo + c + (i : Int) * c = lo + ((i + 1 : Nat) : Int) * c := by
      have : ((i + 1 : Nat) : Int) = (i : Int) + 1 := by omega
      rw [this, Int.add_mul]; omega
    rw [this]
theorem rngC_len : ∀ (n : Nat) (lo c : Int), (rngC lo c n).length = n
  | 0, _, _ => rfl
  | n + 1, lo, c => by simp [rngC, rngC_len n]
theorem rngC_st : ∀ (n : Nat) (lo c : Int), D.stL (rngC lo c n) = true
  | 0, _, _ => rfl
  | n + 1, lo, c => by simp [rngC, D.stL, D.st, rngC_st n]
theorem walkD_range {lo : Int} {n : Nat} : WalkD Z m0 H0 none (upto lo n) (Itr lo n) := by
  refine ⟨upto_st n lo, fun i m H h hi hr x so => ?_, fun m H h hr x so => ?_, fun i m H h y H' hi hr x so yl => ?_⟩
  · rw [upto_len] at hi; exact hi
  · rw [upto_len]; exact Nat.le_refl n
  · rw [upto_len] at hi
    obtain ⟨rfl, rfl⟩ := yl
    exact ⟨_, upto_get n lo i hi, hr, .refl, .int _⟩
theorem walkD_rangeC {lo c : Int} {n : Nat} : WalkD Z m0 H0 none (rngC lo c n) (Itc lo c n) := by
  refine ⟨rngC_st n lo c, fun i m H h hi hr x so => ?_, fun m H h hr x so => ?_, fun i m H h y H' hi hr x so yl => ?_⟩
  · rw [rngC_len] at hi; exact hi
  · rw [rngC_len]; exact Nat.le_refl n
  · rw [rngC_len] at hi
    obtain ⟨rfl, rfl⟩ := yl
    exact ⟨_, rngC_get n lo c i hi, hr, .refl, .int _⟩
theorem srcOf_ok (h : Hm) (d : D) : srcOk (srcOf h d) h = true := by
  cases d with
  | ref n =>
    simp only [srcOf]
    cases e : h[n]? with
    | none => rfl
    | some o => simp [srcOk, e]
  | _ => rfl
end

/-! ### an unnumbered list is written -/
section
variable {K : PySem.W.Frag} {m m' : List Addr} {H H' : Hp} {h h' : Hm} {p : Addr} {u u0 : HO}
theorem Ext.notIn (x : Ext m H m' H') {o : HO} (e : H p = some o) (n : p ∉ m) : p ∉ m' := fun hm => by
  obtain ⟨l, el, f⟩ := x.pre
  rw [el] at hm
  rcases List.mem_append.mp hm with hm | hm
  · exact n hm
  · rw [f p hm] at e; cases e
theorem Ext.upU (x : Ext m H m' H') (e : H p = none) : Ext m H m' (upd H' p u) :=
  ⟨x.pre, fun a o q n => by rw [upd_ne (ne_of_none q e)]; exact x.fr a o q n, fun a o w q => by rw [upd_ne (ne_of_none q e)]; exact x.fz a o w q⟩
theorem SqT.upU (e : H p = some u0) (hu : isReg u0 = true) {a : Addr} {xs : List V} (q : SqT K H a xs) : SqT K (upd H p u) a xs := by
  rcases q with (q | ⟨o, q⟩) | q
  · exact .inl (.inl (by rw [upd_ne (by intro z; subst z; rw [e] at q; cases q; cases hu)]; exact q))
  · exact .inl (.inr ⟨o, by rw [upd_ne (by intro z; subst z; rw [e] at q; cases q; cases hu)]; exact q⟩)
  · exact .inr q
theorem SqN.upU (e : H p = some u0) (hu : isReg u0 = true) {a : Addr} {xs : List V} (q : SqN K H a xs) : SqN K (upd H p u) a xs := by
  rcases q with ⟨o, q, n⟩ | q
  · exact .inl ⟨o, by rw [upd_ne (by intro z; subst z; rw [e] at q; cases q; cases hu)]; exact q, n⟩
  · exact .inr q
theorem SqF.upU (e : H p = some u0) (hu : isReg u0 = true) {a : Addr} {xs : List V} (q : SqF K H a xs) : SqF K (upd H p u) a xs := by
  rcases q with ⟨o, q⟩ | q
  · exact .inl ⟨o, by rw [upd_ne (by intro z; subst z; rw [e] at q; cases q; cases hu)]; exact q⟩
  · exact .inr q
mutual
theorem Rp.upU (e : H p = some u0) (hu : isReg u0 = true) : ∀ {v : V} {d : D}, D.st d = true → Rp K m H v d → Rp K m (upd H p u) v d
  | _, _, _, .non => .non
  | _, _, _, .bl b => .bl b
  | _, _, _, .int i => .int i
  | _, _, _, .str y => .str y
  | _, _, _, .tup q s t => .tup (SqN.upU e hu q) s (RpL.upU e hu s t)
  | _, _, _, .ref q => .ref q
  | _, _, z, .lv _ _ _ _ => by simp [D.st] at z
  | _, _, _, .fl q s t => .fl (SqF.upU e hu q) s (RpL.upU e hu s t)
theorem RpL.upU (e : H p = some u0) (hu : isReg u0 = true) : ∀ {v : List V} {d : List D}, D.stL d = true → RpL K m H v d → RpL K m (upd H p u) v d
  | _, _, _, .nil => .nil
  | _, _, z, .cons a t => .cons (Rp.upU e hu (by simp [D.stL] at z; exact z.1) a) (RpL.upU e hu (by simp [D.stL] at z; exact z.2) t)
end
theorem HRp.upU (r : HRp K m H h) (e : H p = some u0) (hu : isReg u0 = true) (n : p ∉ m) : HRp K m (upd H p u) h := by
  refine ⟨r.len, r.nd, fun k o a e1 e2 => ?_⟩
  have ne : a ≠ p := fun z => n (by subst z; exact List.mem_of_getElem? e2)
  cases r.at_ k o a e1 e2 with
  | lst q s t => exact .lst (by rw [upd_ne ne]; exact q) s (RpL.upU e hu s t)
  | dic q t => exact .dic (by rw [upd_ne ne]; exact q) ⟨t.1, t.2.1, RpL.upU e hu t.2.1 t.2.2⟩
  | frd q t => exact .frd (by rw [upd_ne ne]; exact q) ⟨t.1, t.2.1, RpL.upU e hu t.2.1 t.2.2⟩
end
theorem bnd_assoc {α β γ : Type} (r : R α) (f : α → Hm → R β) (g : β → Hm → R γ) : bnd (bnd r f) g = bnd r fun a h => bnd (f a h) g := by cases r <;> rfl
theorem bnd_ok' {α β : Type} {r : R α} {f : α → Hm → R β} {b : β} {h : Hm} (e : bnd r f = .ok b h) : ∃ a h1, r = .ok a h1 ∧ f a h1 = .ok b h := by
  cases r with
  | ok a h1 => exact ⟨a, h1, rfl, e⟩
  | ex _ _ _ => cases e
  | bad => cases e
theorem nox_ok {α : Type} {r : R α} {b : α} {h : Hm} (e : nox r = .ok b h) : r = .ok b h := by
  cases r with
  | ok a h1 => exact e
  | ex _ _ _ => cases e
  | bad => cases e
theorem nox_or {α : Type} (r : R α) : (∃ a h, nox r = .ok a h) ∨ nox r = .bad := by
  cases r with
  | ok a h1 => exact .inl ⟨a, h1, rfl⟩
  | ex _ _ _ => exact .inr rfl
  | bad => exact .inr rfl
theorem gd_ok {α : Type} {c : Bool} {r : R α} {b : α} {h : Hm} (e : gd c r = .ok b h) : c = true ∧ r = .ok b h := by
  cases c with
  | false => cases e
  | true => exact ⟨rfl, e⟩
theorem compL_or {step : D → Hm → R (Option D)} {src : Src} (hs : ∀ d h, (∃ a h', step d h = .ok a h') ∨ step d h = .bad) : ∀ (ds : List D) (h : Hm), (∃ rs h', compL step src ds h = .ok rs h') ∨ compL step src ds h = .bad
  | [], h => .inl ⟨[], h, rfl⟩
  | d :: ds, h => by
    rw [compL]
    rcases hs d h with ⟨a, h', e⟩ | e
    · rw [e, bnd_ok]
      cases srcOk src h' with
      | false => exact .inr rfl
      | true =>
        rw [gd_t]
        rcases compL_or hs ds h' with ⟨rs, h2, e2⟩ | e2
        · rw [e2]; exact .inl ⟨_, _, rfl⟩
        · rw [e2]; exact .inr rfl
    · rw [e]; exact .inr rfl
/-- [e for t in i if f] -/
theorem lc_of {Z : Wi} {W : WX} {σ : L2.St} {H : Hp} {Q : VK} {fI : Env → Hm → R (List D × Src)} {fF : Env → Hm → R Bool} {fE : Env → Hm → R D} {t : T} {vs : List Nat} (hv : ∀ i ∈ T.slots t, i ∈ vs)
    (p : tE Z W (fun ρ h => bnd (fI ρ h) fun (ds, src) h => bnd (compL (stepC fF fE t ρ vs) src ds h) fun rs h => gd (decide (rs.length < sizeLine)) (.ok (.lv rs) h)) σ H Q) :
    tLc (tI Z W fI) (tG Z.K t) (tT Z WF fF) (tE Z WF fE) vs σ H Q := by
  obtain ⟨m, ρ, h, s, p⟩ := p
  refine ⟨m, ρ, h, s, ?_⟩
  cases eI : fI ρ h with
  | bad => simp only [eI, bnd_bad] at p; exact p
  | ex c fs h1 => simp only [eI, bnd_ex] at p; exact p
  | ok a h1 =>
    obtain ⟨ds, src⟩ := a
    simp only [eI, bnd_ok] at p
    intro J H1 m1 hr1 x1 wd so1 L hL
    have s1 : StR Z.K m1 H1 h1 σ ρ := s.go hr1 x1
    have p := Pst.rebase (fun {v d} n => newV.back hr1 x1 n) x1 p
    have tot := compL_or (step := stepC fF fE t ρ vs) (src := src) (fun d h => nox_or _)
    refine ⟨fun i mm H => mm = ds.length - i ∧ i ≤ ds.length ∧ ∃ m h acc rs0, HRp Z.K m H h ∧ Ext m1 H1 m H ∧ srcOk src h = true ∧ H L = some (.lst acc) ∧ L ∉ m ∧ RpL Z.K m H acc rs0 ∧ D.stL rs0 = true ∧
      PV Z W σ m1 H1 (bnd (compL (stepC fF fE t ρ vs) src (ds.drop i) h) fun rs h => gd (decide ((rs0 ++ rs).length < sizeLine)) (.ok (.lv (rs0 ++ rs)) h)) Q, ⟨_, rfl, Nat.zero_le _, m1, h1, [], [], hr1.lay hL, Ext.lay hL, so1, upd_same, hr1.fresh hL, .nil, rfl, p⟩, ?_⟩
    rintro i mm H ⟨rfl, hi, m, h, acc, rs0, hr, x, so, eD, nD, ra, sa, pv⟩
    by_cases hlt : i < ds.length
    · refine .inr ⟨wd.go i m H h hlt hr x so, fun H' => i + 1 ≤ ds.length ∧ ∃ m h acc rs0, HRp Z.K m H' h ∧ Ext m1 H1 m H' ∧ srcOk src h = true ∧ H' L = some (.lst acc) ∧ L ∉ m ∧ RpL Z.K m H' acc rs0 ∧ D.stL rs0 = true ∧
        PV Z W σ m1 H1 (bnd (compL (stepC fF fE t ρ vs) src (ds.drop (i + 1)) h) fun rs h => gd (decide ((rs0 ++ rs).length < sizeLine)) (.ok (.lv (rs0 ++ rs)) h)) Q, fun H' q => ⟨ds.length - (i + 1), by omega, rfl, q⟩, fun y H2 yl => ?_⟩
      obtain ⟨d, ed, hr2, x2, rd⟩ := wd.yld i m H h y H2 hlt hr x so yl
      have std := stL_get wd.st ed
      rw [List.drop_eq_getElem_cons hlt, show ds[i] = d from Option.some.inj ((List.getElem?_eq_getElem hlt).symm.trans ed)] at pv
      rw [compL, bnd_assoc] at pv
      rcases nox_or (match asgT t d (wipeD ρ vs) with
        | some ρ' => bnd (fF ρ' h) fun k h => if k = true then bnd (fE ρ' h) fun x h => bnd (own x h) fun x h => .ok (some x) h else .ok none h
        | none => .bad) with ⟨r, h3, e3⟩ | e3
      rotate_left
      · have e3 : stepC fF fE t ρ vs d h = .bad := e3
        rw [e3, bnd_bad] at pv; exact pv.elim
      have e3' : stepC fF fE t ρ vs d h = .ok r h3 := e3
      rw [e3', bnd_ok] at pv
      have e3 := nox_ok e3
      cases so3 : srcOk src h3 with
      | false => rw [so3, gd_f, bnd_bad] at pv; exact pv.elim
      | true =>
        rw [so3, gd_t, bnd_assoc] at pv
        rcases tot (ds.drop (i + 1)) h3 with ⟨rs, h9, e9⟩ | e9
        rotate_left
        · rw [e9, bnd_bad] at pv; exact pv.elim
        rw [e9, bnd_ok, bnd_ok] at pv
        obtain ⟨hlen, pv⟩ := Pst.gd pv
        have hlen := of_decide_eq_true hlen
        cases ea : asgT t d (wipeD ρ vs) with
        | none => simp only [ea] at e3; cases e3
        | some ρ' =>
          simp only [ea] at e3
          obtain ⟨k, h4, e4, e3⟩ := bnd_ok' e3
          have xw : Ext m1 H1 m H2 := Ext.trans hr2 x x2
          refine ⟨m, wipeD ρ vs, h, d, ρ', ⟨hr2, (s1.en.ext s1.hr xw).wipe vs⟩, rd, std, ea, fun σ2 en2 sa2 => ⟨wipe_same sa2 hv, m, ρ', h, ⟨hr2, en2⟩, ?_⟩⟩
          show PB Z WF σ2 m H2 (fF ρ' h) _
          rw [e4]
          intro b H5 m5 hr5 x5 eb _
          subst eb
          have eD2 : H2 L = some (.lst acc) := x2.fr L _ eD nD
          have eD5 : H5 L = some (.lst acc) := x5.fr L _ eD2 nD
          have nD5 : L ∉ m5 := x5.notIn eD2 nD
          have ra5 := RpL.ext hr2 x5 (RpL.ext hr x2 ra)
          cases b with
          | false =>
            simp only [Bool.false_eq_true, if_false] at e3 ⊢
            cases e3
            refine ⟨hlt, m5, _, acc, rs0, hr5, Ext.trans hr5 xw x5, so3, eD5, nD5, ra5, sa, ?_⟩
            rw [e9, bnd_ok, decide_eq_true (by simpa using hlen)]
            exact pv
          | true =>
            simp only [if_true] at e3 ⊢
            obtain ⟨x6, h6, e6, e3⟩ := bnd_ok' e3
            obtain ⟨x7, h7, e7, e3⟩ := bnd_ok' e3
            cases e3
            refine ⟨m5, ρ', h4, ⟨hr5, en2.ext hr2 x5⟩, ?_⟩
            rw [e6]
            intro z H6 m6 hr6 xe6 rz nz
            have eD6 : H6 L = some (.lst acc) := xe6.fr L _ eD5 nD5
            obtain ⟨m7, d7, h7', eo, hr7, xe7, rz7, sz7, kp⟩ := PV.own hr6 xe6 rz nz
            rw [e7] at eo; cases eo
            have nD7 : L ∉ m7 := xe7.notIn eD5 nD5
            have ra7 := RpL.ext hr5 xe7 ra5
            simp only [List.length_append, List.length_cons] at hlen
            refine ⟨acc, eD6, by rw [ra.length]; omega, hlt, m7, h3, acc ++ [z], rs0 ++ [x7], hr7.upU eD6 rfl nD7, (Ext.trans hr7 (Ext.trans hr5 xw x5) xe7).upU hL, so3, upd_same, nD7, (RpL.upU eD6 rfl sa ra7).append (.one (Rp.upU eD6 rfl sz7 rz7)), by rw [stL_append, sa]; simp [D.stL, sz7], ?_⟩
            rw [e9, bnd_ok, decide_eq_true (by simp; omega), List.append_assoc]
            exact pv
    · have e : i = ds.length := by omega
      subst e
      refine .inl ⟨wd.stop m H h hr x so, ?_⟩
      rw [List.drop_length, compL, bnd_ok] at pv
      obtain ⟨_, pv⟩ := Pst.gd pv
      rw [List.append_nil] at pv
      exact pv (.ref L) H m hr x (.lv eD nD sa ra) fun ds a e1 e2 => by cases e2; exact hL
end Mi

set_option Elab.async false
set_option linter.all false
set_option maxRecDepth 100000
/-! Mini: the written expression and its tree. -/
namespace Mi
open PySem PySem.Spec PyProof.Rows L2
def okH : Expr → Bool
  | .Name _ _ => true
  | .Constant _ _ _ => true
  | .BinOp _ _ _ _ => true
  | .UnaryOp _ _ _ => true
  | .Compare _ _ _ _ => true
  | .BoolOp _ _ _ => true
  | .IfExp _ _ _ _ => true
  | .Tuple _ _ _ => true
  | .List _ _ => true
  | .Dict _ _ _ => true
  | .ListComp _ _ _ _ => true
  | .Subscript _ _ _ => true
  | .Call _ _ _ _ => true
  | _ => false
theorem okH_star {e : Expr} (h : okH e = true) : noStar e = true := by cases e <;> first | rfl | simp [okH] at h
theorem okH_mark {e : Expr} (op : CmpOp) (h : okH e = true) : behindInMarks op e = false := by cases e <;> first | rfl | simp [okH] at h
theorem okH_ix {e : Expr} (h : okH e = true) : PlainIx e := by intro o i; cases e <;> first | rfl | simp [okH] at h
theorem okH_set {e : Expr} (env : PySem.Env) (h : okH e = true) (x : Value) : foldedSetIterable e env x = pure x := by cases e <;> first | rfl | simp [okH] at h
def visB (sc : Scope) (x : Str) : Bool := match sc.names.lookup x with
  | some .local => true
  | some .cell => true
  | some .free => true
  | _ => false
def glB (sc : Scope) (x : Str) : Bool := match sc.names.lookup x with
  | some .globalImplicit => true
  | _ => false
def dbg (x : Str) : Bool := x == ("__debug__" : Str)
def cdc (x : Str) : Bool := x == ("__classdict__" : Str)
def mC : D → Expr → Bool
  | d, .Constant c _ _ => match c, d with
    | .int i, .int j => decide (i = j)
    | .bool b, .bl c => decide (b = c)
    | .none, .non => true
    | .str x, .str y => decide (x = y)
    | _, _ => false
  | _, _ => false
def mKs : List L2.Key → List (Option Expr) → Bool
  | [], [] => true
  | .inl i :: ks, some (.Constant (.int j) _ _) :: es => decide (i = j) && mKs ks es
  | .inr x :: ks, some (.Constant (.str y) _ _) :: es => decide (x = y) && mKs ks es
  | _, _ => false
def biName : Bi → Option Str
  | .len => some "len"
  | .abs => some "abs"
  | .int => some "int"
  | .str => some "str"
  | .repr => some "repr"
  | .tuple => some "tuple"
  | .list => some "list"
  | .sum => some "sum"
  | .all => some "all"
  | .sorted => some "sorted"
  | .max => some "max"
  | .min => some "min"
  | .lend => some "len"
  | .sumt => some "sum"
  | _ => none
def isName : Bi → Option Str
  | .isTuple => some "tuple"
  | .isInt => some "int"
  | .isStr => some "str"
  | .isBool => some "bool"
  | _ => none
def inB (l : List Str) (x : Str) : Bool := l.any fun y => decide (y = x)
/-- fit for a test -/
def tst : E → Bool
  | .ife _ _ _ => false
  | .not a => tst a
  | .and a b => tst a && tst b
  | .or a b => tst a && tst b
  | _ => true
def tsts : Es → Bool
  | .nil => true
  | .cons e es => tst e && tsts es
def isTg : Expr → Bool
  | .Tuple _ _ _ => true
  | _ => false
def kwsOk : List Str → List Keyword → Bool
  | [], [] => true
  | k :: ks, kw :: kws => decide (kw.arg = some k) && kwsOk ks kws
  | _, _ => false
mutual
def mE (T : Tb) (N : List Str) : E → Scope → Expr → Bool
  | .c d, _, x => mC d x
  | .v i, sc, x => match x with
    | .Name y _ => decide (N[i]? = some y) && visB sc y && !(dbg y) && !(cdc y)
    | _ => false
  | .g n, sc, x => match x with
    | .Name y _ => (match T.cns[n]? with
      | some (z, _) => decide (z = y)
      | none => false) && glB sc y && !(dbg y)
    | _ => false
  | .bin o a b, sc, x => match x with
    | .BinOp xa o' xb _ => decide (o' = o) && mE T N a sc xa && mE T N b sc xb
    | _ => false
  | .neg a, sc, x => match x with
    | .UnaryOp .USub xa _ => mE T N a sc xa
    | _ => false
  | .not a, sc, x => match x with
    | .UnaryOp .Not xa _ => mE T N a sc xa
    | _ => false
  | .cmp o a b, sc, x => match x with
    | .Compare xa [o'] [xb] _ => decide (o' = o) && okH xb && mE T N a sc xa && mE T N b sc xb
    | _ => false
  | .chain o p a b c, sc, x => match x with
    | .Compare xa [o', p'] [xb, xc] _ => decide (o' = o) && decide (p' = p) && okH xc && mE T N a sc xa && mE T N b sc xb && mE T N c sc xc
    | _ => false
  | .and a b, sc, x => match x with
    | .BoolOp .And (xa :: xb :: xs) p => mE T N a sc xa && (match xs with
      | [] => mE T N b sc xb
      | _ :: _ => mE T N b sc (.BoolOp .And (xb :: xs) p))
    | _ => false
  | .or a b, sc, x => match x with
    | .BoolOp .Or (xa :: xb :: xs) p => mE T N a sc xa && (match xs with
      | [] => mE T N b sc xb
      | _ :: _ => mE T N b sc (.BoolOp .Or (xb :: xs) p))
    | _ => false
  | .ife t a b, sc, x => match x with
    | .IfExp xt xa xb _ => tst t && mE T N t sc xt && mE T N a sc xa && mE T N b sc xb
    | _ => false
  | .tup es, sc, x => match x with
    | .Tuple xs _ _ => mEs T N es sc xs
    | _ => false
  | .lst es, sc, x => match x with
    | .List xs _ => mEs T N es sc xs
    | _ => false
  | .dic ks es, sc, x => match x with
    | .Dict keys xs _ => mKs ks keys && decide (ks.length ≤ 15) && decide (xs.length = ks.length) && decide ks.Nodup && mEs T N es sc xs
    | _ => false
  | .dic1 es, sc, x => match x with
    | .Dict [some xk] [xv] _ => mEs T N es sc [xk, xv]
    | _ => false
  | .comp e t i fs w, sc, x => match x with
    | .ListComp xe gens scope _ => match gens with
      | [⟨tg, iter, ifs, n⟩] => decide (n = 0) && okH iter && mI T N i sc tg iter && blkC N sc scope w && mE T N e (relS scope sc) xe && mT N (relS scope sc) (fun y => scope.names.lookup y == some .cell) t tg && mEs T N fs (relS scope sc) ifs &&
          decide (ifs.length ≤ 1) && tsts fs && t.slots.all fun i => (w.map (·.2)).contains i
      | _ => false
    | _ => false
  | .ix a i, sc, x => match x with
    | .Subscript xa xi _ => okH xi && mE T N a sc xa && mE T N i sc xi
    | _ => false
  | .sl a lo hi, sc, x => match x with
    | .Subscript xa (.Slice lo' hi' none _) _ => mE T N a sc xa && mO T N lo sc lo' && mO T N hi sc hi'
    | _ => false
  | .rev a, sc, x => match x with
    | .Subscript xa (.Slice none none (some (.UnaryOp .USub (.Constant (.int i) _ _) _)) _) _ => decide (i = 1) && mE T N a sc xa
    | _ => false
  | .call f es, sc, x => match x with
    | .Call (.Name y _) xs [] _ => (match T.fns[f]? with
      | some (z, ps) => decide (z = y) && decide (xs.length = ps.length)
      | none => false) && glB sc y && !(dbg y) && mEs T N es sc xs
    | _ => false
  | .callk f es kes pm, sc, x => match x with
    | .Call (.Name y _) xs kws _ => (match T.fns[f]? with
      | some (z, ps) => decide (z = y)
      | none => false) && glB sc y && !(dbg y) && mEs T N es sc xs && mEs T N kes sc (kws.map (·.value)) && kws.all (fun k => k.arg.isSome) && T.kws.any (fun q => decide (q = (f, xs.length, kws.filterMap (·.arg), pm)))
    | _ => false
  | .bi f es, sc, x => match x with
    | .Call (.Name y _) xs kws _ => decide (kws.length = 0) && glB sc y && inB T.bts y && (match biName f with
      | some z => decide (z = y) && decide (0 < xs.length) && mEs T N es sc xs
      | none => match isName f with
        | some z => decide (y = "isinstance") && (match xs with
          | [xa, .Name t _] => decide (t = z) && glB sc t && inB T.bts t && okH xa && (match es with
            | .cons e .nil => mE T N e sc xa
            | _ => false)
          | _ => false)
        | none => (match f with
          | .lrange => (match xs with
            | [.Call (.Name r _) ys ks _] => decide (y = "list") && decide (r = "range") && decide (ks.length = 0) && glB sc r && inB T.bts r && decide (0 < ys.length) && decide (ys.length ≤ 2) && mEs T N es sc ys
            | _ => false)
          | .trange => (match xs with
            | [.Call (.Name r _) ys ks _] => decide (y = "tuple") && decide (r = "range") && decide (ks.length = 0) && glB sc r && inB T.bts r && decide (ys.length = 1) && mEs T N es sc ys
            | _ => false)
          | _ => false))
    | _ => false
  | .me f o es, sc, x => match x with
    | .Call (.Attribute xo nm apos) xs [] cpos => decide (meName f = some nm) && notSuper xo && decide (xs.length < 29) && (apos.endLine == cpos.line) && mE T N o sc xo && mEs T N es sc xs
    | _ => false
  | .kget z kvs es, sc, x => match x with
    | .Call (.Attribute (.Name y _) nm apos) xs [] cpos => decide (nm = "get") && decide (y = z) && decide (xs.length < 29) && (apos.endLine == cpos.line) && glB sc y && !(dbg y) && T.dcs.any (fun q => decide (q = (z, kvs))) && mEs T N es sc xs
    | _ => false
def mEs (T : Tb) (N : List Str) : Es → Scope → List Expr → Bool
  | .nil, _, xs => match xs with
    | [] => true
    | _ => false
  | .cons e es, sc, xs => match xs with
    | x :: xs => okH x && mE T N e sc x && mEs T N es sc xs
    | [] => false
def mO (T : Tb) (N : List Str) : Oe → Scope → Option Expr → Bool
  | .no, _, x => match x with
    | none => true
    | some _ => false
  | .so e, sc, x => match x with
    | some x => mE T N e sc x
    | none => false
def mI (T : Tb) (N : List Str) : I → Scope → Expr → Expr → Bool
  | .of e, sc, _, x => mE T N e sc x
  | .keys e, sc, _, x => mE T N e sc x
  | .rng es, sc, _, x => match x with
    | .Call (.Name y _) xs kws _ => decide (kws.length = 0) && decide (y = "range") && decide (0 < xs.length) && decide (xs.length ≤ 3) && glB sc y && inB T.bts y && mEs T N es sc xs
    | _ => false
  | .enum e, sc, tg, x => match x with
    | .Call (.Name y _) [x] kws _ => decide (kws.length = 0) && decide (y = "enumerate") && glB sc y && inB T.bts y && isTg tg && okH x && mE T N e sc x
    | _ => false
  | .zip a b, sc, tg, x => match x with
    | .Call (.Name y _) [xa, xb] kws _ => decide (kws.length = 0) && decide (y = "zip") && glB sc y && inB T.bts y && isTg tg && okH xa && okH xb && mE T N a sc xa && mE T N b sc xb
    | _ => false
  | .items _, _, _, _ => false
  | .vals _, _, _, _ => false
  | .sof e, sc, _, x => mE T N e sc x
  | .senum e, sc, tg, x => match x with
    | .Call (.Name y _) [x] kws _ => decide (kws.length = 0) && decide (y = "enumerate") && glB sc y && inB T.bts y && isTg tg && okH x && mE T N e sc x
    | _ => false
end
end Mi

set_option Elab.async false
set_option linter.all false
set_option maxRecDepth 100000
/-! Mini: a tree's reading is the written expression's. -/
namespace Mi
open PySem PySem.Spec PyProof.Rows L2
theorem Vals.pick {vs : List V} {us : List Value} (r : Vals vs us) : ∀ (pm : List Nat), (∀ j ∈ pm, j < us.length) → Vals (pm.map fun j => vs.getD j .non) (pm.map fun j => us.getD j .none)
  | [], _ => .nil
  | j :: pm, h => by
    refine .cons ?_ (Vals.pick r pm fun j hj => h j (List.mem_cons_of_mem _ hj))
    have hj := h j List.mem_cons_self
    clear h
    induction r generalizing j with
    | nil => simp at hj
    | cons a t ih =>
      cases j with
      | zero => simpa using a
      | succ j => simpa using ih j (by simpa using hj)
theorem RpL.pick {K : PySem.W.Frag} {m : List Addr} {H : Hp} {vs : List V} {ds : List D} (r : RpL K m H vs ds) : ∀ (pm : List Nat), (∀ j ∈ pm, j < ds.length) → RpL K m H (pm.map fun j => vs.getD j .non) (pm.map fun j => ds.getD j default)
  | [], _ => .nil
  | j :: pm, h => by
    refine .cons ?_ (RpL.pick r pm fun j hj => h j (List.mem_cons_of_mem _ hj))
    have hj := h j List.mem_cons_self
    obtain ⟨v, h1, h2⟩ := r.get (List.getElem?_eq_getElem hj)
    show Rp K m H (vs.getD j .non) (ds.getD j default)
    rw [List.getD_eq_getElem?_getD, List.getD_eq_getElem?_getD, h1, List.getElem?_eq_getElem hj]
    exact h2
theorem stL_pick {ds : List D} (s : D.stL ds = true) (pm : List Nat) (h : ∀ j ∈ pm, j < ds.length) : D.stL (pm.map fun j => ds.getD j default) = true := by
  rw [stL_iff]
  intro d hd
  obtain ⟨j, hj, rfl⟩ := List.mem_map.mp hd
  show D.st (ds.getD j default) = true
  rw [List.getD_eq_getElem?_getD, List.getElem?_eq_getElem (h j hj)]
  exact (stL_iff ds).mp s _ (List.getElem_mem _)
theorem mergeK_new : ∀ {more acc : List (L2.Key × V)}, (∀ k ∈ more.map (·.1), k ∉ acc.map (·.1)) → (more.map (·.1)).Nodup → mergeK acc more = acc ++ more
  | [], acc, _, _ => by simp [mergeK]
  | p :: r, acc, h, n => by
    have e : L2.putK acc p.1 p.2 = acc ++ [p] := by
      unfold L2.putK
      rw [if_neg]
      simp only [List.any_eq_true, decide_eq_true_eq, not_exists, not_and]
      intro q hq e
      exact h p.1 (by simp) (by rw [← e]; exact List.mem_map_of_mem hq)
    simp only [List.map_cons, List.nodup_cons] at n
    show mergeK (L2.putK acc p.1 p.2) r = _
    rw [e, mergeK_new (fun k hk => by
      simp only [List.map_append, List.map_cons, List.map_nil, List.mem_append, List.mem_singleton, not_or]
      exact ⟨h k (by simp only [List.map_cons, List.mem_cons]; exact .inr hk), fun z => n.1 (by rw [← z]; exact hk)⟩) n.2, List.append_assoc]
    rfl
section
variable {X : Cx} {sc : Scope} {y : Str}
theorem vis_of (hsc : X.env.scope = sc) (h : visB sc y = true) : Vis X.env.scope y := by
  subst hsc
  unfold visB at h
  split at h
  · rename_i e; exact .inl e
  · rename_i e; exact .inr (.inl e)
  · rename_i e; exact .inr (.inr e)
  · cases h
theorem gl_of (hsc : X.env.scope = sc) (h : glB sc y = true) : Gl X y := by
  subst hsc
  unfold glB at h
  split at h
  · rename_i e; exact e
  · cases h
theorem nb {b : Bool} (h : (!b) = true) : b = false := by cases b <;> simp_all
theorem inB_mem {l : List Str} (h : inB l y = true) : y ∈ l := by
  unfold inB at h
  simp only [List.any_eq_true, decide_eq_true_eq] at h
  obtain ⟨z, h1, h2⟩ := h
  exact h2 ▸ h1
end
section
variable {T : Tb} {Z : Wi} {W : WX} {Γ : Gm} {G : Nat → Option D} {X : Cx} {σ : L2.St} {m : List Addr} {H : Hp} {h : Hm} {ρ : Env}
theorem PV.val {d : D} {v : V} {Q : VK} (p : PV Z W σ m H (.ok d h) Q) (r : HRp Z.K m H h) (q : Rp Z.K m H v d) (s : D.st d = true) : Q v H := p v H m r .refl q (newV_st s)
theorem l_varU {i : Nat} {y : Str} {p : Pos} (hN : X.N[i]? = some y) (hv : Vis X.env.scope y) (h1 : dbg y = false) (h2 : cdc y = false) : PE X (.Name y p) (tE Z W (ev Γ G (.v i))) := by
  refine PE.of (pe_var hN hv h1 h2) fun σ H Q ⟨m, ρ, h, s, q⟩ => ?_
  simp only [ev] at q
  split at q
  · rename_i d e
    obtain ⟨st, v, ev, rv⟩ := s.en.at_ i d e
    exact ⟨v, ev, q.val s.hr rv st⟩
  · exact q.elim
theorem l_var (g : Good T Z W Γ G X) {i : Nat} {y : Str} {p : Pos} (hN : X.N[i]? = some y) (hv : Vis X.env.scope y) (h1 : dbg y = false) (h2 : cdc y = false) : PE X (.Name y p) (tE Z W (ev Γ G (.v i))) := l_varU hN hv h1 h2
theorem l_c (d : D) (x : Expr) (hm : mC d x = true) : PE X x (tE Z W (ev Γ G (.c d))) := by
  have fin : ∀ {v : V}, D.st d = true → (∀ m H, Rp Z.K m H v d) → PE X x (tC v) → PE X x (tE Z W (ev Γ G (.c d))) := fun st r p =>
    PE.of p fun σ H Q ⟨m, ρ, h, s, q⟩ => by simp only [ev] at q; exact q.val s.hr (r m H) st
  cases x with
  | Constant c k p =>
    cases c <;> cases d <;> first
      | (simp [mC] at hm; done)
      | skip
    · exact fin rfl (fun _ _ => .non) pe_non
    · rename_i a b
      have e : a = b := by simpa [mC] using hm
      subst e
      exact fin rfl (fun _ _ => .bl a) pe_bl
    · rename_i a b
      have e : a = b := by simpa [mC] using hm
      subst e
      exact fin rfl (fun _ _ => .int a) pe_int
    · rename_i a b
      have e : a = b := by simpa [mC] using hm
      subst e
      exact fin rfl (fun _ _ => .str a) pe_str
  | _ => simp [mC] at hm
theorem l_g (g : Good T Z W Γ G X) {i : Nat} {y : Str} {d : D} {p : Pos} (hc : T.cns[i]? = some (y, d)) (hg : Gl X y) (h1 : dbg y = false) : PE X (.Name y p) (tE Z W (ev Γ G (.g i))) := by
  obtain ⟨e, st, u, v, hm, r, rp⟩ := g.cns i y d hc
  refine PE.of (pe_glob hg hm r h1) fun σ H Q ⟨m, ρ, h, s, q⟩ => ?_
  simp only [ev, e, opt_some] at q
  exact q.val s.hr (by rw [← g.k]; exact rp m H) st
theorem l_bin (g : Good T Z W Γ G X) {a b : E} {xa xb : Expr} {o : Operator} {p : Pos} (ha : PE X xa (tE Z W (ev Γ G a))) (hb : PE X xb (tE Z W (ev Γ G b))) : PE X (.BinOp xa o xb p) (tE Z W (ev Γ G (.bin o a b))) := by
  have ho : OpR X (binaryOp o) (rBin Z.K o) := by rw [← g.k]; exact op_bin o
  refine PE.of (pe_op ho ha hb) fun σ H Q ⟨m, ρ, h, s, q⟩ => ?_
  simp only [ev] at q
  exact tE_bnd nbV s q fun x H1 m1 d h1 s1 x1 r1 n1 q1 => tE_bnd nbV s1 q1 fun y H2 m2 d2 h2 s2 x2 r2 n2 q2 => by
    obtain ⟨z, e, q2⟩ := Pst.opt q2
    exact ⟨m2, h2, d, d2, z, s2.hr, Rp.ext s1.hr x2 r1, r2, e, PV.fin q2⟩
theorem l_neg {a : E} {xa : Expr} {p : Pos} (ha : PE X xa (tE Z W (ev Γ G a))) : PE X (.UnaryOp .USub xa p) (tE Z W (ev Γ G (.neg a))) := by
  refine PE.of (pe_un un_neg ha) fun σ H Q ⟨m, ρ, h, s, q⟩ => ?_
  simp only [ev] at q
  exact tE_bnd nbV s q fun x H1 m1 d h1 s1 x1 r1 n1 q1 => by
    cases d with
    | int i =>
      cases r1
      exact ⟨i, rfl, PV.val q1 s1.hr (.int _) rfl⟩
    | _ => exact q1.elim
theorem l_cmp (g : Good T Z W Γ G X) {a b : E} {xa xb : Expr} {o : CmpOp} {p : Pos} (hok : okH xb = true) (ha : PE X xa (tE Z W (ev Γ G a))) (hb : PE X xb (tE Z W (ev Γ G b))) :
    PE X (.Compare xa [o] [xb] p) (tE Z W (ev Γ G (.cmp o a b))) ∧ PT X (.Compare xa [o] [xb] p) (tT Z W (truF (ev Γ G (.cmp o a b)))) := by
  have ho : OpR X (compareOp o) (rCmp Z.K o) := by rw [← g.k]; exact op_cmp g.un o
  refine ⟨PE.of (pe_cmpR ho ha hb (okH_mark o hok)) fun σ H Q ⟨m, ρ, h, s, q⟩ => ?_, PT.of (pt_cmpR ho ha hb (okH_mark o hok)) fun σ H Q ⟨m, ρ, h, s, q⟩ => ?_⟩
  · simp only [ev] at q
    exact tE_bnd nbV s q fun x H1 m1 d h1 s1 x1 r1 n1 q1 => tE_bnd nbV s1 q1 fun y H2 m2 d2 h2 s2 x2 r2 n2 q2 => by
      obtain ⟨z, e, q2⟩ := Pst.opt q2
      obtain ⟨b, e', rfl⟩ := Option.map_eq_some_iff.mp e
      exact ⟨m2, h2, d, d2, b, s2.hr, Rp.ext s1.hr x2 r1, r2, e', PV.val q2 s2.hr (.bl b) rfl⟩
  · simp only [truF, ev, bnd_assoc] at q
    exact tE_bnd (fun {_ _ _} a b {_ _} n => trivial) s q fun x H1 m1 d h1 s1 x1 r1 n1 q1 => tE_bnd (fun {_ _ _} a b {_ _} n => trivial) s1 q1 fun y H2 m2 d2 h2 s2 x2 r2 n2 q2 => by
      cases e : cmpD h2 o d d2 with
      | none => rw [e] at q2; exact q2.elim
      | some b =>
        rw [e] at q2
        exact ⟨m2, h2, d, d2, b, s2.hr, Rp.ext s1.hr x2 r1, r2, e, b, rfl, q2 b H2 m2 s2.hr .refl rfl trivial⟩
theorem l_not {a : E} {xa : Expr} {p : Pos} (ha : PT X xa (tT Z W (truF (ev Γ G a)))) (ha' : PE X xa (tE Z W (ev Γ G a))) : PT X (.UnaryOp .Not xa p) (tT Z W (truF (ev Γ G (.not a)))) := by
  refine PT.of (pt_not ha) fun σ H Q ⟨m, ρ, h, s, q⟩ => ?_
  refine ⟨m, ρ, h, s, ?_⟩
  simp only [truF, ev, bnd_assoc] at q ⊢
  cases e : ev Γ G a ρ h with
  | bad => rw [e] at q; exact q
  | ex c fs h1 => rw [e] at q; exact q
  | ok d h1 =>
    simp only [e, bnd_ok] at q ⊢
    cases e2 : truth h1 d with
    | none => rw [e2] at q; exact q.elim
    | some b =>
      simp only [e2, Option.map_some, opt_some, bnd_ok] at q ⊢
      have q : PB Z W σ m H (.ok (!b) h1) Q := q
      exact fun v H' m' a b c n => by subst c; exact q _ H' m' a b rfl trivial
theorem l_chain (g : Good T Z W Γ G X) {a b c : E} {xa xb xc : Expr} {o o' : CmpOp} {p : Pos} (hok : okH xc = true) (ha : PE X xa (tE Z W (ev Γ G a))) (hb : PE X xb (tE Z W (ev Γ G b))) (hc : PE X xc (tE Z W (ev Γ G c))) :
    PE X (.Compare xa [o, o'] [xb, xc] p) (tE Z W (ev Γ G (.chain o o' a b c))) ∧ PT X (.Compare xa [o, o'] [xb, xc] p) (tT Z W (truF (ev Γ G (.chain o o' a b c)))) := by
  have ho : ∀ o, OpR X (compareOp o) (rCmp Z.K o) := fun o => by rw [← g.k]; exact op_cmp g.un o
  have hm : lastMarks [o, o'] [xb, xc] = false := okH_mark o' hok
  refine ⟨PE.of (pe_chain (ho o) (ho o') ha hb hc hm) fun σ H Q ⟨m, ρ, h, s, q⟩ => ?_, PT.of (pt_chain (ho o) (ho o') ha hb hc hm) fun σ H Q ⟨m, ρ, h, s, q⟩ => ?_⟩
  · simp only [ev] at q
    exact tE_bnd nbV s q fun x H1 m1 d h1 s1 x1 r1 n1 q1 => tE_bnd nbV s1 q1 fun y H2 m2 d2 h2 s2 x2 r2 n2 q2 => by
      cases e : cmpD h2 o d d2 with
      | none => rw [e] at q2; exact q2.elim
      | some k =>
        rw [e, opt_some, bnd_ok] at q2
        refine ⟨m2, h2, d, d2, k, s2.hr, Rp.ext s1.hr x2 r1, r2, e, k, rfl, ?_⟩
        cases k with
        | false => exact PV.val q2 s2.hr (.bl false) rfl
        | true =>
          exact tE_bnd nbV s2 q2 fun z H3 m3 d3 h3 s3 x3 r3 n3 q3 => by
            obtain ⟨z, e, q3⟩ := Pst.opt q3
            obtain ⟨b, e', rfl⟩ := Option.map_eq_some_iff.mp e
            exact ⟨m3, h3, d2, d3, b, s3.hr, Rp.ext s2.hr x3 r2, r3, e', PV.val q3 s3.hr (.bl b) rfl⟩
  · simp only [truF, ev, bnd_assoc] at q
    exact tE_bnd (fun {_ _ _} a b {_ _} n => trivial) s q fun x H1 m1 d h1 s1 x1 r1 n1 q1 => tE_bnd (fun {_ _ _} a b {_ _} n => trivial) s1 q1 fun y H2 m2 d2 h2 s2 x2 r2 n2 q2 => by
      cases e : cmpD h2 o d d2 with
      | none => rw [e] at q2; exact q2.elim
      | some k =>
        rw [e, opt_some, bnd_ok] at q2
        refine ⟨m2, h2, d, d2, k, s2.hr, Rp.ext s1.hr x2 r1, r2, e, k, rfl, ?_⟩
        cases k with
        | false => exact ⟨false, rfl, q2 false H2 m2 s2.hr .refl rfl trivial⟩
        | true =>
          simp only [if_true, bnd_assoc] at q2
          exact tE_bnd (fun {_ _ _} a b {_ _} n => trivial) s2 q2 fun z H3 m3 d3 h3 s3 x3 r3 n3 q3 => by
            cases e : cmpD h3 o' d2 d3 with
            | none => rw [e] at q3; exact q3.elim
            | some b =>
              rw [e] at q3
              exact ⟨m3, h3, d2, d3, b, s3.hr, Rp.ext s2.hr x3 r2, r3, e, b, rfl, q3 b H3 m3 s3.hr .refl rfl trivial⟩
/-- the test of a value, of no special form -/
theorem l_truth (g : Good T Z W Γ G X) {a : E} {xa : Expr} (ha : PE X xa (tE Z W (ev Γ G a))) (he : ∀ whole, isTrue xa X.env whole = (do let v ← whole; standAt xa.pos; holding [v] (truthy v))) : PT X xa (tT Z W (truF (ev Γ G a))) := by
  refine PT.of (pt_truth ha he) fun σ H Q ⟨m, ρ, h, s, q⟩ => ?_
  simp only [truF] at q
  exact tE_bnd (fun {_ _ _} a b {_ _} n => trivial) s q fun x H1 m1 d h1 s1 x1 r1 n1 q1 => by
    obtain ⟨b, e, q1⟩ := Pst.opt q1
    exact ⟨b, by rw [g.k]; exact truth_view s1.hr r1 e, q1 b H1 m1 s1.hr .refl rfl trivial⟩
theorem pt_pw {op : BoolOp} {xs : List Expr} {p : Pos} {t : TT} (h : PT X (.BoolOp op xs p) t) : PW X (.BoolOp op xs p) t := ⟨fun wh pins s σ H Q I q => h.run pins s σ H Q I q⟩
theorem PW.of {e : Expr} {t t' : TT} (p : PW X e t) (h : ∀ σ H Q, t' σ H Q → t σ H Q) : PW X e t' := ⟨fun wh pins s σ H Q I q => p.run wh pins s σ H Q I (h σ H Q q)⟩
theorem l_andV {a b : E} (σ : L2.St) (H : Hp) (Q : VK) (q : tE Z W (ev Γ G (.and a b)) σ H Q) : tAndV (tE Z W (ev Γ G a)) (tE Z W (ev Γ G b)) σ H Q := by
  obtain ⟨m, ρ, h, s, q⟩ := q
  simp only [ev] at q
  exact tE_bnd nbV s q fun x H1 m1 d h1 s1 x1 r1 n1 q1 => by
    cases d with
    | bl k =>
      cases r1
      refine ⟨k, rfl, ?_⟩
      cases k with
      | true => exact ⟨m1, ρ, h1, s1, q1⟩
      | false => exact PV.val q1 s1.hr (.bl false) rfl
    | _ => exact q1.elim
theorem l_orV {a b : E} (σ : L2.St) (H : Hp) (Q : VK) (q : tE Z W (ev Γ G (.or a b)) σ H Q) : tOrV (tE Z W (ev Γ G a)) (tE Z W (ev Γ G b)) σ H Q := by
  obtain ⟨m, ρ, h, s, q⟩ := q
  simp only [ev] at q
  exact tE_bnd nbV s q fun x H1 m1 d h1 s1 x1 r1 n1 q1 => by
    cases d with
    | bl k =>
      cases r1
      refine ⟨k, rfl, ?_⟩
      cases k with
      | false => exact ⟨m1, ρ, h1, s1, q1⟩
      | true => exact PV.val q1 s1.hr (.bl true) rfl
    | _ => exact q1.elim
theorem l_andT {a b : E} (σ : L2.St) (H : Hp) (Q : Bool → Hp → Prop) (q : tT Z W (truF (ev Γ G (.and a b))) σ H Q) : tAnd (tT Z W (truF (ev Γ G a))) (tT Z W (truF (ev Γ G b))) σ H Q := by
  obtain ⟨m, ρ, h, s, q⟩ := q
  simp only [truF, ev, bnd_assoc] at q
  refine ⟨m, ρ, h, s, ?_⟩
  simp only [truF]
  cases e : ev Γ G a ρ h with
  | bad => rw [e] at q; exact q
  | ex c fs h1 => rw [e] at q; exact q
  | ok d h1 =>
    simp only [e, bnd_ok] at q ⊢
    cases d with
    | bl k =>
      intro v H' m' hr x c n
      have c : v = k := c
      subst c
      cases v with
      | true => exact ⟨m', ρ, h1, s.go hr x, Pst.rebase (fun {_ _} _ => trivial) x q⟩
      | false => exact q false H' m' hr x rfl trivial
    | _ => exact q.elim
theorem l_orT {a b : E} (σ : L2.St) (H : Hp) (Q : Bool → Hp → Prop) (q : tT Z W (truF (ev Γ G (.or a b))) σ H Q) : tOr (tT Z W (truF (ev Γ G a))) (tT Z W (truF (ev Γ G b))) σ H Q := by
  obtain ⟨m, ρ, h, s, q⟩ := q
  simp only [truF, ev, bnd_assoc] at q
  refine ⟨m, ρ, h, s, ?_⟩
  simp only [truF]
  cases e : ev Γ G a ρ h with
  | bad => rw [e] at q; exact q
  | ex c fs h1 => rw [e] at q; exact q
  | ok d h1 =>
    simp only [e, bnd_ok] at q ⊢
    cases d with
    | bl k =>
      intro v H' m' hr x c n
      have c : v = k := c
      subst c
      cases v with
      | false => exact ⟨m', ρ, h1, s.go hr x, Pst.rebase (fun {_ _} _ => trivial) x q⟩
      | true => exact q true H' m' hr x rfl trivial
    | _ => exact q.elim
theorem l_ife (g : Good T Z W Γ G X) {t a b : E} {xt xa xb : Expr} {p : Pos} (ht : PT X xt (tT Z W (truF (ev Γ G t)))) (ha : PE X xa (tE Z W (ev Γ G a))) (hb : PE X xb (tE Z W (ev Γ G b))) : PE X (.IfExp xt xa xb p) (tE Z W (ev Γ G (.ife t a b))) := by
  refine PE.of (pe_ifExp ht ha hb) fun σ H Q ⟨m, ρ, h, s, q⟩ => ?_
  simp only [ev] at q
  rw [← bnd_assoc] at q
  exact tT_bnd nbV s q fun k H1 m1 h1 s1 x1 q1 => by
    cases k with
    | true => exact ⟨m1, ρ, h1, s1, q1⟩
    | false => exact ⟨m1, ρ, h1, s1, q1⟩
end
end Mi

set_option Elab.async false
set_option linter.all false
set_option maxRecDepth 100000
/-! Mini: displays, places, calls. -/
namespace Mi
open PySem PySem.Spec PyProof.Rows L2
theorem meD_ex (h : Hm) (f : Me) (d : D) (ds : List D) (c : Str) (fs : List (Str × D)) (h3 : Hm) : meD h f d ds ≠ .ex c fs h3 := by
  intro e
  have op : ∀ {o : Option D} {h h3 : Hm}, opt o h ≠ .ex c fs h3 := fun {o h h3} e => by cases o <;> cases e
  unfold meD getD meL at e
  repeat' (split at e)
  all_goals try exact op e
  all_goals first | cases e | skip
section
variable {T : Tb} {Z : Wi} {W : WX} {Γ : Gm} {G : Nat → Option D} {X : Cx} {σ : L2.St} {m : List Addr} {H : Hp} {h : Hm} {ρ : Env}
theorem PV.fin' {h' : Hm} {d : D} {Q : VK} (p : PV Z W σ m H (.ok d h') Q) : FinM Z.K m H (.ok d h') Q := fun v H' m' a b c n => p v H' m' a b c n
theorem l_not' (g : Good T Z W Γ G X) {a : E} {xa : Expr} {p : Pos} (ha : PE X xa (tE Z W (ev Γ G a))) : PE X (.UnaryOp .Not xa p) (tE Z W (ev Γ G (.not a))) := by
  refine ⟨fun pins s σ H Q I h => ?_⟩
  obtain ⟨m, ρ, h, st, q⟩ := h
  simp only [ev] at q
  refine UnaryOp_ (thn (ha.run pins s σ H (fun x H1 => ∃ b, TruV X.K x H1 b ∧ Q (.bl (!b)) H1) I (tE_bnd nbV st q fun x H1 m1 d h1 s1 x1 r1 n1 q1 => ?_)) fun v s1 ⟨x, H1, I1, r1, b, tv, q1⟩ => ?_)
  · obtain ⟨z, e, q1⟩ := Pst.opt q1
    obtain ⟨b, e', rfl⟩ := Option.map_eq_some_iff.mp e
    exact ⟨b, by rw [g.k]; exact truth_view s1.hr r1 e', PV.val q1 s1.hr (.bl _) rfl⟩
  · exact not_of (thn (tru_ok pins s1 σ H1 x v (fun c H2 => Q (.bl (!c)) H2) I1 r1 ⟨b, tv, q1⟩) fun c s2 ⟨H2, I2, q2⟩ => ⟨.bl (!c), H2, I2, rfl, q2⟩)
theorem EnvR.more {K : PySem.W.Frag} {m m' : List Addr} {H : Hp} (e : EnvR K m H σ ρ) (kp : ∀ d v, D.st d = true → Rp K m H v d → Rp K m' H v d) : EnvR K m' H σ ρ :=
  ⟨e.len, fun i d q => let ⟨a, v, b, c⟩ := e.at_ i d q; ⟨a, v, b, kp d v a c⟩⟩
/-- .. and the value gets a place -/
theorem tE_own {β : Type} {γ : Type} {rel2 : List Addr → Hp → γ → β → Prop} {new2 : Hp → γ → β → Prop} {f : Env → Hm → R D} {k : D → Hm → R β} {Q : γ → Hp → Prop} {Q' : VK} (nb : ∀ {m' H' h'} , HRp Z.K m' H' h' → Ext m H m' H' → ∀ {v d}, new2 H' v d → new2 H v d) (s : StR Z.K m H h σ ρ) (p : Pst Z W σ rel2 new2 m H (bnd (f ρ h) fun d h => bnd (own d h) k) Q)
    (go : ∀ v H1 m1 d h1, StR Z.K m1 H1 h1 σ ρ → Ext m H m1 H1 → Rp Z.K m1 H1 v d → D.st d = true → Pst Z W σ rel2 new2 m1 H1 (k d h1) Q → Q' v H1) : tE Z W f σ H Q' := by
  refine ⟨m, ρ, h, s, ?_⟩
  cases e : f ρ h with
  | bad => rw [e] at p; exact p
  | ex c fs h1 => rw [e] at p; exact p
  | ok d h1 =>
    rw [e, bnd_ok] at p
    intro v H1 m1 hr x r n
    obtain ⟨m', d', h', eo, hr', xe', r', st', kp⟩ := PV.own hr x r n
    rw [eo, bnd_ok] at p
    exact go v H1 m' d' h' ⟨hr', (s.en.ext s.hr x).more fun d v a b => kp d v a b⟩ xe' r' st' (Pst.rebase (nb hr' xe') xe' p)
/-! ### lists of arguments -/
def RpLs (K : PySem.W.Frag) (m : List Addr) (H : Hp) (vs : List V) (ds : List D) : Prop := RpL K m H vs ds ∧ D.stL ds = true
def tAs (Z : Wi) (W : WX) (f : Env → Hm → R (List D)) : TA := fun σ H Q => ∃ m ρ h, StR Z.K m H h σ ρ ∧ Pst Z W σ (RpLs Z.K) (fun _ _ _ => True) m H (f ρ h) Q
def tAp (Z : Wi) (W : WX) (f : Env → Hm → R (List D)) : TA := fun σ H Q => ∃ m ρ h, StR Z.K m H h σ ρ ∧ Pst Z W σ (RpL Z.K) (fun _ _ _ => True) m H (f ρ h) Q
theorem nbT {β γ : Type} : ∀ {m' : List Addr} {H' : Hp} {h' : Hm}, HRp Z.K m' H' h' → Ext m H m' H' → ∀ {v : γ} {d : β}, (fun (_ : Hp) (_ : γ) (_ : β) => True) H' v d → (fun (_ : Hp) (_ : γ) (_ : β) => True) H v d := fun {_ _ _} _ _ {_ _} _ => trivial
theorem tAs_bnd {β : Type} {γ : Type} {rel2 : List Addr → Hp → γ → β → Prop} {new2 : Hp → γ → β → Prop} {f : Env → Hm → R (List D)} {k : List D → Hm → R β} {Q : γ → Hp → Prop} {Q' : List V → Hp → Prop} (nb : ∀ {m' H' h'} , HRp Z.K m' H' h' → Ext m H m' H' → ∀ {v d}, new2 H' v d → new2 H v d) (s : StR Z.K m H h σ ρ) (p : Pst Z W σ rel2 new2 m H (bnd (f ρ h) k) Q)
    (go : ∀ v H1 m1 d h1, StR Z.K m1 H1 h1 σ ρ → Ext m H m1 H1 → RpL Z.K m1 H1 v d → D.stL d = true → Pst Z W σ rel2 new2 m1 H1 (k d h1) Q → Q' v H1) : tAs Z W f σ H Q' :=
  ⟨m, ρ, h, s, Pst.mono (Pst.bnd nb p) fun v H1 ⟨m1, d, h1, _, a, b, c, n, q⟩ => go v H1 m1 d h1 (s.go a b) b c.1 c.2 q⟩
theorem tAp_bnd {β : Type} {γ : Type} {rel2 : List Addr → Hp → γ → β → Prop} {new2 : Hp → γ → β → Prop} {f : Env → Hm → R (List D)} {k : List D → Hm → R β} {Q : γ → Hp → Prop} {Q' : List V → Hp → Prop} (nb : ∀ {m' H' h'} , HRp Z.K m' H' h' → Ext m H m' H' → ∀ {v d}, new2 H' v d → new2 H v d) (s : StR Z.K m H h σ ρ) (p : Pst Z W σ rel2 new2 m H (bnd (f ρ h) k) Q)
    (go : ∀ v H1 m1 d h1, StR Z.K m1 H1 h1 σ ρ → Ext m H m1 H1 → RpL Z.K m1 H1 v d → Pst Z W σ rel2 new2 m1 H1 (k d h1) Q → Q' v H1) : tAp Z W f σ H Q' :=
  ⟨m, ρ, h, s, Pst.mono (Pst.bnd nb p) fun v H1 ⟨m1, d, h1, _, a, b, c, n, q⟩ => go v H1 m1 d h1 (s.go a b) b c q⟩
theorem a_nilL : PA X [] (tAs Z W (evs Γ G .nil)) := PA.of pa_nil fun σ H Q ⟨m, ρ, h, s, q⟩ => by simp only [evs] at q; exact q [] H m s.hr .refl ⟨.nil, rfl⟩ trivial
theorem a_nilP : PA X [] (tAp Z W (evp Γ G .nil)) := PA.of pa_nil fun σ H Q ⟨m, ρ, h, s, q⟩ => by simp only [evp] at q; exact q [] H m s.hr .refl .nil trivial
theorem a_consL {e : E} {es : Es} {x : Expr} {xs : List Expr} (hx : okH x = true) (he : PE X x (tE Z W (ev Γ G e))) (hs : PA X xs (tAs Z W (evs Γ G es))) : PA X (x :: xs) (tAs Z W (evs Γ G (.cons e es))) := by
  refine PA.of (pa_cons he hs (starEach_cons (okH_star hx))) fun σ H Q ⟨m, ρ, h, s, q⟩ => ?_
  simp only [evs] at q
  exact tE_own nbT s q fun v H1 m1 d h1 s1 x1 r1 st q1 => tAs_bnd nbT s1 q1 fun vs H2 m2 ds h2 s2 x2 r2 st2 q2 =>
    q2 (v :: vs) H2 m2 s2.hr .refl ⟨.cons (Rp.ext s1.hr x2 r1) r2, by simp [D.stL, st, st2]⟩ trivial
theorem a_consP {e : E} {es : Es} {x : Expr} {xs : List Expr} (hx : okH x = true) (he : PE X x (tE Z W (ev Γ G e))) (hs : PA X xs (tAp Z W (evp Γ G es))) : PA X (x :: xs) (tAp Z W (evp Γ G (.cons e es))) := by
  refine PA.of (pa_cons he hs (starEach_cons (okH_star hx))) fun σ H Q ⟨m, ρ, h, s, q⟩ => ?_
  simp only [evp] at q
  exact tE_bnd nbT s q fun v H1 m1 d h1 s1 x1 r1 n1 q1 => tAp_bnd nbT s1 q1 fun vs H2 m2 ds h2 s2 x2 r2 q2 =>
    q2 (v :: vs) H2 m2 s2.hr .refl (.cons (Rp.ext s1.hr x2 r1) r2) trivial
theorem l_tup (g : Good T Z W Γ G X) {es : Es} {xs : List Expr} {k : Nat} {p : Pos} (ha : PA X xs (tAs Z W (evs Γ G es))) : PE X (.Tuple xs k p) (tE Z W (ev Γ G (.tup es))) := by
  refine PE.of (pe_tupN ha) fun σ H Q ⟨m, ρ, h, s, q⟩ => ?_
  simp only [ev] at q
  exact tAs_bnd nbV s q fun vs H1 m1 ds h1 s1 x1 r1 st q1 => by
    obtain ⟨c, q1⟩ := Pst.gd q1
    exact ⟨by rw [r1.length]; exact of_decide_eq_true c, fun p o no hp => (PV.fin q1).tup s1.hr st r1 hp no⟩
theorem l_lst (g : Good T Z W Γ G X) {es : Es} {xs : List Expr} {p : Pos} (ha : PA X xs (tAs Z W (evs Γ G es))) : PE X (.List xs p) (tE Z W (ev Γ G (.lst es))) := by
  refine PE.of (pe_lst ha) fun σ H Q ⟨m, ρ, h, s, q⟩ => ?_
  simp only [ev] at q
  exact tAs_bnd nbV s q fun vs H1 m1 ds h1 s1 x1 r1 st q1 => by
    obtain ⟨c, q1⟩ := Pst.gd q1
    exact ⟨by rw [r1.length]; exact of_decide_eq_true c, fun p hp => (PV.fin q1).lst s1.hr st r1 hp⟩
theorem l_ix (g : Good T Z W Γ G X) {a b : E} {xa xb : Expr} {p : Pos} (hok : okH xb = true) (ha : PE X xa (tE Z W (ev Γ G a))) (hb : PE X xb (tE Z W (ev Γ G b))) : PE X (.Subscript xa xb p) (tE Z W (ev Γ G (.ix a b))) := by
  have ho : IxR X (rIx Z.K) := by rw [← g.k]; exact op_ix (by have := g.un; omega)
  refine PE.of (pe_ix ho ha hb (okH_ix hok)) fun σ H Q ⟨m, ρ, h, s, q⟩ => ?_
  simp only [ev] at q
  exact tE_bnd nbV s q fun x H1 m1 d h1 s1 x1 r1 n1 q1 => tE_bnd nbV s1 q1 fun y H2 m2 d2 h2 s2 x2 r2 n2 q2 => by
    obtain ⟨z, e, q2⟩ := Pst.opt q2
    exact ⟨m2, h2, d, d2, z, s2.hr, Rp.ext s1.hr x2 r1, r2, e, PV.fin q2⟩
/-- a slice's end -/
def tO (Z : Wi) (W : WX) (Γ : Gm) (G : Nat → Option D) : Oe → TO
  | .no => tNoPart
  | .so e => tPart (tE Z W (ev Γ G e))
theorem o_step {β : Type} {γ : Type} {rel2 : List Addr → Hp → γ → β → Prop} {new2 : Hp → γ → β → Prop} {o : Oe} {k : Option D → Hm → R β} {Q : γ → Hp → Prop} {Q' : Option Int → Hp → Prop} (nb : ∀ {m' H' h'} , HRp Z.K m' H' h' → Ext m H m' H' → ∀ {v d}, new2 H' v d → new2 H v d) (s : StR Z.K m H h σ ρ) (p : Pst Z W σ rel2 new2 m H (bnd (evO Γ G o ρ h) k) Q)
    (go : ∀ (i : Option Int) (d : Option D) H1 m1 h1, ixI d = some i → StR Z.K m1 H1 h1 σ ρ → Ext m H m1 H1 → Pst Z W σ rel2 new2 m1 H1 (k d h1) Q → Q' i H1) : tO Z W Γ G o σ H Q' := by
  cases o with
  | no => exact go none none H m h rfl s .refl (by simp only [evO, bnd_ok] at p; exact p)
  | so e =>
    simp only [evO, bnd_assoc] at p
    refine tE_bnd nb s p fun v H1 m1 d h1 s1 x1 r1 n1 q1 => ?_
    cases d with
    | int i =>
      cases r1
      exact ⟨i, rfl, go (some i) (some (.int i)) H1 m1 h1 rfl s1 x1 q1⟩
    | _ => exact q1.elim
theorem l_sl (g : Good T Z W Γ G X) {a : E} {lo hi : Oe} {xa : Expr} {xl xh : Option Expr} {p p2 : Pos} (ha : PE X xa (tE Z W (ev Γ G a))) (hl : PO X xl (tO Z W Γ G lo)) (hh : PO X xh (tO Z W Γ G hi)) : PE X (.Subscript xa (.Slice xl xh none p2) p) (tE Z W (ev Γ G (.sl a lo hi))) := by
  have ho : SlR X (rSl Z.K) := by rw [← g.k]; exact op_sl
  refine PE.of (pe_slice ho ha hl hh) fun σ H Q ⟨m, ρ, h, s, q⟩ => ?_
  simp only [ev] at q
  exact tE_bnd nbV s q fun x H1 m1 d h1 s1 x1 r1 n1 q1 => o_step nbV s1 q1 fun i di H2 m2 h2 e2 s2 x2 q2 => o_step nbV s2 q2 fun j dj H3 m3 h3 e3 s3 x3 q3 => by
    obtain ⟨z, e, q3⟩ := Pst.opt q3
    simp only [slD, e2, e3] at e
    exact ⟨m3, h3, d, z, s3.hr, Rp.ext s2.hr x3 (Rp.ext s1.hr x2 r1), e, PV.fin q3⟩
theorem l_rev (g : Good T Z W Γ G X) {a : E} {xa : Expr} {k : Nat} {p1 p2 p3 p : Pos} (ha : PE X xa (tE Z W (ev Γ G a))) : PE X (.Subscript xa (.Slice none none (some (.UnaryOp .USub (.Constant (.int 1) k p1) p2)) p3) p) (tE Z W (ev Γ G (.rev a))) := by
  refine PE.of (pe_revD ha) fun σ H Q ⟨m, ρ, h, s, q⟩ => ?_
  simp only [ev] at q
  unfold tRevD
  rw [g.k]
  exact tE_bnd nbV s q fun x H1 m1 d h1 s1 x1 r1 n1 q1 => by
    obtain ⟨z, e, q1⟩ := Pst.opt q1
    exact ⟨m1, h1, d, z, s1.hr, r1, e, PV.fin q1⟩
/-! ### calls -/
theorem XRp_id {E : XK} {cls : Value} {dx : Option Addr} : E cls dx = E cls dx := rfl
/-- a def is called -/
theorem spF_of {f : Nat} {n : Nat} {ds : List D} {vs : List V} {Q : VK} (r : HRp Z.K m H h) (q : RpL Z.K m H vs ds) (s : D.stL ds = true) (hn : vs.length = n) (p : PV Z W σ m H (Γ f ds h) Q) : spF Z (Γ f) n vs H Q (fun cls d H' => W cls d σ H') := by
  refine ⟨hn, m, h, ds, r, q, s, ?_⟩
  cases e : Γ f ds h with
  | bad => rw [e] at p; exact p
  | ex c fs h1 => rw [e] at p; exact p
  | ok d h1 =>
    rw [e] at p
    exact fun v H' m' a b c d => p v H' m' a b c (newV_st d)
theorem l_call (g : Good T Z W Γ G X) {f : Nat} {y : Str} {ps : List Str} {es : Es} {xs : List Expr} {p pos : Pos} (hf : T.fns[f]? = some (y, ps)) (hl : xs.length = ps.length) (hel : ∀ ρ h ds h', evs Γ G es ρ h = .ok ds h' → ds.length = xs.length) (hnil : xs = [] → es = .nil) (hg : Gl X y) (h1 : dbg y = false) (hst : xs.all noStar = true) (ha : PA X xs (tAs Z W (evs Γ G es))) :
    PE X (.Call (.Name y p) xs [] pos) (tE Z W (ev Γ G (.call f es))) := by
  obtain ⟨fa, fd, k, hm, hk, hr, F, hb, _⟩ := g.fns f y ps hf
  refine ⟨fun pins s σ H Q I ⟨m, ρ, h, st, q⟩ => ?_⟩
  simp only [ev] at q
  have tr : tAs Z W (evs Γ G es) σ H (fun vs H1 => vs.length = ps.length ∧ spF Z (Γ f) ps.length vs H1 Q (fun cls d H' => W cls d σ H')) := by
    refine ⟨m, ρ, h, st, Pst.mono (Pst.bnd nbV q) fun vs H1 ⟨m1, ds, h1, e1, a, b, c, n, q1⟩ => ?_⟩
    have hv : vs.length = ps.length := by rw [c.1.length, hel _ _ _ _ e1, hl]
    exact ⟨hv, spF_of a c.1 c.2 hv q1⟩
  refine wpAny_Call_Name_kw (ld_glob I hg hm ?_ h1)
  have run : ∀ {s1 : Shared} {H1 : Hp} {us : List Value} {vs : List V}, Inv X pins σ H1 s1 → Vals vs us → vs.length = ps.length ∧ spF Z (Γ f) ps.length vs H1 Q (fun cls d H' => W cls d σ H') → wpAny (model X.prog X.w) X.A (call (.ref fa) us) (EP X pins σ Q) X.xe s1 := fun I1 r ⟨hv, q1⟩ =>
    run_fnG F hr g.gd g.tk (hb _ _ (by rw [← r.length]; exact hv)) I1 r q1
  cases xs with
  | nil =>
    refine PySem.W.callWith_K0 I.kIn hk ?_
    refine run (us := []) I .nil ?_
    obtain ⟨m, ρ, h, st, q⟩ := tr
    have e := hnil rfl
    subst e
    simp only [evs] at q
    exact q [] H m st.hr .refl ⟨.nil, rfl⟩ trivial
  | cons x xs =>
    exact PySem.W.callWith_K (h₀ := X.base) I.ok.mod.kin hk (thn (ha.run pos pins s σ H _ I tr) fun us s1 ⟨vs, H1, I1, r, q⟩ => ⟨I1.kIn, run I1 r q⟩) (starEach_cons (by simp only [List.all_cons, Bool.and_eq_true] at hst; exact hst.1)) (backTo_plain (by simp only [List.all_cons, Bool.and_eq_true] at hst; exact hst.2))
theorem kwArg (kws : List Keyword) (env : PySem.Env) (pos : Pos) : (backToKw pos (keywordEach kws env)).map (·.1) = kws.map (·.arg) := by
  induction kws with
  | nil => rfl
  | cons k r ih =>
    obtain ⟨a, b, c⟩ := k
    have : (backToKw pos (keywordEach (⟨a, b, c⟩ :: r) env)).map (·.1) = a :: (backToKw pos (keywordEach r env)).map (·.1) := rfl
    rw [this, ih]; rfl
theorem kwAll {kws : List Keyword} {env : PySem.Env} {pos : Pos} (h : kws.all (fun k => k.arg.isSome) = true) : (backToKw pos (keywordEach kws env)).all (·.1.isSome) = true ∧ (backToKw pos (keywordEach kws env)).any (·.1.isNone) = false ∧ (backToKw pos (keywordEach kws env)).filterMap (·.1) = kws.filterMap (·.arg) := by
  have e := kwArg kws env pos
  refine ⟨?_, ?_, ?_⟩
  · have : ((backToKw pos (keywordEach kws env)).map (·.1)).all (·.isSome) = true := by rw [e, List.all_map]; exact h
    rwa [List.all_map] at this
  · have : ((backToKw pos (keywordEach kws env)).map (·.1)).any (·.isNone) = false := by
      rw [e, List.any_map]
      rw [List.any_eq_false]
      intro k hk
      rw [List.all_eq_true] at h
      have := h k hk
      simp only [Function.comp]
      cases q : k.arg with
      | none => rw [q] at this; cases this
      | some _ => simp
    rwa [List.any_map] at this
  · have : ((backToKw pos (keywordEach kws env)).map (·.1)).filterMap id = (kws.map (·.arg)).filterMap id := by rw [e]
    simpa [List.filterMap_map, Function.comp] using this
theorem PK.of {kws : List Keyword} {t t' : TA} (p : PK X kws t) (h : ∀ σ H Q, t' σ H Q → t σ H Q) : PK X kws t' := ⟨fun pos pins s σ H Q I q => p.run pos pins s σ H Q I (h σ H Q q)⟩
theorem k_nil : PK X [] (tAs Z W (evs Γ G .nil)) := PK.of pk_nil fun σ H Q ⟨m, ρ, h, s, q⟩ => by simp only [evs] at q; exact q [] H m s.hr .refl ⟨.nil, rfl⟩ trivial
theorem k_cons {e : E} {es : Es} {x : Expr} {nm : Option Str} {kp : Pos} {xs : List Keyword} (he : PE X x (tE Z W (ev Γ G e))) (hs : PK X xs (tAs Z W (evs Γ G es))) : PK X (⟨nm, x, kp⟩ :: xs) (tAs Z W (evs Γ G (.cons e es))) := by
  refine PK.of (pk_cons he hs) fun σ H Q ⟨m, ρ, h, s, q⟩ => ?_
  simp only [evs] at q
  exact tE_own nbT s q fun v H1 m1 d h1 s1 x1 r1 st q1 => tAs_bnd nbT s1 q1 fun vs H2 m2 ds h2 s2 x2 r2 st2 q2 =>
    q2 (v :: vs) H2 m2 s2.hr .refl ⟨.cons (Rp.ext s1.hr x2 r1) r2, by simp [D.stL, st, st2]⟩ trivial
theorem Vals.append' {vs : List V} {us : List Value} {zs : List V} {ws : List Value} (r : Vals vs us) (q : Vals zs ws) : Vals (vs ++ zs) (us ++ ws) := by
  induction r with
  | nil => exact q
  | cons a t ih => exact .cons a ih
theorem l_callk (g : Good T Z W Γ G X) {f : Nat} {y : Str} {ps ks : List Str} {pm : List Nat} {es kes : Es} {xs : List Expr} {kws : List Keyword} {p pos : Pos} (hf : T.fns[f]? = some (y, ps)) (hkw : (f, xs.length, ks, pm) ∈ T.kws) (hks : kws.filterMap (·.arg) = ks) (hsome : kws.all (fun k => k.arg.isSome) = true)
    (hel : ∀ ρ h ds h', evs Γ G es ρ h = .ok ds h' → ds.length = xs.length) (hek : ∀ ρ h ds h', evs Γ G kes ρ h = .ok ds h' → ds.length = kws.length) (hnil : xs = [] → es = .nil) (hg : Gl X y) (h1 : dbg y = false) (hst : xs.all noStar = true) (ha : PA X xs (tAs Z W (evs Γ G es))) (hk2 : PK X kws (tAs Z W (evs Γ G kes))) :
    PE X (.Call (.Name y p) xs kws pos) (tE Z W (ev Γ G (.callk f es kes pm))) := by
  obtain ⟨fa, fd, k, hm, hk, hr, F, _, hB⟩ := g.fns f y ps hf
  obtain ⟨pl, pj, hb⟩ := hB _ _ _ hkw
  have hkl : ks.length = kws.length := by
    subst hks
    clear hek hk2 hkw pj hb
    induction kws with
    | nil => rfl
    | cons k r ih =>
      simp only [List.all_cons, Bool.and_eq_true] at hsome
      obtain ⟨a, ea⟩ := Option.isSome_iff_exists.mp hsome.1
      rw [List.filterMap_cons, ea, List.length_cons, List.length_cons, ih hsome.2]
  obtain ⟨c1, c2, c3⟩ := kwAll (env := X.env) (pos := pos) hsome
  refine ⟨fun pins s σ H Q I ⟨m, ρ, h, st, q⟩ => ?_⟩
  simp only [ev] at q
  have tr : tAs Z W (evs Γ G es) σ H (fun vs H1 => vs.length = xs.length ∧ tAs Z W (evs Γ G kes) σ H1 fun zs H2 => zs.length = kws.length ∧ spF Z (Γ f) ps.length (pm.map fun j => (vs ++ zs).getD j .non) H2 Q (fun cls d H' => W cls d σ H')) := by
    refine ⟨m, ρ, h, st, Pst.mono (Pst.bnd nbV q) fun vs H1 ⟨m1, ds, h1, e1, a, b, c, n, q1⟩ => ?_⟩
    have hv : vs.length = xs.length := by rw [c.1.length, hel _ _ _ _ e1]
    refine ⟨hv, m1, ρ, h1, st.go a b, Pst.mono (Pst.bnd nbV q1) fun zs H2 ⟨m2, es2, h2, e2, a2, b2, cc2, n2, q2⟩ => ?_⟩
    have hz : zs.length = kws.length := by rw [cc2.1.length, hek _ _ _ _ e2]
    have rr := (RpL.ext a b2 c.1).append cc2.1
    have hj : ∀ j ∈ pm, j < (ds ++ es2).length := fun j hj => by rw [← rr.length, List.length_append, hv, hz, ← hkl]; exact pj j hj
    exact ⟨hz, spF_of a2 (rr.pick pm hj) (stL_pick (by rw [stL_append, c.2, cc2.2]; rfl) pm hj) (by rw [List.length_map, pl]) q2⟩
  refine wpAny_Call_Name_kw (ld_glob I hg hm ?_ h1)
  have run : ∀ {s2 : Shared} {H2 : Hp} {us : List Value} {vs : List V} {ws : List Value} {zs : List V}, Inv X pins σ H2 s2 → Vals vs us → Vals zs ws → vs.length = xs.length → zs.length = kws.length ∧ spF Z (Γ f) ps.length (pm.map fun j => (vs ++ zs).getD j .non) H2 Q (fun cls d H' => W cls d σ H') → wpAny (model X.prog X.w) X.A (call (.ref fa) us (ks.zip ws)) (EP X pins σ Q) X.xe s2 := fun {s2 H2 us vs ws zs} I1 r rz hv ⟨hz, q1⟩ => by
    have l1 : us.length = xs.length := by rw [← r.length, hv]
    have l2 : ws.length = ks.length := by rw [← rz.length, hz, hkl]
    exact run_fnG F hr g.gd g.tk (hb _ us ws l1 l2) I1 (Vals.pick (Vals.append' r rz) pm fun j hj => by rw [List.length_append, l1, l2]; exact pj j hj) q1
  cases xs with
  | nil =>
    have e := hnil rfl
    subst e
    obtain ⟨m, ρ, h, st, q⟩ := tr
    simp only [evs] at q
    obtain ⟨_, q⟩ := q [] H m st.hr .refl ⟨.nil, rfl⟩ trivial
    refine PySem.W.callWith_KW0 (h₀ := X.base) I.ok.mod.kin hk c1 (thn (hk2.run pos pins s σ H _ I q) fun ws s2 ⟨zs, H2, I2, rz, q2⟩ => ⟨I2.kIn, ?_⟩) c2
    rw [c3, hks]
    exact run (us := []) (vs := []) I2 .nil rz rfl q2
  | cons x xs =>
    simp only [List.all_cons, Bool.and_eq_true] at hst
    have hs1 : starEach (x :: xs) X.env = (false, eval x X.env) :: starEach xs X.env := starEach_cons hst.1
    refine PySem.W.callWith_KW (h₀ := X.base) I.ok.mod.kin hk c1 (thn (ha.run pos pins s σ H _ I tr) fun us s1 ⟨vs, H1, I1, r, hv, q⟩ => ?_) (by rw [c2, Bool.or_false]; exact backTo_plain (by simp only [List.all_cons, Bool.and_eq_true]; exact hst)) hs1
    refine thn (hk2.run pos pins s1 σ H1 _ I1 q) fun ws s2 ⟨zs, H2, I2, rz, q2⟩ => ⟨I2.kIn, ?_⟩
    rw [c3, hks]
    exact run I2 r rz hv q2
theorem l_bi (g : Good T Z W Γ G X) {f : Bi} {y : Str} {es : Es} {xs : List Expr} {p pos : Pos} (hb : biName f = some y) (hl : 0 < xs.length) (hg : Gl X y) (hm : X.mg y = none) (hst : xs.all noStar = true) (ha : PA X xs (tAp Z W (evp Γ G es))) :
    PE X (.Call (.Name y p) xs [] pos) (tE Z W (ev Γ G (.bi f es))) := by
  cases xs with
  | nil => simp at hl
  | cons x xs =>
    simp only [List.all_cons, Bool.and_eq_true] at hst
    have h1 : starEach (x :: xs) X.env = (false, eval x X.env) :: starEach xs X.env := starEach_cons hst.1
    have h2 : (backTo pos (starEach xs X.env)).any (·.1) = false := backTo_plain hst.2
    have fin : PE X (.Call (.Name y p) (x :: xs) [] pos) (tCB (rBi X.K f) (tAp Z W (evp Γ G es))) → PE X (.Call (.Name y p) (x :: xs) [] pos) (tE Z W (ev Γ G (.bi f es))) := fun pp => PE.of pp fun σ H Q ⟨m, ρ, h, s, q⟩ => by
      simp only [ev] at q
      exact tAp_bnd nbV s q fun vs H1 m1 ds h1 s1 x1 r1 q1 => by
        obtain ⟨z, e, q1⟩ := Pst.opt q1
        rw [g.k]
        exact ⟨m1, h1, ds, z, s1.hr, r1, e, PV.fin q1⟩
    have cb := call_bi (X := X) g.calm g.gd g.un f
    cases f with
    | len => cases hb; exact fin (pe_callB cb hg hm boot_len ha (by decide) (by decide) h1 h2)
    | abs => cases hb; exact fin (pe_callB cb hg hm boot_abs ha (by decide) (by decide) h1 h2)
    | int => cases hb; exact fin (pe_callTy cb hg hm (by decide +kernel) ha (by decide) (by decide) h1 h2)
    | str => cases hb; exact fin (pe_callTy cb hg hm (by decide +kernel) ha (by decide) (by decide) h1 h2)
    | repr => cases hb; exact fin (pe_callB cb hg hm (by decide +kernel) ha (by decide) (by decide) h1 h2)
    | tuple => cases hb; exact fin (pe_callTy cb hg hm (by decide +kernel) ha (by decide) (by decide) h1 h2)
    | list => cases hb; exact fin (pe_callTy cb hg hm (by decide +kernel) ha (by decide) (by decide) h1 h2)
    | sum => cases hb; exact fin (pe_callB cb hg hm (by decide +kernel) ha (by decide) (by decide) h1 h2)
    | all => cases hb; exact fin (pe_callB cb hg hm (by decide +kernel) ha (by decide) (by decide) h1 h2)
    | sorted => cases hb; exact fin (pe_callB cb hg hm (by decide +kernel) ha (by decide) (by decide) h1 h2)
    | max => cases hb; exact fin (pe_callB cb hg hm (by decide +kernel) ha (by decide) (by decide) h1 h2)
    | min => cases hb; exact fin (pe_callB cb hg hm (by decide +kernel) ha (by decide) (by decide) h1 h2)
    | lend => cases hb; exact fin (pe_callB cb hg hm boot_len ha (by decide) (by decide) h1 h2)
    | sumt => cases hb; exact fin (pe_callB cb hg hm (by decide +kernel) ha (by decide) (by decide) h1 h2)
    | _ => simp [biName] at hb
theorem l_isi (g : Good T Z W Γ G X) {f : Bi} {t : Str} {e : E} {xa : Expr} {p p2 pos : Pos} (hb : isName f = some t) (hok : okH xa = true) (hg : Gl X "isinstance") (hm : X.mg "isinstance" = none) (hg2 : Gl X t) (hm2 : X.mg t = none) (he : PE X xa (tE Z W (ev Γ G e))) :
    PE X (.Call (.Name "isinstance" p) [xa, .Name t p2] [] pos) (tE Z W (ev Γ G (.bi f (.cons e .nil)))) := by
  have h1 : starEach [xa, .Name t p2] X.env = (false, eval xa X.env) :: starEach [.Name t p2] X.env := starEach_cons (okH_star hok)
  have two : ∀ n : String, PE X (.Name t p2) (tC (.ty n)) → PA X [xa, .Name t p2] (tCons (tE Z W (ev Γ G e)) (tCons (tC (.ty n)) tNil)) := fun n hn => pa_cons he (pa_cons hn pa_nil) h1
  have fin : ∀ (n : String) (is : D → Bool), (∀ h d, bi1 h f d = some (.bl (is d))) → (∀ {m H h d v}, HRp X.K m H h → Rp X.K m H v d → ∃ tt, TyX X.K H v (.type tt) ∧ kitB tt n = some (is d)) → PE X (.Name t p2) (tC (.ty n)) → PE X (.Call (.Name "isinstance" p) [xa, .Name t p2] [] pos) (tE Z W (ev Γ G (.bi f (.cons e .nil)))) := fun n is hbi hty hn => by
    refine PE.of (pe_callB call_isi hg hm PyProof.Rows.boot_isinstance (two n hn) (by decide) (by decide) h1 rfl) fun σ H Q ⟨m, ρ, h, s, q⟩ => ?_
    simp only [ev, evp, bnd_assoc, bnd_ok] at q
    exact tE_bnd nbV s q fun v H1 m1 d h2 s1 x1 r1 n1 q1 => by
      have e2 : biD h2 f [d] = some (.bl (is d)) := hbi h2 d
      rw [e2, opt_some] at q1
      obtain ⟨tt, ty, kk⟩ := hty (by rw [g.k]; exact s1.hr) (by rw [g.k]; exact r1)
      exact ⟨v, .ty n, .type tt, .type n, is d, rfl, .ty n, ty, kit_ty kk, PV.val q1 s1.hr (.bl _) rfl⟩
  cases f with
  | isTuple => cases hb; exact fin "tuple" isTup (fun _ _ => rfl) (fun r q => let ⟨tt, a, b, c, d, e⟩ := ty_view r q; ⟨tt, a, b⟩) (pe_bltn hg2 hm2 (by decide +kernel) rfl)
  | isInt => cases hb; exact fin "int" isIn (fun _ _ => rfl) (fun r q => let ⟨tt, a, b, c, d, e⟩ := ty_view r q; ⟨tt, a, c⟩) (pe_bltn hg2 hm2 (by decide +kernel) rfl)
  | isStr => cases hb; exact fin "str" isSt (fun _ _ => rfl) (fun r q => let ⟨tt, a, b, c, d, e⟩ := ty_view r q; ⟨tt, a, d⟩) (pe_bltn hg2 hm2 (by decide +kernel) rfl)
  | isBool => cases hb; exact fin "bool" isBl (fun _ _ => rfl) (fun r q => let ⟨tt, a, b, c, d, e⟩ := ty_view r q; ⟨tt, a, e⟩) (pe_bltn hg2 hm2 (by decide +kernel) rfl)
  | _ => simp [isName] at hb
/-! ### list(range(..)) -/
theorem upto_ints : ∀ (n : Nat) (s : Int), upto s n = ((List.range n).map fun i : Nat => s + (i : Int)).map .int
  | 0, s => rfl
  | n + 1, s => by
    rw [upto, upto_ints n (s + 1), List.range_succ_eq_map]
    simp only [List.map_cons, List.map_map]
    congr 1
    · simp
    · refine List.map_congr_left fun i _ => ?_
      simp only [Function.comp]
      congr 1; push_cast; omega
theorem lrg_fin {K : PySem.W.Frag} {a b : Int} {z : D} {Q : VK} (hr : HRp K m H h) (e : lrg a b = some z) (fin : Fin1 K m H h z Q) : RgOk a b ∧ ∀ q, H q = none → Q (.ref q) (upd H q (.lst (rgV a b))) := by
  unfold lrg at e
  split at e
  · rename_i c
    cases e
    obtain ⟨c1, c2, c3⟩ := c
    refine ⟨⟨by omega, by omega, by omega, by omega, c3⟩, fun q hq => ?_⟩
    rw [upto_ints] at fin
    have e2 : rgV a b = ((List.range (b - a).toNat).map fun i : Nat => a + (i : Int)).map V.int := by unfold rgV; rw [List.map_map]; rfl
    rw [e2]
    exact fin.lst hr (stL_ofInts _) (rpL_ofInts _) hq
  · cases e
theorem bi_lrange1 {h : Hm} {d z : D} (e : biD h .lrange [d] = some z) : ∃ n, d = .int n ∧ lrg 0 n = some z := by
  cases d <;> first | exact ⟨_, rfl, e⟩ | (simp [biD, bi1] at e)
theorem bi_lrange2 {h : Hm} {d e z : D} (eq : biD h .lrange [d, e] = some z) : ∃ a b, d = .int a ∧ e = .int b ∧ lrg a b = some z := by
  unfold biD at eq
  split at eq
  · rename_i e1; simp at e1
  · rename_i i j e1
    simp only [List.cons.injEq, and_true] at e1
    obtain ⟨rfl, rfl⟩ := e1
    exact ⟨_, _, rfl, rfl, eq⟩
  · cases eq
theorem l_lrange1 (g : Good T Z W Γ G X) {e : E} {xa : Expr} {p p2 pos pos2 : Pos} (hok : okH xa = true) (hg : Gl X "list") (hm : X.mg "list" = none) (hg2 : Gl X "range") (hm2 : X.mg "range" = none) (he : PE X xa (tE Z W (ev Γ G e))) :
    PE X (.Call (.Name "list" p) [.Call (.Name "range" p2) [xa] [] pos2] [] pos) (tE Z W (ev Γ G (.bi .lrange (.cons e .nil)))) := by
  refine PE.of (pe_listRg g.calm hg hm (prg_1 hg2 hm2 he (starEach_cons (okH_star hok)))) fun σ H Q ⟨m, ρ, h, s, q⟩ => ?_
  simp only [ev, evp, bnd_assoc, bnd_ok] at q
  exact tE_bnd nbV s q fun v H1 m1 d h1 s1 x1 r1 n1 q1 => by
    obtain ⟨z, e1, q9⟩ := Pst.opt q1
    obtain ⟨n, rfl, e2⟩ := bi_lrange1 e1
    cases r1
    exact ⟨n, rfl, lrg_fin s1.hr e2 (PV.fin q9)⟩
def tTupRgN (te : L2.St → Hp → (Int → Int → Hp → Prop) → Prop) : TE := fun σ H Q => te σ H fun a b H1 => RgOk a b ∧ ∀ q o, o.dict = none → H1 q = none → Q (.ref q) (upd H1 q (.frz o (.tup (rgV a b))))
theorem pe_tupRgN {X : Cx} {e : Expr} {te : L2.St → Hp → (Int → Int → Hp → Prop) → Prop} {p pos : Pos} (hc : X.calm = true) (hg : Gl X "tuple") (hm : X.mg "tuple" = none) (he : PRg X e te) (na : starEach [e] X.env = (false, eval e X.env) :: starEach [] X.env := by rfl) : PE X (.Call (.Name "tuple" p) [e] [] pos) (tTupRgN te) := by
  refine ⟨fun pins s σ H Q I h => ?_⟩
  refine Call_ (ld_blt I hg hm boot_tuple (PyProof.Rows.callWith_type1 (args_cons (thn (he pins s σ H _ I h) fun x s1 ⟨r, a, b, t, u, v, H1, ex, hr, I1, ok, q⟩ => args_nil ?_) na) na))
  subst ex
  obtain ⟨b1, b2, b3, b4, b5⟩ := ok
  refine call_tuple_range (n := (b - a).toNat) (I1.ok.hd hc) hr (small_one b1 b2 b3 b4) (rangeSize_nat a b) b5 fun h' tk acc hk hi => ?_
  have I2 : Inv X pins σ H1 { s1 with heap := h', toks := tk } := I1.kept hk
  refine ⟨.ref h'.objs.size, _, I2.laid (t' := tk) (o := .frz (tupO acc.toList.toArray) (.tup (rgV a b))) (fun c o e => Heap.get?_push_of_some _ e) (Nat.le_refl _) ?_, rfl, q _ _ rfl (I2.hok.fresh (Nat.le_refl _))⟩
  have e0 : acc.toList.toArray = acc := Array.toArray_toList
  rw [e0]
  exact ⟨Heap.get?_push_size _ rfl, by rw [rgV_length, sizeLine_eq]; omega, acc.toList, vals_rg hi, by rw [e0]; exact IsTup.new _ _⟩
theorem trg_fin {K : PySem.W.Frag} {a b : Int} {ds : List D} {Q : VK} (hr : HRp K m H h) (e : lrg a b = some (.lv ds)) (fin : Fin1 K m H h (.tup ds) Q) : RgOk a b ∧ ∀ q o, o.dict = none → H q = none → Q (.ref q) (upd H q (.frz o (.tup (rgV a b)))) := by
  unfold lrg at e
  split at e
  · rename_i c
    cases e
    obtain ⟨c1, c2, c3⟩ := c
    refine ⟨⟨by omega, by omega, by omega, by omega, c3⟩, fun q o no hq => ?_⟩
    rw [upto_ints] at fin
    have e2 : rgV a b = ((List.range (b - a).toNat).map fun i : Nat => a + (i : Int)).map V.int := by unfold rgV; rw [List.map_map]; rfl
    rw [e2]
    exact fin.tup hr (stL_ofInts _) (rpL_ofInts _) hq no
  · cases e
theorem bi_trange {h : Hm} {d z : D} (e : biD h .trange [d] = some z) : ∃ n ds, d = .int n ∧ lrg 0 n = some (.lv ds) ∧ z = .tup ds := by
  have e : bi1 h .trange d = some z := e
  cases d with
  | int n =>
    simp only [bi1] at e
    split at e
    · rename_i ds el
      cases e
      exact ⟨n, ds, rfl, el, rfl⟩
    · cases e
  | _ => simp [bi1] at e
theorem l_trange (g : Good T Z W Γ G X) {e : E} {xa : Expr} {p p2 pos pos2 : Pos} (hok : okH xa = true) (hg : Gl X "tuple") (hm : X.mg "tuple" = none) (hg2 : Gl X "range") (hm2 : X.mg "range" = none) (he : PE X xa (tE Z W (ev Γ G e))) :
    PE X (.Call (.Name "tuple" p) [.Call (.Name "range" p2) [xa] [] pos2] [] pos) (tE Z W (ev Γ G (.bi .trange (.cons e .nil)))) := by
  refine PE.of (pe_tupRgN g.calm hg hm (prg_1 hg2 hm2 he (starEach_cons (okH_star hok)))) fun σ H Q ⟨m, ρ, h, s, q⟩ => ?_
  simp only [ev, evp, bnd_assoc, bnd_ok] at q
  exact tE_bnd nbV s q fun v H1 m1 d h1 s1 x1 r1 n1 q1 => by
    obtain ⟨z, e1, q9⟩ := Pst.opt q1
    obtain ⟨n, ds, rfl, e2, rfl⟩ := bi_trange e1
    cases r1
    exact ⟨n, rfl, trg_fin s1.hr e2 (PV.fin q9)⟩
theorem l_lrange2 (g : Good T Z W Γ G X) {e e' : E} {xa xb : Expr} {p p2 pos pos2 : Pos} (hok : okH xa = true) (hok2 : okH xb = true) (hg : Gl X "list") (hm : X.mg "list" = none) (hg2 : Gl X "range") (hm2 : X.mg "range" = none) (he : PE X xa (tE Z W (ev Γ G e))) (he2 : PE X xb (tE Z W (ev Γ G e'))) :
    PE X (.Call (.Name "list" p) [.Call (.Name "range" p2) [xa, xb] [] pos2] [] pos) (tE Z W (ev Γ G (.bi .lrange (.cons e (.cons e' .nil))))) := by
  refine PE.of (pe_listRg g.calm hg hm (prg_2 hg2 hm2 he he2 (starEach_cons (okH_star hok)) (starEach_cons (okH_star hok2)) (backTo_plain (by simp [okH_star hok2])))) fun σ H Q ⟨m, ρ, h, s, q⟩ => ?_
  simp only [ev, evp, bnd_assoc, bnd_ok] at q
  exact tE_bnd nbV s q fun v H1 m1 d h1 s1 x1 r1 n1 q1 => tE_bnd nbV s1 q1 fun v2 H2 m2 d2 h2 s2 x2 r2 n2 q2 => by
    obtain ⟨z, e1, q9⟩ := Pst.opt q2
    obtain ⟨a, b, rfl, rfl, e2⟩ := bi_lrange2 e1
    cases r1
    cases r2
    exact ⟨a, b, rfl, rfl, lrg_fin s2.hr e2 (PV.fin q9)⟩
/-! ### methods -/
theorem l_meU (un : X.A.units + 65 < cLine) (k : X.K = Z.K) {f : Me} {nm : Str} {o : E} {es : Es} {xo : Expr} {xs : List Expr} {apos cpos : Pos} (hf : meName f = some nm) (hs : notSuper xo = true) (hl : xs.length < 29) (hline : (apos.endLine == cpos.line) = true) (hst : xs.all noStar = true) (ho : PE X xo (tE Z W (ev Γ G o)))
    (ha : PA X xs (tAs Z W (evs Γ G es))) (hp : PA X xs (tAp Z W (evp Γ G es))) : PE X (.Call (.Attribute xo nm apos) xs [] cpos) (tE Z W (ev Γ G (.me f o es))) := by
  have hr := fun pins s σ H x v I rx h0 => pe_meR (X := X) un f pins s σ H x v I rx h0 nm hf
  cases e : f.owns with
  | true =>
    refine PE.of (pe_late ho ha hst hl hs hline hr) fun σ H Q ⟨m, ρ, h, s, q⟩ => ?_
    simp only [ev, e, if_true] at q
    exact tE_bnd nbV s q fun x H1 m1 d h1 s1 x1 r1 n1 q1 => by
      obtain ⟨ok, q1⟩ := Pst.gd q1
      refine ⟨⟨m1, h1, d, by rw [k]; exact s1.hr, by rw [k]; exact r1, ok⟩, tAs_bnd nbV s1 q1 fun vs H2 m2 ds h2 s2 x2 r2 st2 q2 => ?_⟩
      rw [k]
      refine ⟨m2, h2, d, ds, s2.hr, Rp.ext s1.hr x2 r1, r2, fun _ => st2, ?_⟩
      cases eq : meD h2 f d ds with
      | ok z h3 => rw [eq] at q2; exact PV.fin' q2
      | ex c fs h3 => exact absurd eq (meD_ex h2 f d ds c fs h3)
      | bad => rw [eq] at q2; exact q2
  | false =>
    refine PE.of (pe_late ho hp hst hl hs hline hr) fun σ H Q ⟨m, ρ, h, s, q⟩ => ?_
    simp only [ev, e, Bool.false_eq_true, if_false] at q
    exact tE_bnd nbV s q fun x H1 m1 d h1 s1 x1 r1 n1 q1 => by
      obtain ⟨ok, q1⟩ := Pst.gd q1
      refine ⟨⟨m1, h1, d, by rw [k]; exact s1.hr, by rw [k]; exact r1, ok⟩, tAp_bnd nbV s1 q1 fun vs H2 m2 ds h2 s2 x2 r2 q2 => ?_⟩
      rw [k]
      refine ⟨m2, h2, d, ds, s2.hr, Rp.ext s1.hr x2 r1, r2, (fun z => by rw [e] at z; cases z), ?_⟩
      cases eq : meD h2 f d ds with
      | ok z h3 => rw [eq] at q2; exact PV.fin' q2
      | ex c fs h3 => exact absurd eq (meD_ex h2 f d ds c fs h3)
      | bad => rw [eq] at q2; exact q2
theorem l_me (g : Good T Z W Γ G X) {f : Me} {nm : Str} {o : E} {es : Es} {xo : Expr} {xs : List Expr} {apos cpos : Pos} (hf : meName f = some nm) (hs : notSuper xo = true) (hl : xs.length < 29) (hline : (apos.endLine == cpos.line) = true) (hst : xs.all noStar = true) (ho : PE X xo (tE Z W (ev Γ G o)))
    (ha : PA X xs (tAs Z W (evs Γ G es))) (hp : PA X xs (tAp Z W (evp Γ G es))) : PE X (.Call (.Attribute xo nm apos) xs [] cpos) (tE Z W (ev Γ G (.me f o es))) := l_meU g.un g.k hf hs hl hline hst ho ha hp
end
end Mi

set_option Elab.async false
set_option linter.all false
set_option maxRecDepth 100000
/-! Mini: enumerate of a tuple. -/
namespace Mi
open PySem PySem.Spec PyProof.Rows L2
theorem enT_new (t : Addr) (items : Array Value) :
    Meets (Builtin.«enumerate.__new__» ⟨[.type "enumerate", .ref t], []⟩) (fun _ R s => s.heap.IsTuple t items ∧
      R (.ok (.ret (.ref (s.heap.push { cls := .type "tuple_iterator", data := .fields #[.ref t, .int 0 0] }).objs.size)))
        { s with heap := (s.heap.push { cls := .type "tuple_iterator", data := .fields #[.ref t, .int 0 0] }).push { cls := .type "enumerate", data := .fields #[.none, .bool false, .ref s.heap.objs.size, rawInt 0, .none, .none] } }) :=
  .of_wp fun prog w A R s hyp => by
    obtain ⟨hp, gs, dr, tk, os⟩ := s
    obtain ⟨hT, fin⟩ := hyp
    have sb := sub_enumerate
    have it : ∀ {A' : Around} {E : Value → Shared → Prop} {Q : Value → Shared → Prop}, Q (.ref hp.objs.size) ⟨hp.push { cls := .type "tuple_iterator", data := .fields #[.ref t, .int 0 0] }, gs, dr, tk, os⟩ → wpAny (model prog w) A' (pyIter (.ref t)) Q E ⟨hp, gs, dr, tk, os⟩ :=
      fun q => (begins_tuple t items).iter prog w _ _ ⟨hp, gs, dr, tk, os⟩ _ hT q
    wp_walk using it
    refine wpAny_stack_any fun _ => wpAny_pure ?_
    split
    · rename_i k _ _ _ _ _
      cases (k == Value.type "enumerate") <;> (wp_walk using it; exact ⟨_, rfl, fin⟩)
    · (wp_walk using it; exact ⟨_, rfl, fin⟩)
section
variable {prog : Program} {w : World} {A : Around} {E : Value → Shared → Prop} {s : Shared}
theorem call_enT {t : Addr} {items : Array Value} {Q : Value → Shared → Prop} (hT : s.heap.IsTuple t items)
    (fin : ∀ h', IsEnum h' (s.heap.objs.size + 1) s.heap.objs.size 0 .none → h'.IsTupleIter s.heap.objs.size t 0 →
      (∀ b o, s.heap.get? b = some o → h'.get? b = some o) → Q (.ref (s.heap.objs.size + 1)) { s with heap := h' }) :
    wpAny (model prog w) A (call (.type "enumerate") [.ref t]) Q E s := by
  refine callType_new F.called_enumerate (by decide) (F.typeCall_enumerate_1 _) (F.newCall_enumerate_1 _) (fun obj => F.args_object_init_2 obj _) F.entry_enumerate_new (enT_new t items) ⟨hT, ?_⟩
  have sz : (s.heap.push { cls := .type "tuple_iterator", data := .fields #[.ref t, .int 0 0] }).objs.size = s.heap.objs.size + 1 := Heap.size_push ..
  have en := Heap.get?_push_size (s.heap.push { cls := .type "tuple_iterator", data := .fields #[.ref t, .int 0 0] }) (o := { cls := .type "enumerate", data := .fields #[.none, .bool false, .ref s.heap.objs.size, rawInt 0, .none, .none] }) rfl
  rw [sz] at en
  show _ ∧ _
  rw [sz]
  exact ⟨⟨_, en, rfl⟩, fin _ en ⟨_, Heap.get?_push_of_some _ (Heap.get?_push_size _ rfl), rfl, rfl⟩ fun b o x => Heap.get?_push_of_some _ (Heap.get?_push_of_some _ x)⟩
theorem enT_end {e it t : Addr} {i : Nat} {items : Array Value} {old : Value} {Q : Option Value → Shared → Prop} (hh : A.handled = none) (he : IsEnum s.heap e it i old) (hit : s.heap.IsTupleIter it t i) (hT : s.heap.IsTuple t items) (hx : items[i]? = none)
    (fin : ∀ h', Heap.ExtBut it s.heap h' → Q none { s with heap := h' }) : wpAny (model prog w) A (pyNext (.ref e)) Q E s := by
  have ty : s.TypeIs (.ref e) "enumerate" := ⟨_, he, rfl⟩
  unfold pyNext
  refine wpAny_bind (wpAny_attempt (wpAny_callSpecial?_slot (name := Str.ofString "__next__") ty F.slot_enumerate_next (wpAny_call_entry F.slot_enumerate_next ty F.entry_enumerate_next ?_ (F.args_enumerate_next_1 _))))
  show wpAny _ _ (field (.ref e) 2 >>= fun x => Builtin.SmallTypes.nextOf x >>= _) _ _ _
  refine wpAny_bind (wpAny_field he rfl (x := .ref it) rfl (wpAny_bind (wpAny_nextOf_tuple_end hh hit hT hx fun h' y a ⟨o, ho, hc⟩ => ?_)))
  exact wpAny_bind (wpAny_isInstance (T := "StopIteration") (b := true) ⟨o, ho, hc⟩ isSubtype_stop (wpAny_pure (fin _ a)))
end
/-- the tuple at a, each item in a new pair -/
def Itp (K : PySem.W.Frag) (a : Addr) : It :=
  ⟨fun i H => ∃ (xs : List V) (x : V), SqT K H a xs ∧ xs[i]? = some x, fun i H v H' => ∃ T x o, v = .ref T ∧ H T = none ∧ o.dict = none ∧ H' = upd H T (.frz o (.tup [.int (i : Nat), x])) ∧ ∀ xs, SqT K H a xs → xs[i]? = some x, fun i H => ∃ xs : List V, SqT K H a xs ∧ xs.length ≤ i⟩
theorem tup_inj {X : Cx} {pins : List (Addr × Obj)} {σ : L2.St} {H : Hp} {s : Shared} {a : Addr} {xs ys : List V} (I : Inv X pins σ H s) (h1 : SqT X.K H a xs) (h2 : SqT X.K H a ys) : xs = ys := by
  obtain ⟨i1, r1, p1, _⟩ := I.tuple h1
  obtain ⟨i2, r2, p2, _⟩ := I.tuple h2
  exact I.tuple_inj h1 h2
theorem turn_enT {P : Program} {w : World} {K : PySem.W.Frag} {elts : List Expr} {kk : Nat} {tpos : Pos} (a e it : Addr) :
    Turn P w K (.Tuple elts kk tpos) (Itp K a) [e, it] e (fun i h => (∃ old, IsEnum h e it ((i : Nat) : Int) old) ∧ h.IsTupleIter it a i ∧ e ≠ it) where
  mem := by simp
  obj := fun i h st b hb => by
    obtain ⟨⟨old, he⟩, ⟨o, ho, hc, hd⟩, _⟩ := st
    rcases (by simpa using hb : b = e ∨ b = it) with rfl | rfl
    · exact ⟨_, he, fun v q => nomatch q⟩
    · exact ⟨o, ho, fun v q => by rw [hd] at q; cases q⟩
  keep := fun i h h' st k => ⟨⟨st.1.choose, k e (by simp) _ st.1.choose_spec⟩, st.2.1.at fun o q => k it (by simp) o q, st.2.2⟩
  item := by
    intro X hP hw hK hc i pins s σ H E I hf st hg
    subst hP hw hK
    obtain ⟨⟨old, he⟩, hit, hne⟩ := st
    obtain ⟨xs, x, hq, hx⟩ := hg
    obtain ⟨its, rv, p, hz⟩ := I.tuple hq
    obtain ⟨u, hu, ru⟩ := rv.get hx
    have hT : s.heap.IsTuple a its.toArray := p
    have hel : e < s.heap.objs.size := Heap.lt_size he
    have hil : it < s.heap.objs.size := by obtain ⟨_, q, _⟩ := hit; exact Heap.lt_size q
    have hea : e ≠ a := fun z => by
      obtain ⟨o, ho, hc, _⟩ := hT
      rw [← z, he] at ho; cases ho; simp at hc
    have hai : a ≠ it := fun z => by
      obtain ⟨o, ho, hc, _⟩ := hT
      obtain ⟨o', ho', hc', _⟩ := hit
      rw [z, ho'] at ho; cases ho; rw [hc'] at hc; simp at hc
    have hlt : i < its.toArray.size := by
      have := (List.getElem?_eq_some_iff.mp hu).1
      simpa using this
    refine wpAny_pyNext_enum_itemD (Draws.tuple (A := X.A.in1) (I.ok.hd hc) it a hai its.toArray) he ⟨hit, hT⟩ hlt hne (by simp [hne, hea]) fun y h' tk hy ho hst hT1 hsz hk => ?_
    have hyu : y = u := by
      have : its.toArray[i]? = some u := by simpa using hu
      rw [this] at hy; exact (Option.some.inj hy).symm
    subst hyu
    refine ⟨_, rfl, wpAny_letOwnedTupleGo_enum (s := { s with heap := h', toks := tk + 1 }) ho fun h'' he' sb => ?_⟩
    have hT2 : h''.get? s.heap.objs.size = some { cls := .type "tuple", data := .seq #[.int i tk, y] } := (sb.2 _ (Nat.ne_of_gt hel)).trans hT1
    have new : ObjOk X.prog X.w (upd H s.heap.objs.size (.frz { cls := .type "tuple", data := .seq #[.int i tk, y] } (.tup [.int (i : Nat), x]))) h'' s.heap.objs.size (.frz { cls := .type "tuple", data := .seq #[.int i tk, y] } (.tup [.int (i : Nat), x])) :=
      ⟨hT2, by show 2 ≤ sizeLine; decide, [.int i tk, y], .cons ⟨_, rfl⟩ (.cons ru .nil), ⟨_, hT2, rfl, _, rfl⟩⟩
    have I1 : Inv X pins σ (upd H s.heap.objs.size (.frz { cls := .type "tuple", data := .seq #[.int i tk, y] } (.tup [.int (i : Nat), x]))) { s with heap := h'', toks := tk + 1 } :=
      I.turnedNew (ch := [e, it]) (fun b ob hb q => (sb.2 b (fun z => hb (by simp [z]))).trans (hk b ob (fun z => hb (by simp [z])) (fun z => hb (by simp [z])) q)) hf (Nat.le_refl _) new
    refine ⟨.ref s.heap.objs.size, _, I1, rfl, ⟨_, x, _, rfl, I.hok.fresh (Nat.le_refl _), rfl, rfl, fun ys hy => by rw [tup_inj I hy hq]; exact hx⟩, ⟨⟨y, ?_⟩, hst.1.at fun o q => (sb.2 it (Ne.symm hne)).trans q, hne⟩, fun b hb => ?_⟩
    · rw [show ((i + 1 : Nat) : Int) = (i : Int) + 1 by omega]; exact he'
    · have hb' : b < s.heap.objs.size := by
        rcases (by simpa using hb : b = e ∨ b = it) with z | z
        · rw [z]; exact hel
        · rw [z]; exact hil
      rw [upd_ne (Nat.ne_of_lt hb')]
      exact (hf b hb).1
  done := by
    intro X hP hw hK hc i pins s σ H E I hf st hg
    subst hP hw hK
    obtain ⟨⟨old, he⟩, hit, hne⟩ := st
    obtain ⟨xs, hq, hx⟩ := hg
    obtain ⟨its, rv, p, hz⟩ := I.tuple hq
    have hT : s.heap.IsTuple a its.toArray := p
    obtain ⟨f0, f1, f2, f3, f4, f5⟩ := hf it (by simp)
    have hl := rv.length
    refine enT_end (I.ok.hd hc) he hit hT (by simp; omega) fun h' eb => ⟨rfl, I.turned (t' := s.toks) (fun b o hb q => eb b o hb q) f0 f1 f3 f4 f5⟩
  self := fun A i s Q E st h => wpAny_pyIter_enum st.1.choose_spec h
/-- enumerate of a list or of a tuple -/
theorem pi_enumA {X : Cx} {e : Expr} {te : TE} {p pos tpos : Pos} {elts : List Expr} {kk : Nat} (hg : Gl X "enumerate") (hm : X.mg "enumerate" = none) (he : PE X e te) (hok : okH e = true) :
    PI X (.Tuple elts kk tpos) (.Call (.Name "enumerate" p) [e] [] pos) (fun σ H R => te σ H fun x H1 => ∃ a, x = .ref a ∧ (((∃ xs, SqL X.K H1 a xs) ∧ R (IteN X.K a) H1) ∨ ((∃ xs, SqT X.K H1 a xs) ∧ R (Itp X.K a) H1))) := by
  refine ⟨fun pins s σ H R I h => ?_⟩
  have hs : starEach [e] X.env = [(false, eval e X.env)] := by rw [starEach_cons (okH_star hok)]; rfl
  refine Call_ (ld_blt I hg hm boot_enumerate (PyProof.Rows.callWith_type1 (one_arg he I h (fun v s1 x H1 I1 r q => ?_) (starEach_cons (okH_star hok))) hs rfl))
  obtain ⟨a, rfl, q⟩ := q
  cases r
  have fresh : ∀ {b : Addr}, b ∈ [s1.heap.objs.size + 1, s1.heap.objs.size] → s1.heap.objs.size ≤ b := fun {b} hb => by
    rcases (by simpa using hb : b = s1.heap.objs.size + 1 ∨ b = s1.heap.objs.size) with z | z <;> rw [z] <;> first | exact Nat.le_succ _ | exact Nat.le_refl _
  rcases q with ⟨⟨xs, hq⟩, q⟩ | ⟨⟨xs, hq⟩, q⟩
  · obtain ⟨its, rv, p', hz⟩ := I1.list hq
    refine call_enumerate_list p'.isList fun h' en hit hsz hk => wpAny_pyIter_enum en ?_
    exact ⟨s1.heap.objs.size + 1, [s1.heap.objs.size + 1, s1.heap.objs.size], _, _, H1, rfl, I1.kept (t' := s1.toks) hk, turn_enumN a (s1.heap.objs.size + 1) s1.heap.objs.size, ⟨⟨.none, en⟩, hit, Nat.succ_ne_self _⟩, fun b hb => I1.fpOk (fresh hb) (I1.hok.fresh (fresh hb)), q⟩
  · obtain ⟨its, rv, p', hz⟩ := I1.tuple hq
    refine call_enT (show s1.heap.IsTuple a its.toArray from p') fun h' en hit hk => wpAny_pyIter_enum en ?_
    exact ⟨s1.heap.objs.size + 1, [s1.heap.objs.size + 1, s1.heap.objs.size], _, _, H1, rfl, I1.kept (t' := s1.toks) hk, turn_enT a (s1.heap.objs.size + 1) s1.heap.objs.size, ⟨⟨.none, en⟩, hit, Nat.succ_ne_self _⟩, fun b hb => I1.fpOk (fresh hb) (I1.hok.fresh (fresh hb)), q⟩
section
variable {Z : Wi} {m0 : List Addr} {H0 : Hp} {h0 : Hm}
theorem walkD_enT {a : Addr} {ds : List D} (hr0 : HRp Z.K m0 H0 h0) (q : Rp Z.K m0 H0 (.ref a) (.tup ds)) : WalkD Z m0 H0 none (pairs 0 ds) (Itp Z.K a) := by
  have tv : ∀ {m H h}, HRp Z.K m H h → Ext m0 H0 m H → ∃ xs, SqT Z.K H a xs ∧ D.stL ds = true ∧ RpL Z.K m H xs ds := fun hr x => by
    cases Rp.ext hr0 x q with
    | tup q s t => exact ⟨_, q.sq, s, t⟩
  obtain ⟨_, _, st0, _⟩ := tv hr0 .refl
  refine ⟨pairs_st 0 ds st0, fun i m H h hi hr x so => ?_, fun m H h hr x so => ?_, fun i m H h y H' hi hr x so yl => ?_⟩
  · obtain ⟨xs, s, st, t⟩ := tv hr x
    rw [pairs_len] at hi
    exact ⟨xs, xs[i]'(by rw [t.length]; exact hi), s, List.getElem?_eq_getElem _⟩
  · obtain ⟨xs, s, st, t⟩ := tv hr x
    exact ⟨xs, s, by rw [pairs_len, t.length]; exact Nat.le_refl _⟩
  · obtain ⟨xs, s, st, t⟩ := tv hr x
    obtain ⟨T, x1, o, rfl, hT, no, rfl, h2⟩ := yl
    obtain ⟨d2, h3, h4⟩ := get_of_rp t (h2 xs s)
    have std := stL_get st h3
    exact ⟨_, pairs_get 0 ds i d2 h3, hr.lay hT, Ext.lay hT, .tup (.of upd_same no) (by simp [D.stL, D.st, std]) (by
      rw [Nat.zero_add]
      exact .cons (.int _) (.one (Rp.ext hr (Ext.lay hT) h4)))⟩
end
end Mi

set_option Elab.async false
set_option linter.all false
set_option maxRecDepth 100000
/-! Mini: a text that is walked, sign by sign, and enumerate of it. -/
namespace Mi
open PySem PySem.Spec PyProof.Rows L2
theorem enG_new {v : Value} {o : Obj} {H : Heap → Prop} (B : Begins v o H) :
    Meets (Builtin.«enumerate.__new__» ⟨[.type "enumerate", v], []⟩) (fun _ R s => H s.heap ∧
      R (.ok (.ret (.ref (s.heap.push o).objs.size)))
        { s with heap := (s.heap.push o).push { cls := .type "enumerate", data := .fields #[.none, .bool false, .ref s.heap.objs.size, rawInt 0, .none, .none] } }) :=
  .of_wp fun prog w A R s hyp => by
    obtain ⟨hp, gs, dr, tk, os⟩ := s
    obtain ⟨hT, fin⟩ := hyp
    have sb := sub_enumerate
    have it : ∀ {A' : Around} {E : Value → Shared → Prop} {Q : Value → Shared → Prop}, Q (.ref hp.objs.size) ⟨hp.push o, gs, dr, tk, os⟩ → wpAny (model prog w) A' (pyIter v) Q E ⟨hp, gs, dr, tk, os⟩ :=
      fun q => B.iter prog w _ _ ⟨hp, gs, dr, tk, os⟩ _ hT q
    wp_walk using it
    refine wpAny_stack_any fun _ => wpAny_pure ?_
    split
    · rename_i k _ _ _ _ _
      cases (k == Value.type "enumerate") <;> (wp_walk using it; exact ⟨_, rfl, fin⟩)
    · (wp_walk using it; exact ⟨_, rfl, fin⟩)
section
variable {prog : Program} {w : World} {A : Around} {E : Value → Shared → Prop} {s : Shared}
theorem call_enS {x : Str} {t : Tok} {Q : Value → Shared → Prop}
    (fin : ∀ h', IsEnum h' (s.heap.objs.size + 1) s.heap.objs.size 0 .none → h'.IsStrIter s.heap.objs.size (strIterType x) x t 0 →
      (∀ b o, s.heap.get? b = some o → h'.get? b = some o) → Q (.ref (s.heap.objs.size + 1)) { s with heap := h' }) :
    wpAny (model prog w) A (call (.type "enumerate") [.str x t]) Q E s := by
  refine callType_new F.called_enumerate (by decide) (F.typeCall_enumerate_1 _) (F.newCall_enumerate_1 _) (fun obj => F.args_object_init_2 obj _) F.entry_enumerate_new (enG_new (begins_text x t)) ⟨trivial, ?_⟩
  have sz : (s.heap.push { cls := .type (strIterType x), data := .fields #[.str x t, .int 0 0] }).objs.size = s.heap.objs.size + 1 := Heap.size_push ..
  have en := Heap.get?_push_size (s.heap.push { cls := .type (strIterType x), data := .fields #[.str x t, .int 0 0] }) (o := { cls := .type "enumerate", data := .fields #[.none, .bool false, .ref s.heap.objs.size, rawInt 0, .none, .none] }) rfl
  rw [sz] at en
  show _ ∧ _
  rw [sz]
  exact ⟨⟨_, en, rfl⟩, fin _ en ⟨_, Heap.get?_push_of_some _ (Heap.get?_push_size _ rfl), rfl, rfl⟩ fun b o x => Heap.get?_push_of_some _ (Heap.get?_push_of_some _ x)⟩
theorem enS_end {e it : Addr} {x : Str} {t : Tok} {i : Nat} {old : Value} {Q : Option Value → Shared → Prop} (hh : A.handled = none) (he : IsEnum s.heap e it i old) (hit : s.heap.IsStrIter it (strIterType x) x t i) (hx : x.cps[i]? = none)
    (fin : ∀ h', Heap.ExtBut it s.heap h' → Q none { s with heap := h' }) : wpAny (model prog w) A (pyNext (.ref e)) Q E s := by
  have ty : s.TypeIs (.ref e) "enumerate" := ⟨_, he, rfl⟩
  have nx : ∀ {A' : Around} {E' : Value → Shared → Prop} {Q' : Value → Shared → Prop}, A'.handled = none → (∀ h' e', Heap.ExtBut it s.heap h' → (∃ o, h'.get? e' = some o ∧ o.cls = .type "StopIteration") → E' (.ref e') { s with heap := h' }) →
      wpAny (model prog w) A' (Builtin.SmallTypes.nextOf (.ref it)) Q' E' s := fun {A' E' Q'} hh' q => by
    unfold strIterType at hit
    split at hit
    · exact wpAny_nextOf_ascii_end hh' hit hx q
    · exact wpAny_nextOf_wide_end hh' hit hx q
  unfold pyNext
  refine wpAny_bind (wpAny_attempt (wpAny_callSpecial?_slot (name := Str.ofString "__next__") ty F.slot_enumerate_next (wpAny_call_entry F.slot_enumerate_next ty F.entry_enumerate_next ?_ (F.args_enumerate_next_1 _))))
  show wpAny _ _ (field (.ref e) 2 >>= fun x => Builtin.SmallTypes.nextOf x >>= _) _ _ _
  refine wpAny_bind (wpAny_field he rfl (x := .ref it) rfl (wpAny_bind (nx hh fun h' y a ⟨o, ho, hc⟩ => ?_)))
  exact wpAny_bind (wpAny_isInstance (T := "StopIteration") (b := true) ⟨o, ho, hc⟩ isSubtype_stop (wpAny_pure (fin _ a)))
end
/-- the signs of x, each in a new pair -/
def ItSn (x : Str) : It :=
  ⟨fun i _ => i < x.cps.size, fun i H v H' => ∃ T c o, v = .ref T ∧ H T = none ∧ o.dict = none ∧ H' = upd H T (.frz o (.tup [.int (i : Nat), .str ⟨#[c]⟩])) ∧ x.cps[i]? = some c, fun i _ => x.cps.size ≤ i⟩
theorem turn_enS {P : Program} {w : World} {K : PySem.W.Frag} {elts : List Expr} {kk : Nat} {tpos : Pos} (x : Str) (t : Tok) (e it : Addr) :
    Turn P w K (.Tuple elts kk tpos) (ItSn x) [e, it] e (fun i h => (∃ old, IsEnum h e it ((i : Nat) : Int) old) ∧ h.IsStrIter it (strIterType x) x t i ∧ e ≠ it) where
  mem := by simp
  obj := fun i h st b hb => by
    obtain ⟨⟨old, he⟩, ⟨o, ho, hc, hd⟩, _⟩ := st
    rcases (by simpa using hb : b = e ∨ b = it) with rfl | rfl
    · exact ⟨_, he, fun v q => nomatch q⟩
    · exact ⟨o, ho, fun v q => by rw [hd] at q; cases q⟩
  keep := fun i h h' st k => ⟨⟨st.1.choose, k e (by simp) _ st.1.choose_spec⟩, (let ⟨o, ho, r⟩ := st.2.1; ⟨o, k it (by simp) o ho, r⟩), st.2.2⟩
  item := by
    intro X hP hw hK hc i pins s σ H E I hf st hg
    subst hP hw hK
    obtain ⟨⟨old, he⟩, hit, hne⟩ := st
    have hel : e < s.heap.objs.size := Heap.lt_size he
    have hil : it < s.heap.objs.size := by obtain ⟨_, q, _⟩ := hit; exact Heap.lt_size q
    refine wpAny_pyNext_enum_itemD (Draws.text (A := X.A.in1) (I.ok.hd hc) it x t) he hit hg hne (by simp [hne]) fun y h' tk hy ho hst hT1 hsz hk => ?_
    obtain ⟨c, u, hcx, rfl⟩ := hy
    refine ⟨_, rfl, wpAny_letOwnedTupleGo_enum (s := { s with heap := h', toks := tk + 1 }) ho fun h'' he' sb => ?_⟩
    have hT2 : h''.get? s.heap.objs.size = some { cls := .type "tuple", data := .seq #[.int i tk, .str ⟨#[c]⟩ u] } := (sb.2 _ (Nat.ne_of_gt hel)).trans hT1
    have new : ObjOk X.prog X.w (upd H s.heap.objs.size (.frz { cls := .type "tuple", data := .seq #[.int i tk, .str ⟨#[c]⟩ u] } (.tup [.int (i : Nat), .str ⟨#[c]⟩]))) h'' s.heap.objs.size (.frz { cls := .type "tuple", data := .seq #[.int i tk, .str ⟨#[c]⟩ u] } (.tup [.int (i : Nat), .str ⟨#[c]⟩])) :=
      ⟨hT2, by show 2 ≤ sizeLine; decide, [.int i tk, .str ⟨#[c]⟩ u], .cons ⟨_, rfl⟩ (.cons ⟨_, rfl⟩ .nil), ⟨_, hT2, rfl, _, rfl⟩⟩
    have I1 : Inv X pins σ (upd H s.heap.objs.size (.frz { cls := .type "tuple", data := .seq #[.int i tk, .str ⟨#[c]⟩ u] } (.tup [.int (i : Nat), .str ⟨#[c]⟩]))) { s with heap := h'', toks := tk + 1 } :=
      I.turnedNew (ch := [e, it]) (fun b ob hb q => (sb.2 b (fun z => hb (by simp [z]))).trans (hk b ob (fun z => hb (by simp [z])) (fun z => hb (by simp [z])) q)) hf (Nat.le_refl _) new
    refine ⟨.ref s.heap.objs.size, _, I1, rfl, ⟨_, c, _, rfl, I.hok.fresh (Nat.le_refl _), rfl, rfl, hcx⟩, ⟨⟨.str ⟨#[c]⟩ u, ?_⟩, (let ⟨o, ho, r⟩ := hst; ⟨o, (sb.2 it (Ne.symm hne)).trans ho, r⟩), hne⟩, fun b hb => ?_⟩
    · rw [show ((i + 1 : Nat) : Int) = (i : Int) + 1 by omega]; exact he'
    · have hb' : b < s.heap.objs.size := by
        rcases (by simpa using hb : b = e ∨ b = it) with z | z
        · rw [z]; exact hel
        · rw [z]; exact hil
      rw [upd_ne (Nat.ne_of_lt hb')]
      exact (hf b hb).1
  done := by
    intro X hP hw hK hc i pins s σ H E I hf st hg
    subst hP hw hK
    obtain ⟨⟨old, he⟩, hit, hne⟩ := st
    obtain ⟨f0, f1, f2, f3, f4, f5⟩ := hf it (by simp)
    exact enS_end (I.ok.hd hc) he hit (Array.getElem?_eq_none hg) fun h' eb => ⟨rfl, I.turned (t' := s.toks) (fun b o hb q => eb b o hb q) f0 f1 f3 f4 f5⟩
  self := fun A i s Q E st h => wpAny_pyIter_enum st.1.choose_spec h
theorem pi_enumS {X : Cx} {e : Expr} {te : TE} {p pos tpos : Pos} {elts : List Expr} {kk : Nat} (hg : Gl X "enumerate") (hm : X.mg "enumerate" = none) (he : PE X e te) (hok : okH e = true) :
    PI X (.Tuple elts kk tpos) (.Call (.Name "enumerate" p) [e] [] pos) (fun σ H R => te σ H fun v H1 => ∃ x, v = .str x ∧ R (ItSn x) H1) := by
  refine ⟨fun pins s σ H R I h => ?_⟩
  have hs : starEach [e] X.env = [(false, eval e X.env)] := by rw [starEach_cons (okH_star hok)]; rfl
  refine Call_ (ld_blt I hg hm boot_enumerate (PyProof.Rows.callWith_type1 (one_arg he I h (fun v s1 y H1 I1 r q => ?_) (starEach_cons (okH_star hok))) hs rfl))
  obtain ⟨x, rfl, q⟩ := q
  obtain ⟨t, rfl⟩ := r
  have fresh : ∀ {b : Addr}, b ∈ [s1.heap.objs.size + 1, s1.heap.objs.size] → s1.heap.objs.size ≤ b := fun {b} hb => by
    rcases (by simpa using hb : b = s1.heap.objs.size + 1 ∨ b = s1.heap.objs.size) with z | z <;> rw [z] <;> first | exact Nat.le_succ _ | exact Nat.le_refl _
  refine call_enS fun h' en hit hk => wpAny_pyIter_enum en ?_
  exact ⟨s1.heap.objs.size + 1, [s1.heap.objs.size + 1, s1.heap.objs.size], _, _, H1, rfl, I1.kept (t' := s1.toks) hk, turn_enS x t (s1.heap.objs.size + 1) s1.heap.objs.size, ⟨⟨.none, en⟩, hit, Nat.succ_ne_self _⟩, fun b hb => I1.fpOk (fresh hb) (I1.hok.fresh (fresh hb)), q⟩
section
variable {Z : Wi} {m0 : List Addr} {H0 : Hp} {h0 : Hm}
theorem chrs_len (x : Str) : (chrs x).length = x.cps.size := by unfold chrs; rw [List.length_map, Array.length_toList]
theorem chrs_get {x : Str} {i c : Nat} (h : x.cps[i]? = some c) : (chrs x)[i]? = some (.str ⟨#[c]⟩) := by
  unfold chrs
  rw [List.getElem?_map, Array.getElem?_toList, h]; rfl
theorem walkD_sgn (x : Str) : WalkD Z m0 H0 none (chrs x) (Its x) :=
  ⟨chrs_st x, fun i m H h hi hr _ so => by rw [chrs_len] at hi; exact hi, fun m H h hr _ so => by rw [chrs_len]; exact Nat.le_refl _, fun i m H h y H' hi hr _ so yl => by
    obtain ⟨rfl, c, hc, rfl⟩ := yl
    exact ⟨_, chrs_get hc, hr, .refl, .str _⟩⟩
theorem walkD_enS (x : Str) : WalkD Z m0 H0 none (pairs 0 (chrs x)) (ItSn x) :=
  ⟨pairs_st 0 _ (chrs_st x), fun i m H h hi hr _ so => by rw [pairs_len, chrs_len] at hi; exact hi, fun m H h hr _ so => by rw [pairs_len, chrs_len]; exact Nat.le_refl _, fun i m H h y H' hi hr _ so yl => by
    obtain ⟨T, c, o, rfl, hT, no, rfl, hc⟩ := yl
    exact ⟨_, pairs_get 0 _ i _ (chrs_get hc), hr.lay hT, Ext.lay hT, .tup (.of upd_same no) (by simp [D.stL, D.st]) (by
      rw [Nat.zero_add]
      exact .cons (.int _) (.one (.str _)))⟩⟩
end
end Mi

set_option Elab.async false
set_option linter.all false
set_option maxRecDepth 100000
/-! Mini: zip, its pairs known. -/
namespace Mi
open PySem PySem.Spec PyProof.Rows L2 RZ
def ItzN (K : PySem.W.Frag) (a b : Addr) : It :=
  ⟨fun i H => ∃ (xs ys : List V) (x y : V), SqL K H a xs ∧ SqL K H b ys ∧ xs[i]? = some x ∧ ys[i]? = some y,
    fun i H v H' => ∃ T x y o, v = .ref T ∧ H T = none ∧ o.dict = none ∧ H' = upd H T (.frz o (.tup [x, y])) ∧ (∀ xs, SqL K H a xs → xs[i]? = some x) ∧ ∀ ys, SqL K H b ys → ys[i]? = some y,
    fun i H => ∃ xs ys : List V, SqL K H a xs ∧ SqL K H b ys ∧ (xs.length ≤ i ∨ ys.length ≤ i)⟩
def ItzTN (K : PySem.W.Frag) (a b : Addr) : It :=
  ⟨fun i H => ∃ (xs ys : List V) (x y : V), SqT K H a xs ∧ SqT K H b ys ∧ xs[i]? = some x ∧ ys[i]? = some y,
    fun i H v H' => ∃ T x y o, v = .ref T ∧ H T = none ∧ o.dict = none ∧ H' = upd H T (.frz o (.tup [x, y])) ∧ (∀ xs, SqT K H a xs → xs[i]? = some x) ∧ ∀ ys, SqT K H b ys → ys[i]? = some y,
    fun i H => ∃ xs ys : List V, SqT K H a xs ∧ SqT K H b ys ∧ (xs.length ≤ i ∨ ys.length ≤ i)⟩
theorem turn_zipN {P : Program} {w : World} {K : PySem.W.Frag} {elts : List Expr} {kk : Nat} {tpos : Pos} {a b z TI TO i1 i2 : Addr} (D : ZipApart z TI TO i1 i2 a b) :
    Turn P w K (.Tuple elts kk tpos) (ItzN K a b) [z, TI, TO, i1, i2] z (fun i h => IsZip h z TI TO .none ∧ IsPair h TI (.ref i1) (.ref i2) ∧ (∃ x y, IsPair h TO x y) ∧ h.IsListIter i1 a i ∧ h.IsListIter i2 b i) where
  mem := by simp
  obj := fun i h st c hc => by
    obtain ⟨hz, hTI, ⟨x, y, hTO⟩, ⟨o1, e1, _, d1⟩, ⟨o2, e2, _, d2⟩⟩ := st
    have e' : c = z ∨ c = TI ∨ c = TO ∨ c = i1 ∨ c = i2 := by simpa using hc
    rcases e' with q | q | q | q | q
    · rw [q]; exact ⟨_, hz, fun v q => nomatch q⟩
    · rw [q]; exact ⟨_, hTI, fun v q => nomatch q⟩
    · rw [q]; exact ⟨_, hTO, fun v q => nomatch q⟩
    · rw [q]; exact ⟨o1, e1, fun v q => by rw [d1] at q; cases q⟩
    · rw [q]; exact ⟨o2, e2, fun v q => by rw [d2] at q; cases q⟩
  keep := fun i h h' st k => by
    obtain ⟨hz, hTI, ⟨x, y, hTO⟩, h1, h2⟩ := st
    exact ⟨k z (by simp) _ hz, k TI (by simp) _ hTI, ⟨x, y, k TO (by simp) _ hTO⟩, h1.at fun o q => k i1 (by simp) o q, h2.at fun o q => k i2 (by simp) o q⟩
  item := by
    intro X hP hw hK hc i pins s σ H E I hf st hg
    subst hP hw hK
    obtain ⟨hz, hTI, ⟨x0, y0, hTO⟩, h1, h2⟩ := st
    obtain ⟨xs, ys, x, y, hqx, hqy, hx, hy⟩ := hg
    obtain ⟨its, rv, p, _⟩ := I.list hqx
    obtain ⟨its2, rv2, p2, _⟩ := I.list hqy
    obtain ⟨u, hu, ru⟩ := rv.get hx
    obtain ⟨u2, hu2, ru2⟩ := rv2.get hy
    have hzl : z < s.heap.objs.size := Heap.lt_size hz
    refine wpAny_pyNext_zip_item D hz hTI hTO h1 h2 p.isList p2.isList (x := u) (y := u2) (by simpa using hu) (by simpa using hu2) fun h' z' TO' h1' h2' hT hsz hk => ?_
    refine ⟨_, rfl, wpAny_letOwnedTupleGo_zip (s := { s with heap := h' }) z' fun h'' z'' sb => ?_⟩
    have hT2 : h''.get? s.heap.objs.size = some { cls := .type "tuple", data := .seq #[u, u2] } := (sb.2 _ (Nat.ne_of_gt hzl)).trans hT
    have new : ObjOk X.prog X.w (upd H s.heap.objs.size (.frz (tupO #[u, u2]) (.tup [x, y]))) h'' s.heap.objs.size (.frz (tupO #[u, u2]) (.tup [x, y])) :=
      ⟨hT2, by show 2 ≤ sizeLine; decide, [u, u2], .cons ru (.cons ru2 .nil), ⟨_, hT2, rfl, _, rfl⟩⟩
    have I1 : Inv X pins σ (upd H s.heap.objs.size (.frz (tupO #[u, u2]) (.tup [x, y]))) { s with heap := h'' } :=
      I.turnedNew (t' := s.toks) (ch := [z, TI, TO, i1, i2]) (fun c o hb q => (sb.2 c (fun q' => hb (by simp [q']))).trans (hk c o (fun q' => hb (by simp [q'])) (fun q' => hb (by simp [q'])) (fun q' => hb (by simp [q'])) (fun q' => hb (by simp [q'])) q)) hf (Nat.le_refl _) new
    refine ⟨.ref s.heap.objs.size, _, I1, rfl, ⟨_, x, y, _, rfl, I.hok.fresh (Nat.le_refl _), rfl, rfl, fun l hl => by rw [I.list_inj hl hqx]; exact hx, fun l hl => by rw [I.list_inj hl hqy]; exact hy⟩, ⟨z'', ?_, ⟨u, u2, ?_⟩, ?_, ?_⟩, fun c hcm => ?_⟩
    · exact (sb.2 _ D.TIz).trans (hk _ _ D.TIz D.TITO D.TIi1 D.TIi2 hTI)
    · exact (sb.2 _ D.TOz).trans TO'
    · exact h1'.at fun o q => (sb.2 _ D.i1z).trans q
    · exact h2'.at fun o q => (sb.2 _ D.i2z).trans q
    · have hlt : c < s.heap.objs.size := by
        have e' : c = z ∨ c = TI ∨ c = TO ∨ c = i1 ∨ c = i2 := by simpa using hcm
        rcases e' with q | q | q | q | q
        · rw [q]; exact hzl
        · rw [q]; exact Heap.lt_size hTI
        · rw [q]; exact Heap.lt_size hTO
        · rw [q]; obtain ⟨_, e1, _⟩ := h1; exact Heap.lt_size e1
        · rw [q]; obtain ⟨_, e2, _⟩ := h2; exact Heap.lt_size e2
      rw [upd_ne (Nat.ne_of_lt hlt)]
      exact (hf c hcm).1
  done := by
    intro X hP hw hK hc i pins s σ H E I hf st hg
    subst hP hw hK
    obtain ⟨hz, hTI, ⟨x0, y0, hTO⟩, h1, h2⟩ := st
    obtain ⟨xs, ys, hqx, hqy, hend⟩ := hg
    obtain ⟨its, rv, p, _⟩ := I.list hqx
    obtain ⟨its2, rv2, p2, _⟩ := I.list hqy
    have l1 := rv.length
    have l2 := rv2.length
    have he : its.toArray[i]? = none ∨ its2.toArray[i]? = none := by
      rcases hend with q | q
      · exact .inl (by simp; omega)
      · exact .inr (by simp; omega)
    exact wpAny_pyNext_zip_end (I.ok.hd hc) D hz hTI hTO h1 h2 p.isList p2.isList he fun h' hk => ⟨rfl, I.turnedL (t' := s.toks) (ch := [z, TI, TO, i1, i2]) (fun c o hb q =>
      hk c o (fun q' => hb (by simp [q'])) (fun q' => hb (by simp [q'])) (fun q' => hb (by simp [q'])) (fun q' => hb (by simp [q'])) q) hf⟩
  self := fun A i s Q E st h => wpAny_pyIter_zip st.1 h
theorem turn_zipTN {P : Program} {w : World} {K : PySem.W.Frag} {elts : List Expr} {kk : Nat} {tpos : Pos} {a b z TI TO i1 i2 : Addr} (D : ZipApart z TI TO i1 i2 a b) :
    Turn P w K (.Tuple elts kk tpos) (ItzTN K a b) [z, TI, TO, i1, i2] z (fun i h => IsZip h z TI TO .none ∧ IsPair h TI (.ref i1) (.ref i2) ∧ (∃ x y, IsPair h TO x y) ∧ h.IsTupleIter i1 a i ∧ h.IsTupleIter i2 b i) where
  mem := by simp
  obj := fun i h st c hc => by
    obtain ⟨hz, hTI, ⟨x, y, hTO⟩, ⟨o1, e1, _, d1⟩, ⟨o2, e2, _, d2⟩⟩ := st
    have e' : c = z ∨ c = TI ∨ c = TO ∨ c = i1 ∨ c = i2 := by simpa using hc
    rcases e' with q | q | q | q | q
    · rw [q]; exact ⟨_, hz, fun v q => nomatch q⟩
    · rw [q]; exact ⟨_, hTI, fun v q => nomatch q⟩
    · rw [q]; exact ⟨_, hTO, fun v q => nomatch q⟩
    · rw [q]; exact ⟨o1, e1, fun v q => by rw [d1] at q; cases q⟩
    · rw [q]; exact ⟨o2, e2, fun v q => by rw [d2] at q; cases q⟩
  keep := fun i h h' st k => by
    obtain ⟨hz, hTI, ⟨x, y, hTO⟩, h1, h2⟩ := st
    exact ⟨k z (by simp) _ hz, k TI (by simp) _ hTI, ⟨x, y, k TO (by simp) _ hTO⟩, h1.at fun o q => k i1 (by simp) o q, h2.at fun o q => k i2 (by simp) o q⟩
  item := by
    intro X hP hw hK hc i pins s σ H E I hf st hg
    subst hP hw hK
    obtain ⟨hz, hTI, ⟨x0, y0, hTO⟩, h1, h2⟩ := st
    obtain ⟨xs, ys, x, y, hqx, hqy, hx, hy⟩ := hg
    obtain ⟨its, rv, p, _⟩ := I.tuple hqx
    obtain ⟨its2, rv2, p2, _⟩ := I.tuple hqy
    obtain ⟨u, hu, ru⟩ := rv.get hx
    obtain ⟨u2, hu2, ru2⟩ := rv2.get hy
    have hzl : z < s.heap.objs.size := Heap.lt_size hz
    refine pyNext_zipT_item D hz hTI hTO h1 h2 p p2 (x := u) (y := u2) (by simpa using hu) (by simpa using hu2) fun h' z' TO' h1' h2' hT hsz hk => ?_
    refine ⟨_, rfl, wpAny_letOwnedTupleGo_zip (s := { s with heap := h' }) z' fun h'' z'' sb => ?_⟩
    have hT2 : h''.get? s.heap.objs.size = some { cls := .type "tuple", data := .seq #[u, u2] } := (sb.2 _ (Nat.ne_of_gt hzl)).trans hT
    have new : ObjOk X.prog X.w (upd H s.heap.objs.size (.frz (tupO #[u, u2]) (.tup [x, y]))) h'' s.heap.objs.size (.frz (tupO #[u, u2]) (.tup [x, y])) :=
      ⟨hT2, by show 2 ≤ sizeLine; decide, [u, u2], .cons ru (.cons ru2 .nil), ⟨_, hT2, rfl, _, rfl⟩⟩
    have I1 : Inv X pins σ (upd H s.heap.objs.size (.frz (tupO #[u, u2]) (.tup [x, y]))) { s with heap := h'' } :=
      I.turnedNew (t' := s.toks) (ch := [z, TI, TO, i1, i2]) (fun c o hb q => (sb.2 c (fun q' => hb (by simp [q']))).trans (hk c o (fun q' => hb (by simp [q'])) (fun q' => hb (by simp [q'])) (fun q' => hb (by simp [q'])) (fun q' => hb (by simp [q'])) q)) hf (Nat.le_refl _) new
    refine ⟨.ref s.heap.objs.size, _, I1, rfl, ⟨_, x, y, _, rfl, I.hok.fresh (Nat.le_refl _), rfl, rfl, fun l hl => by rw [I.tuple_inj hl hqx]; exact hx, fun l hl => by rw [I.tuple_inj hl hqy]; exact hy⟩, ⟨z'', ?_, ⟨u, u2, ?_⟩, ?_, ?_⟩, fun c hcm => ?_⟩
    · exact (sb.2 _ D.TIz).trans (hk _ _ D.TIz D.TITO D.TIi1 D.TIi2 hTI)
    · exact (sb.2 _ D.TOz).trans TO'
    · exact h1'.at fun o q => (sb.2 _ D.i1z).trans q
    · exact h2'.at fun o q => (sb.2 _ D.i2z).trans q
    · have hlt : c < s.heap.objs.size := by
        have e' : c = z ∨ c = TI ∨ c = TO ∨ c = i1 ∨ c = i2 := by simpa using hcm
        rcases e' with q | q | q | q | q
        · rw [q]; exact hzl
        · rw [q]; exact Heap.lt_size hTI
        · rw [q]; exact Heap.lt_size hTO
        · rw [q]; obtain ⟨_, e1, _⟩ := h1; exact Heap.lt_size e1
        · rw [q]; obtain ⟨_, e2, _⟩ := h2; exact Heap.lt_size e2
      rw [upd_ne (Nat.ne_of_lt hlt)]
      exact (hf c hcm).1
  done := by
    intro X hP hw hK hc i pins s σ H E I hf st hg
    subst hP hw hK
    obtain ⟨hz, hTI, ⟨x0, y0, hTO⟩, h1, h2⟩ := st
    obtain ⟨xs, ys, hqx, hqy, hend⟩ := hg
    obtain ⟨its, rv, p, _⟩ := I.tuple hqx
    obtain ⟨its2, rv2, p2, _⟩ := I.tuple hqy
    have l1 := rv.length
    have l2 := rv2.length
    have he : its.toArray[i]? = none ∨ its2.toArray[i]? = none := by
      rcases hend with q | q
      · exact .inl (by simp; omega)
      · exact .inr (by simp; omega)
    exact pyNext_zipT_end (I.ok.hd hc) D hz hTI hTO h1 h2 p p2 he fun h' hk => ⟨rfl, I.turnedL (t' := s.toks) (ch := [z, TI, TO, i1, i2]) (fun c o hb q =>
      hk c o (fun q' => hb (by simp [q'])) (fun q' => hb (by simp [q'])) (fun q' => hb (by simp [q'])) (fun q' => hb (by simp [q'])) q) hf⟩
  self := fun A i s Q E st h => wpAny_pyIter_zip st.1 h

def iZipN (K : PySem.W.Frag) (ta : TA) : TI := fun σ H R => ta σ H fun vs H1 => ∃ a b xs ys, vs = [.ref a, .ref b] ∧ ((SqL K H1 a xs ∧ SqL K H1 b ys ∧ R (ItzN K a b) H1) ∨ (SqT K H1 a xs ∧ SqT K H1 b ys ∧ R (ItzTN K a b) H1))
theorem pi_zipN {X : Cx} {e e2 : Expr} {ta : TA} {p pos tpos : Pos} {elts : List Expr} {kk : Nat} (hg : Gl X "zip") (hm : X.mg "zip" = none) (ha : PA X [e, e2] ta)
    (hs : starEach [e, e2] X.env = (false, eval e X.env) :: starEach [e2] X.env := by rfl) (hpl : (backTo pos (starEach [e2] X.env)).any (·.1) = false := by rfl) :
    PI X (.Tuple elts kk tpos) (.Call (.Name "zip" p) [e, e2] [] pos) (iZipN X.K ta) := by
  refine ⟨fun pins s σ H R I h => ?_⟩
  refine Call_ (ld_blt I hg hm PyProof.Rows.boot_zip (PyProof.Rows.callWith_type1 (thn (ha.run pos pins s σ H _ I h) fun us s1 ⟨vs, H1, I1, r1, q1⟩ => ?_) hs hpl))
  obtain ⟨a, b, xs, ys, ex, q1⟩ := q1
  subst ex
  cases r1 with
  | cons r rr =>
    cases rr with
    | cons r' rr =>
      cases rr
      cases r
      cases r'
      have fresh5 : ∀ c, c ∈ [s1.heap.objs.size + 4, s1.heap.objs.size + 2, s1.heap.objs.size + 3, s1.heap.objs.size, s1.heap.objs.size + 1] → FpOk X pins H1 c := fun c hcm => by
        have e' : c = s1.heap.objs.size + 4 ∨ c = s1.heap.objs.size + 2 ∨ c = s1.heap.objs.size + 3 ∨ c = s1.heap.objs.size ∨ c = s1.heap.objs.size + 1 := by simpa using hcm
        have hle : s1.heap.objs.size ≤ c := by
          rcases e' with z | z | z | z | z
          · rw [z]; exact Nat.le_add_right _ _
          · rw [z]; exact Nat.le_add_right _ _
          · rw [z]; exact Nat.le_add_right _ _
          · rw [z]; exact Nat.le_refl _
          · rw [z]; exact Nat.le_add_right _ _
        exact I1.fpOk hle (I1.hok.fresh hle)
      rcases q1 with ⟨hqx, hqy, q⟩ | ⟨hqx, hqy, q⟩
      · obtain ⟨its, rv, p1, _⟩ := I1.list hqx
        obtain ⟨its2, rv2, p2, _⟩ := I1.list hqy
        refine call_zip_2 p1.isList p2.isList fun h' hz hTI hTO h1 h2 hsz hk => wpAny_pyIter_zip hz ?_
        have I2 : Inv X pins σ H1 { s1 with heap := h' } := I1.kept (t' := s1.toks) hk
        exact ⟨s1.heap.objs.size + 4, [s1.heap.objs.size + 4, s1.heap.objs.size + 2, s1.heap.objs.size + 3, s1.heap.objs.size, s1.heap.objs.size + 1], _, _, H1, rfl, I2, turn_zipN (PySem.W.ktu_apart s1.heap.objs.size a b p1.lt p2.lt), ⟨hz, hTI, ⟨_, _, hTO⟩, h1, h2⟩, fresh5, q⟩
      · obtain ⟨its, rv, p1, _⟩ := I1.tuple hqx
        obtain ⟨its2, rv2, p2, _⟩ := I1.tuple hqy
        obtain ⟨o1, ho1, _⟩ := id p1
        obtain ⟨o2, ho2, _⟩ := id p2
        refine call_zipT (show s1.heap.IsTuple a its.toArray from p1) (show s1.heap.IsTuple b its2.toArray from p2) fun h' hz hTI hTO h1 h2 hsz hk => wpAny_pyIter_zip hz ?_
        have I2 : Inv X pins σ H1 { s1 with heap := h' } := I1.kept (t' := s1.toks) hk
        exact ⟨s1.heap.objs.size + 4, [s1.heap.objs.size + 4, s1.heap.objs.size + 2, s1.heap.objs.size + 3, s1.heap.objs.size, s1.heap.objs.size + 1], _, _, H1, rfl, I2, turn_zipTN (PySem.W.ktu_apart s1.heap.objs.size a b (Heap.lt_size ho1) (Heap.lt_size ho2)), ⟨hz, hTI, ⟨_, _, hTO⟩, h1, h2⟩, fresh5, q⟩

end Mi

set_option Elab.async false
set_option linter.all false
set_option maxRecDepth 100000
/-! Mini: dict displays, comprehensions, walks; every expression. -/
namespace Mi
open PySem PySem.Spec PyProof.Rows L2
section
variable {T : Tb} {Z : Wi} {W : WX} {Γ : Gm} {G : Nat → Option D} {X : Cx} {σ : L2.St} {m : List Addr} {H : Hp} {h : Hm} {ρ : Env}
/-! ### dict displays -/
def trs (Z : Wi) (W : WX) (Γ : Gm) (G : Nat → Option D) : List L2.Key → Es → List (TE × TE)
  | k :: ks, .cons e es => (tC (kV k), tE Z W (ev Γ G e)) :: trs Z W Γ G ks es
  | _, _ => []
def Es.len : Es → Nat
  | .nil => 0
  | .cons _ es => Es.len es + 1
theorem evs_len : ∀ {es : Es} {ρ : Env} {h : Hm} {ds : List D} {h' : Hm}, evs Γ G es ρ h = .ok ds h' → ds.length = Es.len es
  | .nil, ρ, h, ds, h', e => by simp only [evs] at e; cases e; rfl
  | .cons x es, ρ, h, ds, h', e => by
    simp only [evs] at e
    obtain ⟨a, h1, e1, e⟩ := bnd_ok' e
    obtain ⟨b, h2, e2, e⟩ := bnd_ok' e
    obtain ⟨c, h3, e3, e⟩ := bnd_ok' e
    cases e
    simp [Es.len, evs_len e3]
theorem pairs_of : ∀ (ks : List L2.Key) (es : Es) {m : List Addr} {H : Hp} {h : Hm} {σ : L2.St} {ρ : Env} {Q : List V → Hp → Prop} {Q' : List (V × V) → Hp → Prop}, ks.length = Es.len es → StR Z.K m H h σ ρ → Pst Z W σ (RpLs Z.K) (fun _ _ _ => True) m H (evs Γ G es ρ h) Q → (∀ vs H1, vs.length = ks.length → Q vs H1 → Q' ((ks.map kV).zip vs) H1) →
    tPairs (trs Z W Γ G ks es) σ H Q'
  | [], .nil, m, H, h, σ, ρ, Q, Q', _, s, p, hq => by simp only [evs] at p; exact hq [] H rfl (p [] H m s.hr .refl ⟨.nil, rfl⟩ trivial)
  | k :: ks, .cons e es, m, H, h, σ, ρ, Q, Q', hl, s, p, hq => by
    simp only [evs] at p
    refine tE_own nbT s p fun v H1 m1 d h1 s1 x1 r1 st q1 => ?_
    refine pairs_of ks es (by simpa [Es.len] using hl) s1 (Pst.mono (Pst.bnd nbT q1) fun vs H2 hh => hh) fun vs H2 lv ⟨m2, ds, h2, e2, a, b, c, n, q2⟩ => ?_
    exact hq (v :: vs) H2 (by simp [lv]) (q2 (v :: vs) H2 m2 a .refl ⟨.cons (Rp.ext s1.hr b r1) c.1, by simp [D.stL, st, c.2]⟩ trivial)
  | [], .cons _ _, _, _, _, _, _, _, _, hl, _, _, _ => by simp [Es.len] at hl
  | _ :: _, .nil, _, _, _, _, _, _, _, hl, _, _, _ => by simp [Es.len] at hl
theorem mKs_len : ∀ {ks : List L2.Key} {keys : List (Option Expr)}, mKs ks keys = true → keys.length = ks.length ∧ keys.all (·.isSome) = true
  | [], [], _ => ⟨rfl, rfl⟩
  | [], _ :: _, h => by simp [mKs] at h
  | .inl _ :: _, [], h => by simp [mKs] at h
  | .inr _ :: _, [], h => by simp [mKs] at h
  | .inl i :: ks, x :: es, h => by
    unfold mKs at h
    split at h
    · rename_i e1 e2; simp at e1
    · rename_i e1 e2
      cases e1; cases e2
      simp only [Bool.and_eq_true] at h
      obtain ⟨a, b⟩ := mKs_len h.2
      exact ⟨by simp [a], by simp [b]⟩
    · rename_i e1 e2; cases e1
    · cases h
  | .inr i :: ks, x :: es, h => by
    unfold mKs at h
    split at h
    · rename_i e1 e2; simp at e1
    · rename_i e1 e2; cases e1
    · rename_i e1 e2
      cases e1; cases e2
      simp only [Bool.and_eq_true] at h
      obtain ⟨a, b⟩ := mKs_len h.2
      exact ⟨by simp [a], by simp [b]⟩
    · cases h
theorem pp_cons {k : L2.Key} {ks : List L2.Key} {key : Option Expr} {keys : List (Option Expr)} {e : E} {es : Es} {x : Expr} {xs : List Expr} {pos : Pos} (hk : mKs (k :: ks) (key :: keys) = true) (he : PE X x (tE Z W (ev Γ G e))) (hr : mKs ks keys = true → PPs X pos keys xs (trs Z W Γ G ks es)) : PPs X pos (key :: keys) (x :: xs) (trs Z W Γ G (k :: ks) (.cons e es)) := by
  unfold mKs at hk
  split at hk
  · rename_i e1 e2; cases e1
  · rename_i i ks' j a b es' e1 e2
    cases e1; cases e2
    simp only [Bool.and_eq_true, decide_eq_true_eq] at hk
    obtain ⟨rfl, hk⟩ := hk
    exact pps_cons (tk := tC (kV (.inl i))) pe_int he (hr hk)
  · rename_i i ks' j a b es' e1 e2
    cases e1; cases e2
    simp only [Bool.and_eq_true, decide_eq_true_eq] at hk
    obtain ⟨rfl, hk⟩ := hk
    exact pps_cons (tk := tC (kV (.inr i))) pe_str he (hr hk)
  · cases hk
theorem zip_fst {α β : Type} : ∀ (a : List α) (b : List β), a.length = b.length → (a.zip b).map (·.1) = a
  | [], [], _ => rfl
  | x :: a, y :: b, h => by simp [zip_fst a b (by simpa using h)]
  | [], _ :: _, h => by simp at h
  | _ :: _, [], h => by simp at h
theorem zip_snd {α β : Type} : ∀ (a : List α) (b : List β), a.length = b.length → (a.zip b).map (·.2) = b
  | [], [], _ => rfl
  | x :: a, y :: b, h => by simp [zip_snd a b (by simpa using h)]
  | [], _ :: _, h => by simp at h
  | _ :: _, [], h => by simp at h
theorem zip_kV : ∀ (ks : List L2.Key) (vs : List V), (ks.map kV).zip vs = (ks.zip vs).map fun kv => (kV kv.1, kv.2)
  | [], _ => by simp
  | _ :: _, [] => by simp
  | k :: ks, v :: vs => by simp [zip_kV ks vs]
theorem Pst.bnd0 {α β γ δ : Type} {rel : List Addr → Hp → α → β → Prop} {new : Hp → α → β → Prop} {rel2 : List Addr → Hp → γ → δ → Prop} {new2 : Hp → γ → δ → Prop} {r : R β} {f : β → Hm → R δ} {Q : γ → Hp → Prop} (p : Pst Z W σ rel2 new2 m H (Mi.bnd r f) Q) :
    Pst Z W σ rel new m H r fun v H1 => ∃ m1 d h1, r = .ok d h1 ∧ HRp Z.K m1 H1 h1 ∧ Ext m H m1 H1 ∧ rel m1 H1 v d ∧ Pst Z W σ rel2 new2 m H (f d h1) Q := by
  cases r with
  | ok d h => exact fun v H1 m1 a b c n => ⟨m1, d, h, rfl, a, b, c, p⟩
  | ex c fs h => exact p
  | bad => exact p
theorem Pst.know {α β : Type} {rel : List Addr → Hp → α → β → Prop} {new : Hp → α → β → Prop} {r : R β} {Q : α → Hp → Prop} (p : Pst Z W σ rel new m H r Q) :
    Pst Z W σ rel new m H r fun v H1 => Q v H1 ∧ ∃ m1 d h1, r = .ok d h1 ∧ HRp Z.K m1 H1 h1 ∧ Ext m H m1 H1 ∧ rel m1 H1 v d := by
  cases r with
  | ok d h => exact fun v H1 m1 a b c n => ⟨p v H1 m1 a b c n, m1, d, h, rfl, a, b, c⟩
  | ex c fs h => exact p
  | bad => exact p
theorem numU {u : HO} {o : O} {p : Addr} {kvs : List (L2.Key × V)} (r : HRp Z.K m H h) (e : H p = some (.dK kvs)) (n : p ∉ m) (ho : OAt Z.K m (upd H p u) p o) : HRp Z.K (m ++ [p]) (upd H p u) (h ++ [o]) := (r.upU e rfl n).num n ho
/-- a new dict, written and numbered -/
theorem dic_fin {m0 : List Addr} {H0 : Hp} {ks : List L2.Key} {vs : List V} {ds : List D} {p : Addr} {Q : VK} (nd : ks.Nodup) (lv : vs.length = ks.length) (r : HRp Z.K m H h) (x0 : Ext m0 H0 m H) (e0 : H0 p = none) (e : H p = some (.dK [])) (n : p ∉ m) (c : RpLs Z.K m H vs ds) (pv : PV Z W σ m0 H0 (.ok (.ref h.length) (h ++ [.dic (ks.zip ds)])) Q) :
    Q (.ref p) (upd H p (.dK (mergeK [] (ks.zip vs)))) := by
  have ld : ds.length = ks.length := by rw [← c.1.length, lv]
  rw [mergeK_new (by simp) (by rw [zip_fst _ _ lv.symm]; exact nd), List.nil_append]
  have hr' := numU (o := .dic (ks.zip ds)) (u := .dK (ks.zip vs)) r e n (.dic upd_same ⟨by rw [zip_fst _ _ lv.symm, zip_fst _ _ ld.symm], by rw [zip_snd _ _ ld.symm]; exact c.2, by rw [zip_snd _ _ ld.symm, zip_snd _ _ lv.symm]; exact RpL.upU e rfl c.2 c.1⟩)
  refine pv (.ref p) _ _ hr' ?_ (.ref ?_) (newV_st rfl)
  · obtain ⟨l, el, f⟩ := x0.pre
    refine ⟨⟨l ++ [p], by rw [el, List.append_assoc], fun b hb => ?_⟩, fun a o q na => ?_, fun a o w q => ?_⟩
    · rcases List.mem_append.mp hb with hb | hb
      · exact f b hb
      · have : b = p := by simpa using hb
        subst this; exact e0
    · rw [upd_ne (by intro z; subst z; rw [e0] at q; cases q)]; exact x0.fr a o q na
    · rw [upd_ne (by intro z; subst z; rw [e0] at q; cases q)]; exact x0.fz a o w q
  · rw [← r.len, List.getElem?_append_right (Nat.le_refl _)]; simp
theorem l_dic {ks : List L2.Key} {es : Es} {keys : List (Option Expr)} {xs : List Expr} {p : Pos} (hk : mKs ks keys = true) (h15 : ks.length ≤ 15) (hxl : xs.length = ks.length) (hel : Es.len es = xs.length) (nd : ks.Nodup) (hp : PPs X p keys xs (trs Z W Γ G ks es)) : PE X (.Dict keys xs p) (tE Z W (ev Γ G (.dic ks es))) := by
  obtain ⟨kl, ka⟩ := mKs_len hk
  by_cases h0 : keys = []
  · subst h0
    have e0 : ks = [] := by cases ks with
      | nil => rfl
      | cons _ _ => simp at kl
    subst e0
    have e1 : xs = [] := by cases xs with
      | nil => rfl
      | cons _ _ => simp at hxl
    subst e1
    have e2 : es = .nil := by cases es with
      | nil => rfl
      | cons _ _ => simp [Es.len] at hel
    subst e2
    refine PE.of pe_dnewK fun σ H Q ⟨m, ρ, h, s, q⟩ => fun p hp => ?_
    simp only [ev, evs, bnd_ok] at q
    obtain ⟨_, q⟩ := Pst.gd q
    have hh := dic_fin (ks := []) (vs := []) (ds := []) (p := p) (H := upd H p (.dK [])) nd rfl (s.hr.lay hp) (Ext.lay hp) hp upd_same (s.hr.fresh hp) ⟨.nil, rfl⟩ q
    have ee : upd (upd H p (HO.dK [])) p (HO.dK (mergeK [] (([] : List L2.Key).zip ([] : List V)))) = upd H p (HO.dK []) := by
      funext b
      by_cases hb : b = p
      · subst hb; rw [upd_same, upd_same]; rfl
      · rw [upd_ne hb]
    rwa [ee] at hh
  · refine PE.of (pe_disp hp ka (by rw [kl, hxl]) h0 (by rw [kl]; exact h15)) fun σ H Q ⟨m, ρ, h, s, q⟩ => fun p hpn => ?_
    simp only [ev] at q
    have q1 := Pst.bnd0 (rel := RpLs Z.K) (new := fun _ _ _ => True) q
    have q2 := Pst.know (Pst.rebase (m' := m) (H' := upd H p (.dK [])) (fun {_ _} _ => trivial) (Ext.lay hpn) q1)
    have s2 : StR Z.K m (upd H p (.dK [])) h σ ρ := s.go (s.hr.lay hpn) (Ext.lay hpn)
    refine pairs_of ks es (by rw [hel, hxl]) s2 q2 fun vs H1 lv ⟨⟨m1, ds, h1, e1, hr1, x1, c1, pv⟩, m1', ds', h1', e1', hr1', x1', c1'⟩ => ?_
    have nP : p ∉ m := s.hr.fresh hpn
    have eP := x1'.fr p _ upd_same nP
    refine ⟨eP, ks.zip vs, ?_, by rw [List.length_zip, lv]; omega, ?_⟩
    · exact zip_kV ks vs
    · rw [e1] at e1'
      cases e1'
      obtain ⟨_, pv⟩ := Pst.gd pv
      exact dic_fin nd lv hr1' (Ext.trans hr1' (Ext.lay hpn) x1') hpn eP (x1'.notIn upd_same nP) c1' pv
theorem pairs2 {k v : E} {Q : List V → Hp → Prop} {Q' : List (V × V) → Hp → Prop} (s : StR Z.K m H h σ ρ) (p : Pst Z W σ (RpLs Z.K) (fun _ _ _ => True) m H (evs Γ G (.cons k (.cons v .nil)) ρ h) Q) (hq : ∀ a b H1, Q [a, b] H1 → Q' [(a, b)] H1) :
    tPairs [(tE Z W (ev Γ G k), tE Z W (ev Γ G v))] σ H Q' := by
  simp only [evs, bnd_assoc, bnd_ok] at p
  refine tE_own nbT s p fun a H1 m1 d1 h1 s1 x1 r1 st1 q1 => ?_
  refine tE_own nbT s1 q1 fun b H2 m2 d2 h2 s2 x2 r2 st2 q2 => ?_
  exact hq a b H2 (q2 [a, b] H2 m2 s2.hr .refl ⟨.cons (Rp.ext s1.hr x2 r1) (.cons r2 .nil), by simp [D.stL, st1, st2]⟩ trivial)
theorem l_dic1 {k v : E} {xk xv : Expr} {p : Pos} (hk : PE X xk (tE Z W (ev Γ G k))) (hv : PE X xv (tE Z W (ev Γ G v))) : PE X (.Dict [some xk] [xv] p) (tE Z W (ev Γ G (.dic1 (.cons k (.cons v .nil))))) := by
  refine PE.of (pe_disp (pps_cons hk hv pps_nil) rfl rfl (by simp) (by simp)) fun σ H Q ⟨m, ρ, h, s, q⟩ => fun p hpn => ?_
  simp only [ev] at q
  have q1 := Pst.bnd0 (rel := RpLs Z.K) (new := fun _ _ _ => True) q
  have q2 := Pst.know (Pst.rebase (m' := m) (H' := upd H p (.dK [])) (fun {_ _} _ => trivial) (Ext.lay hpn) q1)
  have s2 : StR Z.K m (upd H p (.dK [])) h σ ρ := s.go (s.hr.lay hpn) (Ext.lay hpn)
  refine pairs2 s2 q2 fun a b H1 ⟨⟨m1, ds, h1, e1, hr1, x1, c1, pv⟩, m1', ds', h1', e1', hr1', x1', c1'⟩ => ?_
  have nP : p ∉ m := s.hr.fresh hpn
  have eP := x1'.fr p _ upd_same nP
  rw [e1] at e1'
  cases e1'
  obtain ⟨c1, c2⟩ := c1'
  cases c1 with
  | cons ra t =>
    rename_i da _
    cases t with
    | cons rb t =>
      rename_i db _
      cases t
      cases ek : keyOf da with
      | none => simp only [dic1K, ek] at pv; exact pv.elim
      | some k0 =>
        simp only [dic1K, ek, Option.map_some] at pv
        obtain rfl := keyOf_view ra ek
        refine ⟨eP, [(k0, b)], rfl, by simp, ?_⟩
        exact dic_fin (ks := [k0]) (vs := [b]) (ds := [db]) (by simp) rfl hr1' (Ext.trans hr1' (Ext.lay hpn) x1') hpn eP (x1'.notIn upd_same nP) ⟨.cons rb .nil, by simp [D.stL] at c2 ⊢; exact c2.2⟩ pv
/-! ### comprehensions -/
theorem PTs.of {X : Cx} {ifs : List Expr} {t t' : TT} (p : PTs X ifs t) (h : ∀ σ H Q, t' σ H Q → t σ H Q) : PTs X ifs t' := ⟨fun pins s σ H Q I q => p.run pins s σ H Q I (h σ H Q q)⟩
theorem f_nil : PTs X [] (tT Z W (evF Γ G .nil)) := PTs.of pts_nil fun σ H Q ⟨m, ρ, h, s, q⟩ => by simp only [evF] at q; exact q true H m s.hr .refl rfl trivial
theorem f_one {e : E} {x : Expr} (he : PT X x (tT Z W (truF (ev Γ G e)))) : PTs X [x] (tT Z W (evF Γ G (.cons e .nil))) := PTs.of (pts_one he) fun σ H Q ⟨m, ρ, h, s, q⟩ => by
  refine ⟨m, ρ, h, s, ?_⟩
  have e : evF Γ G (.cons e .nil) ρ h = truF (ev Γ G e) ρ h := by
    simp only [evF, truF]
    cases ev Γ G e ρ h with
    | ok d h1 =>
      simp only [bnd_ok]
      cases truth h1 d with
      | none => rfl
      | some k => cases k <;> rfl
    | ex _ _ _ => rfl
    | bad => rfl
  rw [← e]; exact q
theorem l_comp (g : Good T Z W Γ G X) {e : E} {t : Mi.T} {i : I} {fs : Es} {w : List (Str × Nat)} {elt tg iter : Expr} {ifs : List Expr} {scope : Scope} {pos : Pos} (hok : okH iter = true) (hi : PI X tg iter (tI Z W (evI Γ G i))) (ok : BlkOk X.N X.env.scope scope w) (hv : ∀ i ∈ t.slots, i ∈ w.map (·.2))
    (hg : ∀ (s : Shared) (H : Hp) (C : Addr) (cl : List (Str × Addr)) (fp : List Addr), PG (X.blk s H scope (compEnvC scope cl C X.env) fp) tg (tG Z.K t)) (ht : ∀ (s : Shared) (H : Hp) (C : Addr) (cl : List (Str × Addr)) (fp : List Addr), PTs (X.blk s H scope (compEnvC scope cl C X.env) fp) ifs (tT Z WF (evF Γ G fs)))
    (he : ∀ (s : Shared) (H : Hp) (C : Addr) (cl : List (Str × Addr)) (fp : List Addr), PE (X.blk s H scope (compEnvC scope cl C X.env) fp) elt (tE Z WF (ev Γ G e))) :
    PE X (.ListComp elt [⟨tg, iter, ifs, 0⟩] scope pos) (tE Z W (ev Γ G (.comp e t i fs w))) :=
  PE.of (pe_lc g.calm g.nod hi ok hg ht he (okH_set X.env hok)) fun σ H Q q => lc_of hv (by simp only [ev] at q ⊢; exact q)
/-! ### what is walked -/
theorem pi_any {X : Cx} {tg l : Expr} {tl : TE} (hl : PE X l tl) : PI X tg l (fun σ H R => tl σ H fun x H1 => ∃ a, x = .ref a ∧ (((∃ xs, SqL X.K H1 a xs) ∧ R (Itl X.K a) H1) ∨ ((∃ xs, SqT X.K H1 a xs) ∧ R (Itt X.K a) H1))) := by
  refine ⟨fun pins s σ H R I h => ?_⟩
  refine thn (hl.run pins s σ H _ I h) fun v s1 ⟨x, H1, I1, r1, q1⟩ => ?_
  obtain ⟨a, e, q⟩ := q1
  subst e
  cases r1
  rcases q with ⟨⟨xs, hq⟩, q⟩ | ⟨⟨xs, hq⟩, q⟩
  · obtain ⟨its, rv, p, hz⟩ := I1.list hq
    refine wpAny_pyIter_list p.isList ?_
    refine ⟨s1.heap.objs.size, [s1.heap.objs.size], _, _, H1, rfl, I1.kept (t' := s1.toks) fun b o e => Heap.get?_push_of_some _ e, turn_list a _, ⟨_, Heap.get?_push_size _ rfl, rfl, rfl⟩, fun b hb => ?_, q⟩
    have e : b = s1.heap.objs.size := by simpa using hb
    subst e
    exact I1.fpOk (Nat.le_refl _) (I1.hok.fresh (Nat.le_refl _))
  · obtain ⟨its, rv, p, hz⟩ := I1.tuple hq
    refine wpAny_pyIter_tuple (show s1.heap.IsTuple a its.toArray from p) ?_
    refine ⟨s1.heap.objs.size, [s1.heap.objs.size], _, _, H1, rfl, I1.kept (t' := s1.toks) fun b o e => Heap.get?_push_of_some _ e, turn_tuple a _, ⟨_, Heap.get?_push_size _ rfl, rfl, rfl⟩, fun b hb => ?_, q⟩
    have e : b = s1.heap.objs.size := by simpa using hb
    subst e
    exact I1.fpOk (Nat.le_refl _) (I1.hok.fresh (Nat.le_refl _))
/-- a value first, then its walk -/
theorem tI_bnd {f : Env → Hm → R D} {k : D → Hm → R (List D × Src)} {R : It → Hp → Prop} {Q' : VK} (s : StR Z.K m H h σ ρ) (p : match bnd (f ρ h) k with
  | .ok (ds, src) h' => ∀ J H' m', HRp Z.K m' H' h' → Ext m H m' H' → WalkD Z m' H' src ds J → srcOk src h' = true → R J H'
  | .ex c fs h' => ∀ cls dx H' m', HRp Z.K m' H' h' → Ext m H m' H' → XRp Z m' H' cls dx c fs → W cls dx σ H'
  | .bad => False)
    (go : ∀ v H1 m1 d h1 ds src, HRp Z.K m1 H1 h1 → Rp Z.K m1 H1 v d → k d h1 = .ok (ds, src) h1 → (∀ J, WalkD Z m1 H1 src ds J → srcOk src h1 = true → R J H1) → Q' v H1) (hk : ∀ d h r h', k d h = .ok r h' → h' = h) (hkx : ∀ d h c fs h', k d h ≠ .ex c fs h') : tE Z W f σ H Q' := by
  refine ⟨m, ρ, h, s, ?_⟩
  cases e : f ρ h with
  | bad => rw [e] at p; exact p
  | ex c fs h1 => rw [e] at p; exact p
  | ok d h1 =>
    rw [e, bnd_ok] at p
    intro v H1 m1 hr x r n
    cases e2 : k d h1 with
    | bad => rw [e2] at p; exact p.elim
    | ex c fs h2 => exact absurd e2 (hkx _ _ _ _ _)
    | ok a h2 =>
      obtain ⟨ds, src⟩ := a
      have := hk _ _ _ _ e2
      subst this
      rw [e2] at p
      exact go v H1 m1 d _ ds src hr r e2 fun J w so => p J H1 m1 hr x w so
theorem i_of (g : Good T Z W Γ G X) {e : E} {tg x : Expr} (he : PE X x (tE Z W (ev Γ G e))) : PI X tg x (tI Z W (evI Γ G (.of e))) := by
  refine PI.of (pi_any he) fun σ H R ⟨m, ρ, h, s, q⟩ => ?_
  simp only [evI] at q
  rw [g.k]
  refine tI_bnd s q (fun v H1 m1 d h1 ds src hr r e2 fin => ?_) (fun d h r h' e => ?_) (fun d h c fs h' e => ?_)
  · cases e3 : seqOf h1 d with
    | none => rw [e3] at e2; cases e2
    | some es =>
      rw [e3] at e2
      cases e2
      have lst : ∀ {a : Addr}, Rp Z.K m1 H1 (.ref a) d → lstOf h1 d = some ds → ∃ a', V.ref a = .ref a' ∧ (((∃ xs, SqL Z.K H1 a' xs) ∧ R (Itl Z.K a') H1) ∨ ((∃ xs, SqT Z.K H1 a' xs) ∧ R (Itt Z.K a') H1)) := fun {a} q e => by
        obtain ⟨a', xs, e4, s4, _⟩ := lstOf_view (Z := Z) hr q e
        cases e4
        exact ⟨_, rfl, .inl ⟨⟨xs, s4⟩, fin _ (walkD_list hr q e) (srcOf_ok h1 d)⟩⟩
      cases r with
      | tup q s4 t4 =>
        cases e3
        exact ⟨_, rfl, .inr ⟨⟨_, q.sq⟩, fin _ (walkD_tup hr (.tup q s4 t4)) rfl⟩⟩
      | lv a b c d => exact lst (.lv a b c d) e3
      | fl a b c => exact lst (.fl a b c) e3
      | ref a => exact lst (.ref a) e3
      | _ => simp [seqOf] at e3
  · cases e3 : seqOf h d with
    | none => rw [e3] at e; cases e
    | some es => rw [e3] at e; cases e; rfl
  · cases e3 : seqOf h d with
    | none => rw [e3] at e; cases e
    | some es => rw [e3] at e; cases e
theorem rp_ofKey {K : PySem.W.Frag} : ∀ (k : L2.Key), Rp K m H (kV k) (ofKey k)
  | .inl i => .int i
  | .inr x => .str x
theorem walkD_keys {m0 : List Addr} {H0 : Hp} {a : Addr} {o : Obj} {kvs : List (L2.Key × V)} {kds : List (L2.Key × D)} (e : H0 a = some (.frz o (.dK kvs))) (t : kvs.map (·.1) = kds.map (·.1)) : WalkD Z m0 H0 none (kds.map fun p => ofKey p.1) (Itk a o kvs) := by
  have ln : kvs.length = kds.length := by have := congrArg List.length t; simpa using this
  refine ⟨by rw [stL_iff]; intro d hd; obtain ⟨p, _, rfl⟩ := List.mem_map.mp hd; cases p.1 <;> rfl, fun i m H h hi hr x so => ⟨x.fz a o _ e, by rw [ln]; simpa using hi⟩, fun m H h hr x so => ⟨x.fz a o _ e, by simp [ln]⟩, fun i m H h y H' hi hr x so yl => ?_⟩
  obtain ⟨rfl, k, v, ek, rfl⟩ := yl
  have q := congrArg (·[i]?) t
  simp only [List.getElem?_map, ek, Option.map_some] at q
  cases e2 : kds[i]? with
  | none => rw [e2] at q; cases q
  | some p =>
    rw [e2] at q
    have q : k = p.1 := Option.some.inj q
    exact ⟨ofKey k, by rw [List.getElem?_map, e2, q]; rfl, hr, .refl, rp_ofKey k⟩
theorem i_keys (g : Good T Z W Γ G X) {e : E} {tg x : Expr} (he : PE X x (tE Z W (ev Γ G e))) : PI X tg x (tI Z W (evI Γ G (.keys e))) := by
  refine PI.of (pi_keys he) fun σ H R ⟨m, ρ, h, s, q⟩ => ?_
  simp only [evI] at q
  refine tI_bnd s q (fun v H1 m1 d h1 ds src hr r e2 fin => ?_) (fun d h r h' e => ?_) (fun d h c fs h' e => ?_)
  · cases e3 : frdOf h1 d with
    | none => rw [e3] at e2; cases e2
    | some kds =>
      rw [e3] at e2
      cases e2
      cases r with
      | ref qa =>
        simp only [frdOf] at e3
        split at e3
        · rename_i e4
          cases e3
          obtain ⟨a', e5, oa⟩ := hr.get e4
          rw [qa] at e5; cases e5
          cases oa with
          | frd e6 t => exact ⟨_, _, rfl, .inl ⟨_, e6, fin _ (walkD_keys e6 t.1) rfl⟩⟩
        · cases e3
      | _ => simp [frdOf] at e3
  · cases e3 : frdOf h d with
    | none => rw [e3] at e; cases e
    | some es => rw [e3] at e; cases e; rfl
  · cases e3 : frdOf h d with
    | none => rw [e3] at e; cases e
    | some es => rw [e3] at e; cases e
theorem bts_of (g : Good T Z W Γ G X) {y : Str} (h : inB T.bts y = true) : X.mg y = none := g.bts y (inB_mem h)
theorem i_enum (g : Good T Z W Γ G X) {e : E} {tg x : Expr} {p pos : Pos} (ht : isTg tg = true) (hg : Gl X "enumerate") (hm : X.mg "enumerate" = none) (hok : okH x = true) (he : PE X x (tE Z W (ev Γ G e))) : PI X tg (.Call (.Name "enumerate" p) [x] [] pos) (tI Z W (evI Γ G (.enum e))) := by
  cases tg with
  | Tuple elts kk tpos =>
    refine PI.of (pi_enumA hg hm he hok) fun σ H R ⟨m, ρ, h, s, q⟩ => ?_
    simp only [evI] at q
    rw [g.k]
    refine tI_bnd s q (fun v H1 m1 d h1 ds src hr r e2 fin => ?_) (fun d h r h' e => ?_) (fun d h c fs h' e => ?_)
    · cases e3 : seqOf h1 d with
      | none => rw [e3] at e2; cases e2
      | some es =>
        rw [e3] at e2
        cases e2
        have lst : ∀ {a : Addr}, Rp Z.K m1 H1 (.ref a) d → lstOf h1 d = some es → ∃ a', V.ref a = .ref a' ∧ (((∃ xs, SqL Z.K H1 a' xs) ∧ R (IteN Z.K a') H1) ∨ ((∃ xs, SqT Z.K H1 a' xs) ∧ R (Itp Z.K a') H1)) := fun {a} q e => by
          obtain ⟨a', xs, e4, s4, _⟩ := lstOf_view (Z := Z) hr q e
          cases e4
          exact ⟨_, rfl, .inl ⟨⟨xs, s4⟩, fin _ (walkD_enum hr q e) (srcOf_ok h1 d)⟩⟩
        cases r with
        | tup q s4 t4 =>
          cases e3
          exact ⟨_, rfl, .inr ⟨⟨_, q.sq⟩, fin _ (walkD_enT hr (.tup q s4 t4)) rfl⟩⟩
        | lv a b c d => exact lst (.lv a b c d) e3
        | fl a b c => exact lst (.fl a b c) e3
        | ref a => exact lst (.ref a) e3
        | _ => simp [seqOf] at e3
    · cases e3 : seqOf h d with
      | none => rw [e3] at e; cases e
      | some es => rw [e3] at e; cases e; rfl
    · cases e3 : seqOf h d with
      | none => rw [e3] at e; cases e
      | some es => rw [e3] at e; cases e
  | _ => simp [isTg] at ht
theorem i_sof (g : Good T Z W Γ G X) {e : E} {tg x : Expr} (he : PE X x (tE Z W (ev Γ G e))) : PI X tg x (tI Z W (evI Γ G (.sof e))) := by
  refine PI.of (pi_str he) fun σ H R ⟨m, ρ, h, s, q⟩ => ?_
  simp only [evI] at q
  refine tI_bnd s q (fun v H1 m1 d h1 ds src hr r e2 fin => ?_) (fun d h r h' e => ?_) (fun d h c fs h' e => ?_)
  · cases r with
    | str y =>
      simp only [strOf, Option.map_some, opt_some] at e2
      cases e2
      exact ⟨y, rfl, fin _ (walkD_sgn y) rfl⟩
    | _ => simp [strOf, opt] at e2
  · cases e3 : strOf d with
    | none => rw [e3] at e; cases e
    | some es => rw [e3] at e; cases e; rfl
  · cases e3 : strOf d with
    | none => rw [e3] at e; cases e
    | some es => rw [e3] at e; cases e
theorem i_senum (g : Good T Z W Γ G X) {e : E} {tg x : Expr} {p pos : Pos} (ht : isTg tg = true) (hg : Gl X "enumerate") (hm : X.mg "enumerate" = none) (hok : okH x = true) (he : PE X x (tE Z W (ev Γ G e))) : PI X tg (.Call (.Name "enumerate" p) [x] [] pos) (tI Z W (evI Γ G (.senum e))) := by
  cases tg with
  | Tuple elts kk tpos =>
    refine PI.of (pi_enumS hg hm he hok) fun σ H R ⟨m, ρ, h, s, q⟩ => ?_
    simp only [evI] at q
    refine tI_bnd s q (fun v H1 m1 d h1 ds src hr r e2 fin => ?_) (fun d h r h' e => ?_) (fun d h c fs h' e => ?_)
    · cases r with
      | str y =>
        simp only [strOf, Option.map_some, opt_some] at e2
        cases e2
        exact ⟨y, rfl, fin _ (walkD_enS y) rfl⟩
      | _ => simp [strOf, opt] at e2
    · cases e3 : strOf d with
      | none => rw [e3] at e; cases e
      | some es => rw [e3] at e; cases e; rfl
    · cases e3 : strOf d with
      | none => rw [e3] at e; cases e
      | some es => rw [e3] at e; cases e
  | _ => simp [isTg] at ht
/-! ### zip -/
theorem zips_len : ∀ (as bs : List D), (zips as bs).length = min as.length bs.length
  | [], bs => by simp [zips]
  | a :: as, [] => by simp [zips]
  | a :: as, b :: bs => by simp [zips, zips_len as bs]
theorem zips_get : ∀ (as bs : List D) (i : Nat) (a b : D), as[i]? = some a → bs[i]? = some b → (zips as bs)[i]? = some (.tup [a, b])
  | a :: as, b :: bs, 0, _, _, h1, h2 => by simp at h1 h2; subst h1 h2; simp [zips]
  | a :: as, b :: bs, i + 1, _, _, h1, h2 => by
    simp only [List.getElem?_cons_succ] at h1 h2
    simp only [zips, List.getElem?_cons_succ]
    exact zips_get as bs i _ _ h1 h2
  | [], _, _, _, _, h1, _ => by simp at h1
  | _ :: _, [], _, _, _, _, h2 => by simp at h2
theorem zips_st : ∀ (as bs : List D), D.stL as = true → D.stL bs = true → D.stL (zips as bs) = true
  | [], _, _, _ => by simp [zips, D.stL]
  | _ :: _, [], _, _ => by simp [zips, D.stL]
  | a :: as, b :: bs, h1, h2 => by
    simp only [D.stL, Bool.and_eq_true] at h1 h2
    simp [zips, D.stL, D.st, h1.1, h2.1, zips_st as bs h1.2 h2.2]
section
variable {m0 : List Addr} {H0 : Hp} {h0 : Hm}
theorem walkD_zipT {a b : Addr} {ds es : List D} (hr0 : HRp Z.K m0 H0 h0) (qa : Rp Z.K m0 H0 (.ref a) (.tup ds)) (qb : Rp Z.K m0 H0 (.ref b) (.tup es)) : WalkD Z m0 H0 none (zips ds es) (ItzTN Z.K a b) := by
  have tv : ∀ {a : Addr} {ds : List D} {m H h}, Rp Z.K m0 H0 (.ref a) (.tup ds) → HRp Z.K m H h → Ext m0 H0 m H → ∃ xs, SqT Z.K H a xs ∧ D.stL ds = true ∧ RpL Z.K m H xs ds := fun q hr x => by
    cases Rp.ext hr0 x q with
    | tup q s t => exact ⟨_, q.sq, s, t⟩
  obtain ⟨_, _, sa, _⟩ := tv qa hr0 .refl
  obtain ⟨_, _, sb, _⟩ := tv qb hr0 .refl
  refine ⟨zips_st _ _ sa sb, fun i m H h hi hr x so => ?_, fun m H h hr x so => ?_, fun i m H h y H' hi hr x so yl => ?_⟩
  · obtain ⟨xs, s1, _, t1⟩ := tv qa hr x
    obtain ⟨ys, s2, _, t2⟩ := tv qb hr x
    rw [zips_len] at hi
    exact ⟨xs, ys, xs[i]'(by rw [t1.length]; omega), ys[i]'(by rw [t2.length]; omega), s1, s2, List.getElem?_eq_getElem _, List.getElem?_eq_getElem _⟩
  · obtain ⟨xs, s1, _, t1⟩ := tv qa hr x
    obtain ⟨ys, s2, _, t2⟩ := tv qb hr x
    exact ⟨xs, ys, s1, s2, by rw [zips_len, t1.length, t2.length]; omega⟩
  · obtain ⟨xs, s1, _, t1⟩ := tv qa hr x
    obtain ⟨ys, s2, _, t2⟩ := tv qb hr x
    obtain ⟨T, x1, y1, o, rfl, hT, no, rfl, h2, h3⟩ := yl
    obtain ⟨d1, e1, r1⟩ := get_of_rp t1 (h2 xs s1)
    obtain ⟨d2, e2, r2⟩ := get_of_rp t2 (h3 ys s2)
    exact ⟨_, zips_get ds es i d1 d2 e1 e2, hr.lay hT, Ext.lay hT, .tup (.of upd_same no) (by simp [D.stL, stL_get sa e1, stL_get sb e2]) (.cons (Rp.ext hr (Ext.lay hT) r1) (.one (Rp.ext hr (Ext.lay hT) r2)))⟩
theorem walkD_zipL {a b : Addr} {da db : D} {ds es : List D} {src : Src} (hr0 : HRp Z.K m0 H0 h0) (qa : Rp Z.K m0 H0 (.ref a) da) (qb : Rp Z.K m0 H0 (.ref b) db) (ea : lstOf h0 da = some ds) (eb : lstOf h0 db = some es)
    (ka : ∀ h, srcOk src h = true → srcOk (srcOf h0 da) h = true) (kb : ∀ h, srcOk src h = true → srcOk (srcOf h0 db) h = true) : WalkD Z m0 H0 src (zips ds es) (ItzN Z.K a b) := by
  obtain ⟨_, _, _, _, sa, _⟩ := lstOf_view (Z := Z) hr0 qa ea
  obtain ⟨_, _, _, _, sb, _⟩ := lstOf_view (Z := Z) hr0 qb eb
  refine ⟨zips_st _ _ sa sb, fun i m H h hi hr x so => ?_, fun m H h hr x so => ?_, fun i m H h y H' hi hr x so yl => ?_⟩
  · obtain ⟨xs, s1, _, t1⟩ := list_later hr0 qa ea hr x (ka h so)
    obtain ⟨ys, s2, _, t2⟩ := list_later hr0 qb eb hr x (kb h so)
    rw [zips_len] at hi
    exact ⟨xs, ys, xs[i]'(by rw [t1.length]; omega), ys[i]'(by rw [t2.length]; omega), s1, s2, List.getElem?_eq_getElem _, List.getElem?_eq_getElem _⟩
  · obtain ⟨xs, s1, _, t1⟩ := list_later hr0 qa ea hr x (ka h so)
    obtain ⟨ys, s2, _, t2⟩ := list_later hr0 qb eb hr x (kb h so)
    exact ⟨xs, ys, s1, s2, by rw [zips_len, t1.length, t2.length]; omega⟩
  · obtain ⟨xs, s1, _, t1⟩ := list_later hr0 qa ea hr x (ka h so)
    obtain ⟨ys, s2, _, t2⟩ := list_later hr0 qb eb hr x (kb h so)
    obtain ⟨T, x1, y1, o, rfl, hT, no, rfl, h2, h3⟩ := yl
    obtain ⟨d1, e1, r1⟩ := get_of_rp t1 (h2 xs s1)
    obtain ⟨d2, e2, r2⟩ := get_of_rp t2 (h3 ys s2)
    exact ⟨_, zips_get ds es i d1 d2 e1 e2, hr.lay hT, Ext.lay hT, .tup (.of upd_same no) (by simp [D.stL, stL_get sa e1, stL_get sb e2]) (.cons (Rp.ext hr (Ext.lay hT) r1) (.one (Rp.ext hr (Ext.lay hT) r2)))⟩
end
theorem i_zip (g : Good T Z W Γ G X) {a b : E} {tg xa xb : Expr} {p pos : Pos} (ht : isTg tg = true) (hg : Gl X "zip") (hm : X.mg "zip" = none) (hoka : okH xa = true) (hokb : okH xb = true) (ha : PE X xa (tE Z W (ev Γ G a))) (hb : PE X xb (tE Z W (ev Γ G b))) : PI X tg (.Call (.Name "zip" p) [xa, xb] [] pos) (tI Z W (evI Γ G (.zip a b))) := by
  have hA := a_consP hoka ha (a_consP hokb hb a_nilP)
  cases tg with
  | Tuple elts kk tpos =>
    refine PI.of (pi_zipN hg hm hA (by rw [starEach_cons (okH_star hoka)]) (backTo_plain (by simp [okH_star hokb]))) fun σ H R ⟨m, ρ, h, s, q⟩ => ?_
    simp only [evI] at q
    refine ⟨m, ρ, h, s, ?_⟩
    rw [g.k]
    simp only [evp]
    cases e1 : ev Γ G a ρ h with
    | bad => rw [e1] at q; exact q
    | ex c fs h1 => rw [e1] at q; exact q
    | ok x h1 =>
      rw [e1, bnd_ok] at q
      simp only [bnd_ok]
      cases e2 : ev Γ G b ρ h1 with
      | bad => rw [e2] at q; exact q
      | ex c fs h1 => rw [e2] at q; exact q
      | ok y h2 =>
        simp only [e2, bnd_ok] at q ⊢
        intro vs H' m' hr x1 rl _
        cases rl with
        | cons r1 rl =>
          obtain ⟨v2, rfl, r2⟩ := rp_one rl
          cases ez : zipD h2 x y with
          | none => rw [ez] at q; exact q.elim
          | some r =>
            obtain ⟨ds, src⟩ := r
            rw [ez] at q
            have q := fun J wd so => q J H' m' hr x1 wd so
            unfold zipD at ez
            split at ez
            · cases ez
              cases r1 with
              | tup q1 s1 t1 =>
                cases r2 with
                | tup q2 s2 t2 => exact ⟨_, _, _, _, rfl, .inr ⟨q1.sq, q2.sq, q _ (walkD_zipT hr (.tup q1 s1 t1) (.tup q2 s2 t2)) rfl⟩⟩
            · rw [Option.map_eq_some_iff] at ez
              obtain ⟨as, ea, ez⟩ := ez
              cases ez
              obtain ⟨a1, xs, rfl, sa, _, _⟩ := lstOf_view (Z := Z) hr r1 ea
              obtain ⟨a2, ys, rfl, sb, _, _⟩ := lstOf_view (Z := Z) hr r2 (show lstOf h2 (.lv _) = some _ from rfl)
              exact ⟨_, _, _, _, rfl, .inl ⟨sa, sb, q _ (walkD_zipL hr r1 r2 ea rfl (fun h so => so) fun h so => rfl) (srcOf_ok _ _)⟩⟩
            · rw [Option.map_eq_some_iff] at ez
              obtain ⟨bs, eb, ez⟩ := ez
              cases ez
              obtain ⟨a1, xs, rfl, sa, _, _⟩ := lstOf_view (Z := Z) hr r1 (show lstOf h2 (.lv _) = some _ from rfl)
              obtain ⟨a2, ys, rfl, sb, _, _⟩ := lstOf_view (Z := Z) hr r2 eb
              exact ⟨_, _, _, _, rfl, .inl ⟨sa, sb, q _ (walkD_zipL hr r1 r2 rfl eb (fun h so => rfl) fun h so => so) (srcOf_ok _ _)⟩⟩
            · cases ez
  | _ => simp [isTg] at ht
/-- arguments first, then a walk -/
theorem tI_args {f : Env → Hm → R (List D)} {k : List D → Hm → R (List D × Src)} {R : It → Hp → Prop} {Q' : List V → Hp → Prop} (s : StR Z.K m H h σ ρ) (p : match bnd (f ρ h) k with
  | .ok (ds, src) h' => ∀ J H' m', HRp Z.K m' H' h' → Ext m H m' H' → WalkD Z m' H' src ds J → srcOk src h' = true → R J H'
  | .ex c fs h' => ∀ cls dx H' m', HRp Z.K m' H' h' → Ext m H m' H' → XRp Z m' H' cls dx c fs → W cls dx σ H'
  | .bad => False)
    (go : ∀ vs H1 m1 ds h1 es, HRp Z.K m1 H1 h1 → RpL Z.K m1 H1 vs ds → f ρ h = .ok ds h1 → k ds h1 = .ok (es, none) h1 → (∀ J, WalkD Z m1 H1 none es J → R J H1) → Q' vs H1) (hk : ∀ d h r h', k d h = .ok r h' → h' = h ∧ r.2 = none) (hkx : ∀ d h c fs h', k d h ≠ .ex c fs h') : tAp Z W f σ H Q' := by
  refine ⟨m, ρ, h, s, ?_⟩
  cases e : f ρ h with
  | bad => rw [e] at p; exact p
  | ex c fs h1 => rw [e] at p; exact p
  | ok d h1 =>
    rw [e, bnd_ok] at p
    intro v H1 m1 hr x r n
    cases e2 : k d h1 with
    | bad => rw [e2] at p; exact p.elim
    | ex c fs h2 => exact absurd e2 (hkx _ _ _ _ _)
    | ok a h2 =>
      obtain ⟨ds, src⟩ := a
      obtain ⟨e3, e4⟩ := hk _ _ _ _ e2
      simp only at e4
      subst e3; subst e4
      rw [e2] at p
      exact go v H1 m1 d _ ds hr r e e2 fun J w => p J H1 m1 hr x w rfl
theorem i_rng (g : Good T Z W Γ G X) {es : Es} {tg : Expr} {xs : List Expr} {p pos : Pos} (hg : Gl X "range") (hm : X.mg "range" = none) (hst : xs.all noStar = true) (hel : ∀ ρ h ds h', evp Γ G es ρ h = .ok ds h' → ds.length = xs.length) (hl : 0 < xs.length ∧ xs.length ≤ 3) (ha : PA X xs (tAp Z W (evp Γ G es))) : PI X tg (.Call (.Name "range" p) xs [] pos) (tI Z W (evI Γ G (.rng es))) := by
  have hk : ∀ (d : List D) (h : Hm) (r : List D × Src) (h' : Hm), opt ((rngD d).map fun ds => (ds, (none : Src))) h = .ok r h' → h' = h ∧ r.2 = none := fun d h r h' e => by
    cases e2 : rngD d with
    | none => rw [e2] at e; cases e
    | some z => rw [e2] at e; cases e; exact ⟨rfl, rfl⟩
  have hkx : ∀ (d : List D) (h : Hm) c fs h', opt ((rngD d).map fun ds => (ds, (none : Src))) h ≠ .ex c fs h' := fun d h c fs h' e => by
    cases e2 : rngD d with
    | none => rw [e2] at e; cases e
    | some z => rw [e2] at e; cases e
  have rok : ∀ {i : Int}, rngOk i = true → -(2 ^ 62) ≤ i ∧ i < 2 ^ 62 := fun {i} e => by
    have : i.natAbs < 2 ^ 62 := by simpa [rngOk] using e
    omega
  match xs, hst, hl, hel, ha with
  | [a], hst, _, hel, ha =>
    simp only [List.all_cons, Bool.and_eq_true] at hst
    refine PI.of (pi_range1 hg hm ha (by rw [starEach_cons hst.1]; rfl)) fun σ H R ⟨m, ρ, h, s, q⟩ => ?_
    simp only [evI] at q
    refine tI_args s q (fun vs H1 m1 ds h1 es hr r e1 e2 fin => ?_) hk hkx
    have l := hel _ _ _ _ e1
    cases e3 : rngD ds with
    | none => rw [e3] at e2; cases e2
    | some z =>
      rw [e3] at e2; cases e2
      unfold rngD at e3
      split at e3
      · rename_i n
        split at e3
        · rename_i ok
          cases e3
          obtain ⟨v, rfl, rz⟩ := rp_one r
          cases rz
          exact ⟨n, rfl, (rok ok).1, (rok ok).2, fin _ walkD_range⟩
        · cases e3
      · simp at l
      · simp at l
      · cases e3
  | [a, b], hst, _, hel, ha =>
    simp only [List.all_cons, Bool.and_eq_true] at hst
    refine PI.of (pi_range2 hg hm ha (by rw [starEach_cons hst.1, starEach_cons hst.2.1]; rfl) (by rw [starEach_cons hst.2.1]; rfl)) fun σ H R ⟨m, ρ, h, s, q⟩ => ?_
    simp only [evI] at q
    refine tI_args s q (fun vs H1 m1 ds h1 es hr r e1 e2 fin => ?_) hk hkx
    have l := hel _ _ _ _ e1
    cases e3 : rngD ds with
    | none => rw [e3] at e2; cases e2
    | some z =>
      rw [e3] at e2; cases e2
      unfold rngD at e3
      split at e3
      · simp at l
      · rename_i i j
        split at e3
        · rename_i ok
          cases e3
          cases r with
          | cons r1 r =>
            obtain ⟨v, rfl, rz⟩ := rp_one r
            cases r1; cases rz
            exact ⟨i, j, rfl, ⟨(rok ok.1).1, (rok ok.1).2, (rok ok.2).1, (rok ok.2).2⟩, fin _ walkD_range⟩
        · cases e3
      · simp at l
      · cases e3
  | [a, b, c], hst, _, hel, ha =>
    simp only [List.all_cons, Bool.and_eq_true] at hst
    refine PI.of (pi_range3 hg hm ha (starEach_cons hst.1) (backTo_plain (by simp [hst.2.1, hst.2.2.1]))) fun σ H R ⟨m, ρ, h, s, q⟩ => ?_
    simp only [evI] at q
    refine tI_args s q (fun vs H1 m1 ds h1 es hr r e1 e2 fin => ?_) hk hkx
    have l := hel _ _ _ _ e1
    cases e3 : rngD ds with
    | none => rw [e3] at e2; cases e2
    | some z =>
      rw [e3] at e2; cases e2
      unfold rngD at e3
      split at e3
      · simp at l
      · simp at l
      · rename_i i j k
        split at e3
        · rename_i ok
          obtain ⟨o1, o2, rfl⟩ := ok
          cases e3
          cases r with
          | cons r1 r =>
            cases r with
            | cons r2 r =>
              obtain ⟨v, rfl, rz⟩ := rp_one r
              cases r1; cases r2; cases rz
              exact ⟨i, j, -1, (i - j).toNat, rfl, RgC.neg (rok o1).1 (rok o1).2 (rok o2).1 (rok o2).2, fin _ walkD_rangeC⟩
        · cases e3
      · cases e3
  | _ :: _ :: _ :: _ :: _, _, hl, _, _ => simp at hl
end
end Mi

set_option Elab.async false
set_option linter.all false
set_option maxRecDepth 100000
/-! Mini: .get of a dict of the module. -/
namespace Mi
open PySem PySem.Spec PyProof.Rows L2
section
variable {T : Tb} {Z : Wi} {W : WX} {Γ : Gm} {G : Nat → Option D} {X : Cx} {σ : L2.St} {m : List Addr} {H : Hp} {h : Hm} {ρ : Env}
theorem l_kget (g : Good T Z W Γ G X) {z : Str} {kvs : List (Str × Int)} {es : Es} {xs : List Expr} {p apos cpos : Pos} (hc : (z, kvs) ∈ T.dcs) (hl : xs.length < 29) (hline : (apos.endLine == cpos.line) = true) (hg : Gl X z) (h1 : dbg z = false) (hst : xs.all noStar = true)
    (hp : PA X xs (tAp Z W (evp Γ G es))) : PE X (.Call (.Attribute (.Name z p) "get" apos) xs [] cpos) (tE Z W (ev Γ G (.kget z kvs es))) := by
  obtain ⟨a, el, n, hm, kd, look⟩ := g.dcs z kvs hc
  have hr : ∀ (pins : List (Addr × Obj)) (s : Shared) (σ : L2.St) (H : Hp) (x : V) (v : Value), Inv X pins σ H s → RelV x v → x = V.ref a →
      ∃ T id, PlainAttrs T ∧ Slot T "get" id ∧ typeOf (.builtin id) = pure (.type "method_descriptor") ∧ s.TypeIs v T ∧ (∀ b, v = .ref b → ∃ ob, s.heap.get? b = some ob ∧ ob.dict = none) ∧
        MtR X id (fun x vs H Q => x = V.ref a ∧ ∃ (s : Str) (d : Int), vs = [.str s, .int d] ∧ Q (.int ((lookS kvs s).getD d)) H) := by
    intro pins s σ H x v I rx ex
    subst ex
    obtain rfl : v = Value.ref a := rx
    have mo := PySem.W.mapOf_K (prog := X.prog) (w := X.w) I.kIn kd.at_ kd.lit
    refine ⟨"dict", "dict.get", PySem.F.plainAttrs_dict, PySem.F.slot_dict_get, PySem.F.type_dict_get, mo.typeIs, fun b e => by cases e; exact ⟨_, I.kIn _ _ kd.at_, rfl⟩, ?_⟩
    intro pins s σ H x vs v us Q I rx rv ⟨ex, k, d, ev, q⟩
    subst ex ev
    obtain rfl : v = Value.ref a := rx
    obtain ⟨u1, u2, rfl, ⟨t1, rfl⟩, ⟨t2, rfl⟩⟩ : ∃ u1 u2, us = [u1, u2] ∧ (∃ t, u1 = Value.str k t) ∧ ∃ t, u2 = Value.int d t := by
      cases rv with
      | cons r1 r =>
        cases r with
        | cons r2 r =>
          cases r
          exact ⟨_, _, rfl, r1, r2⟩
    have mo := PySem.W.mapOf_K (prog := X.prog) (w := X.w) I.kIn kd.at_ kd.lit
    obtain ⟨r, er, hr⟩ := look k
    obtain ⟨tf, ht⟩ := hr d
    refine call_meetsIn PySem.F.slot_dict_get mo.typeIs PySem.F.entry_dict_get (PySem.F.args_dict_get_3 _ _ _) (meets_dict_get_default (PySem.strKind X.prog X.w) a (PySem.strKind_is X.prog X.w k t1) kd.low (.int d t2)) ⟨_, mo, ?_⟩
    rw [PySem.W.find_K kd.at_ er, ht t2]
    exact ⟨.int _, H, I.tok _, ⟨_, rfl⟩, q⟩
  refine PE.of (pe_late (pe_glob hg hm (v := V.ref a) rfl h1) hp hst hl rfl hline hr) fun σ H Q ⟨m, ρ, h, s, q⟩ => ?_
  simp only [ev] at q
  refine ⟨rfl, tAp_bnd nbV s q fun vs H2 m2 ds h2 s2 x2 r2 q2 => ?_⟩
  obtain ⟨y, e, q3⟩ := Pst.opt q2
  unfold kgetD at e
  split at e
  · rename_i k d
    cases e
    cases r2 with
    | cons a1 r =>
      cases r with
      | cons a2 r =>
        cases r
        cases a1
        cases a2
        exact ⟨rfl, k, d, rfl, (PV.fin q3).same s2.hr (.int _) rfl⟩
  · cases e
end
/-- a dict of the module, as it lies there -/
def DcOk (P : Params) : List DictEntry → List (Str × Int) → Prop
  | [], [] => True
  | e :: r, (k, i) :: q => ((∃ t, e.key = .str k t) ∧ e.hash = PyData.keyHash P k ∧ ∃ v, e.val = .int i v) ∧ DcOk P r q
  | _, _ => False
theorem DcOk.lit {P : Params} : ∀ {es : List DictEntry} {kvs : List (Str × Int)}, DcOk P es kvs → PySem.W.KeysLit P es
  | [], [], _ => trivial
  | e :: r, (k, i) :: q, h => ⟨⟨k, h.1.1.choose, h.1.1.choose_spec, h.1.2.1⟩, DcOk.lit h.2⟩
  | [], _ :: _, h => h.elim
  | _ :: _, [], h => h.elim
theorem DcOk.look {P : Params} (z : Str) : ∀ {es : List DictEntry} {kvs : List (Str × Int)}, DcOk P es kvs → es.any (·.refKey) = false ∧
    ((es.find? (·.key.isStr z) = none ∧ lookS kvs z = none) ∨ ∃ e i v, es.find? (·.key.isStr z) = some e ∧ e.val = .int i v ∧ lookS kvs z = some i)
  | [], [], _ => ⟨rfl, .inl ⟨rfl, rfl⟩⟩
  | e :: r, (k, i) :: q, h => by
    obtain ⟨⟨⟨t, ek⟩, _, v, ev⟩, h2⟩ := h
    obtain ⟨h3, h4⟩ := DcOk.look z h2
    have rk : e.refKey = false := by unfold DictEntry.refKey; rw [ek]
    refine ⟨by rw [List.any_cons, rk, h3]; rfl, ?_⟩
    have es : e.key.isStr z = decide (k = z) := by
      rw [ek]
      show (k == z) = _
      rw [Bool.eq_iff_iff]; simp
    by_cases c : k = z
    · refine .inr ⟨e, i, v, ?_, ev, by rw [lookS, if_pos c]⟩
      rw [List.find?_cons, es, decide_eq_true c]
    · rw [List.find?_cons, es, decide_eq_false c, lookS, if_neg c]
      exact h4
  | [], _ :: _, h => h.elim
  | _ :: _, [], h => h.elim
theorem dc_of {K : PySem.W.Frag} {w : World} {mg : Str → Option Value} {x : Str} {a : Addr} {es : Array DictEntry} {n : Nat} {kvs : List (Str × Int)} (hm : mg x = some (.ref a)) (hl : K.lookup a = some ⟨.type "dict", none, .dict es n, #[]⟩) (hs : (a == sysModules) = false) (hk : DcOk w.params es.toList kvs) : DcAt K w mg x kvs := by
  refine ⟨a, es, n, hm, ⟨hl, hk.lit, hs⟩, fun z => ?_⟩
  obtain ⟨h1, h2⟩ := hk.look z
  have e0 : PySem.W.nsIn K a z = (match es.toList.find? (·.key.isStr z) with
      | some e => some (some e.val)
      | none => if es.toList.any (·.refKey) then none else some none) := by
    unfold PySem.W.nsIn
    rw [hl]
    rfl
  rcases h2 with ⟨h2, h3⟩ | ⟨e, i, v, h2, h4, h3⟩
  · refine ⟨none, by rw [e0, h2, h1]; rfl, fun d => ⟨id, fun td => by rw [h3]; rfl⟩⟩
  · refine ⟨some e.val, by rw [e0, h2], fun d => ⟨fun _ => v, fun td => by rw [h3, Option.getD_some, h4, Option.getD_some]⟩⟩
end Mi

set_option Elab.async false
set_option linter.all false
set_option maxRecDepth 100000
/-! Mini: every expression. -/
namespace Mi
open PySem PySem.Spec PyProof.Rows L2
section
variable {T : Tb} {Z : Wi} {Γ : Gm} {G : Nat → Option D}
theorem mEs_len {N : List Str} {sc : Scope} : ∀ {es : Es} {xs : List Expr}, mEs T N es sc xs = true → xs.length = Es.len es ∧ xs.all noStar = true ∧ (xs = [] → es = .nil)
  | .nil, [], _ => ⟨rfl, rfl, fun _ => rfl⟩
  | .nil, _ :: _, h => by simp [mEs] at h
  | .cons _ _, [], h => by simp [mEs] at h
  | .cons e es, x :: xs, h => by
    simp only [mEs, Bool.and_eq_true] at h
    obtain ⟨a, b, _⟩ := mEs_len h.2
    exact ⟨by simp [Es.len, a], by simp [b, okH_star h.1.1], fun z => by cases z⟩
theorem evp_len : ∀ {es : Es} {ρ : Env} {h : Hm} {ds : List D} {h' : Hm}, evp Γ G es ρ h = .ok ds h' → ds.length = Es.len es
  | .nil, ρ, h, ds, h', e => by simp only [evp] at e; cases e; rfl
  | .cons x es, ρ, h, ds, h', e => by
    simp only [evp] at e
    obtain ⟨a, h1, e1, e⟩ := bnd_ok' e
    obtain ⟨c, h3, e3, e⟩ := bnd_ok' e
    cases e
    simp [Es.len, evp_len e3]
mutual
theorem sE : ∀ (e : E) {W : WX} {X : Cx} {sc : Scope} {N : List Str} (g : Good T Z W Γ G X) (hN : X.N = N) (hsc : X.env.scope = sc) (x : Expr), mE T N e sc x = true → PE X x (tE Z W (ev Γ G e)) ∧ (tst e = true → PT X x (tT Z W (truF (ev Γ G e))))
  | .c d, W, X, sc, N, g, hN, hsc, x, hm => by
    have p := l_c (Z := Z) (W := W) (Γ := Γ) (G := G) (X := X) d x hm
    refine ⟨p, fun _ => ?_⟩
    cases x with
    | Constant c k pos => exact l_truth g p fun _ => rfl
    | _ => simp [mE, mC] at hm
  | .v i, W, X, sc, N, g, hN, hsc, x, hm => by
    cases x with
    | Name y p =>
      simp only [mE, Bool.and_eq_true, decide_eq_true_eq] at hm
      have p := l_var (p := p) g (by rw [hN]; exact hm.1.1.1) (vis_of hsc hm.1.1.2) (nb hm.1.2) (nb hm.2)
      exact ⟨p, fun _ => l_truth g p fun _ => rfl⟩
    | _ => simp [mE] at hm
  | .g n, W, X, sc, N, g, hN, hsc, x, hm => by
    cases x with
    | Name y p =>
      simp only [mE, Bool.and_eq_true] at hm
      obtain ⟨⟨h1, h2⟩, h3⟩ := hm
      split at h1
      · rename_i z d e
        have := of_decide_eq_true h1
        subst this
        have p := l_g (p := p) g e (gl_of hsc h2) (nb h3)
        exact ⟨p, fun _ => l_truth g p fun _ => rfl⟩
      · cases h1
    | _ => simp [mE] at hm
  | .bin o a b, W, X, sc, N, g, hN, hsc, x, hm => by
    cases x with
    | BinOp xa o' xb p =>
      simp only [mE, Bool.and_eq_true, decide_eq_true_eq] at hm
      obtain ⟨⟨rfl, h1⟩, h2⟩ := hm
      have p := l_bin (p := p) (o := o') g (sE a g hN hsc xa h1).1 (sE b g hN hsc xb h2).1
      exact ⟨p, fun _ => l_truth g p fun _ => rfl⟩
    | _ => simp [mE] at hm
  | .neg a, W, X, sc, N, g, hN, hsc, x, hm => by
    cases x with
    | UnaryOp o xa p =>
      cases o with
      | USub =>
        have hm : mE T N a sc xa = true := hm
        have p := l_neg (p := p) (sE a g hN hsc xa hm).1
        exact ⟨p, fun _ => l_truth g p fun _ => rfl⟩
      | _ => simp [mE] at hm
    | _ => simp [mE] at hm
  | .not a, W, X, sc, N, g, hN, hsc, x, hm => by
    cases x with
    | UnaryOp o xa p =>
      cases o with
      | Not =>
        have hm : mE T N a sc xa = true := hm
        obtain ⟨h1, h2⟩ := sE a g hN hsc xa hm
        exact ⟨l_not' g h1, fun ht => l_not (h2 ht) h1⟩
      | _ => simp [mE] at hm
    | _ => simp [mE] at hm
  | .cmp o a b, W, X, sc, N, g, hN, hsc, x, hm => by
    cases x with
    | Compare xa os xbs p =>
      match os, xbs, hm with
      | [o'], [xb], hm =>
        simp only [mE, Bool.and_eq_true, decide_eq_true_eq] at hm
        obtain ⟨⟨⟨rfl, h0⟩, h1⟩, h2⟩ := hm
        obtain ⟨p1, p2⟩ := l_cmp (p := p) (o := o') g h0 (sE a g hN hsc xa h1).1 (sE b g hN hsc xb h2).1
        exact ⟨p1, fun _ => p2⟩
      | [], _, hm => simp [mE] at hm
      | _ :: _ :: _, _, hm => simp [mE] at hm
      | [_], [], hm => simp [mE] at hm
      | [_], _ :: _ :: _, hm => simp [mE] at hm
    | _ => simp [mE] at hm
  | .chain o o2 a b c, W, X, sc, N, g, hN, hsc, x, hm => by
    cases x with
    | Compare xa os xbs p =>
      match os, xbs, hm with
      | [o', o2'], [xb, xc], hm =>
        simp only [mE, Bool.and_eq_true, decide_eq_true_eq] at hm
        obtain ⟨⟨⟨⟨⟨rfl, rfl⟩, h0⟩, h1⟩, h2⟩, h3⟩ := hm
        obtain ⟨p1, p2⟩ := l_chain (p := p) (o := o') (o' := o2') g h0 (sE a g hN hsc xa h1).1 (sE b g hN hsc xb h2).1 (sE c g hN hsc xc h3).1
        exact ⟨p1, fun _ => p2⟩
      | [], _, hm => simp [mE] at hm
      | [_], _, hm => simp [mE] at hm
      | _ :: _ :: _ :: _, _, hm => simp [mE] at hm
      | [_, _], [], hm => simp [mE] at hm
      | [_, _], [_], hm => simp [mE] at hm
      | [_, _], _ :: _ :: _ :: _, hm => simp [mE] at hm
    | _ => simp [mE] at hm
  | .and a b, W, X, sc, N, g, hN, hsc, x, hm => by
    cases x with
    | BoolOp op xs p =>
      match op, xs, hm with
      | .And, xa :: xb :: [], hm =>
        simp only [mE, Bool.and_eq_true] at hm
        obtain ⟨a1, a2⟩ := sE a g hN hsc xa hm.1
        obtain ⟨b1, b2⟩ := sE b g hN hsc xb hm.2
        refine ⟨PE.of (pe_and a1 (pe_one b1)) l_andV, fun ht => ?_⟩
        have ht : tst a = true ∧ tst b = true := by simpa [tst] using ht
        exact PT.of (pw_and (a2 ht.1) (pw_and1 (b2 ht.2))).pt l_andT
      | .And, xa :: xb :: xc :: xs, hm =>
        simp only [mE, Bool.and_eq_true] at hm
        obtain ⟨a1, a2⟩ := sE a g hN hsc xa hm.1
        obtain ⟨b1, b2⟩ := sE b g hN hsc _ hm.2
        refine ⟨PE.of (pe_and a1 b1) l_andV, fun ht => ?_⟩
        have ht : tst a = true ∧ tst b = true := by simpa [tst] using ht
        exact PT.of (pw_and (a2 ht.1) (pt_pw (b2 ht.2))).pt l_andT
      | .And, [], hm => simp [mE] at hm
      | .And, [_], hm => simp [mE] at hm
      | .Or, _, hm => simp [mE] at hm
    | _ => simp [mE] at hm
  | .or a b, W, X, sc, N, g, hN, hsc, x, hm => by
    cases x with
    | BoolOp op xs p =>
      match op, xs, hm with
      | .Or, xa :: xb :: [], hm =>
        simp only [mE, Bool.and_eq_true] at hm
        obtain ⟨a1, a2⟩ := sE a g hN hsc xa hm.1
        obtain ⟨b1, b2⟩ := sE b g hN hsc xb hm.2
        refine ⟨PE.of (pe_or a1 (pe_one b1)) l_orV, fun ht => ?_⟩
        have ht : tst a = true ∧ tst b = true := by simpa [tst] using ht
        exact PT.of (pw_or (a2 ht.1) (pw_or1 (b2 ht.2))).pt l_orT
      | .Or, xa :: xb :: xc :: xs, hm =>
        simp only [mE, Bool.and_eq_true] at hm
        obtain ⟨a1, a2⟩ := sE a g hN hsc xa hm.1
        obtain ⟨b1, b2⟩ := sE b g hN hsc _ hm.2
        refine ⟨PE.of (pe_or a1 b1) l_orV, fun ht => ?_⟩
        have ht : tst a = true ∧ tst b = true := by simpa [tst] using ht
        exact PT.of (pw_or (a2 ht.1) (pt_pw (b2 ht.2))).pt l_orT
      | .Or, [], hm => simp [mE] at hm
      | .Or, [_], hm => simp [mE] at hm
      | .And, _, hm => simp [mE] at hm
    | _ => simp [mE] at hm
  | .ife t a b, W, X, sc, N, g, hN, hsc, x, hm => by
    cases x with
    | IfExp xt xa xb p =>
      simp only [mE, Bool.and_eq_true] at hm
      obtain ⟨⟨⟨h0, h1⟩, h2⟩, h3⟩ := hm
      exact ⟨l_ife g ((sE t g hN hsc xt h1).2 h0) (sE a g hN hsc xa h2).1 (sE b g hN hsc xb h3).1, fun z => by simp [tst] at z⟩
    | _ => simp [mE] at hm
  | .tup es, W, X, sc, N, g, hN, hsc, x, hm => by
    cases x with
    | Tuple xs k p =>
      have hm : mEs T N es sc xs = true := hm
      have p := l_tup (k := k) (p := p) g (sL es g hN hsc xs hm)
      exact ⟨p, fun _ => l_truth g p fun _ => rfl⟩
    | _ => simp [mE] at hm
  | .lst es, W, X, sc, N, g, hN, hsc, x, hm => by
    cases x with
    | List xs p =>
      have hm : mEs T N es sc xs = true := hm
      have p := l_lst (p := p) g (sL es g hN hsc xs hm)
      exact ⟨p, fun _ => l_truth g p fun _ => rfl⟩
    | _ => simp [mE] at hm
  | .dic1 (.cons k (.cons v .nil)), W, X, sc, N, g, hN, hsc, x, hm => by
    unfold mE at hm
    split at hm
    · rename_i xk xv p
      simp only [mEs, Bool.and_eq_true] at hm
      have p := l_dic1 (p := p) (sE k g hN hsc xk hm.1.2).1 (sE v g hN hsc xv hm.2.1.2).1
      exact ⟨p, fun _ => l_truth g p fun _ => rfl⟩
    · cases hm
  | .dic1 .nil, W, X, sc, N, g, hN, hsc, x, hm => by
    unfold mE at hm
    split at hm
    · simp [mEs] at hm
    · cases hm
  | .dic1 (.cons k .nil), W, X, sc, N, g, hN, hsc, x, hm => by
    unfold mE at hm
    split at hm
    · simp [mEs] at hm
    · cases hm
  | .dic1 (.cons k (.cons v (.cons _ _))), W, X, sc, N, g, hN, hsc, x, hm => by
    unfold mE at hm
    split at hm
    · simp [mEs] at hm
    · cases hm
  | .dic ks es, W, X, sc, N, g, hN, hsc, x, hm => by
    cases x with
    | Dict keys xs p =>
      simp only [mE, Bool.and_eq_true, decide_eq_true_eq] at hm
      obtain ⟨⟨⟨⟨h1, h2⟩, h3⟩, h4⟩, h5⟩ := hm
      have p := l_dic (p := p) h1 h2 h3 (mEs_len h5).1.symm h4 (sD es ks keys g hN hsc xs h1 h3 h5)
      exact ⟨p, fun _ => l_truth g p fun _ => rfl⟩
    | _ => simp [mE] at hm
  | .comp e t i fs w, W, X, sc, N, g, hN, hsc, x, hm => by
    cases x with
    | ListComp xe gens scope p =>
      match gens, hm with
      | [⟨tg, iter, ifs, n⟩], hm =>
        simp only [mE, Bool.and_eq_true, decide_eq_true_eq] at hm
        obtain ⟨⟨⟨⟨⟨⟨⟨⟨⟨rfl, h1⟩, h2⟩, h3⟩, h4⟩, h5⟩, h6⟩, h7⟩, h8⟩, h9⟩ := hm
        have p := l_comp (pos := p) (W := W) (fs := fs) g h1 (sI i g hN hsc tg iter h2) (by rw [hN, hsc]; exact blkOk_by h3) (fun i hi => by
            rw [List.all_eq_true] at h9
            simpa using h9 i hi) (fun s H C cl fp => sT_t (X := X.blk s H scope (compEnvC scope cl C X.env) fp) g.calm g.nod hN (by show relS scope X.env.scope = _; rw [hsc]) (fun y z _ => z) t tg h5 |> PG.of <| fun v σ H Q q => by rw [← g.k] at q; exact q)
          (fun s H C cl fp => sF fs (g.blk s H scope (compEnvC scope cl C X.env) fp) hN (by show relS scope X.env.scope = _; rw [hsc]) ifs h6 h7 h8)
          (fun s H C cl fp => (sE e (g.blk s H scope (compEnvC scope cl C X.env) fp) hN (by show relS scope X.env.scope = _; rw [hsc]) xe h4).1)
        exact ⟨p, fun _ => l_truth g p fun _ => rfl⟩
      | [], hm => simp [mE] at hm
      | _ :: _ :: _, hm => simp [mE] at hm
    | _ => simp [mE] at hm
  | .ix a i, W, X, sc, N, g, hN, hsc, x, hm => by
    cases x with
    | Subscript xa xi p =>
      simp only [mE, Bool.and_eq_true] at hm
      have p := l_ix (p := p) g hm.1.1 (sE a g hN hsc xa hm.1.2).1 (sE i g hN hsc xi hm.2).1
      exact ⟨p, fun _ => l_truth g p fun _ => rfl⟩
    | _ => simp [mE] at hm
  | .sl a lo hi, W, X, sc, N, g, hN, hsc, x, hm => by
    cases x with
    | Subscript xa xi p =>
      cases xi with
      | Slice lo' hi' st p2 =>
        cases st with
        | none =>
          simp only [mE, Bool.and_eq_true] at hm
          have p := l_sl (p := p) (p2 := p2) g (sE a g hN hsc xa hm.1.1).1 (sO lo g hN hsc lo' hm.1.2) (sO hi g hN hsc hi' hm.2)
          exact ⟨p, fun _ => l_truth g p fun _ => rfl⟩
        | some _ => simp [mE] at hm
      | _ => simp [mE] at hm
    | _ => simp [mE] at hm
  | .rev a, W, X, sc, N, g, hN, hsc, x, hm => by
    unfold mE at hm
    split at hm
    · rename_i xa i k p1 p2 p3 p
      simp only [Bool.and_eq_true, decide_eq_true_eq] at hm
      obtain ⟨rfl, h1⟩ := hm
      have p := l_rev (k := k) (p1 := p1) (p2 := p2) (p3 := p3) (p := p) g (sE a g hN hsc xa h1).1
      exact ⟨p, fun _ => l_truth g p fun _ => rfl⟩
    · cases hm
  | .call f es, W, X, sc, N, g, hN, hsc, x, hm => by
    unfold mE at hm
    split at hm
    · rename_i y p xs pos
      simp only [Bool.and_eq_true] at hm
      obtain ⟨⟨⟨h1, h2⟩, h3⟩, h4⟩ := hm
      split at h1
      · rename_i z ps e
        simp only [Bool.and_eq_true, decide_eq_true_eq] at h1
        obtain ⟨rfl, h1⟩ := h1
        obtain ⟨l1, l2, l3⟩ := mEs_len h4
        have p := l_call (p := p) (pos := pos) g e h1 (fun ρ h ds h' e => by rw [evs_len e, l1]) l3 (gl_of hsc h2) (nb h3) l2 (sL es g hN hsc xs h4)
        exact ⟨p, fun _ => l_truth g p fun _ => rfl⟩
      · cases h1
    · cases hm
  | .callk f es kes pm, W, X, sc, N, g, hN, hsc, x, hm => by
    unfold mE at hm
    split at hm
    · rename_i y p xs kws pos
      simp only [Bool.and_eq_true] at hm
      obtain ⟨⟨⟨⟨⟨⟨h1, h2⟩, h3⟩, h4⟩, h5⟩, h6⟩, h7⟩ := hm
      split at h1
      · rename_i z ps e
        have e0 := of_decide_eq_true h1
        subst e0
        obtain ⟨l1, l2, l3⟩ := mEs_len h4
        obtain ⟨k1, k2, k3⟩ := mEs_len h5
        rw [List.any_eq_true] at h7
        obtain ⟨q, hq, e1⟩ := h7
        have e1 := of_decide_eq_true e1
        subst e1
        have p := l_callk (p := p) (pos := pos) g e hq rfl h6 (fun ρ h ds h' e => by rw [evs_len e, l1]) (fun ρ h ds h' e => by rw [evs_len e, ← k1, List.length_map]) l3 (gl_of hsc h2) (nb h3) l2 (sL es g hN hsc xs h4) (sK kes g hN hsc kws h5)
        exact ⟨p, fun _ => l_truth g p fun _ => rfl⟩
      · cases h1
    · cases hm
  | .bi f es, W, X, sc, N, g, hN, hsc, x, hm => by
    unfold mE at hm
    split at hm
    · rename_i y p xs kws pos
      simp only [Bool.and_eq_true, decide_eq_true_eq] at hm
      obtain ⟨⟨⟨h1, h2⟩, h3⟩, h4⟩ := hm
      cases kws with
      | cons _ _ => simp at h1
      | nil =>
        split at h4
        · rename_i z e
          simp only [Bool.and_eq_true, decide_eq_true_eq] at h4
          obtain ⟨⟨rfl, h5⟩, h6⟩ := h4
          have p := l_bi (p := p) (pos := pos) g e h5 (gl_of hsc h2) (bts_of g h3) (mEs_len h6).2.1 (sP es g hN hsc xs h6)
          exact ⟨p, fun _ => l_truth g p fun _ => rfl⟩
        · split at h4
          · rename_i z e
            simp only [Bool.and_eq_true, decide_eq_true_eq] at h4
            obtain ⟨rfl, h4⟩ := h4
            split at h4
            · rename_i xa t p2
              simp only [Bool.and_eq_true, decide_eq_true_eq] at h4
              obtain ⟨⟨⟨⟨rfl, h5⟩, h6⟩, h7⟩, h8⟩ := h4
              match es, h8 with
              | .cons e' .nil, h8 =>
                have p := l_isi (p := p) (pos := pos) (p2 := p2) g e h7 (gl_of hsc h2) (bts_of g h3) (gl_of hsc h5) (bts_of g h6) (sE e' g hN hsc xa h8).1
                exact ⟨p, fun _ => l_truth g p fun _ => rfl⟩
              | .nil, h8 => cases h8
              | .cons _ (.cons _ _), h8 => cases h8
            · cases h4
          · split at h4
            · split at h4
              · rename_i r p2 ys ks pos2
                simp only [Bool.and_eq_true, decide_eq_true_eq] at h4
                obtain ⟨⟨⟨⟨⟨⟨⟨rfl, rfl⟩, h5⟩, h6⟩, h7⟩, h8⟩, h9⟩, h10⟩ := h4
                cases ks with
                | cons _ _ => simp at h5
                | nil =>
                  match es, ys, h8, h9, h10 with
                  | .cons e1 .nil, [xa], _, _, h10 =>
                    simp only [mEs, Bool.and_eq_true] at h10
                    have p := l_lrange1 (p := p) (pos := pos) (p2 := p2) (pos2 := pos2) g h10.1.1 (gl_of hsc h2) (bts_of g h3) (gl_of hsc h6) (bts_of g h7) (sE e1 g hN hsc xa h10.1.2).1
                    exact ⟨p, fun _ => l_truth g p fun _ => rfl⟩
                  | .cons e1 (.cons e2 .nil), [xa, xb], _, _, h10 =>
                    simp only [mEs, Bool.and_eq_true] at h10
                    have p := l_lrange2 (p := p) (pos := pos) (p2 := p2) (pos2 := pos2) g h10.1.1 h10.2.1.1 (gl_of hsc h2) (bts_of g h3) (gl_of hsc h6) (bts_of g h7) (sE e1 g hN hsc xa h10.1.2).1 (sE e2 g hN hsc xb h10.2.1.2).1
                    exact ⟨p, fun _ => l_truth g p fun _ => rfl⟩
                  | .nil, _ :: _, _, _, h10 => simp [mEs] at h10
                  | .nil, [], h8, _, _ => simp at h8
                  | .cons _ _, [], h8, _, _ => simp at h8
                  | .cons _ .nil, _ :: _ :: _, _, _, h10 => simp [mEs] at h10
                  | .cons _ (.cons _ _), [_], _, _, h10 => simp [mEs] at h10
                  | .cons _ (.cons _ _), _ :: _ :: _ :: _, _, h9, _ => simp at h9
                  | .cons _ (.cons _ (.cons _ _)), [_, _], _, _, h10 => simp [mEs] at h10
              · cases h4
            · split at h4
              · rename_i r p2 ys ks pos2
                simp only [Bool.and_eq_true, decide_eq_true_eq] at h4
                obtain ⟨⟨⟨⟨⟨⟨rfl, rfl⟩, h5⟩, h6⟩, h7⟩, h8⟩, h10⟩ := h4
                cases ks with
                | cons _ _ => simp at h5
                | nil =>
                  match es, ys, h8, h10 with
                  | .cons e1 .nil, [xa], _, h10 =>
                    simp only [mEs, Bool.and_eq_true] at h10
                    have p := l_trange (p := p) (pos := pos) (p2 := p2) (pos2 := pos2) g h10.1.1 (gl_of hsc h2) (bts_of g h3) (gl_of hsc h6) (bts_of g h7) (sE e1 g hN hsc xa h10.1.2).1
                    exact ⟨p, fun _ => l_truth g p fun _ => rfl⟩
                  | .nil, _ :: _, _, h10 => simp [mEs] at h10
                  | _, [], h8, _ => simp at h8
                  | .cons _ (.cons _ _), [_], _, h10 => simp [mEs] at h10
                  | _, _ :: _ :: _, h8, _ => simp at h8
              · cases h4
            · cases h4
    · cases hm
  | .me f o es, W, X, sc, N, g, hN, hsc, x, hm => by
    unfold mE at hm
    split at hm
    · rename_i xo nm apos xs cpos
      simp only [Bool.and_eq_true, decide_eq_true_eq] at hm
      obtain ⟨⟨⟨⟨⟨h1, h2⟩, h3⟩, h4⟩, h5⟩, h6⟩ := hm
      have p := l_me (apos := apos) (cpos := cpos) g h1 h2 h3 h4 (mEs_len h6).2.1 (sE o g hN hsc xo h5).1 (sL es g hN hsc xs h6) (sP es g hN hsc xs h6)
      exact ⟨p, fun _ => l_truth g p fun _ => rfl⟩
    · cases hm
  | .kget z kvs es, W, X, sc, N, g, hN, hsc, x, hm => by
    unfold mE at hm
    split at hm
    · rename_i y p nm apos xs cpos
      simp only [Bool.and_eq_true, decide_eq_true_eq] at hm
      obtain ⟨⟨⟨⟨⟨⟨⟨rfl, rfl⟩, h3⟩, h4⟩, h5⟩, h6⟩, h7⟩, h8⟩ := hm
      rw [List.any_eq_true] at h7
      obtain ⟨q, hq, e1⟩ := h7
      have e1 := of_decide_eq_true e1
      subst e1
      have p := l_kget (p := p) (apos := apos) (cpos := cpos) g hq h3 h4 (gl_of hsc h5) (nb h6) (mEs_len h8).2.1 (sP es g hN hsc xs h8)
      exact ⟨p, fun _ => l_truth g p fun _ => rfl⟩
    · cases hm
theorem sL : ∀ (es : Es) {W : WX} {X : Cx} {sc : Scope} {N : List Str} (g : Good T Z W Γ G X) (hN : X.N = N) (hsc : X.env.scope = sc) (xs : List Expr), mEs T N es sc xs = true → PA X xs (tAs Z W (evs Γ G es))
  | .nil, W, X, sc, N, g, hN, hsc, [], hm => a_nilL
  | .cons e es, W, X, sc, N, g, hN, hsc, x :: xs, hm => by
    simp only [mEs, Bool.and_eq_true] at hm
    exact a_consL hm.1.1 (sE e g hN hsc x hm.1.2).1 (sL es g hN hsc xs hm.2)
  | .nil, W, X, sc, N, g, hN, hsc, _ :: _, hm => by simp [mEs] at hm
  | .cons _ _, W, X, sc, N, g, hN, hsc, [], hm => by simp [mEs] at hm
theorem sP : ∀ (es : Es) {W : WX} {X : Cx} {sc : Scope} {N : List Str} (g : Good T Z W Γ G X) (hN : X.N = N) (hsc : X.env.scope = sc) (xs : List Expr), mEs T N es sc xs = true → PA X xs (tAp Z W (evp Γ G es))
  | .nil, W, X, sc, N, g, hN, hsc, [], hm => a_nilP
  | .cons e es, W, X, sc, N, g, hN, hsc, x :: xs, hm => by
    simp only [mEs, Bool.and_eq_true] at hm
    exact a_consP hm.1.1 (sE e g hN hsc x hm.1.2).1 (sP es g hN hsc xs hm.2)
  | .nil, W, X, sc, N, g, hN, hsc, _ :: _, hm => by simp [mEs] at hm
  | .cons _ _, W, X, sc, N, g, hN, hsc, [], hm => by simp [mEs] at hm
theorem sK : ∀ (es : Es) {W : WX} {X : Cx} {sc : Scope} {N : List Str} (g : Good T Z W Γ G X) (hN : X.N = N) (hsc : X.env.scope = sc) (kws : List Keyword), mEs T N es sc (kws.map (·.value)) = true → PK X kws (tAs Z W (evs Γ G es))
  | .nil, W, X, sc, N, g, hN, hsc, [], hm => k_nil
  | .cons e es, W, X, sc, N, g, hN, hsc, ⟨nm, x, kp⟩ :: kws, hm => by
    simp only [List.map_cons, mEs, Bool.and_eq_true] at hm
    exact k_cons (sE e g hN hsc x hm.1.2).1 (sK es g hN hsc kws hm.2)
  | .nil, W, X, sc, N, g, hN, hsc, _ :: _, hm => by simp [mEs] at hm
  | .cons _ _, W, X, sc, N, g, hN, hsc, [], hm => by simp [mEs] at hm
theorem sD : ∀ (es : Es) (ks : List L2.Key) (keys : List (Option Expr)) {W : WX} {X : Cx} {sc : Scope} {N : List Str} (g : Good T Z W Γ G X) (hN : X.N = N) (hsc : X.env.scope = sc) (xs : List Expr) {p : Pos}, mKs ks keys = true → xs.length = ks.length → mEs T N es sc xs = true → PPs X p keys xs (trs Z W Γ G ks es)
  | .nil, [], [], W, X, sc, N, g, hN, hsc, [], p, hk, hl, hm => pps_nil
  | .cons e es, k :: ks, key :: keys, W, X, sc, N, g, hN, hsc, x :: xs, p, hk, hl, hm => by
    simp only [mEs, Bool.and_eq_true] at hm
    exact pp_cons hk (sE e g hN hsc x hm.1.2).1 fun h => sD es ks keys g hN hsc xs h (by simpa using hl) hm.2
  | .nil, _, _, W, X, sc, N, g, hN, hsc, _ :: _, p, hk, hl, hm => by simp [mEs] at hm
  | .cons _ _, _, _, W, X, sc, N, g, hN, hsc, [], p, hk, hl, hm => by simp [mEs] at hm
  | .nil, _ :: _, _, W, X, sc, N, g, hN, hsc, [], p, hk, hl, hm => by simp at hl
  | .nil, [], _ :: _, W, X, sc, N, g, hN, hsc, [], p, hk, hl, hm => by have := (mKs_len hk).1; simp at this
  | .cons _ _, [], _, W, X, sc, N, g, hN, hsc, _ :: _, p, hk, hl, hm => by simp at hl
  | .cons _ _, _ :: _, [], W, X, sc, N, g, hN, hsc, _ :: _, p, hk, hl, hm => by have := (mKs_len hk).1; simp at this
theorem sO : ∀ (o : Oe) {W : WX} {X : Cx} {sc : Scope} {N : List Str} (g : Good T Z W Γ G X) (hN : X.N = N) (hsc : X.env.scope = sc) (x : Option Expr), mO T N o sc x = true → PO X x (tO Z W Γ G o)
  | .no, W, X, sc, N, g, hN, hsc, none, hm => po_none
  | .so e, W, X, sc, N, g, hN, hsc, some x, hm => po_some (sE e g hN hsc x hm).1
  | .no, W, X, sc, N, g, hN, hsc, some _, hm => by simp [mO] at hm
  | .so e, W, X, sc, N, g, hN, hsc, none, hm => by simp [mO] at hm
theorem sI : ∀ (i : I) {W : WX} {X : Cx} {sc : Scope} {N : List Str} (g : Good T Z W Γ G X) (hN : X.N = N) (hsc : X.env.scope = sc) (tg x : Expr), mI T N i sc tg x = true → PI X tg x (tI Z W (evI Γ G i))
  | .of e, W, X, sc, N, g, hN, hsc, tg, x, hm => i_of g (sE e g hN hsc x hm).1
  | .keys e, W, X, sc, N, g, hN, hsc, tg, x, hm => i_keys g (sE e g hN hsc x hm).1
  | .rng es, W, X, sc, N, g, hN, hsc, tg, x, hm => by
    unfold mI at hm
    split at hm
    · rename_i y p xs kws pos
      simp only [Bool.and_eq_true, decide_eq_true_eq] at hm
      obtain ⟨⟨⟨⟨⟨⟨h1, rfl⟩, h2⟩, h3⟩, h4⟩, h5⟩, h6⟩ := hm
      cases kws with
      | cons _ _ => simp at h1
      | nil =>
        have l := mEs_len h6
        exact i_rng g (gl_of hsc h4) (bts_of g h5) l.2.1 (fun ρ h ds h' e => by rw [evp_len e, l.1]) ⟨h2, h3⟩ (sP es g hN hsc xs h6)
    · cases hm
  | .enum e, W, X, sc, N, g, hN, hsc, tg, x, hm => by
    unfold mI at hm
    split at hm
    · rename_i y p x kws pos
      simp only [Bool.and_eq_true, decide_eq_true_eq] at hm
      obtain ⟨⟨⟨⟨⟨⟨h1, rfl⟩, h2⟩, h3⟩, h4⟩, h5⟩, h6⟩ := hm
      cases kws with
      | cons _ _ => simp at h1
      | nil => exact i_enum g h4 (gl_of hsc h2) (bts_of g h3) h5 (sE e g hN hsc x h6).1
    · cases hm
  | .zip a b, W, X, sc, N, g, hN, hsc, tg, x, hm => by
    unfold mI at hm
    split at hm
    · rename_i y p xa xb kws pos
      simp only [Bool.and_eq_true, decide_eq_true_eq] at hm
      obtain ⟨⟨⟨⟨⟨⟨⟨⟨h1, rfl⟩, h2⟩, h3⟩, h4⟩, h5⟩, h6⟩, h7⟩, h8⟩ := hm
      cases kws with
      | cons _ _ => simp at h1
      | nil => exact i_zip g h4 (gl_of hsc h2) (bts_of g h3) h5 h6 (sE a g hN hsc xa h7).1 (sE b g hN hsc xb h8).1
    · cases hm
  | .items _, W, X, sc, N, g, hN, hsc, tg, x, hm => by simp [mI] at hm
  | .vals _, W, X, sc, N, g, hN, hsc, tg, x, hm => by simp [mI] at hm
  | .sof e, W, X, sc, N, g, hN, hsc, tg, x, hm => by
    simp only [mI] at hm
    exact i_sof g (sE e g hN hsc x hm).1
  | .senum e, W, X, sc, N, g, hN, hsc, tg, x, hm => by
    unfold mI at hm
    split at hm
    · rename_i y p x kws pos
      simp only [Bool.and_eq_true, decide_eq_true_eq] at hm
      obtain ⟨⟨⟨⟨⟨⟨h1, rfl⟩, h2⟩, h3⟩, h4⟩, h5⟩, h6⟩ := hm
      cases kws with
      | cons _ _ => simp at h1
      | nil => exact i_senum g h4 (gl_of hsc h2) (bts_of g h3) h5 (sE e g hN hsc x h6).1
    · cases hm
theorem sF : ∀ (es : Es) {W : WX} {X : Cx} {sc : Scope} {N : List Str} (g : Good T Z W Γ G X) (hN : X.N = N) (hsc : X.env.scope = sc) (xs : List Expr), mEs T N es sc xs = true → xs.length ≤ 1 → tsts es = true → PTs X xs (tT Z W (evF Γ G es))
  | .nil, W, X, sc, N, g, hN, hsc, [], hm, hl, ht => f_nil
  | .cons e .nil, W, X, sc, N, g, hN, hsc, [x], hm, hl, ht => by
    simp only [mEs, Bool.and_eq_true] at hm
    simp only [tsts, Bool.and_eq_true] at ht
    exact f_one ((sE e g hN hsc x hm.1.2).2 ht.1)
  | _, W, X, sc, N, g, hN, hsc, _ :: _ :: _, hm, hl, ht => by simp at hl
  | .nil, W, X, sc, N, g, hN, hsc, _ :: _, hm, hl, ht => by simp [mEs] at hm
  | .cons _ _, W, X, sc, N, g, hN, hsc, [], hm, hl, ht => by simp [mEs] at hm
  | .cons _ (.cons _ _), W, X, sc, N, g, hN, hsc, [_], hm, hl, ht => by simp [mEs] at hm
end
end
end Mi

set_option Elab.async false
set_option linter.all false
set_option maxRecDepth 100000
/-! Mini: statements' lemmas. -/
namespace Mi
open PySem PySem.Spec PyProof.Rows L2
/-- what is wanted behind a statement -/
def PoS (Z : Wi) (W : WX) (m : List Addr) (H : Hp) (r : Rs) (E : Ends) : Prop := match r with
  | .nx ρ h => ∀ σ' H' m', StR Z.K m' H' h σ' ρ → Ext m H m' H' → E.nx σ' H'
  | .bk ρ h => ∀ σ' H' m', StR Z.K m' H' h σ' ρ → Ext m H m' H' → E.bk σ' H'
  | .ct ρ h => ∀ σ' H' m', StR Z.K m' H' h σ' ρ → Ext m H m' H' → E.ct σ' H'
  | .rt d h => ∀ v H' m', HRp Z.K m' H' h → Ext m H m' H' → Rp Z.K m' H' v d → D.st d = true → E.rt v H'
  | .xx c fs ρ h => ∀ cls dx σ' H' m', StR Z.K m' H' h σ' ρ → Ext m H m' H' → XRp Z m' H' cls dx c fs → W cls dx σ' H'
  | .bad => False
def tS (Z : Wi) (W : WX) (f : Env → Hm → Rs) : TS := fun E σ H => ∃ m ρ h, StR Z.K m H h σ ρ ∧ PoS Z W m H (f ρ h) E
structure GoodS (T : Tb) (Z : Wi) (W : WX) (Γ : Gm) (G : Nat → Option D) (X : Cx) : Prop extends Good T Z W Γ G X where
  own : PassesOwn (model X.prog X.w) X.A X.env X.xe
  fn : ∀ y, X.fn y = true
  fk : X.env.blockKind = .function
  hs : X.stack = X.env :: X.outer
  hf : X.env.frame = some X.env.locals
  rm : Room 0 X.A
theorem PS.of {X : Cx} {s : Stmt} {t t' : TS} (p : PS X s t) (h : ∀ E σ H, t' E σ H → t E σ H) : PS X s t' := ⟨fun pins s σ H E I q => p.run pins s σ H E I (h E σ H q)⟩
theorem PSs.of {X : Cx} {s : List Stmt} {t t' : TS} (p : PSs X s t) (h : ∀ E σ H, t' E σ H → t E σ H) : PSs X s t' := ⟨fun pins s σ H E I q => p.run pins s σ H E I (h E σ H q)⟩
section
variable {T : Tb} {Z : Wi} {W : WX} {Γ : Gm} {G : Nat → Option D} {X : Cx} {σ : L2.St} {m m' : List Addr} {H H' : Hp} {h : Hm} {ρ : Env} {E : Ends}
theorem PoS.rebase {r : Rs} (x : Ext m H m' H') (p : PoS Z W m H r E) : PoS Z W m' H' r E := by
  cases r with
  | nx ρ h => exact fun σ' H2 m2 a b => p σ' H2 m2 a (x.trans a.hr b)
  | bk ρ h => exact fun σ' H2 m2 a b => p σ' H2 m2 a (x.trans a.hr b)
  | ct ρ h => exact fun σ' H2 m2 a b => p σ' H2 m2 a (x.trans a.hr b)
  | rt d h => exact fun v H2 m2 a b => p v H2 m2 a (x.trans a b)
  | xx c fs ρ h => exact fun cls dx σ' H2 m2 a b => p cls dx σ' H2 m2 a (x.trans a.hr b)
  | bad => exact p
/-- an expression ahead -/
theorem S_bnd {β γ : Type} {rel : List Addr → Hp → γ → β → Prop} {new : Hp → γ → β → Prop} {r : R β} {k : β → Hm → Rs} (s : StR Z.K m H h σ ρ) (p : PoS Z W m H (bns ρ r k) E) :
    Pst Z W σ rel new m H r fun v H1 => ∃ m1 d h1, r = .ok d h1 ∧ StR Z.K m1 H1 h1 σ ρ ∧ Ext m H m1 H1 ∧ rel m1 H1 v d ∧ new H v d ∧ PoS Z W m H (k d h1) E := by
  cases r with
  | ok d h1 => exact fun v H1 m1 a b c n => ⟨m1, d, h1, rfl, s.go a b, b, c, n, p⟩
  | ex c fs h1 => exact fun cls dx H1 m1 a b c => p cls dx σ H1 m1 (s.go a b) b c
  | bad => exact p
theorem tE_S {f : Env → Hm → R D} {k : D → Hm → Rs} {Q' : VK} (s : StR Z.K m H h σ ρ) (p : PoS Z W m H (bns ρ (f ρ h) k) E)
    (go : ∀ v H1 m1 d h1, StR Z.K m1 H1 h1 σ ρ → Ext m H m1 H1 → Rp Z.K m1 H1 v d → newV H v d → PoS Z W m H (k d h1) E → Q' v H1) : tE Z W f σ H Q' :=
  ⟨m, ρ, h, s, Pst.mono (S_bnd s p) fun v H1 ⟨m1, d, h1, _, a, b, c, n, q⟩ => go v H1 m1 d h1 a b c n q⟩
/-- .. its value gets a place -/
theorem tE_So {f : Env → Hm → R D} {k : D → Hm → Rs} {Q' : VK} (s : StR Z.K m H h σ ρ) (p : PoS Z W m H (bns ρ (f ρ h) fun d h => bns ρ (own d h) k) E)
    (go : ∀ v H1 m1 d h1, StR Z.K m1 H1 h1 σ ρ → Ext m H m1 H1 → Rp Z.K m1 H1 v d → D.st d = true → PoS Z W m1 H1 (k d h1) E → Q' v H1) : tE Z W f σ H Q' := by
  refine tE_S s p fun v H1 m1 d h1 s1 x1 r1 n1 q => ?_
  obtain ⟨m', d', h', eo, hr', xe', r', st', kp⟩ := PV.own s1.hr x1 r1 n1
  rw [eo, bns_ok] at q
  exact go v H1 m' d' h' ⟨hr', s1.en.more fun d v a b => kp d v a b⟩ xe' r' st' (q.rebase xe')
theorem tT_S {f : Env → Hm → R Bool} {k : Bool → Hm → Rs} {Q' : Bool → Hp → Prop} (s : StR Z.K m H h σ ρ) (p : PoS Z W m H (bns ρ (f ρ h) k) E)
    (go : ∀ b H1 m1 h1, StR Z.K m1 H1 h1 σ ρ → Ext m H m1 H1 → PoS Z W m1 H1 (k b h1) E → Q' b H1) : tT Z W f σ H Q' :=
  ⟨m, ρ, h, s, Pst.mono (S_bnd s p) fun v H1 ⟨m1, d, h1, _, a, b, c, n, q⟩ => by subst c; exact go v H1 m1 h1 a b (q.rebase b)⟩
theorem bns_assoc {α β : Type} (r : R α) (f : α → Hm → R β) (g : β → Hm → Rs) : bns ρ (bnd r f) g = bns ρ r fun a h => bns ρ (f a h) g := by cases r <;> rfl
theorem PoS.optB {β : Type} {o : Option β} {k : β → Hm → Rs} (p : PoS Z W m H (bns ρ (opt o h) k) E) : ∃ d, o = some d ∧ PoS Z W m H (k d h) E := by
  cases o with
  | none => exact p.elim
  | some d => exact ⟨d, rfl, p⟩

/-! ### plain statements -/
theorem s_pass {p : Pos} : PS X (.Pass p) (tS Z W (fun ρ h => .nx ρ h)) := PS.of ps_pass fun E σ H ⟨m, ρ, h, s, q⟩ => q σ H m s .refl
theorem s_break {p : Pos} : PS X (.Break p) (tS Z W (fun ρ h => .bk ρ h)) := PS.of ps_break fun E σ H ⟨m, ρ, h, s, q⟩ => q σ H m s .refl
theorem s_continue {p : Pos} : PS X (.Continue p) (tS Z W (fun ρ h => .ct ρ h)) := PS.of ps_continue fun E σ H ⟨m, ρ, h, s, q⟩ => q σ H m s .refl
theorem s_retN {p : Pos} : PS X (.Return none p) (tS Z W (fun _ h => .rt .non h)) := PS.of ps_retN fun E σ H ⟨m, ρ, h, s, q⟩ => q .non H m s.hr .refl .non rfl
theorem s_ret {e : Mi.E} {x : Expr} {Xs0 : Xs} {p : Pos} (he : PE X x (tE Z W (ev Γ G e))) : PS X (.Return (some x) p) (tS Z W (ex Γ G Xs0 (.ret e))) := PS.of (ps_ret he) fun E σ H ⟨m, ρ, h, s, q⟩ => by
  simp only [ex] at q
  exact tE_So s q fun v H1 m1 d h1 s1 x1 r1 st q1 => q1 v H1 m1 s1.hr .refl r1 st
def isLC : Expr → Bool
  | .ListComp _ _ _ _ => true
  | _ => false
theorem sw_no {x : Expr} {t : Option Expr} {n : Nat} {env : PySem.Env} (h : okH x = true) (h2 : isLC x = false) : swapsWith x t n env = pure false := by
  cases x <;> first | rfl | (simp [okH] at h; done) | (simp [isLC] at h2)
theorem s_ex {e : Mi.E} {x : Expr} {Xs0 : Xs} {p : Pos} (hok : okH x = true) (hl : isLC x = false) (he : PE X x (tE Z W (ev Γ G e))) : PS X (.Expr x p) (tS Z W (ex Γ G Xs0 (.ex e))) := PS.of (ps_expr he (sw_no hok hl)) fun E σ H ⟨m, ρ, h, s, q⟩ => by
  simp only [ex] at q
  exact tE_S s q fun v H1 m1 d h1 s1 x1 r1 n1 q1 => q1 σ H1 m1 s1 x1
theorem s_if {e : Mi.E} {a b : Ss} {x : Expr} {xa xb : List Stmt} {Xs0 : Xs} {p : Pos} (ht : PT X x (tT Z W (truF (ev Γ G e)))) (ha : PSs X xa (tS Z W (exs Γ G Xs0 a))) (hb : PSs X xb (tS Z W (exs Γ G Xs0 b))) : PS X (.If x xa xb p) (tS Z W (ex Γ G Xs0 (.ifs e a b))) := PS.of (ps_if ht ha hb) fun E σ H ⟨m, ρ, h, s, q⟩ => by
  simp only [ex] at q
  rw [← bns_assoc] at q
  refine tT_S s q fun k H1 m1 h1 s1 x1 q1 => ?_
  cases k with
  | true => exact ⟨m1, ρ, h1, s1, q1⟩
  | false => exact ⟨m1, ρ, h1, s1, q1⟩
theorem ss_nil {Xs0 : Xs} : PSs X [] (tS Z W (exs Γ G Xs0 .nil)) := PSs.of pss_nil fun E σ H ⟨m, ρ, h, s, q⟩ => by
  simp only [exs] at q
  exact q σ H m s .refl
theorem PoS.seq {r : Rs} {k : Env → Hm → Rs} (p : PoS Z W m H (sq r k) E) : PoS Z W m H r { E with nx := fun σ' H' => ∃ m' ρ' h', StR Z.K m' H' h' σ' ρ' ∧ PoS Z W m' H' (k ρ' h') E } := by
  cases r with
  | nx ρ h => exact fun σ' H2 m2 a b => ⟨m2, ρ, h, a, PoS.rebase b p⟩
  | bk ρ h => exact p
  | ct ρ h => exact p
  | rt d h => exact p
  | xx c fs ρ h => exact p
  | bad => exact p
theorem ss_cons {s : Mi.St} {ss : Ss} {x : Stmt} {xs : List Stmt} {Xs0 : Xs} (h1 : PS X x (tS Z W (ex Γ G Xs0 s))) (h2 : PSs X xs (tS Z W (exs Γ G Xs0 ss))) : PSs X (x :: xs) (tS Z W (exs Γ G Xs0 (.cons s ss))) := PSs.of (pss_cons h1 h2) fun E σ H ⟨m, ρ, h, st, q⟩ => by
  simp only [exs] at q
  exact ⟨m, ρ, h, st, q.seq⟩
/-! ### stores -/
theorem PoS.asg {t : Mi.T} {d : D} {v : V} {Q : L2.St → Hp → Prop} (s : StR Z.K m H h σ ρ) (r : Rp Z.K m H v d) (st : D.st d = true) (q : PoS Z W m H (bns ρ (opt (asgT t d ρ) h) .nx) E) : tG Z.K t v σ H E.nx := by
  obtain ⟨ρ', e, q⟩ := q.optB
  exact ⟨m, ρ, h, d, ρ', s, r, st, e, fun σ' en sa => q σ' H m ⟨s.hr, en⟩ .refl⟩
theorem s_asg {e : Mi.E} {t : Mi.T} {x tg : Expr} {Xs0 : Xs} {p : Pos} (he : PE X x (tE Z W (ev Γ G e))) (hg : PG X tg (tG Z.K t)) (hs : swapsWithSole [tg] x p.line X.env = pure false) (hw : swappedStores [tg] x X.env = pure none) (h1 : noStar tg = true) : PS X (.Assign [tg] x p) (tS Z W (ex Γ G Xs0 (.asg t e))) :=
  PS.of (ps_asg he hg hs hw (by rw [assignEach_cons h1]; rfl)) fun E σ H ⟨m, ρ, h, s, q⟩ => by
  simp only [ex] at q
  exact tE_So s q fun v H1 m1 d h1 s1 x1 r1 st q1 => q1.asg (Q := E.nx) s1 r1 st
end
end Mi

set_option Elab.async false
set_option linter.all false
set_option maxRecDepth 100000
/-! Mini: stores in places, loops. -/
namespace Mi
open PySem PySem.Spec PyProof.Rows L2
section
variable {K : PySem.W.Frag} {m : List Addr} {H : Hp}
theorem any_keys : ∀ {kvs : List (L2.Key × V)} {kds : List (L2.Key × D)} (k : L2.Key), kvs.map (·.1) = kds.map (·.1) → (kvs.any fun kv => decide (kv.1 = k)) = kds.any fun kv => decide (kv.1 = k) := fun {kvs kds} k e => by
  have : (kvs.map (·.1)).any (fun q => decide (q = k)) = (kds.map (·.1)).any fun q => decide (q = k) := by rw [e]
  rw [List.any_map, List.any_map] at this
  exact this
theorem putMap {k : L2.Key} {v : V} {d : D} (r : Rp K m H v d) (sd : D.st d = true) : ∀ {kvs : List (L2.Key × V)} {kds : List (L2.Key × D)}, KvR K m H kvs kds → KvR K m H (kvs.map fun kv => if kv.1 = k then (kv.1, v) else kv) (kds.map fun kv => if kv.1 = k then (kv.1, d) else kv)
  | [], [], _ => ⟨rfl, rfl, .nil⟩
  | [], _ :: _, q => by have := q.1; simp at this
  | _ :: _, [], q => by have := q.1; simp at this
  | p :: kvs, p' :: kds, ⟨e, s, t⟩ => by
    simp only [List.map_cons, List.cons.injEq] at e
    simp only [List.map_cons, D.stL, Bool.and_eq_true] at s
    cases t with
    | cons a t =>
      obtain ⟨e2, s2, t2⟩ := putMap (k := k) r sd (kvs := kvs) (kds := kds) ⟨e.2, s.2, t⟩
      simp only [List.map_cons]
      by_cases h : p.1 = k
      · rw [if_pos h, if_pos (by rw [← e.1]; exact h)]
        exact ⟨by simp only [List.map_cons]; rw [e.1, e2], by simp only [List.map_cons, D.stL, Bool.and_eq_true]; exact ⟨sd, s2⟩, by simp only [List.map_cons]; exact .cons r t2⟩
      · rw [if_neg h, if_neg (by rw [← e.1]; exact h)]
        exact ⟨by simp only [List.map_cons]; rw [e.1, e2], by simp only [List.map_cons, D.stL, Bool.and_eq_true]; exact ⟨s.1, s2⟩, by simp only [List.map_cons]; exact .cons a t2⟩
theorem putK_rel {k : L2.Key} {v : V} {d : D} {kvs : List (L2.Key × V)} {kds : List (L2.Key × D)} (q : KvR K m H kvs kds) (r : Rp K m H v d) (sd : D.st d = true) : KvR K m H (L2.putK kvs k v) (Mi.putK k d kds) := by
  unfold L2.putK Mi.putK
  rw [any_keys k q.1]
  split
  · exact putMap r sd q
  · exact ⟨by simp [q.1], by rw [List.map_append, stL_append, q.2.1]; simp [D.stL, sd], by rw [List.map_append, List.map_append]; exact q.2.2.append (.one r)⟩
end
section
variable {T : Tb} {Z : Wi} {W : WX} {Γ : Gm} {G : Nat → Option D} {X : Cx} {σ : L2.St} {m m' : List Addr} {H H' : Hp} {h : Hm} {ρ : Env} {E : Ends}
/-- o[i] = v -/
def rSet (K : PySem.W.Frag) : TSet := fun o i v H Q => ∃ m h d e z h', HRp K m H h ∧ Rp K m H o d ∧ Rp K m H i e ∧ Rp K m H v z ∧ D.st z = true ∧ setI h d e z = .ok () h' ∧ ∀ H', HRp K m H' h' → Ext m H m H' → Q H'
theorem set_any (hu : X.A.units + 1 < cLine) : PSet X (rSet X.K) := by
  intro pins s σ H o i v ov iv u Q I ro ri rv ⟨m, h, d, e, z, h', hr, qd, qe, qz, sz, eq, fin⟩
  unfold setI at eq
  split at eq
  · rename_i n
    split at eq
    · rename_i es e1
      split at eq
      · rename_i k
        split at eq
        · rename_i hk
          cases eq
          obtain ⟨a, xs, e3, e4, s1, t1⟩ := lst_view (Z := ⟨X.K, fun _ => none⟩) hr e1
          cases qd with
          | ref q =>
            rw [q] at e3; cases e3
            cases qe
            obtain ⟨r', x'⟩ := hr.write (u := .lst (xs.set k.toNat v)) (o := .lst (es.set k.toNat z)) q (fun _ _ w => by rw [e4] at w; cases w) rfl fun H2 eH x' => by
              subst eH
              exact .lst upd_same (by rw [stL_iff]; intro d hd; rcases List.mem_or_eq_of_mem_set hd with hd | hd; exact (stL_iff es).mp s1 d hd; exact hd ▸ sz) ((RpL.ext hr x' t1).set (Rp.ext hr x' qz) _)
            refine set_list pins s σ H _ _ v ov iv u Q I ro ri rv ⟨a, xs, k, k.toNat, rfl, rfl, e4, ?_, fin _ r' x'⟩
            unfold ixN
            rw [if_pos hk.1, if_pos (by rw [t1.length]; exact hk.2)]
        · cases eq
      · cases eq
    · rename_i kds e1
      split at eq
      · rename_i k ek
        split at eq
        · rename_i hl
          cases eq
          obtain ⟨a, e3, oa⟩ := hr.get e1
          cases oa with
          | dic e4 t =>
            rename_i kvs
            cases qd with
            | ref q =>
              rw [q] at e3; cases e3
              obtain rfl := keyOf_view qe ek
              obtain ⟨r', x'⟩ := hr.write (u := .dK (L2.putK kvs k v)) (o := .dic (Mi.putK k z kds)) q (fun _ _ w => by rw [e4] at w; cases w) rfl fun H2 eH x' => by
                subst eH
                exact .dic upd_same (putK_rel (KvR.ext hr x' t) (Rp.ext hr x' qz) sz)
              have hlen : kvs.length = kds.length := by have := congrArg List.length t.1; simpa using this
              exact set_dict hu pins s σ H _ _ v ov iv u Q I ro ri rv ⟨a, _, rfl, DPut.k e4 (by rw [hlen]; exact hl), fin _ r' x'⟩
        · cases eq
      · cases eq
    · cases eq
  · cases eq
theorem s_asgI (g : GoodS T Z W Γ G X) {o i e : Mi.E} {xo xi x : Expr} {Xs0 : Xs} {p p2 : Pos} (hok : okH xi = true) (ho : PE X xo (tE Z W (ev Γ G o))) (hi : PE X xi (tE Z W (ev Γ G i))) (he : PE X x (tE Z W (ev Γ G e))) : PS X (.Assign [.Subscript xo xi p2] x p) (tS Z W (ex Γ G Xs0 (.asgI o i e))) := by
  have hset : PSet X (rSet Z.K) := by rw [← g.k]; exact set_any (by have := g.un; omega)
  refine PS.of (ps_asg he (pg_sub (pos := p2) ho hi hset (by intro v; cases xi <;> first | rfl | simp [okH] at hok)) (by cases x <;> rfl) (by cases x <;> rfl)) fun E σ H ⟨m, ρ, h, s, q⟩ => ?_
  simp only [ex] at q
  exact tE_So s q fun v H1 m1 d h1 s1 x1 r1 st q1 => tE_S s1 q1 fun vo H2 m2 d2 h2 s2 x2 r2 n2 q2 => tE_S s2 (q2.rebase x2) fun vi H3 m3 d3 h3 s3 x3 r3 n3 q3 => by
    cases eq : setI h3 d2 d3 d with
    | bad => rw [eq] at q3; exact q3.elim
    | ex c fs h4 => exact absurd eq (by
        unfold setI
        repeat' split
        all_goals intro z; cases z)
    | ok a h4 =>
      rw [eq, bns_ok] at q3
      exact ⟨m3, h3, d2, d3, d, h4, s3.hr, Rp.ext s2.hr x3 r2, r3, Rp.ext s2.hr x3 (Rp.ext s1.hr x2 r1), st, eq, fun H4 r4 x4 => q3 σ H4 m3 (s3.go r4 x4) (x3.trans r4 x4)⟩
theorem s_asg2I (g : GoodS T Z W Γ G X) {o i o2 i2 e : Mi.E} {xo xi xo2 xi2 x : Expr} {Xs0 : Xs} {p p2 p3 p4 : Pos} {kt : Nat} (hok : okH xi = true) (hok2 : okH xi2 = true) (ho : PE X xo (tE Z W (ev Γ G o))) (hi : PE X xi (tE Z W (ev Γ G i))) (ho2 : PE X xo2 (tE Z W (ev Γ G o2))) (hi2 : PE X xi2 (tE Z W (ev Γ G i2))) (he : PE X x (tE Z W (ev Γ G e)))
    (hw : swappedStores [.Tuple [.Subscript xo xi p2, .Subscript xo2 xi2 p3] kt p4] x X.env = pure none) : PS X (.Assign [.Tuple [.Subscript xo xi p2, .Subscript xo2 xi2 p3] kt p4] x p) (tS Z W (ex Γ G Xs0 (.asg2I o i o2 i2 e))) := by
  have hset : PSet X (rSet Z.K) := by rw [← g.k]; exact set_any (by have := g.un; omega)
  have t1 := pg_sub (pos := p2) ho hi hset (by intro v; cases xi <;> first | rfl | simp [okH] at hok)
  have t2 := pg_sub (pos := p3) ho2 hi2 hset (by intro v; cases xi2 <;> first | rfl | simp [okH] at hok2)
  refine PS.of (ps_asg he (pg_tup (k := kt) (pos := p4) g.calm (pgs_cons t1 (pgs_cons t2 pgs_nil))) (by cases x <;> rfl) hw rfl) fun E σ H ⟨m, ρ, h, s, q⟩ => ?_
  simp only [ex] at q
  refine tE_So s q fun v H1 m1 d h1 s1 x1 r1 st q1 => ?_
  split at q1
  · rename_i d1 d2
    cases r1 with
    | tup sq sd t =>
      simp only [D.stL, Bool.and_eq_true] at sd
      cases t with
      | cons ra t =>
        obtain ⟨vb, rfl, rb⟩ := rp_one t
        refine ⟨_, _, rfl, by rw [g.k]; exact sq.sq, rfl, ?_⟩
        have step : ∀ {σ : L2.St} {H1 : Hp} {m1 : List Addr} {h1 : Hm} {o i : Mi.E} {d : D} {v : V} {k : Hm → Rs} {Q : L2.St → Hp → Prop}, StR Z.K m1 H1 h1 σ ρ → Rp Z.K m1 H1 v d → D.st d = true →
            PoS Z W m1 H1 (bns ρ (ev Γ G o ρ h1) fun o h => bns ρ (ev Γ G i ρ h) fun i h => bns ρ (setI h o i d) fun _ h => k h) E →
            (∀ H2 m2 h2, StR Z.K m2 H2 h2 σ ρ → Ext m1 H1 m2 H2 → PoS Z W m2 H2 (k h2) E → Q σ H2) → gSub (tE Z W (ev Γ G o)) (tE Z W (ev Γ G i)) (rSet Z.K) v σ H1 Q := by
          intro σ H1 m1 h1 o i d v k Q s1 rv sv q1 go
          refine tE_S s1 q1 fun vo H2 m2 d2 h2 s2 x2 r2 n2 q2 => tE_S s2 (q2.rebase x2) fun vi H3 m3 d3 h3 s3 x3 r3 n3 q3 => ?_
          cases eq : setI h3 d2 d3 d with
          | bad => rw [eq] at q3; exact q3.elim
          | ex c fs h4 => exact absurd eq (by
              unfold setI
              repeat' split
              all_goals intro z; cases z)
          | ok a h4 =>
            rw [eq, bns_ok] at q3
            exact ⟨m3, h3, d2, d3, d, h4, s3.hr, Rp.ext s2.hr x3 r2, r3, Rp.ext s2.hr x3 (Rp.ext s1.hr x2 rv), sv, eq, fun H4 r4 x4 => go H4 m3 h4 (s3.go r4 x4) (Ext.trans r4 (Ext.trans s3.hr x2 x3) x4) ((q3.rebase x3).rebase x4)⟩
        refine ⟨_, _, rfl, ?_⟩
        refine step s1 ra sd.1 q1 fun H2 m2 h2 s2 x2 q2 => ?_
        refine ⟨_, _, rfl, ?_⟩
        refine step s2 (Rp.ext s1.hr x2 rb) sd.2.1 q2 fun H3 m3 h3 s3 x3 q3 => ?_
        exact ⟨rfl, q3 _ _ _ s3 .refl⟩
  · exact q1.elim
theorem s_asgL (g : GoodS T Z W Γ G X) {N : List Str} {sc : Scope} (hN : X.N = N) (hsc : X.env.scope = sc) {ts : Ts} {e : Mi.E} {x : Expr} {xs : List Expr} {Xs0 : Xs} {p p2 : Pos} {k : Nat} (he : PE X x (tE Z W (ev Γ G e))) (ht : mTs N sc allT ts xs = true) (hw : swappedStores [.Tuple xs k p2] x X.env = pure none) :
    PS X (.Assign [.Tuple xs k p2] x p) (tS Z W (ex Γ G Xs0 (.asgL ts e))) := by
  refine PS.of (ps_asg he (pg_lst (k := k) (pos := p2) g.calm (sT_ts g.calm g.nod hN hsc (fun y _ _ => g.fn y) ts xs ht) (mTs_each ht).1 (mTs_each ht).2) (by cases x <;> rfl) hw rfl) fun E σ H ⟨m, ρ, h, s, q⟩ => ?_
  simp only [ex] at q
  refine tE_So s q fun v H1 m1 d h1 s1 x1 r1 st q1 => ?_
  obtain ⟨ρ', e1, q1⟩ := q1.optB
  rw [Option.bind_eq_some_iff] at e1
  obtain ⟨ds, e2, e3⟩ := e1
  obtain ⟨a, vs, rfl, sq, sd, t⟩ := lstOf_view (Z := Z) s1.hr r1 e2
  exact ⟨a, vs, rfl, by rw [g.k]; exact sq, by rw [t.length]; exact asgTs_len e3, m1, ρ, h1, ds, ρ', by rw [g.k]; exact s1, by rw [g.k]; exact t, sd, e3, fun σ' en sa => q1 σ' H1 m1 ⟨s1.hr, by rw [← g.k]; exact en⟩ .refl⟩
theorem s_stop {Xs0 : Xs} {x : Stmt} : PS X x (tS Z W (ex Γ G Xs0 .stop)) := ⟨fun pins s σ H E I ⟨m, ρ, h, st, q⟩ => by
  simp only [ex] at q
  exact q.elim⟩
theorem augD_int {op : Operator} {x y z : D} (e : augD op x y = some z) : ∃ a b, x = .int a ∧ y = .int b ∧ ((op = .Add ∧ z = .int (a + b)) ∨ (op = .Sub ∧ z = .int (a - b))) := by
  unfold augD at e
  split at e
  · cases e; exact ⟨_, _, rfl, rfl, .inl ⟨rfl, rfl⟩⟩
  · cases e; exact ⟨_, _, rfl, rfl, .inr ⟨rfl, rfl⟩⟩
  · cases e
/-- a op= b -/
def rAug (K : PySem.W.Frag) (op : Operator) : TIp := fun x y H Q => ∃ m d e z, Rp K m H x d ∧ Rp K m H y e ∧ augD op d e = some z ∧ ∀ w, Rp K m H w z → D.st z = true → Q w H
theorem aug_any (op : Operator) : PIp X op (rAug X.K op) := by
  intro pins s σ H x y v u Q I r1 r2 ⟨m, d, e, z, qd, qe, eq, fin⟩
  obtain ⟨a, b, rfl, rfl, ⟨rfl, rfl⟩ | ⟨rfl, rfl⟩⟩ := augD_int eq
  · cases qd; cases qe
    exact ip_add pins s σ H _ _ v u Q I r1 r2 ⟨a, b, rfl, rfl, fin _ (.int _) rfl⟩
  · cases qd; cases qe
    exact ip_sub pins s σ H _ _ v u Q I r1 r2 ⟨a, b, rfl, rfl, fin _ (.int _) rfl⟩
theorem s_aug (g : GoodS T Z W Γ G X) {i : Nat} {y : Str} {op : Operator} {e : Mi.E} {x : Expr} {Xs0 : Xs} {p p2 : Pos} (hi : X.N[i]? = some y) (hx : Loc X.env.scope y) (he : PE X x (tE Z W (ev Γ G e))) : PS X (.AugAssign (.Name y p2) op x p) (tS Z W (ex Γ G Xs0 (.aug op i e))) := by
  have hp : PIp X op (rAug Z.K op) := by rw [← g.k]; exact aug_any op
  refine PS.of (ps_aug g.nod hi hx he hp (.inl (g.fn y))) fun E σ H ⟨m, ρ, h, s, q⟩ => ?_
  simp only [ex, ev] at q
  split at q
  · rename_i d e0
    obtain ⟨st, v, ev0, rv⟩ := s.en.at_ i d e0
    rw [bns_ok] at q
    refine ⟨v, ev0, tE_S s q fun y H1 m1 d1 h1 s1 x1 r1 n1 q1 => ?_⟩
    obtain ⟨z, eq, q1⟩ := q1.optB
    exact ⟨m1, d, d1, z, Rp.ext s.hr x1 rv, r1, eq, fun w rw' sw => q1 _ H1 m1 ⟨s1.hr, s1.en.set sw rw'⟩ x1⟩
  · exact q.elim
/-- o[i], to be written -/
def rGet (K : PySem.W.Frag) : V → V → Hp → VK → Prop := fun o i H Q => ∃ m h d e z, HRp K m H h ∧ Rp K m H o d ∧ Rp K m H i e ∧ ixW h d e = some z ∧ ∀ w, Rp K m H w z → D.st z = true → Q w H
theorem get_any (hu : X.A.units + 1 < cLine) : PGet X (rGet X.K) := by
  intro pins s σ H o i ov iv Q I ro ri ⟨m, h, d, e, z, hr, qd, qe, eq, fin⟩
  unfold ixW at eq
  split at eq
  · rename_i n
    split at eq
    · rename_i es e1
      split at eq
      · rename_i k
        split at eq
        · rename_i hk
          obtain ⟨a, xs, e3, e4, s1, t1⟩ := lst_view (Z := ⟨X.K, fun _ => none⟩) hr e1
          cases qd with
          | ref q =>
            rw [q] at e3; cases e3
            cases qe
            cases ro
            obtain ⟨t, rfl⟩ := ri
            obtain ⟨w, ew, rw'⟩ := t1.get eq
            obtain ⟨its, r, pl, hz⟩ := I.list (.of e4)
            obtain ⟨u, eu, ru⟩ := r.get ew
            exact wpAny_getItem_list pl.isList hk.1 hk.2 (by simpa using eu) ⟨w, H, I, ru, fin w rw' (stL_get s1 eq)⟩
        · cases eq
      · cases eq
    · rename_i kds e1
      split at eq
      · rename_i k ek
        cases qd with
        | ref q =>
          obtain ⟨kv, rd, t⟩ := dic_view hr q (show dicOf h _ = some kds by simp only [dicOf, e1])
          obtain rfl := keyOf_view qe ek
          cases ro
          rcases kv_look k t.1 t.2.2 with ⟨h1, h2⟩ | ⟨v, d, h1, h2, h3⟩
          · rw [h2] at eq; cases eq
          · rw [h2] at eq; cases eq
            exact d_getItem hu I (.inl ⟨kv, k, rd, rfl, h1.symm⟩) ri fun w' s3 I3 rw' => ⟨v, H, I3, rw', fin v h3 (stL_look t.2.1 h2)⟩
      · cases eq
    · cases eq
  · cases eq
theorem setI_ex (h : Hm) (o i d : D) (c : Str) (fs : List (Str × D)) (h' : Hm) : setI h o i d ≠ .ex c fs h' := by
  unfold setI
  repeat' split
  all_goals intro z; cases z
theorem s_augI (g : GoodS T Z W Γ G X) {op : Operator} {o i e : Mi.E} {xo xi x : Expr} {Xs0 : Xs} {p p2 : Pos} (hok : okH xi = true) (ho : PE X xo (tE Z W (ev Γ G o))) (hi : PE X xi (tE Z W (ev Γ G i))) (he : PE X x (tE Z W (ev Γ G e))) : PS X (.AugAssign (.Subscript xo xi p2) op x p) (tS Z W (ex Γ G Xs0 (.augI op o i e))) := by
  have hu : X.A.units + 1 < cLine := by have := g.un; omega
  have hset : PSet X (rSet Z.K) := by rw [← g.k]; exact set_any hu
  have hget : PGet X (rGet Z.K) := by rw [← g.k]; exact get_any hu
  have hp : PIp X op (rAug Z.K op) := by rw [← g.k]; exact aug_any op
  refine PS.of (ps_augS ho hi hget he hp hset (by intros; cases xi <;> first | rfl | simp [okH] at hok)) fun E σ H ⟨m, ρ, h, s, q⟩ => ?_
  simp only [ex] at q
  exact tE_S s q fun vo H1 m1 d1 h1 s1 x1 r1 n1 q1 => tE_S s1 (q1.rebase x1) fun vi H2 m2 d2 h2 s2 x2 r2 n2 q2 => by
    obtain ⟨z, eq, q2⟩ := q2.optB
    refine ⟨m2, h2, d1, d2, z, s2.hr, Rp.ext s1.hr x2 r1, r2, eq, fun w rw' sw => tE_S s2 (q2.rebase x2) fun vy H3 m3 d3 h3 s3 x3 r3 n3 q3 => ?_⟩
    obtain ⟨z3, eq3, q3⟩ := q3.optB
    refine ⟨m3, z, d3, z3, Rp.ext s2.hr x3 rw', r3, eq3, fun w3 rw3 sw3 => ?_⟩
    cases eq4 : setI h3 d1 d2 z3 with
    | bad => rw [eq4] at q3; exact q3.elim
    | ex c fs h4 => exact absurd eq4 (setI_ex _ _ _ _ _ _ _)
    | ok a h4 =>
      rw [eq4, bns_ok] at q3
      exact ⟨m3, h3, d1, d2, z3, h4, s3.hr, Rp.ext s2.hr x3 (Rp.ext s1.hr x2 r1), Rp.ext s2.hr x3 r2, rw3, sw3, eq4, fun H4 r4 x4 => q3 σ H4 m3 (s3.go r4 x4) (x3.trans r4 x4)⟩
end
end Mi

set_option Elab.async false
set_option linter.all false
set_option maxRecDepth 100000
/-! Mini: swapped stores, comprehensions that are stored, loops. -/
namespace Mi
open PySem PySem.Spec PyProof.Rows L2
def swNames (sc : Scope) (ts : List Expr) : List Str := ts.filterMap fun
  | .Name id pos => if sc.names.lookup id == some .local && pos.line == (ts.head?.map (·.pos.line)).getD 0 then some id else none
  | _ => none
def isStar : Expr → Bool
  | .Starred _ _ => true
  | _ => false
def swR (sc : Scope) (ts vs : List Expr) : Option (Option (List Str)) :=
  if (!(ts.length == 2 || ts.length == 3) || vs.length != ts.length) = true then some none
  else if (vs.any isStar) = true then some none
  else if ((swNames sc ts).length != ts.length || (swNames sc ts).eraseDups.length != (swNames sc ts).length) = true then some none
  else if vs.all (foldedForSure 8) = true then some none
  else if vs.all (constantsAlone 8) = true then none
  else some (some (swNames sc ts))
theorem sw_of {ts vs : List Expr} {env : PySem.Env} {r : Option (List Str)} {k k2 : Nat} {p p2 : Pos} (fk : env.blockKind = .function) (h : swR env.scope ts vs = some r) : swappedStores [.Tuple ts k p] (.Tuple vs k2 p2) env = pure r := by
  have e : swappedStores [.Tuple ts k p] (.Tuple vs k2 p2) env = (if (!(ts.length == 2 || ts.length == 3) || vs.length != ts.length || env.blockKind != .function) = true then pure none
    else if (vs.any isStar) = true then pure none
    else if ((swNames env.scope ts).length != ts.length || (swNames env.scope ts).eraseDups.length != (swNames env.scope ts).length) = true then pure none
    else if vs.all (foldedForSure 8) = true then pure none
    else if vs.all (constantsAlone 8) = true then unsupported "assign.tuple-of-constant-expressions:order-of-the-stores"
    else pure (some (swNames env.scope ts))) := by
    unfold swappedStores
    rfl
  rw [e, fk]
  unfold swR at h
  simp only [bne_self_eq_false, Bool.or_false]
  split at h
  · rename_i c; rw [if_pos c]; cases h; rfl
  · rename_i c; rw [if_neg c]
    split at h
    · rename_i c; rw [if_pos c]; cases h; rfl
    · rename_i c; rw [if_neg c]
      split at h
      · rename_i c; rw [if_pos c]; cases h; rfl
      · rename_i c; rw [if_neg c]
        split at h
        · rename_i c; rw [if_pos c]; cases h; rfl
        · rename_i c; rw [if_neg c]
          split at h
          · cases h
          · rename_i c; rw [if_neg c]; cases h; rfl
section
variable {T : Tb} {Z : Wi} {W : WX} {Γ : Gm} {G : Nat → Option D} {X : Cx} {σ : L2.St} {m m' : List Addr} {H H' : Hp} {h : Hm} {ρ : Env} {E : Ends}
/-- .. of three -/
def tPar3 (i j l : Nat) (ta : TA) : TS := fun D σ H => ta σ H fun vs H1 => ∃ v w z, vs = [v, w, z] ∧ D.nx (((σ.set i (some v)).set j (some w)).set l (some z)) H1
theorem ps_par3 {i j l : Nat} {x y z : Str} {a b c : Expr} {ta : TA} {px py pz pt pos : Pos} {kt k2 pt2} (hc : X.calm = true) (hN : X.N.Nodup) (hi : X.N[i]? = some x) (hj : X.N[j]? = some y) (hl : X.N[l]? = some z) (hij : i ≠ j) (hil : i ≠ l) (hjl : j ≠ l)
    (hx : X.env.scope.names.lookup x = some .local) (hy : X.env.scope.names.lookup y = some .local) (hz : X.env.scope.names.lookup z = some .local) (ha : PA X [a, b, c] ta)
    (hw : swappedStores [.Tuple [.Name x px, .Name y py, .Name z pz] kt pt] (.Tuple [a, b, c] k2 pt2) X.env = pure (some [x, y, z]))
    (hs : swapsWithSole [.Tuple [.Name x px, .Name y py, .Name z pz] kt pt] (.Tuple [a, b, c] k2 pt2) pos.line X.env = pure false := by rfl) :
    PS X (.Assign [.Tuple [.Name x px, .Name y py, .Name z pz] kt pt] (.Tuple [a, b, c] k2 pt2) pos) (tPar3 i j l ta) := by
  refine ⟨fun pins s σ H D I h => ?_⟩
  rw [exec_Assign_arm]
  refine wpAny_bind (wpAny_standAt ?_)
  rw [hs]
  refine wpAny_bind (wpAny_pure ?_)
  rw [if_neg (by decide)]
  refine wpAny_bind (Tuple_ (thn (ha.run _ pins s σ H _ I h) fun us s1 ⟨vs, H1, I1, r1, q1⟩ => ?_))
  obtain ⟨v, w, t, e1, q1⟩ := q1
  subst e1
  obtain ⟨u1, u2, u3, rfl, rv, rw', rt⟩ : ∃ u1 u2 u3, us = [u1, u2, u3] ∧ RelV v u1 ∧ RelV w u2 ∧ RelV t u3 := by
    cases r1 with
    | cons p q =>
      cases q with
      | cons p' q' =>
        cases q' with
        | cons p'' q'' =>
          cases q''
          exact ⟨_, _, _, rfl, p, p', p''⟩
  refine wpAny_newObj_type ?_ (by show 3 ≤ sizeLine; decide)
  have I2 : Inv X pins σ H1 { s1 with heap := s1.heap.push { cls := .type "tuple", data := .seq [u1, u2, u3].toArray } } := I1.kept (t' := s1.toks) fun b o e => Heap.get?_push_of_some _ e
  rw [hw]
  refine wpAny_bind (wpAny_pure ?_)
  show wpAny (model X.prog X.w) X.A (do rule "assign.swapped-stores"; let items ← unpackItems (.ref s1.heap.objs.size) 3 none; assignInOrder [fun v => bindName X.env z v, fun v => bindName X.env y v, fun v => bindName X.env x v] items.reverse; pure Flow.next) _ _ _
  refine wpAny_bind (wpAny_rule (wpAny_bind (unpackItems_tuple (items := #[u1, u2, u3]) (I.ok.hd hc) (IsTup.new s1.heap _) fun h' hx' => ?_)))
  have I3 := I2.kept (h' := h') (t' := s1.toks) fun b o e => hx' b o (Nat.ne_of_lt (Heap.lt_size e)) e
  show wpAny _ _ (assignInOrder [fun v => bindName X.env z v, fun v => bindName X.env y v, fun v => bindName X.env x v] [u3, u2, u1] >>= fun _ => pure Flow.next) _ _ _
  refine wpAny_bind (assignInOrder_cons (wpAny_bindName (store_ok I3 hN hl (.inl hz) rt (fun s2 I4 => ?_) (.inr hz))))
  refine assignInOrder_cons (wpAny_bindName (store_ok I4 hN hj (.inl hy) rw' (fun s3 I5 => ?_) (.inr hy)))
  refine assignInOrder_cons (wpAny_bindName (store_ok I5 hN hi (.inl hx) rv (fun s4 I6 => assignInOrder_nil (wpAny_pure ?_)) (.inr hx)))
  rw [List.set_comm _ _ (Ne.symm hij), List.set_comm (l := σ) _ _ (Ne.symm hil), List.set_comm _ _ (Ne.symm hjl)] at I6
  exact ⟨_, H1, I6, q1⟩
theorem s_par (g : GoodS T Z W Γ G X) {i j : Nat} {x y : Str} {a b : Expr} {es : Es} {px py pt p : Pos} {kt k2 pt2} {Xs0 : Xs} (hi : X.N[i]? = some x) (hj : X.N[j]? = some y) (hij : i ≠ j)
    (hx : X.env.scope.names.lookup x = some .local) (hy : X.env.scope.names.lookup y = some .local) (ha : PA X [a, b] (tAs Z W (evs Γ G es)))
    (hw : swappedStores [.Tuple [.Name x px, .Name y py] kt pt] (.Tuple [a, b] k2 pt2) X.env = pure (some [x, y])) :
    PS X (.Assign [.Tuple [.Name x px, .Name y py] kt pt] (.Tuple [a, b] k2 pt2) p) (tS Z W (ex Γ G Xs0 (.asg (.t (.cons (.n i) (.cons (.n j) .nil))) (.tup es)))) := by
  refine PS.of (ps_par g.calm g.nod hi hj hij hx hy ha hw) fun E σ H ⟨m, ρ, h, s, q⟩ => ?_
  simp only [ex, ev, bns_assoc] at q
  refine ⟨m, ρ, h, s, Pst.mono (S_bnd s q) fun vs H1 ⟨m1, ds, h1, e1, s1, x1, c1, _, q1⟩ => ?_⟩
  have q1 : PoS Z W m H (bns ρ (gd (decide (ds.length ≤ sizeLine)) (.ok (.tup ds) h1)) fun a h => bns ρ (own a h) fun d h => bns ρ (opt (asgT (.t (.cons (.n i) (.cons (.n j) .nil))) d ρ) h) Rs.nx) E := q1
  cases hl : decide (ds.length ≤ sizeLine) with
  | false => rw [hl] at q1; exact q1.elim
  | true =>
    rw [hl, gd_t, bns_ok] at q1
    simp only [own, bns_ok] at q1
    obtain ⟨ρ', e, q9⟩ := q1.optB
    have l2 := asgTs_len (show asgTs _ ds ρ = some ρ' from e)
    match ds, l2, c1, e with
    | [d1, d2], _, c1, e =>
      obtain ⟨c1, st⟩ := c1
      simp only [D.stL, Bool.and_eq_true] at st
      cases c1 with
      | cons r1 c1 =>
        obtain ⟨w, rfl, r2⟩ := rp_one c1
        refine ⟨_, _, rfl, q9 _ H1 m1 ⟨s1.hr, ?_⟩ x1⟩
        simp only [asgT, asgTs] at e
        split at e
        · rename_i ρ1 e1
          split at e1
          · cases e1
            split at e
            · rename_i ρ2 e2
              split at e2
              · cases e2; cases e
                exact (s1.en.set st.1 r1).set st.2.1 r2
              · cases e2
            · cases e
          · cases e1
        · cases e
theorem s_par3 (g : GoodS T Z W Γ G X) {i j l : Nat} {x y z : Str} {a b c : Expr} {es : Es} {px py pz pt p : Pos} {kt k2 pt2} {Xs0 : Xs} (hi : X.N[i]? = some x) (hj : X.N[j]? = some y) (hl : X.N[l]? = some z) (hij : i ≠ j) (hil : i ≠ l) (hjl : j ≠ l)
    (hx : X.env.scope.names.lookup x = some .local) (hy : X.env.scope.names.lookup y = some .local) (hz : X.env.scope.names.lookup z = some .local) (ha : PA X [a, b, c] (tAs Z W (evs Γ G es)))
    (hw : swappedStores [.Tuple [.Name x px, .Name y py, .Name z pz] kt pt] (.Tuple [a, b, c] k2 pt2) X.env = pure (some [x, y, z])) :
    PS X (.Assign [.Tuple [.Name x px, .Name y py, .Name z pz] kt pt] (.Tuple [a, b, c] k2 pt2) p) (tS Z W (ex Γ G Xs0 (.asg (.t (.cons (.n i) (.cons (.n j) (.cons (.n l) .nil)))) (.tup es)))) := by
  refine PS.of (ps_par3 g.calm g.nod hi hj hl hij hil hjl hx hy hz ha hw) fun E σ H ⟨m, ρ, h, s, q⟩ => ?_
  simp only [ex, ev, bns_assoc] at q
  refine ⟨m, ρ, h, s, Pst.mono (S_bnd s q) fun vs H1 ⟨m1, ds, h1, e1, s1, x1, c1, _, q1⟩ => ?_⟩
  have q1 : PoS Z W m H (bns ρ (gd (decide (ds.length ≤ sizeLine)) (.ok (.tup ds) h1)) fun a h => bns ρ (own a h) fun d h => bns ρ (opt (asgT (.t (.cons (.n i) (.cons (.n j) (.cons (.n l) .nil)))) d ρ) h) Rs.nx) E := q1
  cases hl : decide (ds.length ≤ sizeLine) with
  | false => rw [hl] at q1; exact q1.elim
  | true =>
    rw [hl, gd_t, bns_ok] at q1
    simp only [own, bns_ok] at q1
    obtain ⟨ρ', e, q9⟩ := q1.optB
    have l2 := asgTs_len (show asgTs _ ds ρ = some ρ' from e)
    match ds, l2, c1, e with
    | [d1, d2, d3], _, c1, e =>
      obtain ⟨c1, st⟩ := c1
      simp only [D.stL, Bool.and_eq_true] at st
      cases c1 with
      | cons r1 c1 =>
        cases c1 with
        | cons r2 c1 =>
          obtain ⟨w, rfl, r3⟩ := rp_one c1
          refine ⟨_, _, _, rfl, q9 _ H1 m1 ⟨s1.hr, ?_⟩ x1⟩
          simp only [asgT, asgTs] at e
          split at e
          · rename_i ρ1 e1
            split at e1
            · cases e1
              split at e
              · rename_i ρ2 e2
                split at e2
                · cases e2
                  split at e
                  · rename_i ρ3 e3
                    split at e3
                    · cases e3; cases e
                      exact ((s1.en.set st.1 r1).set st.2.1 r2).set st.2.2.1 r3
                    · cases e3
                  · cases e
                · cases e2
              · cases e
            · cases e1
          · cases e
/-! ### a comprehension that is stored -/
theorem compF (g : Good T Z W Γ G X) {N : List Str} {sc : Scope} (hN : X.N = N) (hsc : X.env.scope = sc) {e : Mi.E} {t : Mi.T} {i : I} {fs : Es} {w : List (Str × Nat)} {xe : Expr} {gens : List Comprehension} {scope : Scope} {p : Pos} (hm : mE T N (.comp e t i fs w) sc (.ListComp xe gens scope p) = true) :
    ∃ tg iter ifs, gens = [⟨tg, iter, ifs, 0⟩] ∧ okH iter = true ∧ PI X tg iter (tI Z W (evI Γ G i)) ∧ BlkOk X.N X.env.scope scope w ∧ (∀ i ∈ t.slots, i ∈ w.map (·.2)) ∧
      (∀ (s : Shared) (H : Hp) (C : Addr) (cl : List (Str × Addr)) (fp : List Addr), PG (X.blk s H scope (compEnvC scope cl C X.env) fp) tg (tG Z.K t)) ∧ (∀ (s : Shared) (H : Hp) (C : Addr) (cl : List (Str × Addr)) (fp : List Addr), PTs (X.blk s H scope (compEnvC scope cl C X.env) fp) ifs (tT Z WF (evF Γ G fs))) ∧
      (∀ (s : Shared) (H : Hp) (C : Addr) (cl : List (Str × Addr)) (fp : List Addr), PE (X.blk s H scope (compEnvC scope cl C X.env) fp) xe (tE Z WF (ev Γ G e))) := by
  match gens, hm with
  | [⟨tg, iter, ifs, n⟩], hm =>
    simp only [mE, Bool.and_eq_true, decide_eq_true_eq] at hm
    obtain ⟨⟨⟨⟨⟨⟨⟨⟨⟨rfl, h1⟩, h2⟩, h3⟩, h4⟩, h5⟩, h6⟩, h7⟩, h8⟩, h9⟩ := hm
    exact ⟨tg, iter, ifs, rfl, h1, sI i g hN hsc tg iter h2, by rw [hN, hsc]; exact blkOk_by h3, fun i hi => by
            rw [List.all_eq_true] at h9
            simpa using h9 i hi, fun s H C cl fp => sT_t (X := X.blk s H scope (compEnvC scope cl C X.env) fp) g.calm g.nod hN (by show relS scope X.env.scope = _; rw [hsc]) (fun y z _ => z) t tg h5 |> PG.of <| fun v σ H Q q => by rw [← g.k] at q; exact q,
          fun s H C cl fp => sF fs (g.blk s H scope (compEnvC scope cl C X.env) fp) hN (by show relS scope X.env.scope = _; rw [hsc]) ifs h6 h7 h8,
          fun s H C cl fp => (sE e (g.blk s H scope (compEnvC scope cl C X.env) fp) hN (by show relS scope X.env.scope = _; rw [hsc]) xe h4).1⟩
  | [], hm => simp [mE] at hm
  | _ :: _ :: _, hm => simp [mE] at hm
/-- name = [..], stored by the comprehension's own frame -/
def swB (sc scope : Scope) (y : Str) (q p : Pos) : Bool := sc.names.lookup y == some .local && q.line == p.line && !(scope.names.any fun (n, k) => n == y && (k == .local || k == .cell))
theorem sw_lc (g : GoodS T Z W Γ G X) {y : Str} {q p : Pos} {n : Nat} {xe : Expr} {gens : List Comprehension} {scope : Scope} : swapsWith (.ListComp xe gens scope p) (some (.Name y q)) n X.env = pure (swB X.env.scope scope y q p) := by
  show (pure (X.env.blockKind == .function && X.env.kindOf y == some .local && q.line == p.line && !(scope.names.any fun (n, k) => n == y && (k == .local || k == .cell))) : Sem Bool) = _
  rw [g.fk]; rfl
theorem s_setLc (g : GoodS T Z W Γ G X) {N : List Str} {sc : Scope} (hN : X.N = N) (hsc : X.env.scope = sc) {e : Mi.E} {t : Mi.T} {i : I} {fs : Es} {w : List (Str × Nat)} {xe : Expr} {gens : List Comprehension} {scope : Scope} {q p sp : Pos} {k : Nat} {y : Str} {Xs0 : Xs} (hk : X.N[k]? = some y) (hsw : swB sc scope y q p = true) (hm : mE T N (.comp e t i fs w) sc (.ListComp xe gens scope p) = true) :
    PS X (.Assign [.Name y q] (.ListComp xe gens scope p) sp) (tS Z W (ex Γ G Xs0 (.asg (.n k) (.comp e t i fs w)))) := by
  obtain ⟨tg, iter, ifs, rfl, h1, h2, h3, h4, h5, h6, h7⟩ := compF g.toGood hN hsc hm
  have hl : X.env.scope.names.lookup y = some .local := by
    rw [hsc]
    simp only [swB, Bool.and_eq_true] at hsw
    simpa using hsw.1.1
  refine PS.of (ps_setLc g.calm g.nod hk hl (by rw [sw_lc g, hsc, hsw]) h2 h3 h5 h6 h7 (okH_set X.env h1)) fun E σ H ⟨m, ρ, h, s, qq⟩ => ?_
  simp only [ex] at qq
  have tr := tE_So (Q' := fun x H1 => gName k x σ H1 E.nx) s qq fun v H1 m1 d h1 s1 x1 r1 st q1 => by
    obtain ⟨ρ', e, q1⟩ := q1.optB
    simp only [asgT] at e
    split at e
    · cases e
      exact q1 _ H1 m1 ⟨s1.hr, s1.en.set st r1⟩ .refl
    · cases e
  exact lc_of h4 (by simp only [ev] at tr ⊢; exact tr)
end
end Mi

set_option Elab.async false
set_option linter.all false
set_option maxRecDepth 100000
/-! Mini: own errors whose __init__ says super().__init__() and no more -/
namespace Mi
open PySem PySem.W PySem.Calls PyProof.Rows
section
variable {prog : Program} {w : World} {A : Around} {s : Shared} {R : Result → Shared → Prop} {K : Frag} {mg mb : Str → Option Value}
  {name qual : Str} {params : Arguments} {body : List Stmt} {scope : Scope} {dV kV doc pm cdv ct oc : Value} {an od : Option Addr} {osl : Array (Option Value)} {f cc : Addr}
/-- what is known of such a class, beyond its making -/
structure SupC (P : Program) (K : Frag) (C f : Addr) : Prop where
  fn : ∃ (name qual : Str) (params : Arguments) (scope : Scope) (dV kV doc pm ct oc : Value) (an od : Option Addr) (osl : Array (Option Value)) (cc cda : Addr) (p0 p1 p2 p3 p4 : Pos) (ar : Arg) (ccl cl : Value) (cdd cld : Option Addr) (ccs csl : Array (Option Value)) (vs : Array Value) (file : Str) (tf : Tok) (pl : Sem Bool),
    K.lookup f = some ⟨oc, od, .func (ksFn name qual params [.Expr (.Call (.Attribute (.Call (.Name "super" p0) [] [] p1) "__init__" p2) [] [] p3) p4] scope dV kV doc pm an (.ref cda) ct cc), osl⟩ ∧ codeIn K (.ref cda) qual = true ∧
    (∀ (s : Shared) (a : Addr), BindsTo s (ksFn name qual params [.Expr (.Call (.Attribute (.Call (.Name "super" p0) [] [] p1) "__init__" p2) [] [] p3) p4] scope dV kV doc pm an (.ref cda) ct cc) ⟨[.ref a], []⟩ [(ar.arg, .ref a)]) ∧
    (params.posonlyargs ++ params.args).head? = some ar ∧ K.lookup cda = some ⟨ccl, cdd, .fields vs, ccs⟩ ∧ vs[2]? = some (.str file tf) ∧ ((P.main.file : Str) == file) = true ∧ K.lookup cc = some ⟨cl, cld, .cell (some (.ref C)), csl⟩ ∧
    scope.names.lookup ("super" : Str) = some .globalImplicit ∧ scope.names.lookup ("__class__" : Str) = some .free ∧ scope.names.lookup ar.arg = some .local ∧ scope.kind = .function ∧ scope.isCoroutine = false ∧ scope.isGenerator = false ∧ (∀ x ∈ scope.names, x.2 ≠ .cell) ∧
    (∀ env : PySem.Env, eval (.Call (.Attribute (.Call (.Name "super" p0) [] [] p1) "__init__" p2) [] [] p3) env = (do
      let ov ← attributeBase (.Call (.Name "super" p0) [] [] p1) "__init__" env (eval (.Call (.Name "super" p0) [] [] p1) env)
      standAt p2.atName
      let (f, first) ← holding [ov] (getMethod ov "__init__" pl)
      callWith p3 f first (backTo p3 (starEach [] env)) []))
  sub : mroIn K C (.ref C) = some true
  sup : ks_superIn K C C "__init__" = some (some (.builtin "ValueError.__init__"))
  ve : subIn K (.ref C) (.type "ValueError") = some true
  op : nsIn K cStatics "thirdparty.any" = some none
  gs : nsIn K mainGlobals "super" = some none
  top : (P.main.scope.names.lookup ("super" : Str)).isSome = false
theorem sinit_run {C a t0 : Addr} {nm q : Str} {N : Addr} {bs bm : List Value} {hdct : Bool} {sn : List Str} {sub : List Value} {ab : Bool} {col : Option Bool} {dd : Option Addr} {k0 k1 k2 k3 k5 : Option Value}
    (U : SupC prog K C f) (X : K.In s.heap) (hg : s.heap.Ns mainGlobals mg) (hb : s.heap.Ns builtinsNs mb) (hbb : mb "super" = some (.type "super")) (hlim : s.heap.NoLimit) (hroom : A.depth < recursionLimit)
    (hC : K.lookup C = some (excClassObj nm q C N bs bm hdct sn sub ab col dd k0 k1 k2 k3 k5 "ValueError.__new__"))
    (he : s.heap.get? a = some (excObj C t0 none .none))
    (hq : ∀ h' t1 tk, (∀ b o, b ≠ a → s.heap.get? b = some o → h'.get? b = some o) → h'.get? a = some (excObj C t1 none .none) → R (.ok (.ret .none)) ⟨h', s.gens, s.drawn, tk, s.os⟩) :
    codeAny (model prog w) A (.call (.ref f) ⟨[.ref a], []⟩) R s := by
  obtain ⟨name, qual, params, scope, dV, kV, doc, pm, ct, oc, an, od, osl, cc, cda, p0, p1, p2, p3, p4, ar, ccl, cl, cdd, cld, ccs, csl, vs, file, tf, pl, ho, hcd, hbind, hp, hcode, hvs, hfile, hcell, hks, hkc, hka, hk, hco, hgen, hncell, hev⟩ := U.fn
  obtain ⟨h0, g, dr, t, os⟩ := s
  refine ks_codeAny_call_defAt hroom (X _ _ ho) rfl hlim (codeRec_of X hcd) rfl (hbind _ a) hncell (fun x hx => by simp at hx; subst hx; exact hka) (fun h₁ hns hk₁ => ?_) hco hgen hk
  have X1 : K.In h₁ := X.keeps hk₁
  have e1 := hk₁ _ _ he
  refine ks_wpAt_execs_cons (ks_wpAt_Expr_any (hi := by simp [interactive, callEnv, newEnv, hk]) ?_)
  refine ks_wpAt_MethodCall (pl := pl) ?_ (hev _)
  cases hc : clsIn K C with
  | none =>
    have := U.sup
    unfold ks_superIn at this; rw [hc] at this; cases this
  | some cd =>
  obtain ⟨oD, hD1, hD2⟩ : ∃ oD, h₁.get? C = some oD ∧ oD.data = .cls cd := by
    have hc' := hc
    unfold clsIn at hc'
    split at hc'
    · rename_i c d cd' sl ho
      cases hc'
      exact ⟨_, X1 _ _ ho, rfl⟩
    · cases hc'
  have hm := U.sup
  unfold ks_superIn at hm
  rw [hc] at hm
  have hxC : a ≠ C := fun q => by
    subst q
    rw [e1] at hD1
    cases hD1
    cases hD2
  refine ks_wpAt_super_base hks hkc rfl rfl (X1 _ _ ho) rfl hp rfl (X1 _ _ hcode) rfl hvs hfile U.top ?_
  refine ks_loadName_global hk hks (loadGlobal_builtin (hg.keeps hk₁) (mg_none_of X hg U.gs) (hb.keeps hk₁) hbb ⟨rfl, ?_⟩)
  refine wpAny_loadName_free hk hkc rfl ⟨_, X1 _ _ hcell, rfl⟩ ?_
  refine wpAny_loadName_local hk hka hns (v := .ref a) (by simp) ?_
  refine ks_wpAny_isType_cls hD1 hD2 ⟨rfl, ?_⟩
  refine ks_wpAny_call_super hD1 hD2 e1 rfl (fun c e => by cases e) (looks_mroIn X1 U.sub) (fun h2 eso k2 => ?_)
  have X2 : K.In h2 := X1.keeps k2
  have e2 := k2 _ _ e1
  have I2 : InstAt h2 a (excObj C t0 none .none) C none := ⟨e2, rfl, rfl, trivial⟩
  refine kxs_getMethod kxs_ValueError eso (looks_opaque X2 U.op) (l₀ := cd.mro) (fun A Q E s k q => wpAny_bind ((looks_clsIn X2 hc) A _ E s k (wpAny_pure q))) rfl X2 hm (I2.type.andThen (looks_subIn X2 U.ve)) hxC rfl ?_
  refine kxs_callWith (i := "ValueError.__init__") (x := a) rfl (evalArgs_empty ⟨Heap.get?_push_at rfl rfl, ?_⟩)
  refine wpAny_call (codeAny_of_tree ?_)
  show wpAny _ _ (callAny (.ref h2.objs.size) ⟨[], []⟩) _ _ _
  have hu : (h2.push (kxs_mw "ValueError.__init__" a)).get? h2.objs.size = some (kxs_mw "ValueError.__init__" a) := Heap.get?_push_at rfl rfl
  have k3 : ∀ b o, h2.get? b = some o → (h2.push (kxs_mw "ValueError.__init__" a)).get? b = some o := fun b o e => Heap.get?_push_of_some _ e
  simp only [callAny]
  refine wpAny_bind (wpAny_load hu ?_)
  simp only [kxs_mw, show (Value.type "method-wrapper" == Value.type "method" || Value.type "method-wrapper" == Value.type "builtin_function_or_method" || Value.type "method-wrapper" == Value.type "method-wrapper") = true by decide, if_true]
  refine KFB.if_so (by decide) ?_
  refine wpAny_bind (check_bound_init PySem.F.excBase_ValueError.toExcCallFacts (k3 _ _ (X2 _ _ hC)) (k3 _ _ e2) rfl ?_)
  refine wpAny_bind (wpAny_pure (wpAny_pure ?_))
  refine ⟨plainId_quiet PySem.F.excBase_ValueError.init.plain _, codeAny_builtin PySem.F.excBase_ValueError.initEntry ?_⟩
  refine exc_init_tree (cls := .ref C) (t0 := t0) (dv := none) (c2 := .none) (c3 := .none) (b4 := .bool false) (k3 _ _ e2) (by simp) (fun h' kk e' _ => ?_)
  show PySem.wpAt _ _ _ (execs [] _) _ _ _
  rw [execs_nil]
  exact wpAt_of_wpAny (wpAny_pure (hq h' _ _ (fun b o hb e => kk b o hb (k3 _ _ (k2 _ _ (hk₁ _ _ e)))) e'))
end
section
open L2
variable {X : Cx} {C f : Addr} {x : Str} {p pos : Pos}
/-- C() of such a class -/
theorem pmk_sup (T : OexC X.K C) (U : SupC X.prog X.K C f) (iC : PySem.W.findIn X.K (.ref C) "__init__" = some (some (.ref f))) (tI : PySem.W.typeIn X.K (.ref f) = some (.type "function")) (hr : Room 0 X.A) (hg : Gl X x) (hm : X.mg x = some (.ref C)) (hdb : (x == ("__debug__" : Str)) = false := by decide) :
    PMk X (.Call (.Name x p) [] [] pos) (fun _ H Q => Q (.ref C) none H) := by
  intro pins s σ H Q I h
  obtain ⟨nm, q, N, bs, bm, sn, sub, ab, col, dd, k0, k1, k2, k3, k5, hC, hbm⟩ := T.cls
  refine wpAny_Call_Name_kw (ld_glob I hg hm ?_ hdb)
  refine PySem.W.callWith_K0 I.kIn T.kC ?_
  show wpAny _ _ (call (.ref C) []) _ _ _
  obtain ⟨hp, g, dr, tk, os⟩ := s
  have kk : ∀ b o, hp.get? b = some o → ((hp.push (PySem.W.kdv_tup [])).push (PySem.HandSPX.excO C hp.objs.size)).get? b = some o := fun b o e => Heap.get?_push_of_some _ (Heap.get?_push_of_some _ e)
  have hget : ((hp.push (PySem.W.kdv_tup [])).push (PySem.HandSPX.excO C hp.objs.size)).get? (hp.objs.size + 1) = some (PySem.HandSPX.excO C hp.objs.size) := by heap_get
  obtain ⟨mb, hmb, hbb⟩ := I.mod.blt
  have sup0 : bootBuiltins "super" = some (.type "super") := PyProof.Rows.Boot.«super»
  have hne : hp.get? (hp.objs.size + 1) = none := by
    cases e : hp.get? (hp.objs.size + 1) with
    | none => rfl
    | some o => exact absurd (Heap.lt_size e) (Nat.not_lt.mpr (Nat.le_succ _))
  refine wpAny_call (PySem.HandSPX.call_own PySem.F.excBase_ValueError (fun Y => PySem.HandSPX.refsVE_contains Y bm hbm) (I.kIn _ _ hC) (PySem.W.looks_findIn I.kIn iC) (fun self => PySem.W.bind_fn I.kIn self tI) (by simp)
    (sinit_run (mg := X.mg) (mb := mb) U (I.kIn.keeps kk) ((I.mod.glob.keeps I.bk).keeps kk) ((hmb.keeps I.bk).keeps kk) ((hbb _ (by decide +kernel)).trans sup0) (I.nolimit.keeps kk) (by rw [make_depth]; have := hr.dp; omega) hC hget (fun h' t1 tk' keep he => ?_)))
  refine ⟨rfl, ?_⟩
  exact ⟨hp.objs.size + 1, _, _, ⟨hp, g, dr, tk, os⟩, H, .ref C, none, rfl, I, fun b o e => keep b o (fun z => by subst z; rw [hne] at e; cases e) (kk b o e), hne, he, ⟨rfl, rfl⟩, rfl, rfl, I.hok.fresh (Nat.le_succ _), rfl, I.bare, raises_own T.exC T.tyC, h⟩
end
/-! ### raise and try in Mini -/
open PySem.Spec L2
/-- one of the own errors -/
def ErC (P : Program) (Z : Wi) (Xs0 : Xs) (mg : Str → Option Value) (c : Nat) (x : Str) : Prop := ∃ C f : Addr, mg x = some (.ref C) ∧ Z.xc x = some C ∧ Xs0.cls c = some (x, []) ∧ OexC Z.K C ∧ SupC P Z.K C f ∧
  PySem.W.findIn Z.K (.ref C) "__init__" = some (some (.ref f)) ∧ PySem.W.typeIn Z.K (.ref f) = some (.type "function") ∧ ∀ y D, Z.xc y = some D → PySem.W.exmOne Z.K (.ref D) (.ref C) = some (Xs0.sub y c)
/-- a class under which all errors are that a clause takes -/
def TuC (Z : Wi) (Xs0 : Xs) (mg : Str → Option Value) (c : Nat) (y : Str) : Prop := ∃ D, mg y = some (.ref D) ∧ ∀ z C, Z.xc z = some C → Xs0.sub z c = true → ExcC Z.K C ∧ PySem.W.kitOne Z.K (.ref C) (.ref D) = some true
def ErOk (P : Program) (Z : Wi) (Xs0 : Xs) (mg : Str → Option Value) (T : Tb) : Prop := ∀ c x, T.exs[c]? = some x → ErC P Z Xs0 mg c x ∧ ∀ y, (c, y) ∈ T.iss → TuC Z Xs0 mg c y
section
variable {T : Tb} {Z : Wi} {W : WX} {Γ : Gm} {G : Nat → Option D} {X : Cx} {Xs0 : Xs}
theorem s_raise (g : GoodS T Z W Γ G X) (er : ErOk X.prog Z Xs0 X.mg T) {c : Nat} {x : Str} {p pos pos' : Pos} (hc : T.exs[c]? = some x) (hg : Gl X x) (hdb : (x == ("__debug__" : Str)) = false) : PS X (.Raise (some (.Call (.Name x p) [] [] pos)) none pos') (tS Z W (ex Γ G Xs0 (.raise c .nil))) := by
  obtain ⟨C, f, hm, hz, hcl, T1, U, iC, tI, _⟩ := (er c x hc).1
  rw [← g.k] at T1 U iC tI
  refine PS.of (ps_raise g.calm g.tk (pmk_sup T1 U iC tI g.rm hg hm hdb)) fun E σ H ⟨m, ρ, h, st, q⟩ => ?_
  simp only [ex, evs, bns, hcl] at q
  exact q (.ref C) none σ H m st .refl ⟨C, hz, rfl, rfl, fun n => absurd rfl n, rfl⟩
theorem PoS.noX {W' : WX} {m : List Addr} {H : Hp} {r : Rs} {E : Ends} (hx : ∀ c v ρ h, r ≠ .xx c v ρ h) (q : PoS Z W m H r E) : PoS Z W' m H r E := by
  cases r with
  | xx c v ρ h => exact absurd rfl (hx c v ρ h)
  | _ => exact q
/-- suites that only tell something -/
def suE : Mi.E → Expr → Bool
  | .c d, x => mC d x
  | .lst (.cons (.c d) .nil), .List [x] _ => okH x && mC d x
  | _, _ => false
def suOk (N : List Str) (sc : Scope) : Ss → List Stmt → Bool
  | .cons (.ret e) .nil, [.Return (some x) _] => suE e x
  | .cons .pass .nil, [.Pass _] => true
  | .cons (.ex (.me .append (.v i) (.cons (.c d) .nil))) .nil, [.Expr (.Call (.Attribute (.Name y _) nm apos) [x] [] cpos) _] => decide (nm = "append") && decide (N[i]? = some y) && visB sc y && !(dbg y) && !(cdc y) && (apos.endLine == cpos.line) && okH x && mC d x
  | _, _ => false
theorem l_lst0 {es : Es} {xs : List Expr} {p : Pos} (ha : PA X xs (tAs Z W (evs Γ G es))) : PE X (.List xs p) (tE Z W (ev Γ G (.lst es))) := by
  refine PE.of (pe_lst ha) fun σ H Q ⟨m, ρ, h, s, q⟩ => ?_
  simp only [ev] at q
  exact tAs_bnd nbV s q fun vs H1 m1 ds h1 s1 x1 r1 st q1 => by
    obtain ⟨c, q1⟩ := Pst.gd q1
    exact ⟨by rw [r1.length]; exact of_decide_eq_true c, fun p hp => (PV.fin q1).lst s1.hr st r1 hp⟩
theorem su_e {e : Mi.E} {x : Expr} (h : suE e x = true) : PE X x (tE Z W (ev Γ G e)) := by
  unfold suE at h
  split at h
  · exact l_c _ _ h
  · simp only [Bool.and_eq_true] at h
    exact l_lst0 (a_consL h.1 (l_c _ _ h.2) a_nilL)
  · cases h
theorem su_ss {N : List Str} {sc : Scope} (un : X.A.units + 65 < cLine) (k : X.K = Z.K) (hN : X.N = N) (hsc : X.env.scope = sc) : ∀ {ss : Ss} {xs : List Stmt}, suOk N sc ss xs = true → PSs X xs (tS Z W (exs Γ G Xs0 ss)) := fun {ss xs} h => by
  unfold suOk at h
  split at h
  · rename_i e x p
    exact ss_cons (s_ret (su_e h)) ss_nil
  · exact ss_cons (PS.of s_pass fun E σ H q => by simpa only [tS, ex] using q) ss_nil
  · rename_i i d y yp nm apos x cpos p
    simp only [Bool.and_eq_true, decide_eq_true_eq] at h
    obtain ⟨⟨⟨⟨⟨⟨⟨h1, h2⟩, h3⟩, h4⟩, h5⟩, h6⟩, h7⟩, h8⟩ := h
    refine ss_cons (s_ex rfl rfl (l_meU (f := .append) (apos := apos) (cpos := cpos) un k (by rw [h1]; rfl) rfl (by simp) h6 (by simpa using okH_star h7) (l_varU (by rw [hN]; exact h2) (vis_of hsc h3) (nb h4) (nb h5)) (a_consL h7 (l_c _ _ h8) a_nilL) (a_consP h7 (l_c _ _ h8) a_nilP))) ss_nil
  · cases h
theorem own_ex (d : D) (h : Hm) : ∃ d' h', own d h = .ok d' h' := by cases d <;> exact ⟨_, _, rfl⟩
theorem ev_me' (f : Me) (o : Mi.E) (es : Es) (ρ : Env) (h : Hm) : ev Γ G (.me f o es) ρ h = bnd (ev Γ G o ρ h) fun x h => gd (meOk h f x) <| bnd (if f.owns = true then evs Γ G es ρ h else evp Γ G es ρ h) fun ds h => meD h f x ds := by rw [ev]
theorem su_noX {N : List Str} {sc : Scope} {ss : Ss} {xs : List Stmt} (h : suOk N sc ss xs = true) (ρ : Env) (hh : Hm) : ∀ c v ρ' h', exs Γ G Xs0 ss ρ hh ≠ .xx c v ρ' h' := by
  unfold suOk at h
  split at h
  · rename_i e x p
    unfold suE at h
    split at h
    · rename_i d
      intro c v ρ' h' q
      obtain ⟨d2, h2, eo⟩ := own_ex d hh
      simp only [exs, ex, ev, bns, eo, sq] at q
      cases q
    · rename_i d x p
      intro c v ρ' h' q
      obtain ⟨d2, h2, eo⟩ := own_ex d hh
      obtain ⟨d3, h3, eo2⟩ := own_ex (.lv [d2]) h2
      have gdt : decide (1 ≤ sizeLine) = true := by rw [sizeLine_eq]; rfl
      simp only [exs, ex, ev, evs, bns, bnd, eo, List.length_cons, List.length_nil, Nat.zero_add, gdt, gd_t, eo2, sq] at q
      cases q
    · cases h
  · intro c v ρ' h' q
    simp only [exs, ex, sq] at q
    cases q
  · rename_i i d y yp nm apos x cpos p
    intro c v ρ' h' q
    obtain ⟨d2, h2, eo⟩ := own_ex d hh
    cases e1 : ev Γ G (.v i) ρ hh with
    | ok z h3 =>
      have e3 : h3 = hh := by
        rw [ev] at e1
        split at e1
        · cases e1; rfl
        · cases e1
      subst e3
      simp only [exs, ex, ev_me', e1, evs, bnd, bns, sq, if_true, Me.owns, show ev Γ G (.c d) ρ h3 = .ok d h3 from by rw [ev], eo] at q
      cases gg : meOk h3 .append z with
      | false => rw [gg] at q; cases q
      | true =>
        rw [gg] at q
        simp only [gd_t] at q
        cases e5 : meD h2 .append z [d2] with
        | ok z2 h5 => rw [e5] at q; cases q
        | bad => rw [e5] at q; cases q
        | ex c2 fs h5 => exact meD_ex _ _ _ _ _ _ _ e5
    | bad => simp only [exs, ex, ev_me', e1, bnd, bns, sq] at q; cases q
    | ex c2 fs h5 =>
      rw [ev] at e1
      split at e1 <;> cases e1
  · cases h
theorem s_try (g : GoodS T Z W Γ G X) (er : ErOk X.prog Z Xs0 X.mg T) {b s : Ss} {c : Nat} {x : Str} {body suite : List Stmt} {b0 : Stmt} {np pos pos' : Pos} (hc : T.exs[c]? = some x) (hg : Gl X x) (hdb : (x == ("__debug__" : Str)) = false)
    (hb : ∀ (W' : WX) (pn : List (Addr × Obj)) (xe : Value → Shared → Prop), GoodS T Z W' Γ G (X.tr pn xe) → PSs (X.tr pn xe) body (tS Z W' (exs Γ G Xs0 b))) {N : List Str} {sc : Scope} (hN : X.N = N) (hsc : X.env.scope = sc) (hs : suOk N sc s (b0 :: suite) = true) :
    PS X (.Try body [.ExceptHandler (some (.Name x np)) none (b0 :: suite) pos'] [] [] pos) (tS Z W (ex Γ G Xs0 (.try_ b c s))) := by
  obtain ⟨C, f, hm, hz, hcl, T1, U, iC, tI, sub⟩ := (er c x hc).1
  refine PS.of (ps_try_only (tb := fun W' => tS Z W' (exs Γ G Xs0 b)) (ts := fun _ _ _ => tS Z (fun _ _ _ _ => False) (exs Γ G Xs0 s)) g.hs g.hf ⟨hg, hdb, .inl hm⟩ g.tk (fun W' pn xe tk ow => hb W' pn xe ⟨⟨g.calm, g.nod, g.k, tk, g.gd, g.un, g.fns, g.cns, g.bts, g.dcs⟩, ow, g.fn, g.fk, g.hs, g.hf, g.rm⟩) (fun a oe cls d pn _ _ => su_ss (X := X.suite a ((a, oe) :: pn)) g.un g.k hN hsc hs)) fun E σ H ⟨m, ρ, h, st, q⟩ => ?_
  refine ⟨m, ρ, h, st, ?_⟩
  simp only [ex] at q
  cases e : exs Γ G Xs0 b ρ h with
  | xx n v ρ' h' =>
    rw [e] at q
    intro cls dx σ' H' m' a x2 xr
    obtain ⟨D, hD, rfl, _⟩ := id xr
    refine ⟨Xs0.sub n c, by rw [g.k]; exact sub n D hD, fun hy a' na => ?_, fun hn => ?_⟩
    · simp only [hy, if_true] at q
      exact ⟨m', ρ', h', a, PoS.noX (su_noX hs ρ' h') (PoS.rebase x2 q)⟩
    · simp only [hn, Bool.false_eq_true, if_false] at q
      exact q _ dx σ' H' m' a x2 xr
  | nx ρ' h' => rw [e] at q; exact q
  | bk ρ' h' => rw [e] at q; exact q
  | ct ρ' h' => rw [e] at q; exact q
  | rt d h' => rw [e] at q; exact q
  | bad => rw [e] at q; exact q.elim
/-! ### except .. as n: return [text, isinstance(n, Y)] -/
def locB (sc : Scope) (x : Str) : Bool := match sc.names.lookup x with
  | some .local => true
  | _ => false
theorem kind_of {sc : Scope} {y : Str} (hsc : X.env.scope = sc) (h : locB sc y = true) : X.env.kindOf y = some .local := by
  subst hsc
  unfold locB at h
  split at h
  · rename_i e; exact e
  · cases h
def asOk (T : Tb) (N : List Str) (sc : Scope) (c : Nat) (n : Str) : Ss → Stmt → Bool
  | .cons (.asg (.n i) (.c .non)) (.cons (.ret (.lst (.cons (.c (.str d)) (.cons (.c (.bl true)) .nil)))) .nil), .Return (some (.List [ck, .Call (.Name iz _) [.Name n' _, .Name y _] [] _] _)) _ =>
    decide (N[i]? = some n) && decide (n' = n) && visB sc n && locB sc n && !(dbg n) && !(cdc n) && decide (iz = "isinstance") && glB sc iz && inB T.bts iz && glB sc y && !(dbg y) && okH ck && mC (.str d) ck && T.iss.contains (c, y)
  | _, _ => false
theorem pe_gl {y : Str} {D : Addr} {p : Pos} (hg : Gl X y) (hm : X.mg y = some (.ref D)) (hdb : (y == ("__debug__" : Str)) = false) : PE X (.Name y p) (fun _ H Q => Q (.ref D) H) :=
  ⟨fun pins s σ H Q I h => ld_glob I hg hm ⟨.ref D, H, I, rfl, h⟩ hdb⟩
theorem ret_two (d : Str) (ρ : Env) (h : Hm) : ex Γ G Xs0 (.ret (.lst (.cons (.c (.str d)) (.cons (.c (.bl true)) .nil)))) ρ h = .rt (.ref h.length) (h ++ [.lst [.str d, .bl true]]) := by
  have gdt : decide (2 ≤ sizeLine) = true := by rw [sizeLine_eq]; rfl
  have o1 : own (.str d) h = .ok (.str d) h := rfl
  have o2 : own (.bl true) h = .ok (.bl true) h := rfl
  have o3 : ∀ ds, own (.lv ds) h = .ok (.ref h.length) (h ++ [.lst ds]) := fun _ => rfl
  simp only [ex, ev, evs, bns, bnd, o1, o2, o3, List.length_cons, List.length_nil, Nat.zero_add, Nat.reduceAdd, gdt, gd_t]
theorem su_as {N : List Str} {n y : Str} {i : Nat} {d : Str} {ck : Expr} {p1 p2 p3 p4 p5 p6 : Pos} {a Dy : Addr} {oe : Obj} {cls : Value} {dx : Option Addr} {pn : List (Addr × Obj)} (hN : X.N = N) (hi : N[i]? = some n) (hv : Vis X.env.scope n) (hdn : (n == ("__debug__" : Str)) = false) (hcn : (n == ("__classdict__" : Str)) = false)
    (hz : Zc cls dx oe) (hf : ∃ vs, oe.data = .fields vs) (gi : Gl X "isinstance") (mi : X.mg "isinstance" = none) (gy : Gl X y) (my : X.mg y = some (.ref Dy)) (hdy : (y == ("__debug__" : Str)) = false) (oh : okH ck = true) (hc : mC (.str d) ck = true) :
    PSs (X.suite a ((a, oe) :: pn)) [.Return (some (.List [ck, .Call (.Name "isinstance" p1) [.Name n p2, .Name y p3] [] p4] p5)) p6]
      (fun E σ H => ∃ D, cls = .ref D ∧ dx = none ∧ ExcC X.K D ∧ PySem.W.kitOne X.K (.ref D) (.ref Dy) = some true ∧ σ[i]? = some (some (.ref a)) ∧ tS Z (fun _ _ _ _ => False) (ex Γ G Xs0 (.ret (.lst (.cons (.c (.str d)) (.cons (.c (.bl true)) .nil))))) E σ H) := by
  refine ⟨fun pins s σ H E I q => ?_⟩
  obtain ⟨D, rfl, rfl, hC, hk, q⟩ := q
  have pi : PE (X.suite a ((a, oe) :: pn)) (.Call (.Name "isinstance" p1) [.Name n p2, .Name y p3] [] p4) (fun σ H Q => σ[i]? = some (some (.ref a)) ∧ Q (.bl true) H) := by
    refine PE.of (pe_callB (X := X.suite a ((a, oe) :: pn)) (call_isE (X := X) (pn := pn) hC hz hf) gi mi (by first | exact PyProof.Rows.Boot.«isinstance» | rfl) (pa_cons (pe_var (X := X.suite a ((a, oe) :: pn)) (i := i) (by show X.N[i]? = _; rw [hN]; exact hi) hv hdn hcn) (pa_cons (pe_gl (X := X.suite a ((a, oe) :: pn)) gy my hdy) pa_nil))) fun σ H Q ⟨c, q⟩ => ?_
    exact ⟨.ref a, c, .ref Dy, .ref Dy, true, rfl, fun u r => by cases r; rfl, hk, q⟩
  have pl : PE (X.suite a ((a, oe) :: pn)) (.List [ck, .Call (.Name "isinstance" p1) [.Name n p2, .Name y p3] [] p4] p5) (fun σ H Q => σ[i]? = some (some (.ref a)) ∧ tE Z (fun _ _ _ _ => False) (ev Γ G (.lst (.cons (.c (.str d)) (.cons (.c (.bl true)) .nil)))) σ H Q) := by
    refine PE.of (pe_lst (pa_cons (l_c (Γ := Γ) (G := G) (Z := Z) (W := fun _ _ _ _ => False) (.str d) ck hc) (pa_cons pi pa_nil) (starEach_cons (okH_star oh)))) fun σ H Q ⟨c, m, ρ, h, s, q⟩ => ?_
    have gdt : decide (2 ≤ sizeLine) = true := by rw [sizeLine_eq]; rfl
    have o1 : own (.str d) h = .ok (.str d) h := rfl
    have o2 : own (.bl true) h = .ok (.bl true) h := rfl
    simp only [ev, evs, bnd, o1, o2, List.length_cons, List.length_nil, Nat.zero_add, Nat.reduceAdd, gdt, gd_t] at q
    refine ⟨m, ρ, h, s, ?_⟩
    simp only [ev]
    intro v1 H1 m1 r1 x1 rp1 _
    refine ⟨c, ?_, fun p hp => ?_⟩
    · show 2 ≤ sizeLine
      exact of_decide_eq_true gdt
    · exact (PV.fin (Pst.rebase (nbV r1 x1) x1 q)).lst r1 rfl (.cons rp1 (.cons (.bl true) .nil)) hp
  have ps : PS (X.suite a ((a, oe) :: pn)) (.Return (some (.List [ck, .Call (.Name "isinstance" p1) [.Name n p2, .Name y p3] [] p4] p5)) p6) (fun E σ H => σ[i]? = some (some (.ref a)) ∧ tS Z (fun _ _ _ _ => False) (ex Γ G Xs0 (.ret (.lst (.cons (.c (.str d)) (.cons (.c (.bl true)) .nil))))) E σ H) := by
    refine PS.of (ps_ret pl) fun E σ H ⟨c, m, ρ, h, s, q⟩ => ⟨c, ?_⟩
    simp only [ex] at q
    exact tE_So s q fun v H1 m1 d h1 s1 x1 r1 st q1 => q1 v H1 m1 s1.hr .refl r1 st
  exact (pss_one ps).run pins s σ H E I q
theorem s_tryU (g : GoodS T Z W Γ G X) (er : ErOk X.prog Z Xs0 X.mg T) {b sx : Ss} {c : Nat} {x n : Str} {body : List Stmt} {r : Stmt} {np pos pos' : Pos} (hc : T.exs[c]? = some x) (hg : Gl X x) (hdb : (x == ("__debug__" : Str)) = false)
    (hb : ∀ (W' : WX) (pn : List (Addr × Obj)) (xe : Value → Shared → Prop), GoodS T Z W' Γ G (X.tr pn xe) → PSs (X.tr pn xe) body (tS Z W' (exs Γ G Xs0 b))) {N : List Str} {sc : Scope} (hN : X.N = N) (hsc : X.env.scope = sc) (hs : asOk T N sc c n sx r = true) :
    PS X (.Try body [.ExceptHandler (some (.Name x np)) (some n) [r] pos'] [] [] pos) (tS Z W (ex Γ G Xs0 (.try_ b c sx))) := by
  unfold asOk at hs
  split at hs
  · rename_i i d ck iz ip n' q2 y q3 q4 q5 q6
    simp only [Bool.and_eq_true, decide_eq_true_eq] at hs
    obtain ⟨⟨⟨⟨⟨⟨⟨⟨⟨⟨⟨⟨⟨h1, h2⟩, h3⟩, h4⟩, h5⟩, h6⟩, h7⟩, h8⟩, h9⟩, hA⟩, hB⟩, hC⟩, hD⟩, hE⟩ := hs
    subst h2 h7
    obtain ⟨⟨C, f, hm, hz, hcl, T1, U, iC, tI, sub⟩, tu⟩ := er c x hc
    obtain ⟨Dy, my, ty⟩ := tu y (by simpa using hE)
    refine PS.of (ps_try_as (tb := fun W' => tS Z W' (exs Γ G Xs0 b)) (i := i) (ts := fun a cls dx => fun E σ H => ∃ D, cls = .ref D ∧ dx = none ∧ ExcC X.K D ∧ PySem.W.kitOne X.K (.ref D) (.ref Dy) = some true ∧ σ[i]? = some (some (.ref a)) ∧ tS Z (fun _ _ _ _ => False) (ex Γ G Xs0 (.ret (.lst (.cons (.c (.str d)) (.cons (.c (.bl true)) .nil))))) E σ H)
      g.hs g.hf g.nod (by rw [hN]; exact h1) (kind_of hsc h4) ⟨hg, hdb, .inl hm⟩ g.tk (fun W' pn xe tk ow => hb W' pn xe ⟨⟨g.calm, g.nod, g.k, tk, g.gd, g.un, g.fns, g.cns, g.bts, g.dcs⟩, ow, g.fn, g.fk, g.hs, g.hf, g.rm⟩)
      (fun a oe cls dx pn z1 z2 => su_as hN h1 (vis_of hsc h3) (nb h5) (nb h6) z1 z2 (gl_of hsc h8) (g.bts _ (inB_mem h9)) (gl_of hsc hA) my (nb hB) hC hD)) fun E σ H ⟨m, ρ, h, st, q⟩ => ?_
    refine ⟨m, ρ, h, st, ?_⟩
    simp only [ex] at q
    cases e : exs Γ G Xs0 b ρ h with
    | xx n2 v ρ' h' =>
      rw [e] at q
      intro cls dx σ' H' m' st2 x2 xr
      obtain ⟨D, hD, rfl, _, _, kz⟩ := id xr
      refine ⟨Xs0.sub n2 c, by rw [g.k]; exact sub n2 D hD, fun hy a' na => ?_, fun hn => ?_⟩
      · simp only [hy, if_true] at q
        obtain ⟨eC, kC⟩ := ty n2 D hD hy
        have o0 : own .non h' = .ok .non h' := rfl
        by_cases hl : i < ρ'.length
        · have as : asgT (.n i) .non ρ' = some (ρ'.set i (some .non)) := by simp only [asgT]; rw [if_pos hl]
          rw [exs, ex] at q
          simp only [ev, bns, o0, as, opt, sq] at q
          rw [exs, ret_two] at q
          simp only [sq] at q
          have q2 := PoS.rebase x2 q
          refine ⟨D, rfl, kz, by rw [g.k]; exact eC, by rw [g.k]; exact kC, ?_, m', ρ'.set i none, h', ⟨st2.hr, ?_⟩, ?_⟩
          · rw [List.getElem?_set_self (by rw [st2.en.len]; exact hl)]
          · refine ⟨by simp [st2.en.len], fun j d' e' => ?_⟩
            by_cases hj : j = i
            · subst hj
              rw [List.getElem?_set_self hl] at e'; cases e'
            · rw [List.getElem?_set_ne (Ne.symm hj)] at e'
              rw [List.getElem?_set_ne (Ne.symm hj)]
              exact st2.en.at_ j d' e'
          · rw [ret_two]; exact q2
        · exfalso
          have as : asgT (.n i) .non ρ' = none := by simp only [asgT]; rw [if_neg hl]
          rw [exs, ex] at q
          simp only [ev, bns, o0, as, opt, sq] at q
          exact q
      · simp only [hn, Bool.false_eq_true, if_false] at q
        exact q _ dx σ' H' m' st2 x2 xr
    | nx ρ' h' => rw [e] at q; exact q
    | bk ρ' h' => rw [e] at q; exact q
    | ct ρ' h' => rw [e] at q; exact q
    | rt d h' => rw [e] at q; exact q
    | bad => rw [e] at q; exact q.elim
  · cases hs
end
end Mi

set_option Elab.async false
set_option linter.all false
set_option maxRecDepth 100000
/-! Mini: loops, every statement. -/
namespace Mi
open PySem PySem.Spec PyProof.Rows L2
section
variable {T : Tb} {Z : Wi} {W : WX} {Γ : Gm} {G : Nat → Option D} {X : Cx} {σ : L2.St} {m m' : List Addr} {H H' : Hp} {h : Hm} {ρ : Env} {E : Ends}
theorem PoS.turn {r : Rs} {k : Env → Hm → Rs} {N : L2.St → Hp → Prop} (p : PoS Z W m H (tn r k) E) (hN : ∀ ρ h σ' H' m', StR Z.K m' H' h σ' ρ → Ext m H m' H' → PoS Z W m' H' (k ρ h) E → N σ' H') : PoS Z W m H r { E with nx := N, ct := N, bk := E.nx } := by
  cases r with
  | nx ρ h => exact fun σ' H2 m2 a b => hN ρ h σ' H2 m2 a b (PoS.rebase b p)
  | bk ρ h => exact p
  | ct ρ h => exact fun σ' H2 m2 a b => hN ρ h σ' H2 m2 a b (PoS.rebase b p)
  | rt d h => exact p
  | xx c fs ρ h => exact p
  | bad => exact p
theorem s_while (g : GoodS T Z W Γ G X) {e : Mi.E} {b : Ss} {x : Expr} {xs : List Stmt} {Xs0 : Xs} {p : Pos} (ht : PT X x (tT Z W (truF (ev Γ G e)))) (hb : PSs X xs (tS Z W (exs Γ G Xs0 b))) : PS X (.While x xs [] p) (tS Z W (ex Γ G Xs0 (.while_ e b))) := by
  refine PS.of (ps_while g.own ht hb) fun E σ H ⟨m, ρ, h, s, q⟩ => ?_
  simp only [ex] at q
  refine ⟨fun k σ H => ∃ m ρ h, StR Z.K m H h σ ρ ∧ PoS Z W m H (whileL (truF (ev Γ G e)) (exs Γ G Xs0 b) k ρ h) E, ⟨Xs0.wf, m, ρ, h, s, q⟩, ?_⟩
  rintro k σ H ⟨m, ρ, h, s, q⟩
  cases k with
  | zero => exact q.elim
  | succ k =>
    rw [whileL] at q
    refine tT_S (f := truF (ev Γ G e)) s q fun b0 H1 m1 h1 s1 x1 q1 => ?_
    cases b0 with
    | false => exact q1 σ H1 m1 s1 .refl
    | true =>
      refine ⟨fun σ' H' => ∃ m ρ h, StR Z.K m H' h σ' ρ ∧ PoS Z W m H' (whileL (truF (ev Γ G e)) (exs Γ G Xs0 b) k ρ h) E, fun σ' H' hh => ⟨k, Nat.lt_succ_self k, hh⟩, ?_⟩
      exact ⟨m1, ρ, h1, s1, PoS.turn q1 fun ρ2 h2 σ' H' m' a b c => ⟨m', ρ2, h2, a, c⟩⟩
theorem s_for (g : GoodS T Z W Γ G X) {t : Mi.T} {i : I} {b : Ss} {tg iter : Expr} {xs : List Stmt} {Xs0 : Xs} {p : Pos} (hok : okH iter = true) (hi : PI X tg iter (tI Z W (evI Γ G i))) (hg : PG X tg (tG Z.K t)) (hb : PSs X xs (tS Z W (exs Γ G Xs0 b))) : PS X (.For tg iter xs [] p) (tS Z W (ex Γ G Xs0 (.for_ t i b))) := by
  refine PS.of (ps_for g.own g.calm hi hg hb (okH_set X.env hok)) fun E σ H ⟨m, ρ, h, s, q⟩ => ?_
  simp only [ex] at q
  refine ⟨m, ρ, h, s, ?_⟩
  cases eI : evI Γ G i ρ h with
  | bad => rw [eI] at q; exact q
  | ex c fs h1 => rw [eI] at q; exact fun cls dx H' m' a b c => q cls dx σ H' m' (s.go a b) b c
  | ok a h1 =>
    obtain ⟨ds, src⟩ := a
    rw [eI, bns_ok] at q
    simp only at q
    intro J H1 m1 hr1 x1 wd so1
    generalize hstep : forS (exs Γ G Xs0 b) t = step at q
    refine ⟨fun i k σ H => k = ds.length - i ∧ i ≤ ds.length ∧ ∃ m ρ h, StR Z.K m H h σ ρ ∧ Ext m1 H1 m H ∧ srcOk src h = true ∧ PoS Z W m H (forL step src (ds.drop i) ρ h) E, ⟨_, rfl, Nat.zero_le _, m1, ρ, h1, s.go hr1 x1, .refl, so1, PoS.rebase x1 q⟩, ?_⟩
    rintro i k σ H ⟨rfl, hi, m, ρ, h, s, x, so, q⟩
    by_cases hlt : i < ds.length
    · refine .inr ⟨wd.go i m H h hlt s.hr x so, fun σ' H' => i + 1 ≤ ds.length ∧ ∃ m ρ h, StR Z.K m H' h σ' ρ ∧ Ext m1 H1 m H' ∧ srcOk src h = true ∧ PoS Z W m H' (forL step src (ds.drop (i + 1)) ρ h) E, fun σ' H' hh => ⟨ds.length - (i + 1), by omega, rfl, hh⟩, fun y H2 yl => ?_⟩
      obtain ⟨d, ed, hr2, x2, rd⟩ := wd.yld i m H h y H2 hlt s.hr x so yl
      have std := stL_get wd.st ed
      rw [List.drop_eq_getElem_cons hlt, show ds[i] = d from Option.some.inj ((List.getElem?_eq_getElem hlt).symm.trans ed), forL] at q
      have q := PoS.rebase x2 q
      cases ea : asgT t d ρ with
      | none =>
        have e : step d ρ h = .bad := by rw [← hstep]; simp only [forS, ea]
        rw [e] at q; exact q.elim
      | some ρ' =>
        have e : step d ρ h = exs Γ G Xs0 b ρ' h := by rw [← hstep]; simp only [forS, ea]
        rw [e] at q
        refine ⟨m, ρ, h, d, ρ', s.go hr2 x2, rd, std, ea, fun σ2 en2 _ => ⟨m, ρ', h, ⟨hr2, en2⟩, PoS.turn q fun ρ3 h3 σ3 H3 m3 s3 x3 q3 => ?_⟩⟩
        cases so3 : srcOk src h3 with
        | false => rw [so3] at q3; exact q3.elim
        | true =>
          rw [so3, gs_t] at q3
          exact ⟨hlt, m3, ρ3, h3, s3, Ext.trans s3.hr (Ext.trans hr2 x x2) x3, so3, q3⟩
    · have e : i = ds.length := by omega
      subst e
      rw [List.drop_length, forL] at q
      exact .inl ⟨wd.stop m H h s.hr x so, q σ H m s .refl⟩
end
/-! ### a dict that is walked -/
theorem HRp.unlk {K : PySem.W.Frag} {n : Nat} {a : Addr} {od : Obj} {kvs : List (L2.Key × V)} {kds : List (L2.Key × D)} (r : HRp K m H h) (hn : m[n]? = some a) (e : H a = some (.frz od (.dK kvs))) (e2 : h[n]? = some (.frd kds)) : HRp K m (upd H a (.dK kvs)) (h.set n (.dic kds)) := by
  refine ⟨by simp [r.len], r.nd, fun k o b e1 q2 => ?_⟩
  by_cases hk : k = n
  · subst hk
    rw [hn] at q2; cases q2
    have hl : k < h.length := (List.getElem?_eq_some_iff.mp e2).1
    rw [List.getElem?_set_self hl] at e1
    cases e1
    obtain ⟨a', e3, oa⟩ := r.get e2
    rw [hn] at e3; cases e3
    cases oa with
    | frd e4 t =>
      rw [e] at e4; cases e4
      exact .dic upd_same ⟨t.1, t.2.1, RpL.upU e rfl t.2.1 t.2.2⟩
  · rw [List.getElem?_set_ne (Ne.symm hk)] at e1
    have ne : b ≠ a := fun z => by
      subst z
      obtain ⟨h1, q1⟩ := List.getElem?_eq_some_iff.mp q2
      obtain ⟨h2, q3⟩ := List.getElem?_eq_some_iff.mp hn
      exact hk ((List.getElem_inj r.nd).mp (q1.trans q3.symm))
    cases r.at_ k o b e1 q2 with
    | lst q s t => exact .lst (by rw [upd_ne ne]; exact q) s (RpL.upU e rfl s t)
    | dic q t => exact .dic (by rw [upd_ne ne]; exact q) ⟨t.1, t.2.1, RpL.upU e rfl t.2.1 t.2.2⟩
    | frd q t => exact .frd (by rw [upd_ne ne]; exact q) ⟨t.1, t.2.1, RpL.upU e rfl t.2.1 t.2.2⟩
theorem s_lock {s0 : Mi.St} {v : Nat} {x : Stmt} {Xs0 : Xs} (hs : PS X x (tS Z W (ex Γ G Xs0 s0))) : PS X x (tS Z W (ex Γ G Xs0 (.lock v s0))) := by
  refine PS.of (ps_lock hs) fun E σ H ⟨m, ρ, h, s, q⟩ => ?_
  simp only [ex] at q
  split at q
  · rename_i n ev
    split at q
    · rename_i kds e1
      obtain ⟨a, hn, oa⟩ := s.hr.get e1
      cases oa with
      | dic e4 t =>
        rename_i kvs
        refine ⟨a, .dK kvs, e4, trivial, fun od => ?_⟩
        obtain ⟨r', x'⟩ := s.hr.write (u := .frz od (.dK kvs)) (o := .frd kds) hn (fun _ _ w => by rw [e4] at w; cases w) rfl fun H2 eH x' => by
          subst eH
          exact .frd upd_same (KvR.ext s.hr x' t)
        have ha : a ∈ m := List.mem_of_getElem? hn
        have xB : ∀ {m' H'}, Ext m (upd H a (.frz od (.dK kvs))) m' H' → H' a = some (.frz od (.dK kvs)) ∧ Ext m H m' (upd H' a (.dK kvs)) := fun {m' H'} x => by
          have ez := x.fz a od (.dK kvs) upd_same
          refine ⟨ez, ?_, fun b o eb nb => ?_, fun b o u eb => ?_⟩
          · obtain ⟨l, el, f⟩ := x.pre
            refine ⟨l, el, fun b hb => ?_⟩
            have := f b hb
            rwa [upd_ne (fun z => by rw [z, upd_same] at this; cases this)] at this
          · have ne : b ≠ a := fun z => nb (by rw [z]; exact ha)
            rw [upd_ne ne]
            exact x.fr b o (by rw [upd_ne ne]; exact eb) nb
          · have ne : b ≠ a := fun z => by rw [z, e4] at eb; cases eb
            rw [upd_ne ne]
            exact x.fz b o u (by rw [upd_ne ne]; exact eb)
        refine ⟨m, ρ, h.set n (.frd kds), s.go r' x', ?_⟩
        cases er : ex Γ G Xs0 s0 ρ (h.set n (.frd kds)) with
        | nx ρ2 h2 =>
          rw [er, rlk] at q
          split at q
          · rename_i e2
            intro σ' H' m' s' x
            obtain ⟨ez, xe⟩ := xB x
            have hn' := x.get hn
            refine ⟨ez, q σ' _ m' ⟨s'.hr.unlk hn' ez e2, s'.en.len, fun j d' ej => ?_⟩ xe⟩
            obtain ⟨sd, w, ew, rw'⟩ := s'.en.at_ j d' ej
            exact ⟨sd, w, ew, Rp.upU ez rfl sd rw'⟩
          · exact q.elim
        | rt d h2 =>
          rw [er, rlk] at q
          split at q
          · rename_i e2
            intro w H' m' r2 x rv sd
            obtain ⟨ez, xe⟩ := xB x
            exact ⟨ez, q w _ m' (r2.unlk (x.get hn) ez e2) xe (Rp.upU ez rfl sd rv) sd⟩
          · exact q.elim
        | bk ρ2 h2 => rw [er] at q; exact q.elim
        | ct ρ2 h2 => rw [er] at q; exact q.elim
        | xx c fs ρ2 h2 => rw [er] at q; exact q.elim
        | bad => rw [er] at q; exact q.elim
    · exact q.elim
  · exact q.elim
/-! ### the checker -/
def asgK (sc : Scope) (tg x : Expr) (t : Mi.T) (e : Mi.E) (N : List Str) : Bool := match tg with
  | .Name y q => match x with
    | .ListComp _ _ scope p => (swB sc scope y q p && (match t with
      | .n _ => true
      | _ => false) && (match e with
      | .comp _ _ _ _ _ => true
      | _ => false)) || !(swB sc scope y q p)
    | _ => true
  | .Tuple ts _ _ => match x with
    | .Tuple vs _ _ => match swR sc ts vs with
      | none => false
      | some none => true
      | some (some ns) => match ts, vs, t, e with
        | [.Name a _, .Name b _], [_, _], .t (.cons (.n i) (.cons (.n j) .nil)), .tup _ => decide (ns = [a, b]) && decide (i ≠ j) && decide (sc.names.lookup a = some .local) && decide (sc.names.lookup b = some .local)
        | [.Name a _, .Name b _, .Name c _], [_, _, _], .t (.cons (.n i) (.cons (.n j) (.cons (.n l) .nil))), .tup _ => decide (ns = [a, b, c]) && decide (i ≠ j) && decide (i ≠ l) && decide (j ≠ l) && decide (sc.names.lookup a = some .local) && decide (sc.names.lookup b = some .local) && decide (sc.names.lookup c = some .local)
        | _, _, _, _ => false
    | _ => true
  | _ => false
mutual
def mS (T : Tb) (N : List Str) (sc : Scope) : Mi.St → Stmt → Bool
  | .asg t e, s => match s with
    | .Assign [tg] x _ => okH x && mE T N e sc x && mT N sc allT t tg && asgK sc tg x t e N
    | _ => false
  | .asgI o i e, s => match s with
    | .Assign [.Subscript xo xi _] x _ => okH xi && mE T N o sc xo && mE T N i sc xi && mE T N e sc x
    | _ => false
  | .asg2I o i o2 i2 e, s => match s with
    | .Assign [.Tuple [.Subscript xo xi _, .Subscript xo2 xi2 _] _ _] x _ => okH xi && okH xi2 && mE T N o sc xo && mE T N i sc xi && mE T N o2 sc xo2 && mE T N i2 sc xi2 && mE T N e sc x && (match x with
      | .Tuple vs _ _ => decide (vs.length = 2)
      | .Name _ _ => true
      | _ => false)
    | _ => false
  | .stop, s => match s with
    | .Raise _ _ _ => true
    | _ => false
  | .asgL ts e, s => match s with
    | .Assign [.Tuple xs _ _] x _ => mTs N sc allT ts xs && mE T N e sc x && (match x with
      | .ListComp _ _ _ _ => true
      | .Name _ _ => true
      | .Call _ _ _ _ => true
      | _ => false)
    | _ => false
  | .aug op i e, s => match s with
    | .AugAssign (.Name y _) op' x _ => decide (op' = op) && decide (N[i]? = some y) && stoB sc allT y && mE T N e sc x
    | _ => false
  | .augI op o i e, s => match s with
    | .AugAssign (.Subscript xo xi _) op' x _ => decide (op' = op) && okH xi && mE T N o sc xo && mE T N i sc xi && mE T N e sc x
    | _ => false
  | .ex e, s => match s with
    | .Expr x _ => okH x && !(isLC x) && mE T N e sc x
    | _ => false
  | .ret e, s => match s with
    | .Return (some x) _ => mE T N e sc x
    | _ => false
  | .ret0, s => match s with
    | .Return none _ => true
    | _ => false
  | .ifs t a b, s => match s with
    | .If x xa xb _ => tst t && mE T N t sc x && mSs T N sc a xa && mSs T N sc b xb
    | _ => false
  | .for_ t i b, s => match s with
    | .For tg iter xs [] _ => okH iter && mI T N i sc tg iter && mT N sc allT t tg && mSs T N sc b xs
    | _ => false
  | .lock _ s0, s => mS T N sc s0 s
  | .while_ t b, s => match s with
    | .While x xs [] _ => tst t && mE T N t sc x && mSs T N sc b xs
    | _ => false
  | .raise c es, s => match s with
    | .Raise (some (.Call (.Name x _) [] [] _)) none _ => (match es with
      | .nil => true
      | _ => false) && decide (T.exs[c]? = some x) && glB sc x && !(dbg x)
    | _ => false
  | .try_ b c sx, s => match s with
    | .Try body [.ExceptHandler (some (.Name x _)) none (b0 :: suite) _] [] [] _ => decide (T.exs[c]? = some x) && glB sc x && !(dbg x) && mSs T N sc b body && suOk N sc sx (b0 :: suite)
    | .Try body [.ExceptHandler (some (.Name x _)) (some n) [r] _] [] [] _ => decide (T.exs[c]? = some x) && glB sc x && !(dbg x) && mSs T N sc b body && asOk T N sc c n sx r
    | _ => false
  | .pass, s => match s with
    | .Pass _ => true
    | _ => false
  | .brk, s => match s with
    | .Break _ => true
    | _ => false
  | .cnt, s => match s with
    | .Continue _ => true
    | _ => false
def mSs (T : Tb) (N : List Str) (sc : Scope) : Ss → List Stmt → Bool
  | .nil, [] => true
  | .cons s ss, x :: xs => mS T N sc s x && mSs T N sc ss xs
  | .nil, _ :: _ => false
  | .cons _ _, [] => false
end
section
variable {T : Tb} {Z : Wi} {Γ : Gm} {G : Nat → Option D} {Xs0 : Xs}
theorem s_asgA {W : WX} {X : Cx} {sc : Scope} {N : List Str} (g : GoodS T Z W Γ G X) (hN : X.N = N) (hsc : X.env.scope = sc) (t : Mi.T) (e : Mi.E) (tg x : Expr) (p : Pos) (h0 : okH x = true) (h1 : mE T N e sc x = true) (h2 : mT N sc allT t tg = true) (h3 : asgK sc tg x t e N = true) : PS X (.Assign [tg] x p) (tS Z W (ex Γ G Xs0 (.asg t e))) := by
  have he := (sE e g.toGood hN hsc x h1).1
  have hg : PG X tg (tG Z.K t) := by rw [← g.k]; exact sT_t g.calm g.nod hN hsc (fun y _ _ => g.fn y) t tg h2
  cases tg with
  | Name y q =>
    have plain : swapsWith x (some (.Name y q)) p.line X.env = pure false → PS X (.Assign [.Name y q] x p) (tS Z W (ex Γ G Xs0 (.asg t e))) := fun hs => s_asg he hg hs (by cases x <;> rfl) rfl
    cases x with
    | ListComp xe gens scope p2 =>
      simp only [asgK] at h3
      cases hsw : swB sc scope y q p2 with
      | false => exact plain (by rw [sw_lc g, hsc, hsw])
      | true =>
        rw [hsw] at h3
        simp only [Bool.true_and, Bool.not_true, Bool.or_false, Bool.and_eq_true] at h3
        cases t with
        | t ts => simp at h3
        | n k =>
          cases e with
          | comp e t i fs w =>
            have hk : X.N[k]? = some y := by
              simp only [mT, Bool.and_eq_true, decide_eq_true_eq] at h2
              rw [hN]; exact h2.1
            exact s_setLc g hN hsc hk hsw h1
          | _ => simp at h3
    | _ => exact plain (sw_no h0 rfl)
  | Tuple ts k q =>
    have plain : swappedStores [.Tuple ts k q] x X.env = pure none → PS X (.Assign [.Tuple ts k q] x p) (tS Z W (ex Γ G Xs0 (.asg t e))) := fun hw => s_asg he hg (by cases x <;> rfl) hw rfl
    cases x with
    | Tuple vs k2 q2 =>
      simp only [asgK] at h3
      split at h3
      · cases h3
      · rename_i hr
        exact plain (sw_of g.fk (by rw [hsc]; exact hr))
      · rename_i ns hr
        split at h3
        · rename_i a pa b pb v1 v2 i j es
          simp only [Bool.and_eq_true, decide_eq_true_eq] at h3
          obtain ⟨⟨⟨rfl, h4⟩, h5⟩, h6⟩ := h3
          simp only [mT, mTs, Bool.and_eq_true, decide_eq_true_eq] at h2
          have hes : mEs T N es sc [v1, v2] = true := h1
          exact s_par g (by rw [hN]; exact h2.1.1) (by rw [hN]; exact h2.2.1.1) h4 (by rw [hsc]; exact h5) (by rw [hsc]; exact h6) (sL es g.toGood hN hsc _ hes) (sw_of g.fk (by rw [hsc]; exact hr))
        · rename_i a pa b pb c pc v1 v2 v3 i j l es
          simp only [Bool.and_eq_true, decide_eq_true_eq] at h3
          obtain ⟨⟨⟨⟨⟨⟨rfl, h4⟩, h5⟩, h6⟩, h7⟩, h8⟩, h9⟩ := h3
          simp only [mT, mTs, Bool.and_eq_true, decide_eq_true_eq] at h2
          have hes : mEs T N es sc [v1, v2, v3] = true := h1
          exact s_par3 g (by rw [hN]; exact h2.1.1) (by rw [hN]; exact h2.2.1.1) (by rw [hN]; exact h2.2.2.1.1) h4 h5 h6 (by rw [hsc]; exact h7) (by rw [hsc]; exact h8) (by rw [hsc]; exact h9) (sL es g.toGood hN hsc _ hes) (sw_of g.fk (by rw [hsc]; exact hr))
        · cases h3
    | _ => exact plain rfl
  | _ => simp [asgK] at h3
mutual
theorem sS : ∀ (s : Mi.St) {W : WX} {X : Cx} {sc : Scope} {N : List Str} (g : GoodS T Z W Γ G X) (er : ErOk X.prog Z Xs0 X.mg T) (hN : X.N = N) (hsc : X.env.scope = sc) (x : Stmt), mS T N sc s x = true → PS X x (tS Z W (ex Γ G Xs0 s))
  | .asg t e, W, X, sc, N, g, er, hN, hsc, x, hm => by
    unfold mS at hm
    split at hm
    · rename_i tg x p
      simp only [Bool.and_eq_true] at hm
      exact s_asgA g hN hsc t e tg x p hm.1.1.1 hm.1.1.2 hm.1.2 hm.2
    · cases hm
  | .asgI o i e, W, X, sc, N, g, er, hN, hsc, x, hm => by
    unfold mS at hm
    split at hm
    · rename_i xo xi p2 x p
      simp only [Bool.and_eq_true] at hm
      exact s_asgI g hm.1.1.1 (sE o g.toGood hN hsc xo hm.1.1.2).1 (sE i g.toGood hN hsc xi hm.1.2).1 (sE e g.toGood hN hsc x hm.2).1
    · cases hm
  | .asg2I o i o2 i2 e, W, X, sc, N, g, er, hN, hsc, x, hm => by
    unfold mS at hm
    split at hm
    · rename_i xo xi p2 xo2 xi2 p3 kt p4 x p
      simp only [Bool.and_eq_true] at hm
      obtain ⟨⟨⟨⟨⟨⟨⟨h1, h2⟩, h3⟩, h4⟩, h5⟩, h6⟩, h7⟩, h8⟩ := hm
      refine s_asg2I g h1 h2 (sE o g.toGood hN hsc xo h3).1 (sE i g.toGood hN hsc xi h4).1 (sE o2 g.toGood hN hsc xo2 h5).1 (sE i2 g.toGood hN hsc xi2 h6).1 (sE e g.toGood hN hsc x h7).1 ?_
      cases x with
      | Tuple vs k q =>
        refine sw_of g.fk ?_
        have := of_decide_eq_true h8
        unfold swR
        split
        · rfl
        · split
          · rfl
          · rw [if_pos (by rfl)]
      | Name _ _ => rfl
      | _ => simp at h8
    · cases hm
  | .stop, W, X, sc, N, g, er, hN, hsc, x, hm => s_stop
  | .asgL ts e, W, X, sc, N, g, er, hN, hsc, x, hm => by
    unfold mS at hm
    split at hm
    · rename_i xs k p2 x p
      simp only [Bool.and_eq_true] at hm
      exact s_asgL g hN hsc (sE e g.toGood hN hsc x hm.1.2).1 hm.1.1 (by cases x <;> first | rfl | (simp at hm))
    · cases hm
  | .aug op i e, W, X, sc, N, g, er, hN, hsc, x, hm => by
    unfold mS at hm
    split at hm
    · rename_i y p2 op' x p
      simp only [Bool.and_eq_true, decide_eq_true_eq] at hm
      obtain ⟨⟨⟨rfl, h1⟩, h2⟩, h3⟩ := hm
      exact s_aug g (by rw [hN]; exact h1) (sto_of hsc (fun y _ _ => g.fn y) h2).1 (sE e g.toGood hN hsc x h3).1
    · cases hm
  | .augI op o i e, W, X, sc, N, g, er, hN, hsc, x, hm => by
    unfold mS at hm
    split at hm
    · rename_i xo xi p2 op' x p
      simp only [Bool.and_eq_true, decide_eq_true_eq] at hm
      obtain ⟨⟨⟨⟨rfl, h1⟩, h2⟩, h3⟩, h4⟩ := hm
      exact s_augI g h1 (sE o g.toGood hN hsc xo h2).1 (sE i g.toGood hN hsc xi h3).1 (sE e g.toGood hN hsc x h4).1
    · cases hm
  | .ex e, W, X, sc, N, g, er, hN, hsc, x, hm => by
    unfold mS at hm
    split at hm
    · rename_i x p
      simp only [Bool.and_eq_true] at hm
      exact s_ex hm.1.1 (nb hm.1.2) (sE e g.toGood hN hsc x hm.2).1
    · cases hm
  | .ret e, W, X, sc, N, g, er, hN, hsc, x, hm => by
    unfold mS at hm
    split at hm
    · rename_i x p
      exact s_ret (sE e g.toGood hN hsc x hm).1
    · cases hm
  | .ret0, W, X, sc, N, g, er, hN, hsc, x, hm => by
    unfold mS at hm
    split at hm
    · exact PS.of s_retN fun E σ H q => by simpa only [tS, ex] using q
    · cases hm
  | .ifs t a b, W, X, sc, N, g, er, hN, hsc, x, hm => by
    unfold mS at hm
    split at hm
    · rename_i x xa xb p
      simp only [Bool.and_eq_true] at hm
      obtain ⟨⟨⟨h1, h2⟩, h3⟩, h4⟩ := hm
      exact s_if ((sE t g.toGood hN hsc x h2).2 h1) (sSs a g er hN hsc xa h3) (sSs b g er hN hsc xb h4)
    · cases hm
  | .for_ t i b, W, X, sc, N, g, er, hN, hsc, x, hm => by
    unfold mS at hm
    split at hm
    · rename_i tg iter xs p
      simp only [Bool.and_eq_true] at hm
      obtain ⟨⟨⟨h1, h2⟩, h3⟩, h4⟩ := hm
      exact s_for g h1 (sI i g.toGood hN hsc tg iter h2) (by rw [← g.k]; exact sT_t g.calm g.nod hN hsc (fun y _ _ => g.fn y) t tg h3) (sSs b g er hN hsc xs h4)
    · cases hm
  | .lock v s0, W, X, sc, N, g, er, hN, hsc, x, hm => s_lock (sS s0 g er hN hsc x (by simpa only [mS] using hm))
  | .while_ t b, W, X, sc, N, g, er, hN, hsc, x, hm => by
    unfold mS at hm
    split at hm
    · rename_i x xs p
      simp only [Bool.and_eq_true] at hm
      obtain ⟨⟨h1, h2⟩, h3⟩ := hm
      exact s_while g ((sE t g.toGood hN hsc x h2).2 h1) (sSs b g er hN hsc xs h3)
    · cases hm
  | .raise c es, W, X, sc, N, g, er, hN, hsc, x, hm => by
    unfold mS at hm
    split at hm
    · rename_i y p1 p2 p3
      simp only [Bool.and_eq_true, decide_eq_true_eq] at hm
      obtain ⟨⟨⟨h0, h1⟩, h2⟩, h3⟩ := hm
      cases es with
      | nil => exact s_raise g er h1 (gl_of hsc h2) (nb h3)
      | cons _ _ => simp at h0
    · cases hm
  | .try_ b c sx, W, X, sc, N, g, er, hN, hsc, x, hm => by
    unfold mS at hm
    split at hm
    · rename_i body y p1 b0 suite p2 p3
      simp only [Bool.and_eq_true, decide_eq_true_eq] at hm
      obtain ⟨⟨⟨⟨h1, h2⟩, h3⟩, h4⟩, h5⟩ := hm
      exact s_try g er h1 (gl_of hsc h2) (nb h3) (fun W' pn xe g' => sSs b g' er hN hsc body h4) hN hsc h5
    · rename_i body y p1 n r p2 p3
      simp only [Bool.and_eq_true, decide_eq_true_eq] at hm
      obtain ⟨⟨⟨⟨h1, h2⟩, h3⟩, h4⟩, h5⟩ := hm
      exact s_tryU g er h1 (gl_of hsc h2) (nb h3) (fun W' pn xe g' => sSs b g' er hN hsc body h4) hN hsc h5
    · cases hm
  | .pass, W, X, sc, N, g, er, hN, hsc, x, hm => by
    unfold mS at hm
    split at hm
    · exact PS.of s_pass fun E σ H q => by simpa only [tS, ex] using q
    · cases hm
  | .brk, W, X, sc, N, g, er, hN, hsc, x, hm => by
    unfold mS at hm
    split at hm
    · exact PS.of s_break fun E σ H q => by simpa only [tS, ex] using q
    · cases hm
  | .cnt, W, X, sc, N, g, er, hN, hsc, x, hm => by
    unfold mS at hm
    split at hm
    · exact PS.of s_continue fun E σ H q => by simpa only [tS, ex] using q
    · cases hm
theorem sSs : ∀ (ss : Ss) {W : WX} {X : Cx} {sc : Scope} {N : List Str} (g : GoodS T Z W Γ G X) (er : ErOk X.prog Z Xs0 X.mg T) (hN : X.N = N) (hsc : X.env.scope = sc) (xs : List Stmt), mSs T N sc ss xs = true → PSs X xs (tS Z W (exs Γ G Xs0 ss))
  | .nil, W, X, sc, N, g, er, hN, hsc, [], hm => ss_nil
  | .cons s ss, W, X, sc, N, g, er, hN, hsc, x :: xs, hm => by
    simp only [mSs, Bool.and_eq_true] at hm
    exact ss_cons (sS s g er hN hsc x hm.1) (sSs ss g er hN hsc xs hm.2)
  | .nil, W, X, sc, N, g, er, hN, hsc, _ :: _, hm => by simp [mSs] at hm
  | .cons _ _, W, X, sc, N, g, er, hN, hsc, [], hm => by simp [mSs] at hm
end
end
end Mi

set_option Elab.async false
set_option linter.all false
set_option maxRecDepth 100000
/-! Mini: calls see a part of the heap; what nothing holds goes. -/
namespace Mi
open PySem PySem.Spec PyProof.Rows L2
theorem ixOf_get : ∀ {rs : List Nat} {n : Nat}, n ∈ rs → rs[ixOf rs n]? = some n
  | a :: t, n, h => by
    unfold ixOf
    by_cases e : n = a
    · rw [if_pos e]; subst e; rfl
    · rw [if_neg e]
      rcases List.mem_cons.mp h with z | z
      · exact absurd z e
      · simpa using ixOf_get z
theorem ixOf_at : ∀ {rs : List Nat} {j n : Nat}, rs.Nodup → rs[j]? = some n → ixOf rs n = j
  | a :: t, 0, n, _, h => by simp at h; subst h; simp [ixOf]
  | a :: t, j + 1, n, nd, h => by
    simp only [List.getElem?_cons_succ] at h
    have hn : n ∈ t := List.mem_of_getElem? h
    unfold ixOf
    have ne : n ≠ a := fun z => (List.nodup_cons.mp nd).1 (by rw [← z]; exact hn)
    rw [if_neg ne, ixOf_at (List.nodup_cons.mp nd).2 h]
theorem ixOf_lt {rs : List Nat} {n : Nat} (h : n ∈ rs) : ixOf rs n < rs.length := (List.getElem?_eq_some_iff.mp (ixOf_get h)).1
theorem refsL_mem {ds : List D} {d : D} {n : Nat} (h : d ∈ ds) (hn : n ∈ d.refs) : n ∈ D.refsL ds := by
  induction ds with
  | nil => simp at h
  | cons x r ih =>
    rw [D.refsL, List.mem_append]
    rcases List.mem_cons.mp h with h | h
    · exact .inl (h ▸ hn)
    · exact .inr (ih h)
theorem kvMap_fst {κ : Type} (f : D → D) : ∀ l : List (κ × D), (kvMap f l).map (·.1) = l.map (·.1)
  | [] => rfl
  | (k, d) :: r => by simp [kvMap, kvMap_fst f r]
theorem kvMap_snd {κ : Type} (f : Nat → Nat) : ∀ l : List (κ × D), (kvMap (D.map f) l).map (·.2) = D.mapL f (l.map (·.2))
  | [] => rfl
  | (k, d) :: r => by simp [kvMap, D.mapL, kvMap_snd f r]
theorem kvRefs_snd {κ : Type} : ∀ l : List (κ × D), kvRefs l = D.refsL (l.map (·.2))
  | [] => rfl
  | (k, d) :: r => by simp [kvRefs, D.refsL, kvRefs_snd r]
mutual
theorem st_map (f : Nat → Nat) : ∀ d : D, (d.map f).st = d.st
  | .non => by simp [D.map, D.st]
  | .bl _ => by simp [D.map, D.st]
  | .int _ => by simp [D.map, D.st]
  | .str _ => by simp [D.map, D.st]
  | .ref _ => by simp [D.map, D.st]
  | .tup ds => by simp [D.map, D.st, stL_map f ds]
  | .lv ds => by simp [D.map, D.st]
  | .fl ds => by simp [D.map, D.st, stL_map f ds]
theorem stL_map (f : Nat → Nat) : ∀ ds : List D, D.stL (D.mapL f ds) = D.stL ds
  | [] => rfl
  | d :: ds => by simp [D.mapL, D.stL, st_map f d, stL_map f ds]
end
section
variable {K : PySem.W.Frag} {m m2 : List Addr} {H : Hp} {f : Nat → Nat}
mutual
/-- under other numbers -/
theorem Rp.ren {l : List Nat} (hf : ∀ n a, n ∈ l → m[n]? = some a → m2[f n]? = some a) : ∀ {v : V} {d : D}, D.st d = true → (∀ n ∈ d.refs, n ∈ l) → Rp K m H v d → Rp K m2 H v (d.map f)
  | _, _, _, _, .non => by rw [D.map]; exact .non
  | _, _, _, _, .bl b => by rw [D.map]; exact .bl b
  | _, _, _, _, .int i => by rw [D.map]; exact .int i
  | _, _, _, _, .str y => by rw [D.map]; exact .str y
  | _, _, _, hr, .tup q s t => by rw [D.map]; exact .tup q (by rw [stL_map]; exact s) (RpL.ren hf s (fun n h => hr n (by rw [D.refs]; exact h)) t)
  | _, _, _, hr, .ref q => by rw [D.map]; exact .ref (hf _ _ (hr _ (by simp [D.refs])) q)
  | _, _, z, _, .lv _ _ _ _ => by simp [D.st] at z
  | _, _, _, hr, .fl q s t => by rw [D.map]; exact .fl q (by rw [stL_map]; exact s) (RpL.ren hf s (fun n h => hr n (by rw [D.refs]; exact h)) t)
theorem RpL.ren {l : List Nat} (hf : ∀ n a, n ∈ l → m[n]? = some a → m2[f n]? = some a) : ∀ {v : List V} {d : List D}, D.stL d = true → (∀ n ∈ D.refsL d, n ∈ l) → RpL K m H v d → RpL K m2 H v (D.mapL f d)
  | _, _, _, _, .nil => .nil
  | _, _, z, hr, .cons a t => by
    simp only [D.stL, Bool.and_eq_true] at z
    rw [D.mapL]
    exact .cons (Rp.ren hf z.1 (fun n h => hr n (by rw [D.refsL, List.mem_append]; exact .inl h)) a) (RpL.ren hf z.2 (fun n h => hr n (by rw [D.refsL, List.mem_append]; exact .inr h)) t)
end
theorem KvR.ren {l : List Nat} (hf : ∀ n a, n ∈ l → m[n]? = some a → m2[f n]? = some a) {kvs : List (L2.Key × V)} {kds : List (L2.Key × D)} (hr : ∀ n ∈ kvRefs kds, n ∈ l) (q : KvR K m H kvs kds) : KvR K m2 H kvs (kvMap (D.map f) kds) := by
  refine ⟨by rw [kvMap_fst]; exact q.1, by rw [kvMap_snd, stL_map]; exact q.2.1, ?_⟩
  rw [kvMap_snd]
  exact RpL.ren hf q.2.1 (by rw [← kvRefs_snd]; exact hr) q.2.2
theorem OAt.ren {l : List Nat} (hf : ∀ n a, n ∈ l → m[n]? = some a → m2[f n]? = some a) {a : Addr} {o : O} (hr : ∀ n ∈ o.refs, n ∈ l) (q : OAt K m H a o) : OAt K m2 H a (o.map f) := by
  cases q with
  | lst e s t => exact .lst e (by rw [stL_map]; exact s) (RpL.ren hf s hr t)
  | dic e t => exact .dic e (KvR.ren hf hr t)
  | frd e t => exact .frd e (KvR.ren hf hr t)
end
structure Cl (h : Hm) (rs ns : List Nat) : Prop where
  nd : rs.Nodup
  sub : ∀ n ∈ ns, n ∈ rs
  clo : ∀ n ∈ rs, ∃ o, h[n]? = some o ∧ ∀ k ∈ o.refs, k ∈ rs
theorem closed_of {h : Hm} {rs ns : List Nat} (e : closedB h rs ns = true) : Cl h rs ns := by
  simp only [closedB, Bool.and_eq_true, decide_eq_true_eq, List.all_eq_true, List.contains_iff_mem] at e
  refine ⟨e.1.1, e.1.2, fun n hn => ?_⟩
  have q := e.2 n hn
  split at q
  · rename_i o eo
    simp only [List.all_eq_true, List.contains_iff_mem] at q
    exact ⟨o, eo, q⟩
  · cases q
/-- the part of the numbers -/
def subM (m : List Addr) (rs : List Nat) : List Addr := rs.map fun n => m.getD n 0
section
variable {K : PySem.W.Frag} {m : List Addr} {H : Hp} {h : Hm} {rs ns : List Nat}
theorem subM_get {j n : Nat} (e : rs[j]? = some n) : (subM m rs)[j]? = some (m.getD n 0) := by simp [subM, e]
theorem Cl.lt (c : Cl h rs ns) {n : Nat} (hn : n ∈ rs) : n < h.length := by
  obtain ⟨o, eo, _⟩ := c.clo n hn
  exact (List.getElem?_eq_some_iff.mp eo).1
theorem sub_hf (r : HRp K m H h) (c : Cl h rs ns) : ∀ n a, n ∈ rs → m[n]? = some a → (subM m rs)[ixOf rs n]? = some a := fun n a hn e => by
  rw [subM_get (ixOf_get hn), List.getD_eq_getElem?_getD, e]; rfl
theorem HRp.sub (r : HRp K m H h) (c : Cl h rs ns) : HRp K (subM m rs) H (subH h rs) := by
  refine ⟨by simp [subM, subH], ?_, fun j o a e1 e2 => ?_⟩
  · unfold subM
    refine List.nodup_iff_pairwise_ne.mpr (List.Pairwise.map _ ?_ ?_ (R := fun a b => a ≠ b ∧ a ∈ rs ∧ b ∈ rs))
    · rintro a b ⟨ne, ha, hb⟩ e
      have la : a < m.length := by rw [r.len]; exact c.lt ha
      have lb : b < m.length := by rw [r.len]; exact c.lt hb
      rw [List.getD_eq_getElem?_getD, List.getD_eq_getElem?_getD, List.getElem?_eq_getElem la, List.getElem?_eq_getElem lb] at e
      exact ne ((List.getElem_inj r.nd).mp e)
    · exact (List.Pairwise.imp_of_mem (fun ha hb ne => ⟨ne, ha, hb⟩) c.nd)
  · cases en : rs[j]? with
    | none => simp [subH, en] at e1
    | some n =>
      have hn := List.mem_of_getElem? en
      obtain ⟨o0, eo, ho⟩ := c.clo n hn
      have e1' : o = (h.getD n default).map (ixOf rs) := by simp [subH, en] at e1; rw [← e1]; simp
      rw [List.getD_eq_getElem?_getD, eo] at e1'
      subst e1'
      have lm : n < m.length := by rw [r.len]; exact c.lt hn
      rw [subM_get en, List.getD_eq_getElem?_getD, List.getElem?_eq_getElem lm] at e2
      cases e2
      exact OAt.ren (sub_hf r c) ho (r.at_ n o0 _ eo (List.getElem?_eq_getElem lm))
theorem setAll_len : ∀ (h : Hm) (rs : List Nat) (os : List O), (setAll h rs os).length = h.length
  | h, [], _ => by simp [setAll]
  | h, _ :: _, [] => by simp [setAll]
  | h, n :: ns, o :: os => by rw [setAll, setAll_len]; simp
theorem setAll_other : ∀ (h : Hm) (rs : List Nat) (os : List O) (n : Nat), n ∉ rs → (setAll h rs os)[n]? = h[n]?
  | h, [], _, n, _ => by simp [setAll]
  | h, _ :: _, [], n, _ => by simp [setAll]
  | h, k :: ns, o :: os, n, hn => by
    simp only [List.mem_cons, not_or] at hn
    rw [setAll, setAll_other _ ns os n hn.2, List.getElem?_set_ne (Ne.symm hn.1)]
theorem setAll_at : ∀ (h : Hm) (rs : List Nat) (os : List O) (j n : Nat), rs.Nodup → rs[j]? = some n → n < h.length → j < os.length → (setAll h rs os)[n]? = os[j]?
  | h, k :: ns, o :: os, 0, n, nd, e, hl, hj => by
    simp at e; subst e
    rw [setAll, setAll_other _ ns os k (List.nodup_cons.mp nd).1, List.getElem?_set_self hl]; rfl
  | h, k :: ns, o :: os, j + 1, n, nd, e, hl, hj => by
    simp only [List.getElem?_cons_succ] at e
    rw [setAll, setAll_at (h.set k o) ns os j n (List.nodup_cons.mp nd).2 e (by simpa using hl) (by simpa using hj)]; simp
  | h, _ :: _, [], j, n, _, _, _, hj => by simp at hj
  | h, [], _, j, n, _, e, _, _ => by simp at e
/-- behind a call: the caller's numbers -/
theorem back {m2' : List Addr} {H2 : Hp} {h2 : Hm} (r : HRp K m H h) (c : Cl h rs ns) (r2 : HRp K m2' H2 h2) (x : Ext (subM m rs) H m2' H2) :
    ∃ m2, HRp K m2 H2 (putH h rs h2) ∧ Ext m H m2 H2 ∧ ∀ n a, m2'[n]? = some a → m2[bk rs h.length n]? = some a := by
  obtain ⟨l, el, fl⟩ := x.pre
  have lm : (subM m rs).length = rs.length := by simp [subM]
  have l2 : rs.length ≤ h2.length := by rw [← r2.len, el, List.length_append, lm]; omega
  have mget : ∀ n ∈ rs, ∃ a, m[n]? = some a ∧ (subM m rs)[ixOf rs n]? = some a := fun n hn => by
    have hl : n < m.length := by rw [r.len]; exact c.lt hn
    exact ⟨m[n], List.getElem?_eq_getElem hl, sub_hf r c n _ hn (List.getElem?_eq_getElem hl)⟩
  have xx : Ext m H (m ++ l) H2 := ⟨⟨l, rfl, fl⟩, fun a o e na => x.fr a o e fun hm => by
    obtain ⟨n, hn, e2⟩ := List.mem_map.mp hm
    have hl : n < m.length := by rw [r.len]; exact c.lt hn
    rw [List.getD_eq_getElem?_getD, List.getElem?_eq_getElem hl] at e2
    exact na (e2 ▸ List.getElem_mem hl), x.fz⟩
  have num : ∀ n a, m2'[n]? = some a → (m ++ l)[bk rs h.length n]? = some a := fun n a e => by
    unfold bk
    by_cases hn : n < rs.length
    · rw [if_pos hn]
      rw [el, List.getElem?_append_left (by rw [lm]; exact hn)] at e
      have er := List.getElem?_eq_getElem hn
      rw [List.getD_eq_getElem?_getD, er]
      rw [subM_get er] at e
      have hl : rs[n] < m.length := by rw [r.len]; exact c.lt (List.getElem_mem hn)
      simp only [Option.getD_some]
      rw [List.getElem?_append_left hl, List.getElem?_eq_getElem hl]
      rw [List.getD_eq_getElem?_getD, List.getElem?_eq_getElem hl] at e
      exact e
    · rw [if_neg hn]
      rw [el, List.getElem?_append_right (by rw [lm]; omega), lm] at e
      rw [List.getElem?_append_right (by rw [r.len]; omega), r.len, Nat.add_sub_cancel_left]
      exact e
  have nd : (m ++ l).Nodup := by
    rw [List.nodup_append]
    refine ⟨r.nd, ?_, fun a ha b hb e => ?_⟩
    · have := r2.nd
      rw [el] at this
      exact (List.nodup_append.mp this).2.1
    · subst e
      obtain ⟨u, e, _⟩ := r.reg ha
      rw [fl a hb] at e; cases e
  have ll : (m ++ l).length = (putH h rs h2).length := by
    have e1 : h2.length = rs.length + l.length := by rw [← r2.len, el, List.length_append, lm]
    unfold putH
    rw [List.length_append, List.length_append, setAll_len, r.len, List.length_map, List.length_drop]
    omega
  refine ⟨m ++ l, ⟨ll, nd, fun n o a e1 e2 => ?_⟩, xx, num⟩
  have ren : ∀ {a : Addr} {o : O}, OAt K m2' H2 a o → OAt K (m ++ l) H2 a (o.map (bk rs h.length)) := fun {a o} q => OAt.ren (l := o.refs) (fun n a _ e => num n a e) (fun _ h => h) q
  unfold putH at e1
  by_cases hn : n < h.length
  · rw [List.getElem?_append_left (by rw [setAll_len]; exact hn)] at e1
    rw [List.getElem?_append_left (by rw [r.len]; exact hn)] at e2
    by_cases hr : n ∈ rs
    · have hj := ixOf_lt hr
      rw [setAll_at h rs _ (ixOf rs n) n c.nd (ixOf_get hr) hn (by rw [List.length_map, List.length_take]; omega)] at e1
      rw [List.getElem?_map, List.getElem?_take_of_lt hj] at e1
      cases e3 : h2[ixOf rs n]? with
      | none => rw [e3] at e1; cases e1
      | some o2 =>
        rw [e3] at e1; cases e1
        obtain ⟨a', e4, e5⟩ := mget n hr
        rw [e2] at e4; cases e4
        exact ren (r2.at_ _ o2 a e3 (by rw [el, List.getElem?_append_left (by rw [lm]; exact hj)]; exact e5))
    · rw [setAll_other h rs _ n hr] at e1
      have q := r.at_ n o a e1 e2
      obtain ⟨u, eu, _⟩ := q.reg
      refine q.ext r xx ?_
      rw [eu]
      refine x.fr a u eu fun hm => ?_
      obtain ⟨k, hk, e3⟩ := List.mem_map.mp hm
      have hl : k < m.length := by rw [r.len]; exact c.lt hk
      rw [List.getD_eq_getElem?_getD, List.getElem?_eq_getElem hl] at e3
      obtain ⟨h1, e4⟩ := List.getElem?_eq_some_iff.mp e2
      have : k = n := (List.getElem_inj r.nd).mp (show m[k] = m[n] from (show m[k] = a from e3).trans e4.symm)
      exact hr (this ▸ hk)
  · rw [List.getElem?_append_right (by rw [setAll_len]; omega), setAll_len, List.getElem?_map, List.getElem?_drop] at e1
    rw [List.getElem?_append_right (by rw [r.len]; omega), r.len] at e2
    cases e3 : h2[rs.length + (n - h.length)]? with
    | none => rw [e3] at e1; cases e1
    | some o2 =>
      rw [e3] at e1; cases e1
      exact ren (r2.at_ _ o2 a e3 (by rw [el, List.getElem?_append_right (by rw [lm]; omega), lm, Nat.add_sub_cancel_left]; exact e2))
end
section
variable {Z : Wi} {m : List Addr} {H : Hp} {h : Hm}
theorem XRp.ren {m2 : List Addr} {f : Nat → Nat} {cls : Value} {dx : Option Addr} {c : Str} {fs : List (Str × D)} (hf : ∀ n a, m[n]? = some a → n ∈ kvRefs fs → m2[f n]? = some a) (q : XRp Z m H cls dx c fs) : XRp Z m2 H cls dx c (kvMap (D.map f) fs) := by
  obtain ⟨C, e1, e2, s, k, kz⟩ := q
  refine ⟨C, e1, e2, by rw [kvMap_snd, stL_map]; exact s, fun ne => ?_, kz⟩
  obtain ⟨d, vs, e3, e4, e5, e6⟩ := k (fun z => ne (by rw [z]; rfl))
  refine ⟨d, vs, e3, e4, by rw [kvMap_fst]; exact e5, ?_⟩
  rw [kvMap_snd]
  exact RpL.ren (l := kvRefs fs) (fun n a hn e => hf n a e hn) s (by rw [kvRefs_snd]; exact fun _ h => h) e6
/-- a call that sees a part is a call -/
theorem spF_callM {Γ : Gm} {f n : Nat} (vs : List V) (H : Hp) (Q : VK) (E : XK) (p : spF Z (callM Γ f) n vs H Q E) : spF Z (Γ f) n vs H Q E := by
  obtain ⟨hn, m, h, args, r, q, s, p⟩ := p
  unfold callM at p
  simp only at p
  generalize hrs : reach 100000 h (D.refsL args) [] = rs at p
  cases ec : closedB h rs (D.refsL args) with
  | false => rw [ec, gd_f] at p; exact p.elim
  | true =>
    rw [ec, gd_t] at p
    have c := closed_of ec
    refine ⟨hn, subM m rs, subH h rs, D.mapL (ixOf rs) args, r.sub c, RpL.ren (sub_hf r c) s c.sub q, by rw [stL_map]; exact s, ?_⟩
    cases e : Γ f (D.mapL (ixOf rs) args) (subH h rs) with
    | bad => rw [e] at p; exact p
    | ex cx fs h2 =>
      rw [e] at p
      intro cls dx H2 m2' r2 x xr
      obtain ⟨m2, a1, a2, a3⟩ := back r c r2 x
      exact p cls dx H2 m2 a1 a2 (xr.ren fun n a e _ => a3 n a e)
    | ok d h2 =>
      rw [e] at p
      intro v H2 m2' r2 x rv sd
      obtain ⟨m2, a1, a2, a3⟩ := back r c r2 x
      exact p v H2 m2 a1 a2 (Rp.ren (l := d.refs) (fun n a _ e => a3 n a e) sd (fun _ h => h) rv) (by rw [st_map]; exact sd)
theorem nums_get : ∀ (s k i : Nat), i < k → (nums s k)[i]? = some (s + i)
  | s, k + 1, 0, _ => by simp [nums]
  | s, k + 1, i + 1, h => by
    simp only [nums, List.getElem?_cons_succ]
    rw [nums_get (s + 1) k i (by omega), show s + 1 + i = s + (i + 1) by omega]
theorem nums_len : ∀ (s k : Nat), (nums s k).length = k
  | _, 0 => rfl
  | s, k + 1 => by simp [nums, nums_len (s + 1) k]
/-- the kept part: the numbers that were there stand first -/
theorem gc_ext {m2 : List Addr} {H2 : Hp} {h2 : Hm} {rs ns : List Nat} (x : Ext m H m2 H2) (r2 : HRp Z.K m2 H2 h2) (c : Cl h2 rs ns) (hk : rs.take m.length = nums 0 m.length) : Ext m H (subM m2 rs) H2 := by
  obtain ⟨l, el, fl⟩ := x.pre
  have hlen : m.length ≤ rs.length := by
    have := congrArg List.length hk
    rw [List.length_take, nums_len] at this
    omega
  have first : ∀ i, i < m.length → rs[i]? = some i := fun i hi => by
    have := congrArg (·[i]?) hk
    simp only [List.getElem?_take_of_lt hi, nums_get 0 _ i hi, Nat.zero_add] at this
    exact this
  refine ⟨⟨(subM m2 rs).drop m.length, ?_, fun a ha => ?_⟩, x.fr, x.fz⟩
  · have e : (subM m2 rs).take m.length = m := by
      refine List.ext_getElem? fun i => ?_
      by_cases hi : i < m.length
      · rw [List.getElem?_take_of_lt hi, subM_get (first i hi), List.getD_eq_getElem?_getD, el, List.getElem?_append_left hi, List.getElem?_eq_getElem hi]; rfl
      · rw [List.getElem?_eq_none (by simp; omega), List.getElem?_eq_none (by omega)]
    conv => lhs; rw [← List.take_append_drop m.length (subM m2 rs), e]
  · obtain ⟨i, hi, e⟩ := List.getElem_of_mem ha
    rw [List.getElem_drop] at e
    have hi2 : m.length + i < rs.length := by simp [subM] at hi; omega
    have er := List.getElem?_eq_getElem hi2
    have es := subM_get (m := m2) er
    have e2 : (subM m2 rs)[m.length + i]? = some a := by rw [List.getElem?_eq_getElem (by simp [subM]; omega), e]
    rw [es] at e2
    have hn : rs[m.length + i] < m2.length := by rw [r2.len]; exact c.lt (List.getElem_mem hi2)
    have ge : m.length ≤ rs[m.length + i] := by
      refine Nat.le_of_not_lt fun lt => ?_
      have h1 := first _ lt
      have := ixOf_at c.nd h1
      have := ixOf_at c.nd er
      omega
    rw [List.getD_eq_getElem?_getD, List.getElem?_eq_getElem hn, Option.getD_some] at e2
    cases e2
    refine fl _ ?_
    have : m2[rs[m.length + i]]? = l[rs[m.length + i] - m.length]? := by rw [el, List.getElem?_append_right ge]
    rw [List.getElem?_eq_getElem hn] at this
    exact List.mem_of_getElem? this.symm
/-- what a body leaves is what the call answers -/
theorem PostF.gc {k : Nat} {r : R D} {Q : VK} {E : XK} (hk : k = m.length) (p : PostF Z m H (gcR k r) Q E) : PostF Z m H r Q E := by
  subst hk
  cases r with
  | bad => exact p
  | ok d h2 =>
    unfold gcR at p
    simp only at p
    generalize hrs : gcH m.length h2 d.refs = rs at p
    cases ec : closedB h2 rs (nums 0 m.length ++ d.refs) with
    | false => rw [ec, Bool.false_and, gd_f] at p; exact p.elim
    | true =>
      cases et : decide (rs.take m.length = nums 0 m.length) with
      | false => rw [et, Bool.and_false, gd_f] at p; exact p.elim
      | true =>
        rw [ec, et, Bool.and_true, gd_t] at p
        have c := closed_of ec
        intro v H2 m2 r2 x rv sd
        exact p v H2 (subM m2 rs) (r2.sub c) (gc_ext x r2 c (of_decide_eq_true et)) (Rp.ren (sub_hf r2 c) sd (fun n hn => c.sub n (List.mem_append_right _ hn)) rv) (by rw [st_map]; exact sd)
  | ex cx fs h2 =>
    unfold gcR at p
    simp only at p
    generalize hrs : gcH m.length h2 (kvRefs fs) = rs at p
    cases ec : closedB h2 rs (nums 0 m.length ++ kvRefs fs) with
    | false => rw [ec, Bool.false_and, gd_f] at p; exact p.elim
    | true =>
      cases et : decide (rs.take m.length = nums 0 m.length) with
      | false => rw [et, Bool.and_false, gd_f] at p; exact p.elim
      | true =>
        rw [ec, et, Bool.and_true, gd_t] at p
        have c := closed_of ec
        intro cls dx H2 m2 r2 x xr
        exact p cls dx H2 (subM m2 rs) (r2.sub c) (gc_ext x r2 c (of_decide_eq_true et)) (xr.ren fun n a e hn => sub_hf r2 c n a (c.sub n (List.mem_append_right _ hn)) e)
end
end Mi

set_option Elab.async false
set_option linter.all false
set_option maxRecDepth 100000
/-! Mini: a program's defs, all at once; the law's row. -/
namespace Mi
open PySem PySem.Spec PyProof.Rows L2
/-- the written def and its tree -/
structure TxtOk (T : Tb) (ps : List Str) (st : Stmt) (N : List Str) (fd : FD) : Prop where
  sc : FnScope N ps (defScope st)
  n : fd.n = ps.length
  m : fd.m = N.length
  ok : mSs T N (defScope st) fd.b (defBody st) = true
structure DefOk (K : PySem.W.Frag) (mg : Str → Option Value) (T : Tb) (tab : Nat → Option FD) (i : Nat) (x : Str) (ps : List Str) (f : Addr) (fdt : FuncData) : Prop where
  hm : mg x = some (.ref f)
  fn : ∃ qual st N fd, Fun K x qual st f fdt ∧ tab i = some fd ∧ TxtOk T ps st N fd
  bd : ∀ (s : Shared) (us : List Value), us.length = ps.length → BindsTo s fdt ⟨us, []⟩ (ps.zip us)
  kw : ∀ n ks pm, (i, n, ks, pm) ∈ T.kws → pm.length = ps.length ∧ (∀ j ∈ pm, j < n + ks.length) ∧ ∀ (s : Shared) (us ws : List Value), us.length = n → ws.length = ks.length → BindsTo s fdt ⟨us, ks.zip ws⟩ (ps.zip (pm.map fun j => (us ++ ws).getD j .none))
structure ProgOk (P : Program) (w : World) (Xs0 : Xs) (Z : Wi) (mg : Str → Option Value) (T : Tb) (G : Nat → Option D) (tab : Nat → Option FD) : Prop where
  defs : ∀ i x ps, T.fns[i]? = some (x, ps) → ∃ f fdt, DefOk Z.K mg T tab i x ps f fdt
  cns : ∀ i x d, T.cns[i]? = some (x, d) → G i = some d ∧ D.st d = true ∧ ∃ u v, mg x = some u ∧ RelV v u ∧ ∀ m H, Rp Z.K m H v d
  bts : ∀ x ∈ T.bts, mg x = none
  dcs : ∀ x kvs, (x, kvs) ∈ T.dcs → DcAt Z.K w mg x kvs
  ers : ErOk P Z Xs0 mg T
/-- where the own errors lie -/
def xcOf (K : PySem.W.Frag) (l : List Str) : Str → Option Addr := fun x => if l.contains x = true then (match PySem.W.nsIn K mainGlobals x with
  | some (some (.ref C)) => some C
  | _ => none) else none
theorem start_env {K : PySem.W.Frag} {m : List Addr} {H : Hp} {N : List Str} {vs : List V} {ds : List D} (r : RpL K m H vs ds) (s : D.stL ds = true) (hl : vs.length ≤ N.length) : EnvR K m H (start N vs) (ds.map some ++ List.replicate (N.length - ds.length) none) := by
  refine ⟨by simp [L2.start, r.length], fun i d e => ?_⟩
  by_cases hi : i < ds.length
  · rw [List.getElem?_append_left (by simpa using hi), List.getElem?_map, List.getElem?_eq_getElem hi] at e
    cases e
    obtain ⟨v, h1, h2⟩ := r.get (List.getElem?_eq_getElem hi)
    refine ⟨stL_get s (List.getElem?_eq_getElem hi), v, ?_, h2⟩
    unfold L2.start
    rw [List.getElem?_append_left (by rw [List.length_map, r.length]; exact hi), List.getElem?_map, h1]; rfl
  · rw [List.getElem?_append_right (by simp; omega)] at e
    have := List.mem_of_getElem? e
    simp at this
theorem prog_ok {P : Program} {w : World} {Z : Wi} {mg : Str → Option Value} {base : Heap} {T : Tb} {G : Nat → Option D} {Xs0 : Xs} {tab : Nat → Option FD} (ok : ProgOk P w Xs0 Z mg T G tab) :
    ∀ n i x ps, T.fns[i]? = some (x, ps) → ∀ f fdt, DefOk Z.K mg T tab i x ps f fdt → FnG P w Z.K mg base n f fdt ps (spF Z (callF G Xs0 tab n i) ps.length)
  | 0, i, x, ps, e, f, fdt, d => by
    refine ⟨fun vs H Q E h => h.1, fun A outer s H args us vs Q E _ _ _ _ _ h => ?_⟩
    obtain ⟨_, m, h, args, _, _, _, z⟩ := h
    exact z.elim
  | n + 1, i, x, ps, e, f, fdt, d => by
    obtain ⟨qual, st, N, fd, F, et, tx⟩ := d.fn
    refine Mi.Fun.okG F tx.sc (fun vs H Q E h => h.1) fun cdv A outer s H vs Q E hr hg hsp => ?_
    have tk : Takes (cxOf (L2.CX P w) P w Z.K mg base N qual (defScope st) f cdv A outer s H E) (fun cls d _ H' => E cls d H') := takes_of rfl rfl rfl rfl
    have own : PassesOwn (model P w) (cxOf (L2.CX P w) P w Z.K mg base N qual (defScope st) f cdv A outer s H E).A (cxOf (L2.CX P w) P w Z.K mg base N qual (defScope st) f cdv A outer s H E).env (cxOf (L2.CX P w) P w Z.K mg base N qual (defScope st) f cdv A outer s H E).xe := passes_of rfl
    have g : GoodS T Z (fun cls d _ H' => E cls d H') (callM (callF G Xs0 tab n)) G (cxOf (L2.CX P w) P w Z.K mg base N qual (defScope st) f cdv A outer s H E) := by
      refine ⟨⟨rfl, tx.sc.nd, rfl, tk, hg, ?_, fun j y qs ej => ?_, ok.cns, ok.bts, ok.dcs⟩, own, fun _ => rfl, ?_, rfl, rfl, hr.mono (Nat.zero_le n)⟩
      · have := hr.un
        show (A.deeper (envOfC qual (defScope st) s.heap.objs.size f cdv)).units + 65 < cLine
        omega
      · obtain ⟨f2, fdt2, d2⟩ := ok.defs j y qs ej
        have F2 := prog_ok (P := P) (w := w) (base := base) (Xs0 := Xs0) ok n j y qs ej f2 fdt2 d2
        obtain ⟨_, _, _, _, FF, _⟩ := d2.fn
        exact ⟨f2, fdt2, n, d2.hm, FF.kp, hr, F2.imp fun vs H Q E h => spF_callM vs H Q E h, d2.bd, d2.kw⟩
      · show (if (defScope st).kind.isAnnotationScope then ScopeKind.function else (defScope st).kind) = .function
        rw [tx.sc.kind]; rfl
    refine ⟨_, sSs (Xs0 := Xs0) fd.b g ok.ers rfl rfl (defBody st) tx.ok, ?_⟩
    obtain ⟨hn, m, h, args, r, q, sa, p⟩ := hsp
    have hl : args.length = ps.length := by rw [← q.length, hn]
    have p : PostF Z m H (runB (callM (callF G Xs0 tab n)) G Xs0 fd args h) Q E := by
      simp only [callF, et] at p
      exact p
    unfold runB at p
    rw [decide_eq_true (by rw [hl, tx.n]), gd_t] at p
    have p := PostF.gc r.len.symm p
    rw [tx.n, tx.m] at p
    have hN : vs.length ≤ N.length := by
      have := congrArg List.length tx.sc.pre
      rw [List.length_take] at this
      omega
    refine ⟨m, args.map some ++ List.replicate (N.length - args.length) none, h, ⟨r, start_env q sa hN⟩, ?_⟩
    rw [hl]
    cases er : exs (callM (callF G Xs0 tab n)) G Xs0 fd.b (args.map some ++ List.replicate (N.length - ps.length) none) h with
    | nx ρ h1 => rw [er] at p; exact fun σ' H' m' a b => p .non H' m' a.hr b .non rfl
    | rt v h1 => rw [er] at p; exact fun v H' m' a b c d => p v H' m' a b c d
    | xx c fs ρ h1 => rw [er] at p; exact fun cls dx σ' H' m' a b c => p cls dx H' m' a.hr b c
    | bk ρ h1 => rw [er] at p; exact p.elim
    | ct ρ h1 => rw [er] at p; exact p.elim
    | bad => rw [er] at p; exact p.elim
/-- the law answers True -/
theorem law_sp {Z : Wi} {g : List D → Hm → R D} {ns : List Int} {H : Hp} {a : Addr} (hS : SqF Z.K H a (ns.map V.int)) (e : ∃ h, g [.fl (ns.map D.int)] [] = .ok (.bl true) h) : spF Z g 1 [.ref a] H (fun v _ => v = .bl true) fun _ _ _ => False := by
  obtain ⟨h, e⟩ := e
  have rl : ∀ ns : List Int, RpL Z.K [] H (ns.map V.int) (ns.map D.int) := fun ns => by
    induction ns with
    | nil => exact .nil
    | cons n r ih => exact .cons (.int n) ih
  have sl : ∀ ns : List Int, D.stL (ns.map D.int) = true := fun ns => by
    induction ns with
    | nil => rfl
    | cons n r ih => simp [D.stL, D.st, ih]
  refine ⟨rfl, [], [], [.fl (ns.map D.int)], ⟨rfl, List.nodup_nil, fun n o a e => by simp at e⟩, .one (.fl hS (sl ns) (rl ns)), by simp [D.stL, D.st, sl ns], ?_⟩
  rw [e]
  intro v H' m' a b c d
  cases c
  rfl
/-- the law's def, for walk_ofG -/
theorem law_F {P : Program} {w : World} {Z : Wi} {mg : Str → Option Value} {T : Tb} {G : Nat → Option D} {Xs0 : Xs} {tab : Nat → Option FD} {n i : Nat} {x y : Str} {fa : Addr} (ok : ProgOk P w Xs0 Z mg T G tab) (e : T.fns[i]? = some (x, [y])) (hmg : mg x = some (.ref fa)) :
    ∃ fd : FuncData, (∀ (s : Shared) (u : Value), BindsTo s fd ⟨[u], []⟩ [(y, u)]) ∧ ∀ base : Heap, Z.K.In base → base.Ns mainGlobals mg → FnG P w Z.K mg base n fa fd [y] (spF Z (callF G Xs0 tab n i) 1) := by
  obtain ⟨f, fdt, d⟩ := ok.defs i x [y] e
  have := d.hm.symm.trans hmg
  cases this
  exact ⟨fdt, fun s u => d.bd s [u] rfl, fun base _ _ => prog_ok ok n i x [y] e _ fdt d⟩
/-- THE END of a law's row -/
theorem walk_ofM {l : PySem.W.OpenLaw} {n k : Nat} {q : Program} {loose : List Str} {XP : (Str → Option Value) → Heap → Prop} {YP : World → Heap → Prop} {d : DefRec} {K : Params → PySem.W.Frag} {T : Tb} {G : Nat → Option D} {Xs0 : Xs} {tab : Nat → Option FD} {i : Nat} {x y : Str} {xc : Params → Str → Option Addr}
    (hn : l.most = some n) (hn2 : n ≤ sizeLine) (hdf : d.params.defaults = []) (hr : Room k callerA)
    (hY : ∀ (w : World) (h : Heap), YP w h → (K w.params).In h)
    (hx : d.name = x) (hT : T.fns[i]? = some (x, [y]))
    (F : ∀ (w : World) (mg : Str → Option Value) (h : Heap), (K w.params).In h → h.Ns mainGlobals mg → ProgOk l.prog w Xs0 ⟨K w.params, xc w.params⟩ mg T G tab)
    (law : ∀ ns : List Int, ns.length ≤ n → ∃ h, callF G Xs0 tab k i [.fl (ns.map D.int)] [] = .ok (.bl true) h) :
    PySem.W.WalkO q loose XP YP l.row.toRowW d [] (fun f vs => PySem.call f vs) :=
  walk_ofG (K := K) (sp := fun w => spF ⟨K w.params, xc w.params⟩ (callF G Xs0 tab k i) 1) hn hn2 hdf hr hY (fun w mg fa h KX Gn hmg => law_F (Z := ⟨K w.params, xc w.params⟩) (F w mg h KX Gn) hT (by rw [← hx]; exact hmg)) fun w H a ns hl hS => law_sp (Z := ⟨K w.params, xc w.params⟩) hS (law ns hl)
/-- the same, the own errors where the written part has them -/
theorem walk_ofE (l2 : List Str) {l : PySem.W.OpenLaw} {n k : Nat} {q : Program} {loose : List Str} {XP : (Str → Option Value) → Heap → Prop} {YP : World → Heap → Prop} {d : DefRec} {K : Params → PySem.W.Frag} {T : Tb} {G : Nat → Option D} {Xs0 : Xs} {tab : Nat → Option FD} {i : Nat} {x y : Str}
    (hn : l.most = some n) (hn2 : n ≤ sizeLine) (hdf : d.params.defaults = []) (hr : Room k callerA)
    (hY : ∀ (w : World) (h : Heap), YP w h → (K w.params).In h)
    (hx : d.name = x) (hT : T.fns[i]? = some (x, [y]))
    (F : ∀ (w : World) (mg : Str → Option Value) (h : Heap), (K w.params).In h → h.Ns mainGlobals mg → ProgOk l.prog w Xs0 ⟨K w.params, xcOf (K w.params) l2⟩ mg T G tab)
    (law : ∀ ns : List Int, ns.length ≤ n → ∃ h, callF G Xs0 tab k i [.fl (ns.map D.int)] [] = .ok (.bl true) h) :
    PySem.W.WalkO q loose XP YP l.row.toRowW d [] (fun f vs => PySem.call f vs) :=
  walk_ofM (xc := fun p => xcOf (K p) l2) hn hn2 hdf hr hY hx hT F law
/-- the __init__ of a class -/
def initS (s : Stmt) : Stmt := match s with
  | .ClassDef _ _ _ b _ _ _ _ _ _ _ => (b.find? fun t => match t with
    | .FunctionDef n _ _ _ _ _ _ _ _ _ => n == ("__init__" : Str)
    | _ => false).getD (.Pass ⟨0, 0, 0, 0⟩)
  | s => s
end Mi

set_option Elab.async false
set_option linter.all false
set_option maxRecDepth 100000
/-! Mini: rules to run the interpreter by hand. -/
namespace Mi
open PySem
mutual
theorem map_norefs (f : Nat → Nat) : ∀ d : D, d.refs = [] → d.map f = d
  | .non, _ => by simp [D.map]
  | .bl _, _ => by simp [D.map]
  | .int _, _ => by simp [D.map]
  | .str _, _ => by simp [D.map]
  | .ref _, h => by simp [D.refs] at h
  | .tup ds, h => by rw [D.map, mapL_norefs f ds (by rw [D.refs] at h; exact h)]
  | .lv ds, h => by rw [D.map, mapL_norefs f ds (by rw [D.refs] at h; exact h)]
  | .fl ds, h => by rw [D.map, mapL_norefs f ds (by rw [D.refs] at h; exact h)]
theorem mapL_norefs (f : Nat → Nat) : ∀ ds : List D, D.refsL ds = [] → D.mapL f ds = ds
  | [], _ => rfl
  | d :: ds, h => by
    rw [D.refsL, List.append_eq_nil_iff] at h
    rw [D.mapL, map_norefs f d h.1, mapL_norefs f ds h.2]
end
/-! ### texts -/
@[simp] theorem ofString_inj (a b : String) : (Str.ofString a = Str.ofString b) = (a = b) := by
  refine propext ⟨fun h => ?_, fun h => by rw [h]⟩
  rw [Str.ofString_eq_toList, Str.ofString_eq_toList] at h
  have h2 : a.toList.map Char.toNat = b.toList.map Char.toNat := by
    have := congrArg (fun s : Str => s.cps.toList) h
    simpa using this
  have h3 : a.toList = b.toList := by
    refine List.map_inj_right (f := Char.toNat) (fun x y e => ?_) |>.mp h2
    exact Char.toNat_inj.mp e
  exact String.toList_inj.mp h3
/-! ### lists of ints as data -/
theorem py_int (h : Hm) (n : Nat) (i : Int) : pyOf n h (.int i) = some (.int i) := by cases n <;> rfl
theorem py_ints (h : Hm) (n : Nat) : ∀ ns : List Int, allSome (pyOf n h) (ns.map .int) = some (ns.map .int)
  | [] => by simp [allSome]
  | i :: r => by simp [allSome, py_int, py_ints h n r]
theorem lay_ints : ∀ ns : List Int, PyData.canLayAll0 (ns.map .int) = true
  | [] => by simp [PyData.canLayAll0]
  | i :: r => by simp [PyData.canLayAll0, PyData.canLay0, lay_ints r]
theorem dep_ints : ∀ ns : List Int, PyData.depthAll (ns.map .int) = 0
  | [] => by simp [PyData.depthAll]
  | i :: r => by simp [PyData.depthAll, PyData.depth, dep_ints r]
theorem shaped_lints (ns : List Int) : SeqAt.shaped (.list (ns.map .int)) = true := by simp [SeqAt.shaped, PyData.canLay0, PyData.depth, lay_ints, dep_ints]
theorem shaped_tints (ns : List Int) : SeqAt.shaped (.tuple (ns.map .int)) = true := by simp [SeqAt.shaped, PyData.canLay0, PyData.depth, lay_ints, dep_ints]
theorem eqv_ints : ∀ ns ms : List Int, PyData.eqvAll (ns.map .int) (ms.map .int) = decide (ns = ms)
  | [], [] => by simp [PyData.eqvAll]
  | [], _ :: _ => by simp [PyData.eqvAll]
  | _ :: _, [] => by simp [PyData.eqvAll]
  | n :: ns, m :: ms => by
    simp only [List.map_cons, PyData.eqvAll, PyData.eqv, eqv_ints ns ms, List.cons.injEq, Bool.decide_and]
    rfl
/-- a numbered list of ints == [..] -/
theorem eq_lints {h : Hm} {n : Nat} {ns ms : List Int} (e : h[n]? = some (.lst (ns.map .int))) : eqD h (.ref n) (.lv (ms.map .int)) = some (decide (ns = ms)) := by
  have h1 : pyOf deepN h (.ref n) = some (.list (ns.map .int)) := by
    show pyOf (38 + 1 + 1) h (.ref n) = _
    rw [pyOf]; simp only [e]
    rw [py_ints]; rfl
  have h2 : pyOf deepN h (.lv (ms.map .int)) = some (.list (ms.map .int)) := by
    show pyOf (38 + 1 + 1) h (.lv (ms.map .int)) = _
    rw [pyOf, py_ints]; rfl
  simp only [eqD, h1, h2, shp_eq, eqQ_eq, shaped_lints, and_self, if_true, PyData.eqv, eqv_ints]
theorem eq_lnil {h : Hm} {n : Nat} {ns : List Int} (e : h[n]? = some (.lst (ns.map .int))) : eqD h (.ref n) (.lv []) = some (decide (ns = [])) := eq_lints (ms := []) e
theorem eq_tints {h : Hm} {ns ms : List Int} : eqD h (.tup (ns.map .int)) (.tup (ms.map .int)) = some (decide (ns = ms)) := by
  have h2 : ∀ ms : List Int, pyOf deepN h (.tup (ms.map .int)) = some (.tuple (ms.map .int)) := fun ms => by
    show pyOf (38 + 1 + 1) h (.tup (ms.map .int)) = _
    rw [pyOf, py_ints]; rfl
  simp only [eqD, h2, shp_eq, eqQ_eq, shaped_tints, and_self, if_true, PyData.eqv, eqv_ints]
/-! ### one step each -/
section
variable {Γ : Gm} {G : Nat → Option D} {X : Xs} {ρ : Env} {h : Hm}
@[simp] theorem ev_c (d) : ev Γ G (.c d) ρ h = .ok d h := by rw [ev]
/-- what stands in a slot -/
def slot (o : Option (Option D)) (h : Hm) : R D := match o with
  | some (some d) => .ok d h
  | _ => .bad
@[simp] theorem slot_some (d : D) : slot (some (some d)) h = .ok d h := rfl
@[simp] theorem ev_v (i) : ev Γ G (.v i) ρ h = slot (ρ[i]?) h := by rw [ev]; rfl
@[simp] theorem ev_g (i) : ev Γ G (.g i) ρ h = opt (G i) h := by rw [ev]
@[simp] theorem ev_bin (o a b) : ev Γ G (.bin o a b) ρ h = bnd (ev Γ G a ρ h) fun x h => bnd (ev Γ G b ρ h) fun y h => opt (binD h o x y) h := by rw [ev]
def negD : D → Option D
  | .int i => some (.int (-i))
  | _ => none
@[simp] theorem negD_int (i : Int) : negD (.int i) = some (.int (-i)) := rfl
@[simp] theorem ev_neg (a) : ev Γ G (.neg a) ρ h = bnd (ev Γ G a ρ h) fun x h => opt (negD x) h := by
  rw [ev]; congr; funext x h; cases x <;> rfl
@[simp] theorem ev_not (a) : ev Γ G (.not a) ρ h = bnd (ev Γ G a ρ h) fun x h => opt ((truth h x).map fun b => .bl (!b)) h := by rw [ev]
@[simp] theorem ev_cmp (o a b) : ev Γ G (.cmp o a b) ρ h = bnd (ev Γ G a ρ h) fun x h => bnd (ev Γ G b ρ h) fun y h => opt ((cmpD h o x y).map .bl) h := by rw [ev]
@[simp] theorem ev_chain (o p a b c) : ev Γ G (.chain o p a b c) ρ h = bnd (ev Γ G a ρ h) fun x h => bnd (ev Γ G b ρ h) fun y h => bnd (opt (cmpD h o x y) h) fun k h =>
      if k = true then bnd (ev Γ G c ρ h) fun z h => opt ((cmpD h p y z).map .bl) h else .ok (.bl false) h := by rw [ev]
def andD (x : D) (h : Hm) (r : R D) : R D := match x with
  | .bl k => if k = true then r else .ok (.bl false) h
  | _ => .bad
def orD (x : D) (h : Hm) (r : R D) : R D := match x with
  | .bl k => if k = true then .ok (.bl true) h else r
  | _ => .bad
@[simp] theorem andD_bl (k : Bool) (r : R D) : andD (.bl k) h r = if k = true then r else .ok (.bl false) h := rfl
@[simp] theorem orD_bl (k : Bool) (r : R D) : orD (.bl k) h r = if k = true then .ok (.bl true) h else r := rfl
@[simp] theorem ev_and (a b) : ev Γ G (.and a b) ρ h = bnd (ev Γ G a ρ h) fun x h => andD x h (ev Γ G b ρ h) := by
  rw [ev]; rfl
@[simp] theorem ev_or (a b) : ev Γ G (.or a b) ρ h = bnd (ev Γ G a ρ h) fun x h => orD x h (ev Γ G b ρ h) := by
  rw [ev]; rfl
@[simp] theorem ev_ife (t a b) : ev Γ G (.ife t a b) ρ h = bnd (ev Γ G t ρ h) fun x h => bnd (opt (truth h x) h) fun k h => if k = true then ev Γ G a ρ h else ev Γ G b ρ h := by rw [ev]
@[simp] theorem ev_tup (es) : ev Γ G (.tup es) ρ h = bnd (evs Γ G es ρ h) fun ds h => gd (decide (ds.length ≤ sizeLine)) (.ok (.tup ds) h) := by rw [ev]
@[simp] theorem ev_lst (es) : ev Γ G (.lst es) ρ h = bnd (evs Γ G es ρ h) fun ds h => gd (decide (ds.length ≤ sizeLine)) (.ok (.lv ds) h) := by rw [ev]
@[simp] theorem ev_dic (ks es) : ev Γ G (.dic ks es) ρ h = bnd (evs Γ G es ρ h) fun ds h => gd (decide (ks.length = ds.length ∧ ks.Nodup ∧ ks.length ≤ 15)) (.ok (.ref h.length) (h ++ [.dic (ks.zip ds)])) := by rw [ev]
/-- a comprehension behind its source -/
def compR (step : D → Hm → R (Option D)) (p : List D × Src) (h : Hm) : R D := bnd (compL step p.2 p.1 h) fun rs h => gd (decide (rs.length < sizeLine)) (.ok (.lv rs) h)
@[simp] theorem ev_comp (e t i fs w) : ev Γ G (.comp e t i fs w) ρ h = bnd (evI Γ G i ρ h) fun p h => compR (stepC (evF Γ G fs) (ev Γ G e) t ρ (w.map (·.2))) p h := by rw [ev]; rfl
@[simp] theorem ev_ix (a i) : ev Γ G (.ix a i) ρ h = bnd (ev Γ G a ρ h) fun x h => bnd (ev Γ G i ρ h) fun y h => opt (ixD h x y) h := by rw [ev]
@[simp] theorem ev_sl (a lo hi) : ev Γ G (.sl a lo hi) ρ h = bnd (ev Γ G a ρ h) fun x h => bnd (evO Γ G lo ρ h) fun l h => bnd (evO Γ G hi ρ h) fun u h => opt (slD h x l u) h := by rw [ev]
@[simp] theorem ev_rev (a) : ev Γ G (.rev a) ρ h = bnd (ev Γ G a ρ h) fun x h => opt (revD h x) h := by rw [ev]
def newD (o : Option (List (L2.Key × D))) (h : Hm) : R D := match o with
  | some kvs => .ok (.ref h.length) (h ++ [.dic kvs])
  | none => .bad
@[simp] theorem newD_some (kvs) : newD (some kvs) h = .ok (.ref h.length) (h ++ [.dic kvs]) := rfl
@[simp] theorem dic1K_int (i d) : dic1K [.int i, d] h = some [(.inl i, d)] := rfl
@[simp] theorem dic1K_str (i d) : dic1K [.str i, d] h = some [(.inr i, d)] := rfl
@[simp] theorem ev_dic1 (es) : ev Γ G (.dic1 es) ρ h = bnd (evs Γ G es ρ h) fun ds h => newD (dic1K ds h) h := by rw [ev]; rfl
@[simp] theorem ev_kget (x kvs es) : ev Γ G (.kget x kvs es) ρ h = bnd (evp Γ G es ρ h) fun ds h => opt (kgetD kvs ds) h := by rw [ev]
@[simp] theorem kgetD_str (kvs : List (Str × Int)) (s : Str) (d : Int) : kgetD kvs [.str s, .int d] = some (.int ((lookS kvs s).getD d)) := rfl
@[simp] theorem ev_call (f es) : ev Γ G (.call f es) ρ h = bnd (evs Γ G es ρ h) fun ds h => Γ f ds h := by rw [ev]
@[simp] theorem ev_callk (f es kes pm) : ev Γ G (.callk f es kes pm) ρ h = bnd (evs Γ G es ρ h) fun ds h => bnd (evs Γ G kes ρ h) fun es h => Γ f (pm.map fun i => (ds ++ es).getD i default) h := by rw [ev]
@[simp] theorem ev_bi (f es) : ev Γ G (.bi f es) ρ h = bnd (evp Γ G es ρ h) fun ds h => opt (biD h f ds) h := by rw [ev]
@[simp] theorem ev_me (f o es) : ev Γ G (.me f o es) ρ h = bnd (ev Γ G o ρ h) fun x h => gd (meOk h f x) <| bnd (if f.owns = true then evs Γ G es ρ h else evp Γ G es ρ h) fun ds h => meD h f x ds := by rw [ev]
@[simp] theorem owns_count : Me.count.owns = false := rfl
@[simp] theorem owns_index : Me.index.owns = false := rfl
@[simp] theorem owns_tindex : Me.tindex.owns = false := rfl
@[simp] theorem owns_sindex : Me.sindex.owns = false := rfl
@[simp] theorem owns_join : Me.join.owns = false := rfl
@[simp] theorem owns_split : Me.split.owns = false := rfl
@[simp] theorem owns_append : Me.append.owns = true := rfl
@[simp] theorem owns_insert : Me.insert.owns = true := rfl
@[simp] theorem owns_get : Me.get.owns = true := rfl
@[simp] theorem owns_pop : Me.pop.owns = false := rfl
@[simp] theorem owns_extend : Me.extend.owns = false := rfl
@[simp] theorem evs_nil : evs Γ G .nil ρ h = .ok [] h := by rw [evs]
@[simp] theorem evs_cons (e es) : evs Γ G (.cons e es) ρ h = bnd (ev Γ G e ρ h) fun d h => bnd (own d h) fun d h => bnd (evs Γ G es ρ h) fun ds h => .ok (d :: ds) h := by rw [evs]
@[simp] theorem evp_nil : evp Γ G .nil ρ h = .ok [] h := by rw [evp]
@[simp] theorem evp_cons (e es) : evp Γ G (.cons e es) ρ h = bnd (ev Γ G e ρ h) fun d h => bnd (evp Γ G es ρ h) fun ds h => .ok (d :: ds) h := by rw [evp]
@[simp] theorem evO_no : evO Γ G .no ρ h = .ok none h := by rw [evO]
def intO' : D → Option (Option D)
  | .int i => some (some (.int i))
  | _ => none
@[simp] theorem intO_int (i : Int) : intO' (.int i) = some (some (.int i)) := rfl
@[simp] theorem evO_so (e) : evO Γ G (.so e) ρ h = bnd (ev Γ G e ρ h) fun d h => opt (intO' d) h := by
  rw [evO]; congr; funext x h; cases x <;> rfl
@[simp] theorem evF_nil : evF Γ G .nil ρ h = .ok true h := by rw [evF]
@[simp] theorem evF_cons (e es) : evF Γ G (.cons e es) ρ h = bnd (ev Γ G e ρ h) fun d h => bnd (opt (truth h d) h) fun k h => if k = true then evF Γ G es ρ h else .ok false h := by rw [evF]
@[simp] theorem evI_of (e) : evI Γ G (.of e) ρ h = bnd (ev Γ G e ρ h) fun d h => opt ((seqOf h d).map fun ds => (ds, srcOf h d)) h := by rw [evI]
@[simp] theorem evI_keys (e) : evI Γ G (.keys e) ρ h = bnd (ev Γ G e ρ h) fun d h => opt ((frdOf h d).map fun kvs => (kvs.map fun p => ofKey p.1, none)) h := by rw [evI]
@[simp] theorem evI_rng (es) : evI Γ G (.rng es) ρ h = bnd (evp Γ G es ρ h) fun ds h => opt ((rngD ds).map fun ds => (ds, none)) h := by rw [evI]
@[simp] theorem evI_enum (e) : evI Γ G (.enum e) ρ h = bnd (ev Γ G e ρ h) fun d h => opt ((seqOf h d).map fun ds => (pairs 0 ds, srcOf h d)) h := by rw [evI]
def sgnR (o : Option Str) (f : Str → List D) (h : Hm) : R (List D × Src) := opt (o.map fun x => (f x, none)) h
@[simp] theorem sgnR_some (x : Str) (f : Str → List D) : sgnR (some x) f h = .ok (f x, none) h := rfl
@[simp] theorem strOf_str (x : Str) : strOf (.str x) = some x := rfl
@[simp] theorem evI_sof (e) : evI Γ G (.sof e) ρ h = bnd (ev Γ G e ρ h) fun d h => sgnR (strOf d) chrs h := by rw [evI]; rfl
@[simp] theorem evI_senum (e) : evI Γ G (.senum e) ρ h = bnd (ev Γ G e ρ h) fun d h => sgnR (strOf d) (fun x => pairs 0 (chrs x)) h := by rw [evI]; rfl
@[simp] theorem evI_zip (a b) : evI Γ G (.zip a b) ρ h = bnd (ev Γ G a ρ h) fun x h => bnd (ev Γ G b ρ h) fun y h => opt (zipD h x y) h := by rw [evI]
@[simp] theorem own_int (i : Int) : own (.int i) h = .ok (.int i) h := rfl
@[simp] theorem own_bl (i : Bool) : own (.bl i) h = .ok (.bl i) h := rfl
@[simp] theorem own_str (i : Str) : own (.str i) h = .ok (.str i) h := rfl
@[simp] theorem own_non : own .non h = .ok .non h := rfl
@[simp] theorem own_tup (i : List D) : own (.tup i) h = .ok (.tup i) h := rfl
@[simp] theorem own_ref (i : Nat) : own (.ref i) h = .ok (.ref i) h := rfl
@[simp] theorem own_fl (i : List D) : own (.fl i) h = .ok (.fl i) h := rfl
@[simp] theorem own_lv (i : List D) : own (.lv i) h = .ok (.ref h.length) (h ++ [.lst i]) := rfl
/-! statements -/
@[simp] theorem exs_nil : exs Γ G X .nil ρ h = .nx ρ h := by rw [exs]
@[simp] theorem exs_cons (s ss) : exs Γ G X (.cons s ss) ρ h = sq (ex Γ G X s ρ h) (exs Γ G X ss) := by rw [exs]
@[simp] theorem ex_asg (t e) : ex Γ G X (.asg t e) ρ h = bns ρ (ev Γ G e ρ h) fun d h => bns ρ (own d h) fun d h => bns ρ (opt (asgT t d ρ) h) .nx := by rw [ex]
@[simp] theorem ex_asgI (o i e) : ex Γ G X (.asgI o i e) ρ h = bns ρ (ev Γ G e ρ h) fun d h => bns ρ (own d h) fun d h => bns ρ (ev Γ G o ρ h) fun o h => bns ρ (ev Γ G i ρ h) fun i h => bns ρ (setI h o i d) fun _ h => .nx ρ h := by rw [ex]
@[simp] theorem ex_aug (op i e) : ex Γ G X (.aug op i e) ρ h = bns ρ (slot (ρ[i]?) h) fun x h => bns ρ (ev Γ G e ρ h) fun y h => bns ρ (opt (augD op x y) h) fun z h => .nx (ρ.set i (some z)) h := by rw [ex, ev_v]
@[simp] theorem ex_augI (op o i e) : ex Γ G X (.augI op o i e) ρ h = bns ρ (ev Γ G o ρ h) fun o h => bns ρ (ev Γ G i ρ h) fun i h => bns ρ (opt (ixW h o i) h) fun x h => bns ρ (ev Γ G e ρ h) fun y h => bns ρ (opt (augD op x y) h) fun z h => bns ρ (setI h o i z) fun _ h => .nx ρ h := by rw [ex]
@[simp] theorem ex_asgL (ts e) : ex Γ G X (.asgL ts e) ρ h = bns ρ (ev Γ G e ρ h) fun d h => bns ρ (own d h) fun d h => bns ρ (opt ((lstOf h d).bind fun ds => asgTs ts ds ρ) h) .nx := by rw [ex]
def pairD : D → Option (D × D)
  | .tup [a, b] => some (a, b)
  | _ => none
@[simp] theorem pairD_tup (a b : D) : pairD (.tup [a, b]) = some (a, b) := rfl
@[simp] theorem ex_asg2I (o i o2 i2 e) : ex Γ G X (.asg2I o i o2 i2 e) ρ h = bns ρ (ev Γ G e ρ h) fun d h => bns ρ (own d h) fun d h => bns ρ (opt (pairD d) h) fun dd h => bns ρ (ev Γ G o ρ h) fun o h => bns ρ (ev Γ G i ρ h) fun i h => bns ρ (setI h o i dd.1) fun _ h => bns ρ (ev Γ G o2 ρ h) fun o h => bns ρ (ev Γ G i2 ρ h) fun i h => bns ρ (setI h o i dd.2) fun _ h => .nx ρ h := by
  rw [ex]
  congr 1; funext d h; congr 1; funext d h
  unfold pairD
  split
  · rfl
  · rename_i hn
    first
    | rfl
    | (split
       · exact (hn _ _ rfl).elim
       · rfl)
@[simp] theorem ex_ex (e) : ex Γ G X (.ex e) ρ h = bns ρ (ev Γ G e ρ h) fun _ h => .nx ρ h := by rw [ex]
@[simp] theorem ex_ret (e) : ex Γ G X (.ret e) ρ h = bns ρ (ev Γ G e ρ h) fun d h => bns ρ (own d h) .rt := by rw [ex]
@[simp] theorem ex_ret0 : ex Γ G X .ret0 ρ h = .rt .non h := by rw [ex]
@[simp] theorem ex_ifs (t a b) : ex Γ G X (.ifs t a b) ρ h = bns ρ (ev Γ G t ρ h) fun d h => bns ρ (opt (truth h d) h) fun k h => if k = true then exs Γ G X a ρ h else exs Γ G X b ρ h := by rw [ex]
/-- a for behind its source -/
def forR (step : D → Env → Hm → Rs) (p : List D × Src) (ρ : Env) (h : Hm) : Rs := forL step p.2 p.1 ρ h
@[simp] theorem ex_for (t i b) : ex Γ G X (.for_ t i b) ρ h = bns ρ (evI Γ G i ρ h) fun p h => forR (forS (exs Γ G X b) t) p ρ h := by rw [ex]; rfl
def lkR (v : Option (Option D)) (h : Hm) (f : Hm → Rs) : Rs := match v with
  | some (some (.ref n)) => match h[n]? with
    | some (.dic kvs) => rlk n kvs (f (h.set n (.frd kvs)))
    | _ => .bad
  | _ => .bad
@[simp] theorem ex_lock (v s) : ex Γ G X (.lock v s) ρ h = lkR ρ[v]? h fun h => ex Γ G X s ρ h := by rw [ex]; rfl
theorem lkR_ref {n : Nat} {kvs} {f : Hm → Rs} (e : h[n]? = some (.dic kvs)) : lkR (some (some (.ref n))) h f = rlk n kvs (f (h.set n (.frd kvs))) := by simp [lkR, e]
theorem rlk_nx {n : Nat} {kvs} {ρ : Env} (e : h[n]? = some (.frd kvs)) : rlk n kvs (.nx ρ h) = .nx ρ (h.set n (.dic kvs)) := by simp [rlk, e]
theorem rlk_rt {n : Nat} {kvs} {d : D} (e : h[n]? = some (.frd kvs)) : rlk n kvs (.rt d h) = .rt d (h.set n (.dic kvs)) := by simp [rlk, e]
@[simp] theorem ex_while (t b) : ex Γ G X (.while_ t b) ρ h = whileL (truF (ev Γ G t)) (exs Γ G X b) X.wf ρ h := by rw [ex]
@[simp] theorem ex_pass : ex Γ G X .pass ρ h = .nx ρ h := by rw [ex]
@[simp] theorem ex_brk : ex Γ G X .brk ρ h = .bk ρ h := by rw [ex]
@[simp] theorem ex_cnt : ex Γ G X .cnt ρ h = .ct ρ h := by rw [ex]
@[simp] theorem asgT_n (i d) : asgT (.n i) d ρ = if i < ρ.length then some (ρ.set i (some d)) else none := by rw [asgT]
@[simp] theorem asgT_t (ts ds) : asgT (.t ts) (.tup ds) ρ = asgTs ts ds ρ := by rw [asgT]
def thenE (o : Option Env) (f : Env → Option Env) : Option Env := o.bind f
@[simp] theorem asgTs_nil : asgTs .nil [] ρ = some ρ := by rw [asgTs]
@[simp] theorem asgTs_cons (t ts d ds) : asgTs (.cons t ts) (d :: ds) ρ = (asgT t d ρ).bind fun ρ' => asgTs ts ds ρ' := by
  rw [asgTs]; cases asgT t d ρ <;> rfl
end
/-! ### operators -/
section
variable {h : Hm}
@[simp] theorem size_le (n : Nat) : (n ≤ sizeLine) = (n ≤ 16777216) := by rw [sizeLine_eq]
@[simp] theorem size_lt (n : Nat) : (n < sizeLine) = (n < 16777216) := by rw [sizeLine_eq]
@[simp] theorem add_int (i j : Int) : binD h .Add (.int i) (.int j) = some (.int (i + j)) := rfl
@[simp] theorem sub_int (i j : Int) : binD h .Sub (.int i) (.int j) = some (.int (i - j)) := rfl
@[simp] theorem mod_int (i j : Int) : binD h .Mod (.int i) (.int j) = if 0 < j then some (.int (i % j)) else none := rfl
theorem mul_ok {i j : Int} (e : mulOk i j = true) : binD h .Mult (.int i) (.int j) = some (.int (i * j)) := by simp [binD, e]
theorem mul_left {i j : Int} (e : i.natAbs < 2 ^ 64) : binD h .Mult (.int i) (.int j) = some (.int (i * j)) := mul_ok (by simp [mulOk, e])
theorem mul_right {i j : Int} (e : j.natAbs < 2 ^ 64) : binD h .Mult (.int i) (.int j) = some (.int (i * j)) := mul_ok (by simp [mulOk, e])
theorem div_ok {i j : Int} (e : divOk j = true) : binD h .FloorDiv (.int i) (.int j) = some (.int (i / j)) := by simp [binD, e]
@[simp] theorem gt_int (i j : Int) : cmpD h .Gt (.int i) (.int j) = some (decide (j < i)) := rfl
@[simp] theorem lt_int (i j : Int) : cmpD h .Lt (.int i) (.int j) = some (decide (i < j)) := rfl
@[simp] theorem ge_int (i j : Int) : cmpD h .GtE (.int i) (.int j) = some (decide (j ≤ i)) := rfl
@[simp] theorem le_int (i j : Int) : cmpD h .LtE (.int i) (.int j) = some (decide (i ≤ j)) := rfl
@[simp] theorem cmp_eqD (x y : D) : cmpD h .Eq x y = eqD h x y := rfl
@[simp] theorem cmp_neD (x y : D) : cmpD h .NotEq x y = (eqD h x y).map (!·) := rfl
@[simp] theorem eqD_int (i j : Int) : eqD h (.int i) (.int j) = some (decide (i = j)) := rfl
@[simp] theorem eqD_str (x y : Str) : eqD h (.str x) (.str y) = some (x == y) := rfl
theorem eq_int' (i j : Int) : cmpD h .Eq (.int i) (.int j) = some (decide (i = j)) := rfl
theorem ne_int' (i j : Int) : cmpD h .NotEq (.int i) (.int j) = some (!decide (i = j)) := rfl
@[simp] theorem tru_bl (b : Bool) : truth h (.bl b) = some b := rfl
@[simp] theorem bi_abs (i : Int) : biD h .abs [.int i] = some (.int i.natAbs) := by
  show some (D.int (if i < 0 then -i else i)) = _
  congr 2
  split <;> omega
@[simp] theorem bi_int (i : Int) : biD h .int [.int i] = some (.int i) := rfl
@[simp] theorem bi_intb (b : Bool) : biD h .int [.bl b] = some (.int (if b = true then 1 else 0)) := by cases b <;> rfl
@[simp] theorem len_tup (ds : List D) : biD h .len [.tup ds] = some (.int ds.length) := rfl
@[simp] theorem len_fl (ds : List D) : biD h .len [.fl ds] = some (.int ds.length) := rfl
@[simp] theorem len_lv (ds : List D) : biD h .len [.lv ds] = some (.int ds.length) := rfl
theorem len_ref {n : Nat} {ds : List D} (e : h[n]? = some (.lst ds)) : biD h .len [.ref n] = some (.int ds.length) := by
  show ((seqOf h (.ref n)).map (·.length)).map _ = _
  simp [seqOf, e]
@[simp] theorem rng1 (n : Int) : rngD [.int n] = if rngOk n = true then some (upto 0 n.toNat) else none := rfl
@[simp] theorem rng2 (a b : Int) : rngD [.int a, .int b] = if rngOk a = true ∧ rngOk b = true then some (upto a (b - a).toNat) else none := rfl
theorem rngOk_of {n : Int} (h1 : -1000000 ≤ n) (h2 : n ≤ 1000000) : rngOk n = true := by
  simp [rngOk]; omega
@[simp] theorem seq_tup (ds : List D) : seqOf h (.tup ds) = some ds := rfl
@[simp] theorem seq_fl (ds : List D) : seqOf h (.fl ds) = some ds := rfl
@[simp] theorem seq_lv (ds : List D) : seqOf h (.lv ds) = some ds := rfl
theorem seq_ref {n : Nat} {ds : List D} (e : h[n]? = some (.lst ds)) : seqOf h (.ref n) = some ds := by simp [seqOf, e]
@[simp] theorem src_tup (ds : List D) : srcOf h (.tup ds) = none := rfl
@[simp] theorem src_fl (ds : List D) : srcOf h (.fl ds) = none := rfl
@[simp] theorem src_lv (ds : List D) : srcOf h (.lv ds) = none := rfl
theorem src_ref {n : Nat} {o : O} (e : h[n]? = some o) : srcOf h (.ref n) = some (n, o) := by simp [srcOf, e]
@[simp] theorem src_no : srcOk none h = true := rfl
theorem src_so {n : Nat} {o : O} (e : h[n]? = some o) : srcOk (some (n, o)) h = true := by simp [srcOk, e]
@[simp] theorem rev_tup (ds : List D) : revD h (.tup ds) = some (.tup ds.reverse) := rfl
@[simp] theorem rev_lv (ds : List D) : revD h (.lv ds) = some (.lv ds.reverse) := rfl
@[simp] theorem rev_fl (ds : List D) : revD h (.fl ds) = some (.lv ds.reverse) := rfl
@[simp] theorem ix_tup' (ds : List D) (i : Int) : ixD h (.tup ds) (.int i) = L2.atI ds i := rfl
@[simp] theorem ix_lv' (ds : List D) (i : Int) : ixD h (.lv ds) (.int i) = L2.atI ds i := rfl
@[simp] theorem ix_fl' (ds : List D) (i : Int) : ixD h (.fl ds) (.int i) = L2.atI ds i := rfl
theorem ix_ref' {n : Nat} {ds : List D} (e : h[n]? = some (.lst ds)) (i : Int) : ixD h (.ref n) (.int i) = L2.atI ds i := by simp [ixD, e]
theorem atI_lt {α : Type} {ds : List α} {i : Int} {j : Nat} (e : i = j) (hj : j < ds.length) : L2.atI ds i = ds[j]? := by
  subst e
  simp [L2.atI, L2.ixN, hj]
@[simp] theorem truF_eq (f : Env → Hm → R D) (ρ : Env) : truF f ρ h = bnd (f ρ h) fun d h => opt (truth h d) h := rfl
end
/-- a call of values without places -/
theorem callM_pure {Γ : Gm} {f : Nat} {args : List D} {h : Hm} {v : D} (ha : D.refsL args = []) (hv : v.refs = []) (e : Γ f args [] = .ok v []) : callM Γ f args h = .ok v h := by
  unfold callM
  simp only [ha]
  have hr : reach 100000 h [] [] = [] := rfl
  rw [hr]
  simp only [closedB, subH, List.map_nil, mapL_norefs _ args ha]
  rw [e]
  simp [putH, setAll, map_norefs _ v hv]
theorem reach_seen (h : Hm) : ∀ (f : Nat) (work seen : List Nat), (∀ n ∈ work, n ∈ seen) → reach f h work seen = seen
  | 0, _, _, _ => rfl
  | f + 1, [], _, _ => rfl
  | f + 1, n :: t, seen, hs => by
    rw [reach, if_pos (by simpa using hs n List.mem_cons_self)]
    exact reach_seen h f t seen fun m hm => hs m (List.mem_cons_of_mem _ hm)
theorem mem_nums : ∀ (k s n : Nat), n ∈ nums s k ↔ s ≤ n ∧ n < s + k
  | 0, s, n => by simp [nums]
  | k + 1, s, n => by
    rw [nums, List.mem_cons, mem_nums k (s + 1) n]; omega
theorem ixOf_nums : ∀ (k s n : Nat), s ≤ n → n < s + k → ixOf (nums s k) n = n - s
  | 0, s, n, h1, h2 => by omega
  | k + 1, s, n, h1, h2 => by
    rw [nums, ixOf]
    split
    · omega
    · rw [ixOf_nums k (s + 1) n (by omega) (by omega)]; omega
mutual
theorem map_id' (f : Nat → Nat) : ∀ d : D, (∀ n ∈ d.refs, f n = n) → d.map f = d
  | .non, _ => by simp [D.map]
  | .bl _, _ => by simp [D.map]
  | .int _, _ => by simp [D.map]
  | .str _, _ => by simp [D.map]
  | .ref n, h => by rw [D.map, h n (by simp [D.refs])]
  | .tup ds, h => by rw [D.map, mapL_id' f ds (by rw [D.refs] at h; exact h)]
  | .lv ds, h => by rw [D.map, mapL_id' f ds (by rw [D.refs] at h; exact h)]
  | .fl ds, h => by rw [D.map, mapL_id' f ds (by rw [D.refs] at h; exact h)]
theorem mapL_id' (f : Nat → Nat) : ∀ ds : List D, (∀ n ∈ D.refsL ds, f n = n) → D.mapL f ds = ds
  | [], _ => rfl
  | d :: ds, h => by
    rw [D.mapL, map_id' f d fun n hn => h n (by rw [D.refsL, List.mem_append]; exact .inl hn), mapL_id' f ds fun n hn => h n (by rw [D.refsL, List.mem_append]; exact .inr hn)]
end
theorem kvMap_id {κ : Type} (f : Nat → Nat) : ∀ l : List (κ × D), (∀ n ∈ kvRefs l, f n = n) → kvMap (D.map f) l = l
  | [], _ => rfl
  | (k, d) :: r, h => by
    rw [kvMap, map_id' f d fun n hn => h n (by rw [kvRefs, List.mem_append]; exact .inl hn), kvMap_id f r fun n hn => h n (by rw [kvRefs, List.mem_append]; exact .inr hn)]
theorem omap_id (f : Nat → Nat) (o : O) (h : ∀ n ∈ o.refs, f n = n) : o.map f = o := by
  cases o with
  | lst ds => rw [O.map, mapL_id' f ds h]
  | dic ds => rw [O.map, kvMap_id f ds h]
  | frd ds => rw [O.map, kvMap_id f ds h]
  | ins c ds => rw [O.map, kvMap_id f ds h]
theorem nums_at : ∀ (k s i : Nat), i < k → (nums s k)[i]? = some (s + i)
  | k + 1, s, 0, _ => by simp [nums]
  | k + 1, s, i + 1, h => by
    rw [nums, List.getElem?_cons_succ, nums_at k (s + 1) i (by omega)]; congr 1; omega
theorem nums_nd : ∀ (k s : Nat), (nums s k).Nodup
  | 0, s => List.nodup_nil
  | k + 1, s => by
    rw [nums, List.nodup_cons]
    exact ⟨fun z => by have := (mem_nums k (s + 1) s).mp z; omega, nums_nd k (s + 1)⟩
theorem subH_first (h0 rest : Hm) (hc : ∀ o ∈ h0, ∀ n ∈ o.refs, n < h0.length) : subH (h0 ++ rest) (nums 0 h0.length) = h0 := by
  refine List.ext_getElem? fun i => ?_
  unfold subH
  by_cases hi : i < h0.length
  · rw [List.getElem?_map, nums_at _ 0 i hi, Option.map_some, Nat.zero_add, List.getD_eq_getElem?_getD, List.getElem?_append_left hi, List.getElem?_eq_getElem hi]
    simp only [Option.getD_some]
    rw [omap_id _ _ fun n hn => by
      have := hc h0[i] (List.getElem_mem hi) n hn
      rw [ixOf_nums _ 0 n (Nat.zero_le _) (by omega)]; omega]
  · rw [List.getElem?_eq_none (by simp [nums_len]; omega), List.getElem?_eq_none (by omega)]
/-- what was there stays, what the body made goes -/
theorem gcR_keep {v : D} {h0 rest : Hm} {k : Nat} (hk : k = h0.length) (hc : ∀ o ∈ h0, ∀ n ∈ o.refs, n < h0.length) (hv : ∀ n ∈ v.refs, n < h0.length) : gcR k (.ok v (h0 ++ rest)) = .ok v h0 := by
  subst hk
  have hr : gcH h0.length (h0 ++ rest) v.refs = nums 0 h0.length := by
    unfold gcH
    refine reach_seen _ _ _ _ fun n hn => ?_
    rw [mem_nums]
    refine ⟨Nat.zero_le _, ?_⟩
    rw [Nat.zero_add]
    rcases List.mem_append.mp hn with hn | hn
    · obtain ⟨m, hm, hn⟩ := List.mem_flatMap.mp hn
      have hm := (mem_nums _ _ _).mp hm
      rw [List.getElem?_append_left (by omega), List.getElem?_eq_getElem (by omega)] at hn
      exact hc _ (List.getElem_mem _) n hn
    · exact hv n hn
  unfold gcR
  simp only [hr]
  have hcl : closedB (h0 ++ rest) (nums 0 h0.length) (nums 0 h0.length ++ v.refs) = true := by
    simp only [closedB, Bool.and_eq_true, decide_eq_true_eq, List.all_eq_true, List.contains_iff_mem]
    refine ⟨⟨nums_nd _ _, fun n hn => ?_⟩, fun n hn => ?_⟩
    · rcases List.mem_append.mp hn with hn | hn
      · exact hn
      · rw [mem_nums]; have := hv n hn; omega
    · have hn := (mem_nums _ _ _).mp hn
      rw [List.getElem?_append_left (by omega), List.getElem?_eq_getElem (by omega)]
      simp only [List.all_eq_true, List.contains_iff_mem]
      intro m hm
      rw [mem_nums]
      have := hc _ (List.getElem_mem _) m hm
      omega
  have ht : (nums 0 h0.length).take h0.length = nums 0 h0.length := List.take_of_length_le (by rw [nums_len]; exact Nat.le_refl _)
  rw [hcl, ht, decide_eq_true rfl, Bool.and_true, gd_t, subH_first h0 rest hc, map_id' _ v fun n hn => by
    have := hv n hn
    rw [ixOf_nums _ 0 n (Nat.zero_le _) (by omega)]; omega]
theorem gcR_pure {v : D} {h : Hm} (hv : v.refs = []) : gcR 0 (.ok v h) = .ok v [] := by
  have := gcR_keep (v := v) (h0 := []) (rest := h) rfl (by simp) (by simp [hv])
  simpa using this
@[simp] theorem gcR_int (i : Int) (h : Hm) : gcR 0 (.ok (.int i) h) = .ok (.int i) [] := gcR_pure (by simp [D.refs])
@[simp] theorem gcR_bl (i : Bool) (h : Hm) : gcR 0 (.ok (.bl i) h) = .ok (.bl i) [] := gcR_pure (by simp [D.refs])
theorem ints_refs (ns : List Int) : D.refsL (ns.map D.int) = [] := by
  induction ns with
  | nil => rfl
  | cons n r ih => simp [D.refsL, D.refs, ih]
theorem callF_tab {G : Nat → Option D} {X : Xs} {tab : Nat → Option FD} {n f : Nat} {args : List D} {h : Hm} {d : FD} (e : tab f = some d) : callF G X tab (n + 1) f args h = runB (callM (callF G X tab n)) G X d args h := by
  simp only [callF, e]
/-- room for the turns of a while -/
def Big (K : Nat) : Prop := 2 ^ 255 * (2 ^ 255 * (2 ^ 255 * (2 ^ 255 * (2 ^ 255 * (2 ^ 255 * 2 ^ 255))))) ≤ K
theorem big_ex : ∃ K, Big K := ⟨_, Nat.le_refl _⟩
/-- a while whose test leaves the heap as it is -/
theorem while_rule {test : Env → Hm → R Bool} {body : Env → Hm → Rs} (I : Nat → Env → Hm → Prop) (Fin : Env → Hm → Prop)
    (step : ∀ m ρ h, I m ρ h → (test ρ h = .ok false h ∧ Fin ρ h) ∨ (test ρ h = .ok true h ∧ ∃ m' ρ' h', m' < m ∧ body ρ h = .nx ρ' h' ∧ I m' ρ' h')) :
    ∀ n m ρ h, m < n → I m ρ h → ∃ ρ' h', whileL test body n ρ h = .nx ρ' h' ∧ Fin ρ' h'
  | 0, m, ρ, h, hm, _ => absurd hm (Nat.not_lt_zero _)
  | n + 1, m, ρ, h, hm, i => by
    rw [whileL]
    rcases step m ρ h i with ⟨e, f⟩ | ⟨e, m', ρ', h', lt, eb, i'⟩
    · rw [e]; exact ⟨ρ, h, rfl, f⟩
    · rw [e, bns_ok, if_pos rfl, eb, tn_nx]
      exact while_rule I Fin step n m' ρ' h' (by omega) i'
/-- a for whose turns go on -/
theorem for_rule {step : D → Env → Hm → Rs} {src : Src} (I : List D → Env → Hm → Prop)
    (hs : ∀ d ds ρ h, I (d :: ds) ρ h → ∃ ρ' h', (step d ρ h = .nx ρ' h' ∨ step d ρ h = .ct ρ' h') ∧ srcOk src h' = true ∧ I ds ρ' h') :
    ∀ ds ρ h, I ds ρ h → ∃ ρ' h', forL step src ds ρ h = .nx ρ' h' ∧ I [] ρ' h'
  | [], ρ, h, i => ⟨ρ, h, rfl, i⟩
  | d :: ds, ρ, h, i => by
    obtain ⟨ρ', h', e, so, i'⟩ := hs d ds ρ h i
    rw [forL]
    rcases e with e | e
    · rw [e, tn_nx, so, gs_t]; exact for_rule I hs ds ρ' h' i'
    · rw [e, tn_ct, so, gs_t]; exact for_rule I hs ds ρ' h' i'
/-- a for over a range whose turns go on: k turns are done -/
theorem range_rule {step : D → Env → Hm → Rs} (I : Nat → Env → Hm → Prop) (lo : Int) (n : Nat)
    (hs : ∀ k ρ h, k < n → I k ρ h → ∃ ρ' h', (step (.int (lo + k)) ρ h = .nx ρ' h' ∨ step (.int (lo + k)) ρ h = .ct ρ' h') ∧ I (k + 1) ρ' h') (ρ : Env) (h : Hm) (i : I 0 ρ h) :
    ∃ ρ' h', forR step (upto lo n, none) ρ h = .nx ρ' h' ∧ I n ρ' h' := by
  obtain ⟨ρ', h', e, k, hk, j, q⟩ := for_rule (step := step) (src := none) (fun ds ρ h => ∃ k, k + ds.length = n ∧ ds = upto (lo + k) (n - k) ∧ I k ρ h) (by
    rintro d ds ρ h ⟨k, hk, e, i⟩
    simp only [List.length_cons] at hk
    obtain ⟨m, em⟩ : ∃ m, n - k = m + 1 := ⟨n - k - 1, by omega⟩
    rw [em] at e
    simp only [upto, List.cons.injEq] at e
    obtain ⟨rfl, rfl⟩ := e
    obtain ⟨ρ', h', e2, i2⟩ := hs k ρ h (by omega) i
    exact ⟨ρ', h', e2, rfl, k + 1, by omega, by
      rw [show n - (k + 1) = m by omega, show lo + (k : Int) + 1 = lo + ((k + 1 : Nat) : Int) by omega], i2⟩) (upto lo n) ρ h ⟨0, by simp [upto_len], by simp, i⟩
  simp only [List.length_nil] at hk
  exact ⟨ρ', h', e, by rw [show n = k by omega]; exact q⟩
/-! ### sizes -/
/-- below 2^e -/
def Bt (e : Nat) (x : Int) : Prop := x.natAbs < 2 ^ e
theorem Bt.mono {e f : Nat} {x : Int} (h : Bt e x) (l : e ≤ f) : Bt f x := Nat.lt_of_lt_of_le h (Nat.pow_le_pow_right (by omega) l)
theorem Bt.mul {e f : Nat} {x y : Int} (h : Bt e x) (k : Bt f y) : Bt (e + f) (x * y) := by
  unfold Bt at *
  rw [Int.natAbs_mul, Nat.pow_add]
  exact Nat.mul_lt_mul'' h k
theorem Bt.add {e : Nat} {x y : Int} (h : Bt e x) (k : Bt e y) : Bt (e + 1) (x + y) := by
  unfold Bt at *
  rw [Nat.pow_succ]
  omega
theorem Bt.sub {e : Nat} {x y : Int} (h : Bt e x) (k : Bt e y) : Bt (e + 1) (x - y) := by
  unfold Bt at *
  rw [Nat.pow_succ]
  omega
theorem Bt.neg {e : Nat} {x : Int} (h : Bt e x) : Bt e (-x) := by
  unfold Bt at *; omega
theorem Bt.abs {e : Nat} {x : Int} (h : Bt e x) : Bt e (x.natAbs : Int) := by
  unfold Bt at *; omega
theorem Bt.log {e : Nat} {x : Int} (h : Bt e x) : x.natAbs.log2 ≤ e := by
  by_cases h0 : x.natAbs = 0
  · rw [h0]; simp
  · have := (Nat.log2_lt h0).mpr h
    omega
theorem Bt.ediv {e : Nat} {x y : Int} (h : Bt e x) : Bt e (x / y) := by
  unfold Bt at *
  exact Nat.lt_of_le_of_lt (Int.natAbs_ediv_le_natAbs x y) h
theorem bt_lit {e : Nat} {x : Int} (h : decide (x.natAbs < 2 ^ e) = true) : Bt e x := show x.natAbs < 2 ^ e from of_decide_eq_true h
theorem mulOk_bt {e f : Nat} {x y : Int} (h : Bt e x) (k : Bt f y) (l : e + f < 100000000) : mulOk x y = true := by
  have := h.log
  have := k.log
  simp [mulOk]
  right
  omega
theorem mul_bt {h : Hm} {e f : Nat} {x y : Int} (hx : Bt e x) (k : Bt f y) (l : e + f < 100000000) : binD h .Mult (.int x) (.int y) = some (.int (x * y)) := mul_ok (mulOk_bt hx k l)
theorem div_bt {h : Hm} {e : Nat} {x y : Int} (hy : 0 < y) (k : Bt e y) (l : e < 9000) : binD h .FloorDiv (.int x) (.int y) = some (.int (x / y)) := by
  have := k.log
  refine div_ok ?_
  simp [divOk]
  omega
/-! ### literals and remainders -/
section
variable {h : Hm}
theorem mul_lit {i j : Int} (e : i.natAbs < 2 ^ 64) : binD h .Mult (.int i) (.int j) = some (.int (i * j)) := mul_left e
theorem mul_emod {x c y : Int} (h0 : 0 < c) (h1 : c ≤ 2 ^ 64) : binD h .Mult (.int (x % c)) (.int y) = some (.int (x % c * y)) := by
  refine mul_left ?_
  have := Int.emod_lt_of_pos x h0
  have := Int.emod_nonneg x (show c ≠ 0 by omega)
  omega
theorem div_lit {i j : Int} (e : 0 < j) (e2 : j.natAbs < 2 ^ 64) : binD h .FloorDiv (.int i) (.int j) = some (.int (i / j)) := div_bt e (show Bt 64 j from e2) (by omega)
theorem pow_lit {i j : Int} (h0 : 0 ≤ j) (h1 : j ≤ 1000000) (h2 : i.natAbs < 2 ^ 64) : binD h .Pow (.int i) (.int j) = some (.int (i ^ j.toNat)) := by
  simp [binD, powOk, h0, h1, h2]
theorem pop_snoc {n : Nat} {g : List Int} {c : Int} (e : h[n]? = some (.lst ((g ++ [c]).map .int))) : meD h .pop (.ref n) [] = .ok (.int c) (h.set n (.lst (g.map .int))) := by
  simp [meD, e, meL]
theorem app_ref {n : Nat} {ds : List D} {d : D} (e : h[n]? = some (.lst ds)) (hl : ds.length < 16777216) : meD h .append (.ref n) [d] = .ok .non (h.set n (.lst (ds ++ [d]))) := by
  simp [meD, e, meL, hl]
theorem ok_ref {n : Nat} {ds : List D} {f : Me} (e : h[n]? = some (.lst ds)) (hf : f.onL = true := by rfl) : meOk h f (.ref n) = true := by
  cases f <;> first | exact absurd hf (by decide) | simp [meOk, e]
end
end Mi

set_option Elab.async false
set_option linter.all false
set_option maxRecDepth 100000
/-! Mini: what many laws' proofs share: calls on parts of the heap, comprehensions over ints, repr of tuples. -/
namespace Mi
open PySem
theorem own_st {d : D} {h : Hm} (s : d.st = true) : own d h = .ok d h := by
  cases d <;> first | rfl | simp [D.st] at s
theorem refs_of_mem {l : List D} (h : D.refsL l = []) {d : D} (hd : d ∈ l) : d.refs = [] := by
  induction l with
  | nil => cases hd
  | cons x r ih =>
    rw [D.refsL, List.append_eq_nil_iff] at h
    rcases List.mem_cons.mp hd with rfl | hd
    · exact h.1
    · exact ih h.2 hd
theorem set_same {h : Hm} {p : Nat} {o : O} (hp : h[p]? = some o) : h.set p o = h := by
  have hl : p < h.length := (List.getElem?_eq_some_iff.mp hp).1
  refine List.ext_getElem? fun i => ?_
  by_cases hi : i = p
  · subst hi; rw [List.getElem?_set_self hl, hp]
  · rw [List.getElem?_set_ne (Ne.symm hi)]
mutual
theorem map_map' (f g : Nat → Nat) : ∀ d : D, (d.map g).map f = d.map fun n => f (g n)
  | .non => by simp [D.map]
  | .bl _ => by simp [D.map]
  | .int _ => by simp [D.map]
  | .str _ => by simp [D.map]
  | .ref _ => by simp [D.map]
  | .tup ds => by simp [D.map, mapL_map' f g ds]
  | .lv ds => by simp [D.map, mapL_map' f g ds]
  | .fl ds => by simp [D.map, mapL_map' f g ds]
theorem mapL_map' (f g : Nat → Nat) : ∀ ds : List D, D.mapL f (D.mapL g ds) = D.mapL (fun n => f (g n)) ds
  | [] => rfl
  | d :: ds => by simp [D.mapL, map_map' f g d, mapL_map' f g ds]
end
theorem kvMap_map' {κ : Type} (f g : Nat → Nat) : ∀ l : List (κ × D), kvMap (D.map f) (kvMap (D.map g) l) = kvMap (D.map fun n => f (g n)) l
  | [] => rfl
  | (k, d) :: r => by simp [kvMap, map_map', kvMap_map' f g r]
theorem omap_map' (f g : Nat → Nat) (o : O) : (o.map g).map f = o.map fun n => f (g n) := by
  cases o <;> simp [O.map, mapL_map', kvMap_map']
theorem bk_ixOf {rs : List Nat} {len n : Nat} (h : n ∈ rs) : bk rs len (ixOf rs n) = n := by
  unfold bk
  rw [if_pos (ixOf_lt h), List.getD_eq_getElem?_getD, ixOf_get h]; rfl
theorem setAll_same {h : Hm} : ∀ (rs : List Nat) (os : List O), os.length = rs.length → (∀ (i n : Nat), rs[i]? = some n → h[n]? = os[i]?) → setAll h rs os = h
  | [], [], _, _ => rfl
  | [], _ :: _, e, _ => by simp at e
  | _ :: _, [], e, _ => by simp at e
  | n :: rs, o :: os, e, hh => by
    have h0 := hh 0 n rfl
    rw [setAll, set_same (o := o) (by simpa using h0)]
    exact setAll_same rs os (by simpa using e) fun i m hm => by simpa using hh (i + 1) m (by simpa using hm)
/-- a call that leaves what it sees as it is -/
theorem callM_ro {Γ : Gm} {f : Nat} {args : List D} {h : Hm} {v : D} (rs : List Nat) (hr : reach 100000 h (D.refsL args) [] = rs) (hc : closedB h rs (D.refsL args) = true) (hv : v.refs = [])
    (e : Γ f (D.mapL (ixOf rs) args) (subH h rs) = .ok v (subH h rs)) : callM Γ f args h = .ok v h := by
  unfold callM
  simp only [hr, hc, gd_t, e]
  rw [map_norefs _ v hv]
  have hl : (subH h rs).length = rs.length := by simp [subH]
  have c := closed_of hc
  have hs : putH h rs (subH h rs) = h := by
    unfold putH
    rw [List.take_of_length_le (by omega), List.drop_eq_nil_of_le (by omega), List.map_nil, List.append_nil]
    refine setAll_same _ _ (by simp [subH]) fun i n hn => ?_
    have hmem : n ∈ rs := List.mem_of_getElem? hn
    have hlt : n < h.length := c.lt hmem
    simp only [subH, List.getElem?_map, hn, Option.map_some]
    rw [List.getElem?_eq_getElem hlt, List.getD_eq_getElem?_getD, List.getElem?_eq_getElem hlt]
    congr 1
    simp only [Option.getD_some]
    rw [omap_map', omap_id]
    intro m hm
    refine bk_ixOf ?_
    simp only [closedB, Bool.and_eq_true, List.all_eq_true] at hc
    have := hc.2 n hmem
    rw [List.getElem?_eq_getElem hlt] at this
    simp only [List.all_eq_true, List.contains_iff_mem] at this
    exact this m hm
  rw [hs]
theorem setAll_nums : ∀ (k s : Nat) (pre h0 h0' rest : Hm), pre.length = s → h0.length = k → h0'.length = k → setAll (pre ++ (h0 ++ rest)) (nums s k) h0' = pre ++ (h0' ++ rest)
  | 0, s, pre, h0, h0', rest, e1, e2, e3 => by
    rw [List.length_eq_zero_iff] at e2 e3
    subst e2 e3; rfl
  | k + 1, s, pre, [], h0', rest, e1, e2, e3 => by simp at e2
  | k + 1, s, pre, a :: h0, [], rest, e1, e2, e3 => by simp at e3
  | k + 1, s, pre, a :: h0, b :: h0', rest, e1, e2, e3 => by
    rw [nums, setAll]
    have e4 : (pre ++ (a :: h0 ++ rest)).set s b = (pre ++ [b]) ++ (h0 ++ rest) := by
      subst e1
      rw [List.set_append_right _ _ (Nat.le_refl _), Nat.sub_self]
      simp
    rw [e4, setAll_nums k (s + 1) (pre ++ [b]) h0 h0' rest (by simp [e1]) (by simpa using e2) (by simpa using e3)]
    simp
theorem bk_nums {k len i : Nat} : bk (nums 0 k) len i = if i < k then i else len + (i - k) := by
  unfold bk
  rw [nums_len]
  split
  · rename_i hi
    rw [List.getD_eq_getElem?_getD, nums_at _ _ _ hi]; simp
  · rfl
/-- a call that sees the first objects of the heap, and makes new ones -/
theorem callM_first {Γ : Gm} {f : Nat} {args : List D} {h0 h0' new rest : Hm} {v : D} (hc : ∀ o ∈ h0, ∀ n ∈ o.refs, n < h0.length) (hr : reach 100000 (h0 ++ rest) (D.refsL args) [] = nums 0 h0.length) (ha : ∀ n ∈ D.refsL args, n < h0.length)
    (hl : h0'.length = h0.length) (hk : ∀ o ∈ h0', ∀ n ∈ o.refs, n < h0.length) (e : Γ f args h0 = .ok v (h0' ++ new)) :
    callM Γ f args (h0 ++ rest) = .ok (v.map fun i => if i < h0.length then i else (h0 ++ rest).length + (i - h0.length)) (h0' ++ rest ++ new.map (O.map fun i => if i < h0.length then i else (h0 ++ rest).length + (i - h0.length))) := by
  have hcl : closedB (h0 ++ rest) (nums 0 h0.length) (D.refsL args) = true := by
    simp only [closedB, Bool.and_eq_true, decide_eq_true_eq, List.all_eq_true, List.contains_iff_mem]
    refine ⟨⟨nums_nd _ _, fun n hn => by rw [mem_nums]; have := ha n hn; omega⟩, fun n hn => ?_⟩
    have hn := (mem_nums _ _ _).mp hn
    rw [List.getElem?_append_left (by omega), List.getElem?_eq_getElem (by omega)]
    simp only [List.all_eq_true, List.contains_iff_mem]
    intro m hm
    rw [mem_nums]
    have := hc _ (List.getElem_mem _) m hm
    omega
  have hm : D.mapL (ixOf (nums 0 h0.length)) args = args := mapL_id' _ _ fun n hn => by
    have := ha n hn
    rw [ixOf_nums _ 0 n (Nat.zero_le _) (by omega)]; omega
  unfold callM
  simp only [hr, hcl, gd_t, hm, subH_first h0 rest hc, e]
  have eb : bk (nums 0 h0.length) (h0 ++ rest).length = fun i => if i < h0.length then i else (h0 ++ rest).length + (i - h0.length) := by
    funext i; exact bk_nums
  rw [eb]
  congr 1
  unfold putH
  rw [eb, nums_len, List.take_append_of_le_length (by omega), List.take_of_length_le (by omega), show h0.length = h0'.length from hl.symm, List.drop_left]
  congr 1
  rw [← hl] at hk
  have e2 : h0'.map (O.map fun i => if i < h0'.length then i else (h0 ++ rest).length + (i - h0'.length)) = h0' := by
    rw [List.map_congr_left (g := id) fun o ho => omap_id _ o fun n hn => by rw [if_pos (hk o ho n hn)]]; simp
  rw [e2]
  have := setAll_nums h0'.length 0 [] h0 h0' rest rfl hl.symm rfl
  simpa using this
/-- .. and none that stays -/
theorem callM_keep {Γ : Gm} {f : Nat} {args : List D} {h0 h0' rest : Hm} {v : D} (hc : ∀ o ∈ h0, ∀ n ∈ o.refs, n < h0.length) (hr : reach 100000 (h0 ++ rest) (D.refsL args) [] = nums 0 h0.length) (ha : ∀ n ∈ D.refsL args, n < h0.length)
    (hl : h0'.length = h0.length) (hk : ∀ o ∈ h0', ∀ n ∈ o.refs, n < h0.length) (hv : v.refs = []) (e : Γ f args h0 = .ok v h0') :
    callM Γ f args (h0 ++ rest) = .ok v (h0' ++ rest) := by
  have := callM_first (new := []) (rest := rest) hc hr ha hl hk (by simpa using e)
  rw [this, map_norefs _ v hv]; simp
/-- a call of values without places that makes new ones -/
theorem callM_make {Γ : Gm} {f : Nat} {args : List D} {h new : Hm} {v : D} (ha : D.refsL args = []) (e : Γ f args [] = .ok v new) :
    callM Γ f args h = .ok (v.map fun i => h.length + i) (h ++ new.map (O.map fun i => h.length + i)) := by
  have := callM_first (h0 := []) (h0' := []) (new := new) (rest := h) (by simp) (by rw [ha]; rfl) (by simp [ha]) rfl (by simp) (by simpa using e)
  simpa using this
theorem callM_list {Γ : Gm} {f p : Nat} {h : Hm} {ds : List D} {v : D} (hp : h[p]? = some (.lst ds)) (hi : D.refsL ds = []) (hv : v.refs = []) (e : Γ f [.ref 0] [.lst ds] = .ok v [.lst ds]) : callM Γ f [.ref p] h = .ok v h := by
  have hr : reach 100000 h [p] [] = [p] := by
    show reach (99998 + 1 + 1) _ [p] [] = _
    simp [reach, O.refs, hp, hi]
  have hc : closedB h [p] [p] = true := by simp [closedB, hp, O.refs, hi]
  have hs : subH h [p] = [.lst ds] := by
    simp [subH, O.map, hp, mapL_norefs _ _ hi]
  refine callM_ro [p] (by simpa [D.refsL, D.refs] using hr) (by simpa [D.refsL, D.refs] using hc) hv ?_
  rw [hs]
  simpa [D.mapL, D.map, ixOf] using e
theorem callM_new {Γ : Gm} {f : Nat} {args : List D} {v : D} {h' : Hm} (ha : D.refsL args = []) (e : Γ f args [] = .ok v h') : callM Γ f args [] = .ok v h' := by
  have := callM_make (h := []) ha e
  rw [this]
  have h1 : v.map (fun i => ([] : Hm).length + i) = v := map_id' _ v fun n _ => by simp
  have h2 : h'.map (O.map fun i => ([] : Hm).length + i) = h' := by
    rw [List.map_congr_left (g := id) fun o _ => omap_id _ o fun n _ => by simp]; simp
  rw [h1, h2]; simp
theorem list_ref {h : Hm} {n : Nat} {ds : List D} (e : h[n]? = some (.lst ds)) : biD h .list [.ref n] = some (.lv ds) := by
  show (seqOf h (.ref n)).map D.lv = _
  rw [seq_ref e]; rfl
theorem tuple_ref {h : Hm} {n : Nat} {ds : List D} (e : h[n]? = some (.lst ds)) : biD h .tuple [.ref n] = some (.tup ds) := by
  show (seqOf h (.ref n)).map D.tup = _
  rw [seq_ref e]; rfl
@[simp] theorem tuple_lv {h : Hm} {ds : List D} : biD h .tuple [.lv ds] = some (.tup ds) := rfl
@[simp] theorem list_lv {h : Hm} {ds : List D} : biD h .list [.lv ds] = some (.lv ds) := rfl
@[simp] theorem tuple_tup {h : Hm} {ds : List D} : biD h .tuple [.tup ds] = some (.tup ds) := rfl
@[simp] theorem list_tup {h : Hm} {ds : List D} : biD h .list [.tup ds] = some (.lv ds) := rfl
@[simp] theorem add_tup {h : Hm} (a b : List D) : binD h .Add (.tup a) (.tup b) = if a.length + b.length ≤ sizeLine then some (.tup (a ++ b)) else none := rfl
/-! ### comprehensions over ints -/
theorem comp_ints {step : D → Hm → R (Option D)} {src : Src} {h : Hm} (f : Int → Option Int) (so : srcOk src h = true) (hs : ∀ i, step (.int i) h = .ok ((f i).map .int) h) : ∀ ns : List Int, compL step src (ns.map .int) h = .ok ((ns.filterMap f).map .int) h
  | [] => rfl
  | n :: r => by
    rw [List.map_cons, compL, hs, bnd_ok, so, gd_t, comp_ints f so hs r, bnd_ok, List.filterMap_cons]
    cases f n <;> rfl
/-- a comprehension that leaves the heap as it is -/
theorem comp_pure {step : D → Hm → R (Option D)} {src : Src} {h : Hm} (f : D → Option D) (so : srcOk src h = true) : ∀ ds : List D, (∀ d ∈ ds, step d h = .ok (f d) h) → compL step src ds h = .ok (ds.filterMap f) h
  | [], _ => rfl
  | n :: r, hs => by
    rw [compL, hs n List.mem_cons_self, bnd_ok, so, gd_t, comp_pure f so r fun d hd => hs d (List.mem_cons_of_mem _ hd), bnd_ok, List.filterMap_cons]
    cases f n <;> rfl
theorem upto_map : ∀ (n : Nat) (s : Int), upto s n = ((List.range n).map fun i : Nat => s + (i : Int)).map .int
  | 0, s => rfl
  | n + 1, s => by
    rw [upto, upto_map n (s + 1), List.range_succ_eq_map]
    simp only [List.map_cons, List.map_map]
    congr 1
    · simp
    · refine List.map_congr_left fun i _ => ?_
      simp only [Function.comp]
      congr 1; push_cast; omega
theorem cut_map {α β : Type} (f : α → β) (xs : List α) (lo hi : Option Int) : cutL (xs.map f) lo hi = (cutL xs lo hi).map f := by
  simp [cutL, List.map_take, List.map_drop]
theorem cut60 (ns : List Int) : (cutL ns none (some 60)).length ≤ 60 := by
  unfold cutL
  rw [HT.sIx_none, show HT.sIx ns.length ns.length (some 60) = min 60 ns.length from HT.sIx_nat ns.length ns.length 60]
  simp
  omega
/-! ### repr -/
theorem ofString_len (s : String) : (Str.ofString s).length = s.length := by
  rw [Str.ofString_eq_toList]
  show (s.toList.map Char.toNat).toArray.size = _
  rw [List.size_toArray, List.length_map]
  exact String.length_toList
theorem leaf_int {i : Int} (h : Bt 1919 i) : (PyData.shown (.int i)).length ≤ 2000 := by
  have h2 := h.log
  show (Str.ofString (toString i)).length ≤ 2000
  rw [ofString_len]
  have := int_text_length_le (a := i) (k := 1920) (by decide) (by omega)
  omega
theorem show_int {i : Int} (h : Bt 1919 i) : PyData.showable (.int i) = true := by
  have h2 := h.log
  simp [PyData.showable]; omega
section
variable {ts : List Int}
theorem show_ints : ∀ {ts : List Int}, (∀ c ∈ ts, Bt 1919 c) → PyData.showableAll (ts.map .int) = true
  | [], _ => by simp [PyData.showableAll]
  | c :: r, h => by
    rw [List.map_cons, PyData.showableAll, show_int (h c List.mem_cons_self), show_ints fun d hd => h d (List.mem_cons_of_mem _ hd)]; rfl
theorem short_ints : ∀ {ts : List Int}, (∀ c ∈ ts, Bt 1919 c) → PyData.leavesShortAll 2000 (ts.map .int) = true
  | [], _ => by simp [PyData.leavesShortAll]
  | c :: r, h => by
    rw [List.map_cons, PyData.leavesShortAll, short_ints fun d hd => h d (List.mem_cons_of_mem _ hd)]
    simp [PyData.leavesShort, leaf_int (h c List.mem_cons_self)]
theorem bulk_ints : ∀ ts : List Int, PyData.bulkAll (ts.map .int) = ts.length
  | [] => by simp [PyData.bulkAll]
  | c :: r => by simp [PyData.bulkAll, PyData.bulk, bulk_ints r]; omega
end
abbrev tupsD (tss : List (List Int)) : List D := tss.map fun ts => .tup (ts.map .int)
abbrev tupsP (tss : List (List Int)) : List PyData := tss.map fun ts => .tuple (ts.map .int)
theorem tups_refs : ∀ tss : List (List Int), D.refsL (tupsD tss) = []
  | [] => rfl
  | ts :: r => by
    have := tups_refs r
    simp only [tupsD, List.map_cons] at this ⊢
    simp [D.refsL, D.refs, ints_refs, this]
theorem py_tups (h : Hm) (n : Nat) : ∀ tss : List (List Int), allSome (pyOf (n + 1) h) (tupsD tss) = some (tupsP tss)
  | [] => by simp [allSome]
  | ts :: r => by
    have := py_tups h n r
    simp only [tupsD, tupsP, List.map_cons] at this ⊢
    rw [allSome, this, pyOf, py_ints]; rfl
theorem lay_tups : ∀ tss : List (List Int), PyData.canLayAll0 (tupsP tss) = true
  | [] => by simp [PyData.canLayAll0]
  | ts :: r => by
    have := lay_tups r
    simp only [tupsP, List.map_cons] at this ⊢
    simp [PyData.canLayAll0, PyData.canLay0, lay_ints, this]
theorem dep_tups : ∀ tss : List (List Int), PyData.depthAll (tupsP tss) ≤ 1
  | [] => by simp [PyData.depthAll]
  | ts :: r => by
    have := dep_tups r
    simp only [tupsP, List.map_cons] at this ⊢
    simp [PyData.depthAll, PyData.depth, dep_ints]
    omega
theorem show_tups : ∀ tss : List (List Int), (∀ ts ∈ tss, ∀ c ∈ ts, Bt 1919 c) → PyData.showableAll (tupsP tss) = true ∧ PyData.leavesShortAll 2000 (tupsP tss) = true
  | [], _ => by simp [PyData.showableAll, PyData.leavesShortAll]
  | ts :: r, h => by
    have := show_tups r fun ts hts => h ts (List.mem_cons_of_mem _ hts)
    simp only [tupsP, List.map_cons] at this ⊢
    simp [PyData.showableAll, PyData.showable, PyData.leavesShortAll, PyData.leavesShort, show_ints (h ts List.mem_cons_self), short_ints (h ts List.mem_cons_self), this]
theorem bulk_tups : ∀ (tss : List (List Int)), (∀ ts ∈ tss, ts.length ≤ 100) → PyData.bulkAll (tupsP tss) ≤ 101 * tss.length
  | [], _ => by simp [PyData.bulkAll]
  | ts :: r, h => by
    have := bulk_tups r fun ts hts => h ts (List.mem_cons_of_mem _ hts)
    have h2 := h ts List.mem_cons_self
    simp only [tupsP, List.map_cons] at this ⊢
    simp [PyData.bulkAll, PyData.bulk, bulk_ints]
    omega
/-- repr of a list of tuples of ints -/
theorem repr_tups {h : Hm} (tss : List (List Int)) (h1 : ∀ ts ∈ tss, ∀ c ∈ ts, Bt 1919 c) (h2 : ∀ ts ∈ tss, ts.length ≤ 100) (h3 : tss.length ≤ 50) : biD h .repr [.lv (tupsD tss)] = some (.str (PyData.shown (.list (tupsP tss)))) := by
  have e : pyOf deepN h (.lv (tupsD tss)) = some (.list (tupsP tss)) := by
    show pyOf (38 + 1 + 1) h _ = _
    rw [pyOf, py_tups]; rfl
  obtain ⟨a, b⟩ := show_tups tss h1
  have sh : shp (.list (tupsP tss)) = true := by
    have := dep_tups tss
    have : PyData.depth (.list (tupsP tss)) ≤ 64 := by rw [PyData.depth]; omega
    rw [shp_eq]
    simp [SeqAt.shaped, PyData.canLay0, lay_tups, this]
  have ln : (PyData.shown (.list (tupsP tss))).length ≤ sizeLine := by
    have q := PyData.shown_le_bulk 2000 (by omega) (.list (tupsP tss)) (by simp [PyData.leavesShort, b])
    have q2 := bulk_tups tss h2
    simp only [PyData.bulk] at q
    rw [sizeLine_eq]
    omega
  show reprOf h _ = _
  unfold reprOf
  rw [e]
  simp only [PyData.showable, a, sh, ln, and_self, if_true]
end Mi
namespace Mi
open PySem
theorem comp_map {α : Type} {step : D → Hm → R (Option D)} {src : Src} {h : Hm} (g : α → D) (f : α → Option D) (so : srcOk src h = true) : ∀ l : List α, (∀ a ∈ l, step (g a) h = .ok (f a) h) → compL step src (l.map g) h = .ok (l.filterMap f) h
  | [], _ => rfl
  | n :: r, hs => by
    rw [List.map_cons, compL, hs n List.mem_cons_self, bnd_ok, so, gd_t, comp_map g f so r fun d hd => hs d (List.mem_cons_of_mem _ hd), bnd_ok, List.filterMap_cons]
    cases f n <;> rfl
/-- a comprehension over a range that keeps all -/
theorem comp_up {step : D → Hm → R (Option D)} {h : Hm} (g : Int → D) (s : Int) (n : Nat) (hs : ∀ i, s ≤ i → i < s + n → step (.int i) h = .ok (some (g i)) h) : compL step none (upto s n) h = .ok ((List.range n).map fun i : Nat => g (s + (i : Int))) h := by
  rw [upto_map, comp_map (src := none) .int (fun i => some (g i)) rfl _ fun a ha => ?_]
  · congr 1
    rw [List.filterMap_map, ← List.filterMap_eq_map]; rfl
  · obtain ⟨i, hi, rfl⟩ := List.mem_map.mp ha
    have := List.mem_range.mp hi
    exact hs _ (by omega) (by omega)
/-- an own list is longer by a fresh one -/
theorem ext_lv {h : Hm} {n : Nat} {xs ys : List D} (e : h[n]? = some (.lst xs)) (hl : xs.length + ys.length ≤ 16777216) : meD h .extend (.ref n) [.lv ys] = .ok .non (h.set n (.lst (xs ++ ys))) := by
  simp [meD, e, meL, wlsOf, hl]
end Mi

set_option Elab.async false
set_option linter.all false
set_option maxRecDepth 100000
namespace Mi
open PySem PySem.Spec PyProof.Rows L2
/-! ### the text -/
abbrev topS (i : Nat) : Stmt := PySem.Challenge.pw_drawnturns_k02_whole_cells_taken_and_fil.main.body.getD i (.Pass ⟨0, 0, 0, 0⟩)
abbrev i_is_integer : Nat := 0
abbrev i_is_hand : Nat := 1
abbrev i_standing_error : Nat := 2
abbrev i_position_error : Nat := 3
abbrev i_empty_cells : Nat := 4
abbrev i_taken : Nat := 5
abbrev i_fillings : Nat := 6
abbrev i_L_jar : Nat := 7
abbrev i_L_draw2 : Nat := 8
abbrev i_L_pick2 : Nat := 9
abbrev i_L_mixed : Nat := 10
abbrev i_L_position : Nat := 11
abbrev i_L_is_hand : Nat := 12
abbrev i_L_odd : Nat := 13
abbrev i_L_boards : Nat := 14
abbrev i_L_longer : Nat := 15
abbrev i_L_put_in : Nat := 16
abbrev i_L_heard : Nat := 17
abbrev i_L_due : Nat := 18
abbrev i_L_is_right : Nat := 19
abbrev i_Llaw : Nat := 20
abbrev st_is_integer : Stmt := topS 1
abbrev ps_is_integer : List Str := ["value"]
abbrev nn_is_integer : List Str := ["value"]
/-- is_integer -/
def b_is_integer : Ss :=
  (.cons (.ret (.and (.bi .isInt (.cons (.v 0) .nil)) (.not (.bi .isBool (.cons (.v 0) .nil))))) .nil)
def fd_is_integer : FD := ⟨1, 1, b_is_integer⟩
abbrev st_is_hand : Stmt := topS 6
abbrev ps_is_hand : List Str := ["value"]
abbrev nn_is_hand : List Str := ["value"]
/-- is_hand -/
def b_is_hand : Ss :=
  (.cons (.ret (.and (.call i_is_integer (.cons (.v 0) .nil)) (.chain .LtE .LtE (.c (.int 0)) (.v 0) (.c (.int 1))))) .nil)
def fd_is_hand : FD := ⟨1, 1, b_is_hand⟩
abbrev st_standing_error : Stmt := topS 7
abbrev ps_standing_error : List Str := ["row", "standing"]
abbrev nn_standing_error : List Str := ["row", "standing", "cell", "item"]
def b_standing_error_0 : Ss :=
  (.cons (.ifs (.and (.cmp .IsNot (.v 3) (.c .non)) (.not (.call i_is_hand (.cons (.v 3) .nil))))
    (.cons (.ret (.tup (.cons (.c (.str "cell")) (.cons (.v 2) .nil)))) .nil)
    .nil) .nil)
/-- standing_error -/
def b_standing_error : Ss :=
  (.cons (.for_ (.t (.cons (.n 2) (.cons (.n 3) .nil))) (.enum (.v 1)) b_standing_error_0)
  (.cons (.ifs (.or (.cmp .NotEq (.me .count (.v 1) (.cons (.c (.int 1)) .nil)) (.me .count (.v 0) (.cons (.c (.int 1)) .nil))) (.cmp .NotEq (.me .count (.v 1) (.cons (.c (.int 0)) .nil)) (.me .count (.v 0) (.cons (.c (.int 0)) .nil))))
    (.cons (.ret (.c (.str "number"))) .nil)
    .nil)
  (.cons (.ret (.c .non)) .nil)))
def fd_standing_error : FD := ⟨2, 4, b_standing_error⟩
abbrev st_position_error : Stmt := topS 8
abbrev ps_position_error : List Str := ["many", "value"]
abbrev nn_position_error : List Str := ["many", "value", "row", "standing", "item"]
def b_position_error_0 : Mi.E :=
  (.call i_is_hand (.cons (.v 4) .nil))
/-- position_error -/
def b_position_error : Ss :=
  (.cons (.ifs (.or (.not (.bi .isTuple (.cons (.v 1) .nil))) (.cmp .NotEq (.bi .len (.cons (.v 1) .nil)) (.c (.int 2))))
    (.cons (.ret (.c (.str "form"))) .nil)
    .nil)
  (.cons (.asg (.t (.cons (.n 2) (.cons (.n 3) .nil))) (.v 1))
  (.cons (.ifs (.or (.not (.bi .isTuple (.cons (.v 2) .nil))) (.not (.bi .isTuple (.cons (.v 3) .nil))))
    (.cons (.ret (.c (.str "form"))) .nil)
    .nil)
  (.cons (.ifs (.or (.cmp .Gt (.bi .len (.cons (.v 2) .nil)) (.v 0)) (.not (.bi .all (.cons (.comp b_position_error_0 (.n 4) (.of (.v 2)) .nil [("item", 4)]) .nil))))
    (.cons (.ret (.c (.str "row"))) .nil)
    .nil)
  (.cons (.ret (.ife (.cmp .NotEq (.bi .len (.cons (.v 3) .nil)) (.v 0)) (.c (.str "many")) (.call i_standing_error (.cons (.v 2) (.cons (.v 3) .nil))))) .nil)))))
def fd_position_error : FD := ⟨2, 5, b_position_error⟩
abbrev st_empty_cells : Stmt := topS 9
abbrev ps_empty_cells : List Str := ["standing"]
abbrev nn_empty_cells : List Str := ["standing", "cell", "item"]
def b_empty_cells_0 : Mi.E :=
  (.v 1)
def b_empty_cells_1 : Es :=
  (.cons (.cmp .Is (.v 2) (.c .non)) .nil)
/-- empty_cells -/
def b_empty_cells : Ss :=
  (.cons (.ret (.bi .tuple (.cons (.comp b_empty_cells_0 (.t (.cons (.n 1) (.cons (.n 2) .nil))) (.enum (.v 0)) b_empty_cells_1 [("cell", 1), ("item", 2)]) .nil))) .nil)
def fd_empty_cells : FD := ⟨1, 3, b_empty_cells⟩
abbrev st_taken : Stmt := topS 10
abbrev ps_taken : List Str := ["position", "hand", "cell"]
abbrev nn_taken : List Str := ["position", "hand", "cell", "row", "standing"]
/-- taken -/
def b_taken : Ss :=
  (.cons (.asg (.t (.cons (.n 3) (.cons (.n 4) .nil))) (.v 0))
  (.cons (.ifs (.or (.not (.call i_is_hand (.cons (.v 1) .nil))) (.or (.not (.call i_is_integer (.cons (.v 2) .nil))) (.cmp .NotIn (.v 2) (.call i_empty_cells (.cons (.v 4) .nil)))))
    (.cons (.raise 0 .nil) .nil)
    .nil)
  (.cons (.ret (.tup (.cons (.bin .Add (.v 3) (.tup (.cons (.v 1) .nil))) (.cons (.bin .Add (.bin .Add (.sl (.v 4) .no (.so (.v 2))) (.tup (.cons (.v 1) .nil))) (.sl (.v 4) (.so (.bin .Add (.v 2) (.c (.int 1)))) .no)) .nil)))) .nil)))
def fd_taken : FD := ⟨3, 5, b_taken⟩
abbrev st_fillings : Stmt := topS 11
abbrev ps_fillings : List Str := ["standing"]
abbrev nn_fillings : List Str := ["standing", "found", "item", "longer", "board", "hand"]
def b_fillings_0 : Mi.E :=
  (.bin .Add (.v 4) (.tup (.cons (.v 5) .nil)))
def b_fillings_1 : Ss :=
  (.cons (.ex (.me .extend (.v 3) (.cons (.comp b_fillings_0 (.n 5) (.of (.ife (.cmp .Is (.v 2) (.c .non)) (.tup (.cons (.c (.int 0)) (.cons (.c (.int 1)) .nil))) (.tup (.cons (.v 2) .nil)))) .nil [("hand", 5)]) .nil))) .nil)
def b_fillings_2 : Ss :=
  (.cons (.asg (.n 3) (.lst .nil))
  (.cons (.for_ (.n 4) (.of (.v 1)) b_fillings_1)
  (.cons (.asg (.n 1) (.v 3)) .nil)))
/-- fillings -/
def b_fillings : Ss :=
  (.cons (.asg (.n 1) (.lst (.cons (.tup .nil) .nil)))
  (.cons (.for_ (.n 2) (.of (.v 0)) b_fillings_2)
  (.cons (.ret (.bi .tuple (.cons (.v 1) .nil))) .nil)))
def fd_fillings : FD := ⟨1, 6, b_fillings⟩
abbrev st_L_jar : Stmt := topS 13
abbrev ps_L_jar : List Str := ["script"]
abbrev nn_L_jar : List Str := ["script", "own", "far", "cells", "seal"]
def b_L_jar_0 : Mi.E :=
  (.ife (.cmp .GtE (.v 1) (.c (.int 0))) (.bin .Mult (.c (.int 2)) (.v 1)) (.bin .Sub (.bin .Mult (.neg (.c (.int 2))) (.v 1)) (.c (.int 1))))
def b_L_jar_1 : Ss :=
  (.cons (.asg (.n 4) (.bin .Mod (.bi .int (.cons (.bin .Add (.bin .Add (.bin .Mult (.v 4) (.c (.int 16807))) (.bin .Mult (.v 1) (.c (.int 3)))) (.c (.int 5))) .nil)) (.c (.int 4294967279)))) .nil)
def b_L_jar_2 : Mi.E :=
  (.v 1)
def b_L_jar_3 : Es :=
  (.cons (.cmp .GtE (.v 1) (.bin .Pow (.c (.int 10)) (.c (.int 18)))) .nil)
/-- _law_jar -/
def b_L_jar : Ss :=
  (.cons (.asg (.t (.cons (.n 3) (.cons (.n 4) .nil))) (.tup (.cons (.comp b_L_jar_0 (.n 1) (.of (.sl (.v 0) .no (.so (.c (.int 63))))) .nil [("own", 1)]) (.cons (.bin .Add (.c (.int 15724)) (.bin .Mult (.c (.int 5)) (.bi .len (.cons (.v 0) .nil)))) .nil))))
  (.cons (.for_ (.n 1) (.of (.v 3)) b_L_jar_1)
  (.cons (.asg (.n 2) (.comp b_L_jar_2 (.n 1) (.of (.v 3)) b_L_jar_3 [("own", 1)]))
  (.cons (.ret (.dic [.inr "far", .inr "cells", .inr "seal", .inr "count"] (.cons (.v 2) (.cons (.bin .Add (.v 3) (.lst (.cons (.bin .Add (.bin .Mult (.c (.int 7)) (.bi .len (.cons (.v 3) .nil))) (.c (.int 3))) .nil))) (.cons (.v 4) (.cons (.c (.int 0)) .nil)))))) .nil))))
def fd_L_jar : FD := ⟨1, 5, b_L_jar⟩
abbrev st_L_draw2 : Stmt := topS 14
abbrev ps_L_draw2 : List Str := ["jar", "many"]
abbrev nn_L_draw2 : List Str := ["jar", "many", "far", "mix", "whole", "count", "cells"]
/-- _law_draw -/
def b_L_draw2 : Ss :=
  (.cons (.asg (.n 2) (.ix (.v 0) (.c (.str "far"))))
  (.cons (.ifs (.cmp .NotEq (.v 2) (.lst .nil))
    (.cons (.asg (.n 4) (.me .pop (.v 2) (.cons (.c (.int 0)) .nil)))
    (.cons (.ifs (.cmp .GtE (.v 4) (.v 1))
      (.cons (.ex (.me .insert (.v 2) (.cons (.c (.int 0)) (.cons (.bin .FloorDiv (.v 4) (.v 1)) .nil)))) .nil)
      .nil)
    (.cons (.ret (.bin .Mod (.bi .int (.cons (.v 4) .nil)) (.v 1))) .nil)))
    .nil)
  (.cons (.asgI (.v 0) (.c (.str "count")) (.bin .Add (.ix (.v 0) (.c (.str "count"))) (.c (.int 1))))
  (.cons (.asg (.t (.cons (.n 5) (.cons (.n 6) .nil))) (.tup (.cons (.ix (.v 0) (.c (.str "count"))) (.cons (.ix (.v 0) (.c (.str "cells"))) .nil))))
  (.cons (.asg (.n 3) (.bin .Mod (.bi .int (.cons (.bin .Add (.bin .Add (.ix (.v 0) (.c (.str "seal"))) (.bin .Mult (.c (.int 7919)) (.bi .int (.cons (.ix (.v 6) (.bin .Mod (.bi .int (.cons (.v 5) .nil)) (.bi .len (.cons (.v 6) .nil)))) .nil)))) (.bin .Mult (.c (.int 104729)) (.v 5))) .nil)) (.c (.int 4294967291))))
  (.cons (.asg (.n 3) (.bin .Mod (.bi .int (.cons (.bin .Add (.bin .Add (.bin .Mult (.v 3) (.c (.int 22695477))) (.bin .Mult (.v 5) (.v 5))) (.c (.int 1))) .nil)) (.c (.int 4294967291))))
  (.cons (.asg (.n 3) (.bin .Mod (.bi .int (.cons (.bin .Add (.bin .Mult (.v 3) (.c (.int 48271))) (.bin .FloorDiv (.v 3) (.c (.int 65536)))) .nil)) (.c (.int 4294967279))))
  (.cons (.ret (.bin .Mod (.bi .int (.cons (.bin .FloorDiv (.v 3) (.c (.int 1024))) .nil)) (.v 1))) .nil))))))))
def fd_L_draw2 : FD := ⟨2, 7, b_L_draw2⟩
abbrev st_L_pick2 : Stmt := topS 15
abbrev ps_L_pick2 : List Str := ["jar", "row"]
abbrev nn_L_pick2 : List Str := ["jar", "row"]
/-- _law_pick -/
def b_L_pick2 : Ss :=
  (.cons (.ret (.ix (.v 1) (.call i_L_draw2 (.cons (.v 0) (.cons (.bi .len (.cons (.v 1) .nil)) .nil))))) .nil)
def fd_L_pick2 : FD := ⟨2, 2, b_L_pick2⟩
abbrev st_L_mixed : Stmt := topS 16
abbrev ps_L_mixed : List Str := ["jar", "row"]
abbrev nn_L_mixed : List Str := ["jar", "row", "left", "found"]
def b_L_mixed_0 : Mi.E :=
  (.cmp .NotEq (.v 2) (.lst .nil))
def b_L_mixed_1 : Ss :=
  (.cons (.ex (.me .append (.v 3) (.cons (.me .pop (.v 2) (.cons (.call i_L_draw2 (.cons (.v 0) (.cons (.bi .len (.cons (.v 2) .nil)) .nil))) .nil)) .nil))) .nil)
/-- _law_mixed -/
def b_L_mixed : Ss :=
  (.cons (.asg (.t (.cons (.n 2) (.cons (.n 3) .nil))) (.tup (.cons (.bi .list (.cons (.v 1) .nil)) (.cons (.lst .nil) .nil))))
  (.cons (.while_ b_L_mixed_0 b_L_mixed_1)
  (.cons (.ret (.v 3)) .nil)))
def fd_L_mixed : FD := ⟨2, 4, b_L_mixed⟩
abbrev st_L_position : Stmt := topS 17
abbrev ps_L_position : List Str := ["jar", "many"]
abbrev nn_L_position : List Str := ["jar", "many", "row", "cells", "standing", "turn", "hand"]
def b_L_position_0 : Mi.E :=
  (.call i_L_draw2 (.cons (.v 0) (.cons (.c (.int 2)) .nil)))
def b_L_position_1 : Ss :=
  (.cons (.asgI (.v 4) (.ix (.v 3) (.v 5)) (.v 6)) .nil)
/-- _law_position -/
def b_L_position : Ss :=
  (.cons (.asg (.n 2) (.comp b_L_position_0 (.n 5) (.rng (.cons (.call i_L_draw2 (.cons (.v 0) (.cons (.bin .Add (.v 1) (.c (.int 1))) .nil))) .nil)) .nil [("turn", 5)]))
  (.cons (.asg (.t (.cons (.n 3) (.cons (.n 4) .nil))) (.tup (.cons (.call i_L_mixed (.cons (.v 0) (.cons (.bi .lrange (.cons (.v 1) .nil)) .nil))) (.cons (.bin .Mult (.lst (.cons (.c .non) .nil)) (.v 1)) .nil))))
  (.cons (.for_ (.t (.cons (.n 5) (.cons (.n 6) .nil))) (.enum (.v 2)) b_L_position_1)
  (.cons (.ret (.tup (.cons (.bi .tuple (.cons (.v 2) .nil)) (.cons (.bi .tuple (.cons (.v 4) .nil)) .nil)))) .nil))))
def fd_L_position : FD := ⟨2, 7, b_L_position⟩
abbrev st_L_is_hand : Stmt := topS 18
abbrev ps_L_is_hand : List Str := ["value"]
abbrev nn_L_is_hand : List Str := ["value"]
/-- _law_is_hand -/
def b_L_is_hand : Ss :=
  (.cons (.ret (.and (.bi .isInt (.cons (.v 0) .nil)) (.and (.not (.bi .isBool (.cons (.v 0) .nil))) (.chain .LtE .LtE (.c (.int 0)) (.v 0) (.c (.int 1)))))) .nil)
def fd_L_is_hand : FD := ⟨1, 1, b_L_is_hand⟩
abbrev st_L_odd : Stmt := topS 19
abbrev ps_L_odd : List Str := ["jar"]
abbrev nn_L_odd : List Str := ["jar", "found"]
/-- _law_odd -/
def b_L_odd : Ss :=
  (.cons (.asg (.n 1) (.lst (.cons (.c .non) (.cons (.c (.bl true)) (.cons (.c (.bl false)) (.cons (.neg (.c (.int 1))) (.cons (.c (.int 2)) (.cons (.bin .Pow (.c (.int 10)) (.c (.int 40))) (.cons (.c (.str "")) (.cons (.c (.str "0")) (.cons (.c (.str "A")) (.cons (.tup .nil) (.cons (.lst .nil) (.cons (.dic [] .nil) (.cons (.lst (.cons (.c (.int 0)) .nil)) (.cons (.tup (.cons (.c (.int 0)) .nil)) (.cons (.tup (.cons (.c (.int 0)) (.cons (.c (.int 1)) .nil))) (.cons (.tup (.cons (.tup .nil) (.cons (.tup .nil) .nil))) (.cons (.dic [.inr "a"] (.cons (.c (.int 1)) .nil)) .nil)))))))))))))))))))
  (.cons (.ret (.call i_L_pick2 (.cons (.v 0) (.cons (.v 1) .nil)))) .nil))
def fd_L_odd : FD := ⟨1, 2, b_L_odd⟩
abbrev st_L_boards : Stmt := topS 20
abbrev ps_L_boards : List Str := ["standing"]
abbrev nn_L_boards : List Str := ["standing", "found", "own", "some"]
def b_L_boards_0 : Ss :=
  (.cons (.asg (.n 3) (.ife (.cmp .Is (.v 2) (.c .non)) (.lst (.cons (.c (.int 0)) (.cons (.c (.int 1)) .nil))) (.lst (.cons (.v 2) .nil))))
  (.cons (.asg (.n 1) (.call i_L_longer (.cons (.v 1) (.cons (.v 3) .nil)))) .nil))
/-- _law_boards -/
def b_L_boards : Ss :=
  (.cons (.asg (.n 1) (.lst (.cons (.tup .nil) .nil)))
  (.cons (.for_ (.n 2) (.of (.v 0)) b_L_boards_0)
  (.cons (.ret (.v 1)) .nil)))
def fd_L_boards : FD := ⟨1, 4, b_L_boards⟩
abbrev st_L_longer : Stmt := topS 21
abbrev ps_L_longer : List Str := ["rows", "some"]
abbrev nn_L_longer : List Str := ["rows", "some", "found", "row", "own"]
def b_L_longer_0 : Mi.E :=
  (.bin .Add (.v 3) (.tup (.cons (.v 4) .nil)))
def b_L_longer_1 : Ss :=
  (.cons (.ex (.me .extend (.v 2) (.cons (.comp b_L_longer_0 (.n 4) (.of (.v 1)) .nil [("own", 4)]) .nil))) .nil)
/-- _law_longer -/
def b_L_longer : Ss :=
  (.cons (.asg (.n 2) (.lst .nil))
  (.cons (.for_ (.n 3) (.of (.v 0)) b_L_longer_1)
  (.cons (.ret (.v 2)) .nil)))
def fd_L_longer : FD := ⟨2, 5, b_L_longer⟩
abbrev st_L_put_in : Stmt := topS 22
abbrev ps_L_put_in : List Str := ["row", "standing", "cell", "hand"]
abbrev nn_L_put_in : List Str := ["row", "standing", "cell", "hand"]
/-- _law_put_in -/
def b_L_put_in : Ss :=
  (.cons (.ifs (.cmp .GtE (.v 2) (.bi .len (.cons (.v 1) .nil)))
    (.cons (.ret (.tup (.cons (.v 0) (.cons (.v 1) .nil)))) .nil)
    .nil)
  (.cons (.ret (.tup (.cons (.bin .Add (.v 0) (.tup (.cons (.v 3) .nil))) (.cons (.bin .Add (.bin .Add (.sl (.v 1) .no (.so (.v 2))) (.tup (.cons (.v 3) .nil))) (.sl (.v 1) (.so (.bin .Add (.v 2) (.c (.int 1)))) .no)) .nil)))) .nil))
def fd_L_put_in : FD := ⟨4, 4, b_L_put_in⟩
abbrev st_L_heard : Stmt := topS 23
abbrev ps_L_heard : List Str := ["position", "hand", "cell", "is_named"]
abbrev nn_L_heard : List Str := ["position", "hand", "cell", "is_named", "fault"]
/-- _law_heard -/
def b_L_heard : Ss :=
  (.cons (.try_
    (.cons (.ret (.lst (.cons (.c (.str "told")) (.cons (.ife (.v 3) (.callk i_taken .nil (.cons (.v 2) (.cons (.v 0) (.cons (.v 1) .nil))) [1, 2, 0]) (.call i_taken (.cons (.v 0) (.cons (.v 1) (.cons (.v 2) .nil))))) .nil)))) .nil)
   0
   (.cons (.asg (.n 4) (.c .non)) (.cons (.ret (.lst (.cons (.c (.str "unfit")) (.cons (.c (.bl true)) .nil)))) .nil))) .nil)
def fd_L_heard : FD := ⟨4, 5, b_L_heard⟩
abbrev st_L_due : Stmt := topS 24
abbrev ps_L_due : List Str := ["position", "hand", "cell"]
abbrev nn_L_due : List Str := ["position", "hand", "cell", "some", "row", "standing", "own"]
def b_L_due_0 : Mi.E :=
  (.v 6)
def b_L_due_1 : Es :=
  (.cons (.cmp .Is (.ix (.v 5) (.v 6)) (.c .non)) .nil)
/-- _law_due -/
def b_L_due : Ss :=
  (.cons (.asg (.t (.cons (.n 4) (.cons (.n 5) .nil))) (.v 0))
  (.cons (.asg (.n 3) (.comp b_L_due_0 (.n 6) (.rng (.cons (.bi .len (.cons (.v 5) .nil)) .nil)) b_L_due_1 [("own", 6)]))
  (.cons (.ifs (.or (.not (.call i_L_is_hand (.cons (.v 1) .nil))) (.or (.bi .isBool (.cons (.v 2) .nil)) (.or (.not (.bi .isInt (.cons (.v 2) .nil))) (.cmp .NotIn (.v 2) (.v 3)))))
    (.cons (.ret (.lst (.cons (.c (.str "unfit")) (.cons (.c (.bl true)) .nil)))) .nil)
    .nil)
  (.cons (.ret (.lst (.cons (.c (.str "told")) (.cons (.tup (.cons (.bin .Add (.v 4) (.tup (.cons (.v 1) .nil))) (.cons (.bin .Add (.bin .Add (.sl (.v 5) .no (.so (.v 2))) (.tup (.cons (.v 1) .nil))) (.sl (.v 5) (.so (.bin .Add (.v 2) (.c (.int 1)))) .no)) .nil))) .nil)))) .nil))))
def fd_L_due : FD := ⟨3, 7, b_L_due⟩
abbrev st_L_is_right : Stmt := topS 25
abbrev ps_L_is_right : List Str := ["position", "hand", "cell", "is_named"]
abbrev nn_L_is_right : List Str := ["position", "hand", "cell", "is_named", "due"]
/-- _law_is_right -/
def b_L_is_right : Ss :=
  (.cons (.asg (.n 4) (.call i_L_due (.cons (.v 0) (.cons (.v 1) (.cons (.v 2) .nil)))))
  (.cons (.ifs (.cmp .NotEq (.bi .repr (.cons (.call i_L_heard (.cons (.v 0) (.cons (.v 1) (.cons (.v 2) (.cons (.v 3) .nil))))) .nil)) (.bi .repr (.cons (.v 4) .nil)))
    (.cons (.ret (.c (.bl false))) .nil)
    .nil)
  (.cons (.ret (.or (.cmp .Eq (.ix (.v 4) (.c (.int 0))) (.c (.str "unfit"))) (.cmp .Is (.call i_position_error (.cons (.bi .len (.cons (.ix (.v 0) (.c (.int 1))) .nil)) (.cons (.ix (.v 4) (.c (.int 1))) .nil))) (.c .non)))) .nil)))
def fd_L_is_right : FD := ⟨4, 5, b_L_is_right⟩
abbrev st_Llaw : Stmt := topS 26
abbrev ps_Llaw : List Str := ["script"]
abbrev nn_Llaw : List Str := ["script", "jar", "turn", "many", "position", "free", "due", "again", "stood", "standing", "spot", "hand", "cell", "own"]
def b_Llaw_0 : Mi.E :=
  (.v 12)
def b_Llaw_1 : Es :=
  (.cons (.cmp .Is (.v 13) (.c .non)) .nil)
def b_Llaw_2 : Ss :=
  (.cons (.ifs (.not (.call i_L_is_right (.cons (.v 4) (.cons (.v 11) (.cons (.v 12) (.cons (.cmp .Eq (.bin .Mod (.v 10) (.c (.int 3))) (.c (.int 1))) .nil))))))
    (.cons (.ret (.c (.bl false))) .nil)
    .nil) .nil)
def b_Llaw_3 : Ss :=
  (.cons (.asg (.n 11) (.call i_L_pick2 (.cons (.v 1) (.cons (.lst (.cons (.c (.int 0)) (.cons (.c (.int 1)) (.cons (.call i_L_odd (.cons (.v 1) .nil)) (.cons (.c (.bl true)) (.cons (.c (.bl false)) .nil)))))) .nil))))
  (.cons (.asg (.n 12) (.call i_L_pick2 (.cons (.v 1) (.cons (.bin .Add (.lst (.cons (.v 3) (.cons (.neg (.c (.int 1))) (.cons (.call i_L_odd (.cons (.v 1) .nil)) (.cons (.c (.bl true)) (.cons (.tup (.cons (.c (.int 0)) .nil)) (.cons (.c (.str "0")) .nil))))))) (.bi .list (.cons (.v 5) .nil))) .nil))))
  (.cons (.ifs (.or (.not (.call i_L_is_right (.cons (.v 4) (.cons (.v 11) (.cons (.v 12) (.cons (.cmp .Eq (.v 7) (.v 2)) .nil)))))) (.cmp .NotEq (.bi .repr (.cons (.v 4) .nil)) (.v 8)))
    (.cons (.ret (.c (.bl false))) .nil)
    .nil) .nil)))
def b_Llaw_4 : Ss :=
  (.cons (.asg (.n 3) (.ix (.lst (.cons (.c (.int 1)) (.cons (.c (.int 2)) (.cons (.c (.int 4)) (.cons (.bin .Add (.c (.int 3)) (.call i_L_draw2 (.cons (.v 1) (.cons (.c (.int 4)) .nil)))) (.cons (.ife (.cmp .Eq (.call i_L_draw2 (.cons (.v 1) (.cons (.c (.int 3)) .nil))) (.c (.int 0))) (.c (.int 10)) (.c (.int 5))) .nil)))))) (.v 2)))
  (.cons (.asg (.n 4) (.call i_L_position (.cons (.v 1) (.cons (.v 3) .nil))))
  (.cons (.ifs (.and (.cmp .Eq (.v 3) (.c (.int 10))) (.cmp .Eq (.call i_L_draw2 (.cons (.v 1) (.cons (.c (.int 2)) .nil))) (.c (.int 0))))
    (.cons (.asg (.n 4) (.call i_L_put_in (.cons (.tup .nil) (.cons (.bin .Mult (.tup (.cons (.c .non) .nil)) (.c (.int 10))) (.cons (.call i_L_draw2 (.cons (.v 1) (.cons (.c (.int 11)) .nil))) (.cons (.call i_L_draw2 (.cons (.v 1) (.cons (.c (.int 2)) .nil))) .nil)))))) .nil)
    .nil)
  (.cons (.asg (.t (.cons (.n 8) (.cons (.n 9) .nil))) (.tup (.cons (.bi .repr (.cons (.v 4) .nil)) (.cons (.ix (.v 4) (.c (.int 1))) .nil))))
  (.cons (.asg (.n 5) (.bi .tuple (.cons (.comp b_Llaw_0 (.t (.cons (.n 12) (.cons (.n 13) .nil))) (.enum (.v 9)) b_Llaw_1 [("cell", 12), ("own", 13)]) .nil)))
  (.cons (.ifs (.cmp .NotEq (.bi .repr (.cons (.lst (.cons (.call i_empty_cells (.cons (.v 9) .nil)) (.cons (.callk i_empty_cells .nil (.cons (.v 9) .nil) [0]) .nil))) .nil)) (.bi .repr (.cons (.lst (.cons (.v 5) (.cons (.v 5) .nil))) .nil)))
    (.cons (.ret (.c (.bl false))) .nil)
    .nil)
  (.cons (.asg (.n 6) (.bi .tuple (.cons (.call i_L_boards (.cons (.v 9) .nil)) .nil)))
  (.cons (.ifs (.or (.cmp .NotEq (.bi .repr (.cons (.call i_fillings (.cons (.v 9) .nil)) .nil)) (.bi .repr (.cons (.v 6) .nil))) (.and (.cmp .Eq (.v 2) (.c (.int 2))) (.cmp .NotEq (.bi .repr (.cons (.callk i_fillings .nil (.cons (.v 9) .nil) [0]) .nil)) (.bi .repr (.cons (.v 6) .nil)))))
    (.cons (.ret (.c (.bl false))) .nil)
    .nil)
  (.cons (.for_ (.t (.cons (.n 10) (.cons (.t (.cons (.n 11) (.cons (.n 12) .nil))) .nil))) (.enum (.call i_L_longer (.cons (.lst (.cons (.tup (.cons (.c (.int 0)) .nil)) (.cons (.tup (.cons (.c (.int 1)) .nil)) .nil))) (.cons (.bi .lrange (.cons (.v 3) .nil)) .nil)))) b_Llaw_2)
  (.cons (.for_ (.n 7) (.rng (.cons (.c (.int 6)) .nil)) b_Llaw_3) .nil))))))))))
/-- law -/
def b_Llaw : Ss :=
  (.cons (.asg (.n 1) (.call i_L_jar (.cons (.v 0) .nil)))
  (.cons (.for_ (.n 2) (.rng (.cons (.c (.int 5)) .nil)) b_Llaw_4)
  (.cons (.ret (.c (.bl true))) .nil)))
def fd_Llaw : FD := ⟨1, 14, b_Llaw⟩
def tabL : List FD := [fd_is_integer, fd_is_hand, fd_standing_error, fd_position_error, fd_empty_cells, fd_taken, fd_fillings, fd_L_jar, fd_L_draw2, fd_L_pick2, fd_L_mixed, fd_L_position, fd_L_is_hand, fd_L_odd, fd_L_boards, fd_L_longer, fd_L_put_in, fd_L_heard, fd_L_due, fd_L_is_right, fd_Llaw]
def tab : Nat → Option FD := fun i => tabL[i]?
def fnsL : List (Str × List Str) := [(("is_integer" : Str), ps_is_integer), (("is_hand" : Str), ps_is_hand), (("standing_error" : Str), ps_standing_error), (("position_error" : Str), ps_position_error), (("empty_cells" : Str), ps_empty_cells), (("taken" : Str), ps_taken), (("fillings" : Str), ps_fillings), (("_law_jar" : Str), ps_L_jar), (("_law_draw" : Str), ps_L_draw2), (("_law_pick" : Str), ps_L_pick2), (("_law_mixed" : Str), ps_L_mixed), (("_law_position" : Str), ps_L_position), (("_law_is_hand" : Str), ps_L_is_hand), (("_law_odd" : Str), ps_L_odd), (("_law_boards" : Str), ps_L_boards), (("_law_longer" : Str), ps_L_longer), (("_law_put_in" : Str), ps_L_put_in), (("_law_heard" : Str), ps_L_heard), (("_law_due" : Str), ps_L_due), (("_law_is_right" : Str), ps_L_is_right), (("law" : Str), ps_Llaw)]
def cnsL : List (Str × D) := []
def exsL : List Str := ["Unfit"]
/-- which errors are under which -/
def subT : List (Str × Nat) := [("Unfit", 0)]
def xs0 (K : Nat) : Xs := ⟨fun c => (exsL[c]?).map fun x => (x, []), fun y c => subT.contains (y, c), K⟩
@[simp] theorem xs0_wf (K : Nat) : (xs0 K).wf = K := rfl
def tb : Tb := ⟨fnsL, cnsL, ["isinstance", "bool", "int", "enumerate", "len", "tuple", "all", "list", "range", "repr"], [(5, 0, ["cell", "position", "hand"], [1, 2, 0]), (4, 0, ["standing"], [0]), (6, 0, ["standing"], [0])], exsL, [], [(0, "TurnError")]⟩
def gg : Nat → Option D := fun i => (cnsL[i]?).map (·.2)
theorem tx_is_integer : TxtOk tb ps_is_integer st_is_integer nn_is_integer fd_is_integer := ⟨⟨rfl, rfl, rfl, by decide +kernel, rfl, by decide +kernel, by decide +kernel⟩, rfl, rfl, by decide +kernel⟩
theorem tx_is_hand : TxtOk tb ps_is_hand st_is_hand nn_is_hand fd_is_hand := ⟨⟨rfl, rfl, rfl, by decide +kernel, rfl, by decide +kernel, by decide +kernel⟩, rfl, rfl, by decide +kernel⟩
theorem tx_standing_error : TxtOk tb ps_standing_error st_standing_error nn_standing_error fd_standing_error := ⟨⟨rfl, rfl, rfl, by decide +kernel, rfl, by decide +kernel, by decide +kernel⟩, rfl, rfl, by decide +kernel⟩
theorem tx_position_error : TxtOk tb ps_position_error st_position_error nn_position_error fd_position_error := ⟨⟨rfl, rfl, rfl, by decide +kernel, rfl, by decide +kernel, by decide +kernel⟩, rfl, rfl, by decide +kernel⟩
theorem tx_empty_cells : TxtOk tb ps_empty_cells st_empty_cells nn_empty_cells fd_empty_cells := ⟨⟨rfl, rfl, rfl, by decide +kernel, rfl, by decide +kernel, by decide +kernel⟩, rfl, rfl, by decide +kernel⟩
theorem tx_taken : TxtOk tb ps_taken st_taken nn_taken fd_taken := ⟨⟨rfl, rfl, rfl, by decide +kernel, rfl, by decide +kernel, by decide +kernel⟩, rfl, rfl, by decide +kernel⟩
theorem tx_fillings : TxtOk tb ps_fillings st_fillings nn_fillings fd_fillings := ⟨⟨rfl, rfl, rfl, by decide +kernel, rfl, by decide +kernel, by decide +kernel⟩, rfl, rfl, by decide +kernel⟩
theorem tx_L_jar : TxtOk tb ps_L_jar st_L_jar nn_L_jar fd_L_jar := ⟨⟨rfl, rfl, rfl, by decide +kernel, rfl, by decide +kernel, by decide +kernel⟩, rfl, rfl, by decide +kernel⟩
theorem tx_L_draw2 : TxtOk tb ps_L_draw2 st_L_draw2 nn_L_draw2 fd_L_draw2 := ⟨⟨rfl, rfl, rfl, by decide +kernel, rfl, by decide +kernel, by decide +kernel⟩, rfl, rfl, by decide +kernel⟩
theorem tx_L_pick2 : TxtOk tb ps_L_pick2 st_L_pick2 nn_L_pick2 fd_L_pick2 := ⟨⟨rfl, rfl, rfl, by decide +kernel, rfl, by decide +kernel, by decide +kernel⟩, rfl, rfl, by decide +kernel⟩
theorem tx_L_mixed : TxtOk tb ps_L_mixed st_L_mixed nn_L_mixed fd_L_mixed := ⟨⟨rfl, rfl, rfl, by decide +kernel, rfl, by decide +kernel, by decide +kernel⟩, rfl, rfl, by decide +kernel⟩
theorem tx_L_position : TxtOk tb ps_L_position st_L_position nn_L_position fd_L_position := ⟨⟨rfl, rfl, rfl, by decide +kernel, rfl, by decide +kernel, by decide +kernel⟩, rfl, rfl, by decide +kernel⟩
theorem tx_L_is_hand : TxtOk tb ps_L_is_hand st_L_is_hand nn_L_is_hand fd_L_is_hand := ⟨⟨rfl, rfl, rfl, by decide +kernel, rfl, by decide +kernel, by decide +kernel⟩, rfl, rfl, by decide +kernel⟩
theorem tx_L_odd : TxtOk tb ps_L_odd st_L_odd nn_L_odd fd_L_odd := ⟨⟨rfl, rfl, rfl, by decide +kernel, rfl, by decide +kernel, by decide +kernel⟩, rfl, rfl, by decide +kernel⟩
theorem tx_L_boards : TxtOk tb ps_L_boards st_L_boards nn_L_boards fd_L_boards := ⟨⟨rfl, rfl, rfl, by decide +kernel, rfl, by decide +kernel, by decide +kernel⟩, rfl, rfl, by decide +kernel⟩
theorem tx_L_longer : TxtOk tb ps_L_longer st_L_longer nn_L_longer fd_L_longer := ⟨⟨rfl, rfl, rfl, by decide +kernel, rfl, by decide +kernel, by decide +kernel⟩, rfl, rfl, by decide +kernel⟩
theorem tx_L_put_in : TxtOk tb ps_L_put_in st_L_put_in nn_L_put_in fd_L_put_in := ⟨⟨rfl, rfl, rfl, by decide +kernel, rfl, by decide +kernel, by decide +kernel⟩, rfl, rfl, by decide +kernel⟩
theorem tx_L_heard : TxtOk tb ps_L_heard st_L_heard nn_L_heard fd_L_heard := ⟨⟨rfl, rfl, rfl, by decide +kernel, rfl, by decide +kernel, by decide +kernel⟩, rfl, rfl, by decide +kernel⟩
theorem tx_L_due : TxtOk tb ps_L_due st_L_due nn_L_due fd_L_due := ⟨⟨rfl, rfl, rfl, by decide +kernel, rfl, by decide +kernel, by decide +kernel⟩, rfl, rfl, by decide +kernel⟩
theorem tx_L_is_right : TxtOk tb ps_L_is_right st_L_is_right nn_L_is_right fd_L_is_right := ⟨⟨rfl, rfl, rfl, by decide +kernel, rfl, by decide +kernel, by decide +kernel⟩, rfl, rfl, by decide +kernel⟩
theorem tx_Llaw : TxtOk tb ps_Llaw st_Llaw nn_Llaw fd_Llaw := ⟨⟨rfl, rfl, rfl, by decide +kernel, rfl, by decide +kernel, by decide +kernel⟩, rfl, rfl, by decide +kernel⟩
abbrev xi_Unfit : Stmt := initS (topS 4)
/-! ### what the top has written -/
set_option maxHeartbeats 0 in
theorem prog_mk (Kw : Nat) {w : World} {K : PySem.W.Frag} {h : Heap} {mg : Str → Option Value} (X : K.In h) (G : h.Ns mainGlobals mg)
    {od0 an0 : Option Addr} {sl0 : Array (Option Value)} {oc0 kV0 dc0 pm0 cd0 ct0 : Value} {f0 : Addr}
    {od1 an1 : Option Addr} {sl1 : Array (Option Value)} {oc1 kV1 dc1 pm1 cd1 ct1 : Value} {f1 : Addr}
    {od2 an2 : Option Addr} {sl2 : Array (Option Value)} {oc2 kV2 dc2 pm2 cd2 ct2 : Value} {f2 : Addr}
    {od3 an3 : Option Addr} {sl3 : Array (Option Value)} {oc3 kV3 dc3 pm3 cd3 ct3 : Value} {f3 : Addr}
    {od4 an4 : Option Addr} {sl4 : Array (Option Value)} {oc4 kV4 dc4 pm4 cd4 ct4 : Value} {f4 : Addr}
    {od5 an5 : Option Addr} {sl5 : Array (Option Value)} {oc5 kV5 dc5 pm5 cd5 ct5 : Value} {f5 : Addr}
    {od6 an6 : Option Addr} {sl6 : Array (Option Value)} {oc6 kV6 dc6 pm6 cd6 ct6 : Value} {f6 : Addr}
    {od7 an7 : Option Addr} {sl7 : Array (Option Value)} {oc7 kV7 dc7 pm7 cd7 ct7 : Value} {f7 : Addr}
    {od8 an8 : Option Addr} {sl8 : Array (Option Value)} {oc8 kV8 dc8 pm8 cd8 ct8 : Value} {f8 : Addr}
    {od9 an9 : Option Addr} {sl9 : Array (Option Value)} {oc9 kV9 dc9 pm9 cd9 ct9 : Value} {f9 : Addr}
    {od10 an10 : Option Addr} {sl10 : Array (Option Value)} {oc10 kV10 dc10 pm10 cd10 ct10 : Value} {f10 : Addr}
    {od11 an11 : Option Addr} {sl11 : Array (Option Value)} {oc11 kV11 dc11 pm11 cd11 ct11 : Value} {f11 : Addr}
    {od12 an12 : Option Addr} {sl12 : Array (Option Value)} {oc12 kV12 dc12 pm12 cd12 ct12 : Value} {f12 : Addr}
    {od13 an13 : Option Addr} {sl13 : Array (Option Value)} {oc13 kV13 dc13 pm13 cd13 ct13 : Value} {f13 : Addr}
    {od14 an14 : Option Addr} {sl14 : Array (Option Value)} {oc14 kV14 dc14 pm14 cd14 ct14 : Value} {f14 : Addr}
    {od15 an15 : Option Addr} {sl15 : Array (Option Value)} {oc15 kV15 dc15 pm15 cd15 ct15 : Value} {f15 : Addr}
    {od16 an16 : Option Addr} {sl16 : Array (Option Value)} {oc16 kV16 dc16 pm16 cd16 ct16 : Value} {f16 : Addr}
    {od17 an17 : Option Addr} {sl17 : Array (Option Value)} {oc17 kV17 dc17 pm17 cd17 ct17 : Value} {f17 : Addr}
    {od18 an18 : Option Addr} {sl18 : Array (Option Value)} {oc18 kV18 dc18 pm18 cd18 ct18 : Value} {f18 : Addr}
    {od19 an19 : Option Addr} {sl19 : Array (Option Value)} {oc19 kV19 dc19 pm19 cd19 ct19 : Value} {f19 : Addr}
    {od20 an20 : Option Addr} {sl20 : Array (Option Value)} {oc20 kV20 dc20 pm20 cd20 ct20 : Value} {f20 : Addr}
    (a0 : PySem.W.nsIn K mainGlobals "is_integer" = some (some (.ref f0))) (l0 : K.lookup f0 = some ⟨oc0, od0, .func (PySem.W.fnOf "is_integer" "is_integer" (defArgs st_is_integer) (defBody st_is_integer) (defScope st_is_integer) .none kV0 dc0 pm0 an0 cd0 ct0), sl0⟩) (c0 : PySem.W.codeIn K cd0 "is_integer" = true) (k0 : PySem.W.keepIn K (.ref f0) = true)
    (a1 : PySem.W.nsIn K mainGlobals "is_hand" = some (some (.ref f1))) (l1 : K.lookup f1 = some ⟨oc1, od1, .func (PySem.W.fnOf "is_hand" "is_hand" (defArgs st_is_hand) (defBody st_is_hand) (defScope st_is_hand) .none kV1 dc1 pm1 an1 cd1 ct1), sl1⟩) (c1 : PySem.W.codeIn K cd1 "is_hand" = true) (k1 : PySem.W.keepIn K (.ref f1) = true)
    (a2 : PySem.W.nsIn K mainGlobals "standing_error" = some (some (.ref f2))) (l2 : K.lookup f2 = some ⟨oc2, od2, .func (PySem.W.fnOf "standing_error" "standing_error" (defArgs st_standing_error) (defBody st_standing_error) (defScope st_standing_error) .none kV2 dc2 pm2 an2 cd2 ct2), sl2⟩) (c2 : PySem.W.codeIn K cd2 "standing_error" = true) (k2 : PySem.W.keepIn K (.ref f2) = true)
    (a3 : PySem.W.nsIn K mainGlobals "position_error" = some (some (.ref f3))) (l3 : K.lookup f3 = some ⟨oc3, od3, .func (PySem.W.fnOf "position_error" "position_error" (defArgs st_position_error) (defBody st_position_error) (defScope st_position_error) .none kV3 dc3 pm3 an3 cd3 ct3), sl3⟩) (c3 : PySem.W.codeIn K cd3 "position_error" = true) (k3 : PySem.W.keepIn K (.ref f3) = true)
    (a4 : PySem.W.nsIn K mainGlobals "empty_cells" = some (some (.ref f4))) (l4 : K.lookup f4 = some ⟨oc4, od4, .func (PySem.W.fnOf "empty_cells" "empty_cells" (defArgs st_empty_cells) (defBody st_empty_cells) (defScope st_empty_cells) .none kV4 dc4 pm4 an4 cd4 ct4), sl4⟩) (c4 : PySem.W.codeIn K cd4 "empty_cells" = true) (k4 : PySem.W.keepIn K (.ref f4) = true)
    (a5 : PySem.W.nsIn K mainGlobals "taken" = some (some (.ref f5))) (l5 : K.lookup f5 = some ⟨oc5, od5, .func (PySem.W.fnOf "taken" "taken" (defArgs st_taken) (defBody st_taken) (defScope st_taken) .none kV5 dc5 pm5 an5 cd5 ct5), sl5⟩) (c5 : PySem.W.codeIn K cd5 "taken" = true) (k5 : PySem.W.keepIn K (.ref f5) = true)
    (a6 : PySem.W.nsIn K mainGlobals "fillings" = some (some (.ref f6))) (l6 : K.lookup f6 = some ⟨oc6, od6, .func (PySem.W.fnOf "fillings" "fillings" (defArgs st_fillings) (defBody st_fillings) (defScope st_fillings) .none kV6 dc6 pm6 an6 cd6 ct6), sl6⟩) (c6 : PySem.W.codeIn K cd6 "fillings" = true) (k6 : PySem.W.keepIn K (.ref f6) = true)
    (a7 : PySem.W.nsIn K mainGlobals "_law_jar" = some (some (.ref f7))) (l7 : K.lookup f7 = some ⟨oc7, od7, .func (PySem.W.fnOf "_law_jar" "_law_jar" (defArgs st_L_jar) (defBody st_L_jar) (defScope st_L_jar) .none kV7 dc7 pm7 an7 cd7 ct7), sl7⟩) (c7 : PySem.W.codeIn K cd7 "_law_jar" = true) (k7 : PySem.W.keepIn K (.ref f7) = true)
    (a8 : PySem.W.nsIn K mainGlobals "_law_draw" = some (some (.ref f8))) (l8 : K.lookup f8 = some ⟨oc8, od8, .func (PySem.W.fnOf "_law_draw" "_law_draw" (defArgs st_L_draw2) (defBody st_L_draw2) (defScope st_L_draw2) .none kV8 dc8 pm8 an8 cd8 ct8), sl8⟩) (c8 : PySem.W.codeIn K cd8 "_law_draw" = true) (k8 : PySem.W.keepIn K (.ref f8) = true)
    (a9 : PySem.W.nsIn K mainGlobals "_law_pick" = some (some (.ref f9))) (l9 : K.lookup f9 = some ⟨oc9, od9, .func (PySem.W.fnOf "_law_pick" "_law_pick" (defArgs st_L_pick2) (defBody st_L_pick2) (defScope st_L_pick2) .none kV9 dc9 pm9 an9 cd9 ct9), sl9⟩) (c9 : PySem.W.codeIn K cd9 "_law_pick" = true) (k9 : PySem.W.keepIn K (.ref f9) = true)
    (a10 : PySem.W.nsIn K mainGlobals "_law_mixed" = some (some (.ref f10))) (l10 : K.lookup f10 = some ⟨oc10, od10, .func (PySem.W.fnOf "_law_mixed" "_law_mixed" (defArgs st_L_mixed) (defBody st_L_mixed) (defScope st_L_mixed) .none kV10 dc10 pm10 an10 cd10 ct10), sl10⟩) (c10 : PySem.W.codeIn K cd10 "_law_mixed" = true) (k10 : PySem.W.keepIn K (.ref f10) = true)
    (a11 : PySem.W.nsIn K mainGlobals "_law_position" = some (some (.ref f11))) (l11 : K.lookup f11 = some ⟨oc11, od11, .func (PySem.W.fnOf "_law_position" "_law_position" (defArgs st_L_position) (defBody st_L_position) (defScope st_L_position) .none kV11 dc11 pm11 an11 cd11 ct11), sl11⟩) (c11 : PySem.W.codeIn K cd11 "_law_position" = true) (k11 : PySem.W.keepIn K (.ref f11) = true)
    (a12 : PySem.W.nsIn K mainGlobals "_law_is_hand" = some (some (.ref f12))) (l12 : K.lookup f12 = some ⟨oc12, od12, .func (PySem.W.fnOf "_law_is_hand" "_law_is_hand" (defArgs st_L_is_hand) (defBody st_L_is_hand) (defScope st_L_is_hand) .none kV12 dc12 pm12 an12 cd12 ct12), sl12⟩) (c12 : PySem.W.codeIn K cd12 "_law_is_hand" = true) (k12 : PySem.W.keepIn K (.ref f12) = true)
    (a13 : PySem.W.nsIn K mainGlobals "_law_odd" = some (some (.ref f13))) (l13 : K.lookup f13 = some ⟨oc13, od13, .func (PySem.W.fnOf "_law_odd" "_law_odd" (defArgs st_L_odd) (defBody st_L_odd) (defScope st_L_odd) .none kV13 dc13 pm13 an13 cd13 ct13), sl13⟩) (c13 : PySem.W.codeIn K cd13 "_law_odd" = true) (k13 : PySem.W.keepIn K (.ref f13) = true)
    (a14 : PySem.W.nsIn K mainGlobals "_law_boards" = some (some (.ref f14))) (l14 : K.lookup f14 = some ⟨oc14, od14, .func (PySem.W.fnOf "_law_boards" "_law_boards" (defArgs st_L_boards) (defBody st_L_boards) (defScope st_L_boards) .none kV14 dc14 pm14 an14 cd14 ct14), sl14⟩) (c14 : PySem.W.codeIn K cd14 "_law_boards" = true) (k14 : PySem.W.keepIn K (.ref f14) = true)
    (a15 : PySem.W.nsIn K mainGlobals "_law_longer" = some (some (.ref f15))) (l15 : K.lookup f15 = some ⟨oc15, od15, .func (PySem.W.fnOf "_law_longer" "_law_longer" (defArgs st_L_longer) (defBody st_L_longer) (defScope st_L_longer) .none kV15 dc15 pm15 an15 cd15 ct15), sl15⟩) (c15 : PySem.W.codeIn K cd15 "_law_longer" = true) (k15 : PySem.W.keepIn K (.ref f15) = true)
    (a16 : PySem.W.nsIn K mainGlobals "_law_put_in" = some (some (.ref f16))) (l16 : K.lookup f16 = some ⟨oc16, od16, .func (PySem.W.fnOf "_law_put_in" "_law_put_in" (defArgs st_L_put_in) (defBody st_L_put_in) (defScope st_L_put_in) .none kV16 dc16 pm16 an16 cd16 ct16), sl16⟩) (c16 : PySem.W.codeIn K cd16 "_law_put_in" = true) (k16 : PySem.W.keepIn K (.ref f16) = true)
    (a17 : PySem.W.nsIn K mainGlobals "_law_heard" = some (some (.ref f17))) (l17 : K.lookup f17 = some ⟨oc17, od17, .func (PySem.W.fnOf "_law_heard" "_law_heard" (defArgs st_L_heard) (defBody st_L_heard) (defScope st_L_heard) .none kV17 dc17 pm17 an17 cd17 ct17), sl17⟩) (c17 : PySem.W.codeIn K cd17 "_law_heard" = true) (k17 : PySem.W.keepIn K (.ref f17) = true)
    (a18 : PySem.W.nsIn K mainGlobals "_law_due" = some (some (.ref f18))) (l18 : K.lookup f18 = some ⟨oc18, od18, .func (PySem.W.fnOf "_law_due" "_law_due" (defArgs st_L_due) (defBody st_L_due) (defScope st_L_due) .none kV18 dc18 pm18 an18 cd18 ct18), sl18⟩) (c18 : PySem.W.codeIn K cd18 "_law_due" = true) (k18 : PySem.W.keepIn K (.ref f18) = true)
    (a19 : PySem.W.nsIn K mainGlobals "_law_is_right" = some (some (.ref f19))) (l19 : K.lookup f19 = some ⟨oc19, od19, .func (PySem.W.fnOf "_law_is_right" "_law_is_right" (defArgs st_L_is_right) (defBody st_L_is_right) (defScope st_L_is_right) .none kV19 dc19 pm19 an19 cd19 ct19), sl19⟩) (c19 : PySem.W.codeIn K cd19 "_law_is_right" = true) (k19 : PySem.W.keepIn K (.ref f19) = true)
    (a20 : PySem.W.nsIn K mainGlobals "law" = some (some (.ref f20))) (l20 : K.lookup f20 = some ⟨oc20, od20, .func (PySem.W.fnOf "law" "law" (defArgs st_Llaw) (defBody st_Llaw) (defScope st_Llaw) .none kV20 dc20 pm20 an20 cd20 ct20), sl20⟩) (c20 : PySem.W.codeIn K cd20 "law" = true) (k20 : PySem.W.keepIn K (.ref f20) = true)
    (z0 : PySem.W.nsIn K mainGlobals "isinstance" = some none)
    (z1 : PySem.W.nsIn K mainGlobals "bool" = some none)
    (z2 : PySem.W.nsIn K mainGlobals "int" = some none)
    (z3 : PySem.W.nsIn K mainGlobals "enumerate" = some none)
    (z4 : PySem.W.nsIn K mainGlobals "len" = some none)
    (z5 : PySem.W.nsIn K mainGlobals "tuple" = some none)
    (z6 : PySem.W.nsIn K mainGlobals "all" = some none)
    (z7 : PySem.W.nsIn K mainGlobals "list" = some none)
    (z8 : PySem.W.nsIn K mainGlobals "range" = some none)
    (z9 : PySem.W.nsIn K mainGlobals "repr" = some none)
    {XC0 XF0 Xcc0 Xcda0 XN0 : Addr} {Xnm0 Xq0 Xfile0 : Str} {Xbs0 Xbm0 Xsub0 : List Value} {Xsn0 : List Str} {Xab0 : Bool} {Xcol0 : Option Bool} {Xdd0 Xod0 Xan0 Xcdd0 Xcld0 : Option Addr} {Xk00 Xk10 Xk20 Xk30 Xk50 : Option Value} {XkV0 Xdoc0 Xpm0 Xct0 Xoc0 Xccl0 Xcl0 : Value} {Xsl0 Xccs0 Xcsl0 : Array (Option Value)} {Xvs0 : Array Value} {Xtf0 : Tok}
    (xa0 : PySem.W.nsIn K mainGlobals "Unfit" = some (some (.ref XC0))) (xo0 : K.lookup XC0 = some (excClassObj Xnm0 Xq0 XC0 XN0 Xbs0 Xbm0 true Xsn0 Xsub0 Xab0 Xcol0 Xdd0 Xk00 Xk10 Xk20 Xk30 Xk50 "ValueError.__new__")) (xr0 : PySem.HandSPX.refsVE Xbm0 = true)
    (xb0 : PySem.W.findIn K (.ref XC0) "__setattr__" = some (some (.builtin "object.__setattr__"))) (xe0 : PySem.W.subIn K (.ref XC0) (.type "BaseException") = some true) (xt0 : PySem.W.typeIn K (.ref XC0) = some (.type "type")) (xk0 : PySem.W.keepIn K (.ref XC0) = true)
    (xi0 : PySem.W.findIn K (.ref XC0) "__init__" = some (some (.ref XF0))) (xu0 : PySem.W.typeIn K (.ref XF0) = some (.type "function"))
    (xl0 : K.lookup XF0 = some ⟨Xoc0, Xod0, .func (PySem.W.ksFn "__init__" "Unfit.__init__" (defArgs xi_Unfit) (defBody xi_Unfit) (defScope xi_Unfit) .none XkV0 Xdoc0 Xpm0 Xan0 (.ref Xcda0) Xct0 Xcc0), Xsl0⟩) (xd0 : PySem.W.codeIn K (.ref Xcda0) "Unfit.__init__" = true)
    (xj0 : K.lookup Xcda0 = some ⟨Xccl0, Xcdd0, .fields Xvs0, Xccs0⟩) (xv0 : Xvs0[2]? = some (.str Xfile0 Xtf0)) (xf0 : ((PySem.Challenge.rw_drawnturns_k02_whole_cells_taken_and_fil.prog.main.file : Str) == Xfile0) = true) (xw0 : K.lookup Xcc0 = some ⟨Xcl0, Xcld0, .cell (some (.ref XC0)), Xcsl0⟩)
    (xm0 : PySem.W.mroIn K XC0 (.ref XC0) = some true) (xp0 : PySem.W.ks_superIn K XC0 XC0 "__init__" = some (some (.builtin "ValueError.__init__"))) (xy0 : PySem.W.subIn K (.ref XC0) (.type "ValueError") = some true) (xz0 : PySem.W.nsIn K cStatics "thirdparty.any" = some none) (xg0 : PySem.W.nsIn K mainGlobals "super" = some none)
    (xx0_0 : PySem.W.exmOne K (.ref XC0) (.ref XC0) = some true)
    {YC0 : Addr} (ya0 : PySem.W.nsIn K mainGlobals "TurnError" = some (some (.ref YC0)))
    (yg0 : PySem.W.findIn K (.ref XC0) "__getattribute__" = some (some (.builtin "BaseException.__getattribute__"))) (yh0 : PySem.W.findIn K (.ref XC0) "__getattr__" = some none) (yd0 : PySem.W.hasDictIn K XC0 = true) (yc0 : PySem.W.findIn K (.ref XC0) "__class__" = some (some (.builtin "object.__class__")))
    (yn0 : PySem.W.specialIn K (.builtin "object.__class__") "__get__" = some (some (.builtin "getset_descriptor.__get__"))) (yt0 : PySem.W.takesIn K (.builtin "object.__class__") = some true) (ym0 : PySem.W.mroIn K XC0 (.type "object") = some true)
    (yk0_0 : PySem.W.kitOne K (.ref XC0) (.ref YC0) = some true) :
    ProgOk PySem.Challenge.rw_drawnturns_k02_whole_cells_taken_and_fil.prog w (xs0 Kw) ⟨K, xcOf K exsL⟩ mg tb gg tab := by
  refine ⟨fun i x ps e => ?_, fun i x d e => ?_, fun x hx => ?_, fun x kvs hd => ?_, fun c x e => ?_⟩
  · match i, e with
    | 0, e =>
      cases e
      exact ⟨f0, _, PySem.W.mg_of X G a0, ⟨"is_integer", st_is_integer, nn_is_integer, fd_is_integer, fun_mk (st := st_is_integer) l0 c0 k0, rfl, tx_is_integer⟩, fun s us hl => match us, hl with | [_], _ => .of_eq rfl, fun n ks pm hk => absurd hk (by simp [tb])⟩
    | 1, e =>
      cases e
      exact ⟨f1, _, PySem.W.mg_of X G a1, ⟨"is_hand", st_is_hand, nn_is_hand, fd_is_hand, fun_mk (st := st_is_hand) l1 c1 k1, rfl, tx_is_hand⟩, fun s us hl => match us, hl with | [_], _ => .of_eq rfl, fun n ks pm hk => absurd hk (by simp [tb])⟩
    | 2, e =>
      cases e
      exact ⟨f2, _, PySem.W.mg_of X G a2, ⟨"standing_error", st_standing_error, nn_standing_error, fd_standing_error, fun_mk (st := st_standing_error) l2 c2 k2, rfl, tx_standing_error⟩, fun s us hl => match us, hl with | [_, _], _ => .of_eq rfl, fun n ks pm hk => absurd hk (by simp [tb])⟩
    | 3, e =>
      cases e
      exact ⟨f3, _, PySem.W.mg_of X G a3, ⟨"position_error", st_position_error, nn_position_error, fd_position_error, fun_mk (st := st_position_error) l3 c3 k3, rfl, tx_position_error⟩, fun s us hl => match us, hl with | [_, _], _ => .of_eq rfl, fun n ks pm hk => absurd hk (by simp [tb])⟩
    | 4, e =>
      cases e
      have kw4 : ∀ n ks pm, (4, n, ks, pm) ∈ tb.kws → pm.length = 1 ∧ (∀ j ∈ pm, j < n + ks.length) ∧ ∀ (s : Shared) (us ws : List Value), us.length = n → ws.length = ks.length → BindsTo s (PySem.W.fnOf "empty_cells" "empty_cells" (defArgs st_empty_cells) (defBody st_empty_cells) (defScope st_empty_cells) .none kV4 dc4 pm4 an4 cd4 ct4) ⟨us, ks.zip ws⟩ (ps_empty_cells.zip (pm.map fun j => (us ++ ws).getD j .none)) := by
        intro n ks pm hk
        simp [tb] at hk
        rcases hk with ⟨rfl, rfl, rfl⟩
        · exact ⟨rfl, by decide, fun s us ws h1 h2 => match us, ws, h1, h2 with | [], [_], _, _ => .of_eq rfl⟩
      exact ⟨f4, _, PySem.W.mg_of X G a4, ⟨"empty_cells", st_empty_cells, nn_empty_cells, fd_empty_cells, fun_mk (st := st_empty_cells) l4 c4 k4, rfl, tx_empty_cells⟩, fun s us hl => match us, hl with | [_], _ => .of_eq rfl, fun n ks pm hk => kw4 n ks pm hk⟩
    | 5, e =>
      cases e
      have kw5 : ∀ n ks pm, (5, n, ks, pm) ∈ tb.kws → pm.length = 3 ∧ (∀ j ∈ pm, j < n + ks.length) ∧ ∀ (s : Shared) (us ws : List Value), us.length = n → ws.length = ks.length → BindsTo s (PySem.W.fnOf "taken" "taken" (defArgs st_taken) (defBody st_taken) (defScope st_taken) .none kV5 dc5 pm5 an5 cd5 ct5) ⟨us, ks.zip ws⟩ (ps_taken.zip (pm.map fun j => (us ++ ws).getD j .none)) := by
        intro n ks pm hk
        simp [tb] at hk
        rcases hk with ⟨rfl, rfl, rfl⟩
        · exact ⟨rfl, by decide, fun s us ws h1 h2 => match us, ws, h1, h2 with | [], [_, _, _], _, _ => .of_eq rfl⟩
      exact ⟨f5, _, PySem.W.mg_of X G a5, ⟨"taken", st_taken, nn_taken, fd_taken, fun_mk (st := st_taken) l5 c5 k5, rfl, tx_taken⟩, fun s us hl => match us, hl with | [_, _, _], _ => .of_eq rfl, fun n ks pm hk => kw5 n ks pm hk⟩
    | 6, e =>
      cases e
      have kw6 : ∀ n ks pm, (6, n, ks, pm) ∈ tb.kws → pm.length = 1 ∧ (∀ j ∈ pm, j < n + ks.length) ∧ ∀ (s : Shared) (us ws : List Value), us.length = n → ws.length = ks.length → BindsTo s (PySem.W.fnOf "fillings" "fillings" (defArgs st_fillings) (defBody st_fillings) (defScope st_fillings) .none kV6 dc6 pm6 an6 cd6 ct6) ⟨us, ks.zip ws⟩ (ps_fillings.zip (pm.map fun j => (us ++ ws).getD j .none)) := by
        intro n ks pm hk
        simp [tb] at hk
        rcases hk with ⟨rfl, rfl, rfl⟩
        · exact ⟨rfl, by decide, fun s us ws h1 h2 => match us, ws, h1, h2 with | [], [_], _, _ => .of_eq rfl⟩
      exact ⟨f6, _, PySem.W.mg_of X G a6, ⟨"fillings", st_fillings, nn_fillings, fd_fillings, fun_mk (st := st_fillings) l6 c6 k6, rfl, tx_fillings⟩, fun s us hl => match us, hl with | [_], _ => .of_eq rfl, fun n ks pm hk => kw6 n ks pm hk⟩
    | 7, e =>
      cases e
      exact ⟨f7, _, PySem.W.mg_of X G a7, ⟨"_law_jar", st_L_jar, nn_L_jar, fd_L_jar, fun_mk (st := st_L_jar) l7 c7 k7, rfl, tx_L_jar⟩, fun s us hl => match us, hl with | [_], _ => .of_eq rfl, fun n ks pm hk => absurd hk (by simp [tb])⟩
    | 8, e =>
      cases e
      exact ⟨f8, _, PySem.W.mg_of X G a8, ⟨"_law_draw", st_L_draw2, nn_L_draw2, fd_L_draw2, fun_mk (st := st_L_draw2) l8 c8 k8, rfl, tx_L_draw2⟩, fun s us hl => match us, hl with | [_, _], _ => .of_eq rfl, fun n ks pm hk => absurd hk (by simp [tb])⟩
    | 9, e =>
      cases e
      exact ⟨f9, _, PySem.W.mg_of X G a9, ⟨"_law_pick", st_L_pick2, nn_L_pick2, fd_L_pick2, fun_mk (st := st_L_pick2) l9 c9 k9, rfl, tx_L_pick2⟩, fun s us hl => match us, hl with | [_, _], _ => .of_eq rfl, fun n ks pm hk => absurd hk (by simp [tb])⟩
    | 10, e =>
      cases e
      exact ⟨f10, _, PySem.W.mg_of X G a10, ⟨"_law_mixed", st_L_mixed, nn_L_mixed, fd_L_mixed, fun_mk (st := st_L_mixed) l10 c10 k10, rfl, tx_L_mixed⟩, fun s us hl => match us, hl with | [_, _], _ => .of_eq rfl, fun n ks pm hk => absurd hk (by simp [tb])⟩
    | 11, e =>
      cases e
      exact ⟨f11, _, PySem.W.mg_of X G a11, ⟨"_law_position", st_L_position, nn_L_position, fd_L_position, fun_mk (st := st_L_position) l11 c11 k11, rfl, tx_L_position⟩, fun s us hl => match us, hl with | [_, _], _ => .of_eq rfl, fun n ks pm hk => absurd hk (by simp [tb])⟩
    | 12, e =>
      cases e
      exact ⟨f12, _, PySem.W.mg_of X G a12, ⟨"_law_is_hand", st_L_is_hand, nn_L_is_hand, fd_L_is_hand, fun_mk (st := st_L_is_hand) l12 c12 k12, rfl, tx_L_is_hand⟩, fun s us hl => match us, hl with | [_], _ => .of_eq rfl, fun n ks pm hk => absurd hk (by simp [tb])⟩
    | 13, e =>
      cases e
      exact ⟨f13, _, PySem.W.mg_of X G a13, ⟨"_law_odd", st_L_odd, nn_L_odd, fd_L_odd, fun_mk (st := st_L_odd) l13 c13 k13, rfl, tx_L_odd⟩, fun s us hl => match us, hl with | [_], _ => .of_eq rfl, fun n ks pm hk => absurd hk (by simp [tb])⟩
    | 14, e =>
      cases e
      exact ⟨f14, _, PySem.W.mg_of X G a14, ⟨"_law_boards", st_L_boards, nn_L_boards, fd_L_boards, fun_mk (st := st_L_boards) l14 c14 k14, rfl, tx_L_boards⟩, fun s us hl => match us, hl with | [_], _ => .of_eq rfl, fun n ks pm hk => absurd hk (by simp [tb])⟩
    | 15, e =>
      cases e
      exact ⟨f15, _, PySem.W.mg_of X G a15, ⟨"_law_longer", st_L_longer, nn_L_longer, fd_L_longer, fun_mk (st := st_L_longer) l15 c15 k15, rfl, tx_L_longer⟩, fun s us hl => match us, hl with | [_, _], _ => .of_eq rfl, fun n ks pm hk => absurd hk (by simp [tb])⟩
    | 16, e =>
      cases e
      exact ⟨f16, _, PySem.W.mg_of X G a16, ⟨"_law_put_in", st_L_put_in, nn_L_put_in, fd_L_put_in, fun_mk (st := st_L_put_in) l16 c16 k16, rfl, tx_L_put_in⟩, fun s us hl => match us, hl with | [_, _, _, _], _ => .of_eq rfl, fun n ks pm hk => absurd hk (by simp [tb])⟩
    | 17, e =>
      cases e
      exact ⟨f17, _, PySem.W.mg_of X G a17, ⟨"_law_heard", st_L_heard, nn_L_heard, fd_L_heard, fun_mk (st := st_L_heard) l17 c17 k17, rfl, tx_L_heard⟩, fun s us hl => match us, hl with | [_, _, _, _], _ => .of_eq rfl, fun n ks pm hk => absurd hk (by simp [tb])⟩
    | 18, e =>
      cases e
      exact ⟨f18, _, PySem.W.mg_of X G a18, ⟨"_law_due", st_L_due, nn_L_due, fd_L_due, fun_mk (st := st_L_due) l18 c18 k18, rfl, tx_L_due⟩, fun s us hl => match us, hl with | [_, _, _], _ => .of_eq rfl, fun n ks pm hk => absurd hk (by simp [tb])⟩
    | 19, e =>
      cases e
      exact ⟨f19, _, PySem.W.mg_of X G a19, ⟨"_law_is_right", st_L_is_right, nn_L_is_right, fd_L_is_right, fun_mk (st := st_L_is_right) l19 c19 k19, rfl, tx_L_is_right⟩, fun s us hl => match us, hl with | [_, _, _, _], _ => .of_eq rfl, fun n ks pm hk => absurd hk (by simp [tb])⟩
    | 20, e =>
      cases e
      exact ⟨f20, _, PySem.W.mg_of X G a20, ⟨"law", st_Llaw, nn_Llaw, fd_Llaw, fun_mk (st := st_Llaw) l20 c20 k20, rfl, tx_Llaw⟩, fun s us hl => match us, hl with | [_], _ => .of_eq rfl, fun n ks pm hk => absurd hk (by simp [tb])⟩
    | i + 21, e => exact absurd e (by simp [tb, fnsL])
  · exact absurd e (by simp [tb, cnsL])
  · simp [tb] at hx
    rcases hx with rfl | rfl | rfl | rfl | rfl | rfl | rfl | rfl | rfl | rfl
    · exact PySem.W.mg_none_of X G z0
    · exact PySem.W.mg_none_of X G z1
    · exact PySem.W.mg_none_of X G z2
    · exact PySem.W.mg_none_of X G z3
    · exact PySem.W.mg_none_of X G z4
    · exact PySem.W.mg_none_of X G z5
    · exact PySem.W.mg_none_of X G z6
    · exact PySem.W.mg_none_of X G z7
    · exact PySem.W.mg_none_of X G z8
    · exact PySem.W.mg_none_of X G z9
  · exact absurd hd (by simp [tb])
  have xq0 : xcOf K exsL "Unfit" = some XC0 := by simp [xcOf, exsL, xa0]
  · match c, e with
    | 0, e =>
      cases e
      refine ⟨?_, ?_⟩
      rotate_left
      · intro y hy
        simp [tb] at hy
        rcases hy with rfl
        · refine ⟨YC0, PySem.W.mg_of X G ya0, fun z C hz hs => ?_⟩
          have hz : xcOf K exsL z = some C := hz
          unfold xcOf at hz
          split at hz
          · rename_i hc
            simp only [exsL, List.contains_cons, List.contains_nil, Bool.or_false, Bool.or_eq_true, beq_iff_eq] at hc
            rcases hc with rfl
            · simp only [xa0] at hz; cases hz; exact ⟨⟨yg0, yh0, xe0, yd0, yc0, yn0, yt0, ym0⟩, yk0_0⟩
          · cases hz
      refine ⟨XC0, XF0, PySem.W.mg_of X G xa0, xq0, rfl, ⟨⟨_, _, _, _, _, _, _, _, _, _, _, _, _, _, _, xo0, xr0⟩, xb0, xe0, xt0, xk0⟩, ⟨⟨_, _, _, _, _, _, _, _, _, _, _, _, _, _, _, _, _, _, _, _, _, _, _, _, _, _, _, _, _, _, _, xl0, xd0, fun s a => .of_eq rfl, rfl, xj0, xv0, xf0, xw0, by decide +kernel, by decide +kernel, by decide +kernel, rfl, rfl, rfl, by decide +kernel, fun env => rfl⟩, xm0, xp0, xy0, xz0, xg0, by decide +kernel⟩, xi0, xu0, fun y D hy => ?_⟩
      have hy : xcOf K exsL y = some D := hy
      unfold xcOf at hy
      split at hy
      · rename_i hc
        simp only [exsL, List.contains_cons, List.contains_nil, Bool.or_false, Bool.or_eq_true, beq_iff_eq] at hc
        rcases hc with rfl
        · simp only [xa0] at hy; cases hy; exact xx0_0
      · cases hy
    | i + 1, e => exact absurd e (by simp [tb, exsL])
/-- the law's program -/
def run (K n : Nat) : Gm := callF gg (xs0 K) tab n
theorem run_is_integer (K n : Nat) {h : Hm} (a0 : D) : run K (n + 1) i_is_integer [a0] h = gcR h.length (outR (exs (callM (run K n)) gg (xs0 K) b_is_integer [some a0] h)) := callF_tab (d := fd_is_integer) rfl
theorem run_is_hand (K n : Nat) {h : Hm} (a0 : D) : run K (n + 1) i_is_hand [a0] h = gcR h.length (outR (exs (callM (run K n)) gg (xs0 K) b_is_hand [some a0] h)) := callF_tab (d := fd_is_hand) rfl
theorem run_standing_error (K n : Nat) {h : Hm} (a0 a1 : D) : run K (n + 1) i_standing_error [a0, a1] h = gcR h.length (outR (exs (callM (run K n)) gg (xs0 K) b_standing_error [some a0, some a1, none, none] h)) := callF_tab (d := fd_standing_error) rfl
theorem run_position_error (K n : Nat) {h : Hm} (a0 a1 : D) : run K (n + 1) i_position_error [a0, a1] h = gcR h.length (outR (exs (callM (run K n)) gg (xs0 K) b_position_error [some a0, some a1, none, none, none] h)) := callF_tab (d := fd_position_error) rfl
theorem run_empty_cells (K n : Nat) {h : Hm} (a0 : D) : run K (n + 1) i_empty_cells [a0] h = gcR h.length (outR (exs (callM (run K n)) gg (xs0 K) b_empty_cells [some a0, none, none] h)) := callF_tab (d := fd_empty_cells) rfl
theorem run_taken (K n : Nat) {h : Hm} (a0 a1 a2 : D) : run K (n + 1) i_taken [a0, a1, a2] h = gcR h.length (outR (exs (callM (run K n)) gg (xs0 K) b_taken [some a0, some a1, some a2, none, none] h)) := callF_tab (d := fd_taken) rfl
theorem run_fillings (K n : Nat) {h : Hm} (a0 : D) : run K (n + 1) i_fillings [a0] h = gcR h.length (outR (exs (callM (run K n)) gg (xs0 K) b_fillings [some a0, none, none, none, none, none] h)) := callF_tab (d := fd_fillings) rfl
theorem run_L_jar (K n : Nat) {h : Hm} (a0 : D) : run K (n + 1) i_L_jar [a0] h = gcR h.length (outR (exs (callM (run K n)) gg (xs0 K) b_L_jar [some a0, none, none, none, none] h)) := callF_tab (d := fd_L_jar) rfl
theorem run_L_draw2 (K n : Nat) {h : Hm} (a0 a1 : D) : run K (n + 1) i_L_draw2 [a0, a1] h = gcR h.length (outR (exs (callM (run K n)) gg (xs0 K) b_L_draw2 [some a0, some a1, none, none, none, none, none] h)) := callF_tab (d := fd_L_draw2) rfl
theorem run_L_pick2 (K n : Nat) {h : Hm} (a0 a1 : D) : run K (n + 1) i_L_pick2 [a0, a1] h = gcR h.length (outR (exs (callM (run K n)) gg (xs0 K) b_L_pick2 [some a0, some a1] h)) := callF_tab (d := fd_L_pick2) rfl
theorem run_L_mixed (K n : Nat) {h : Hm} (a0 a1 : D) : run K (n + 1) i_L_mixed [a0, a1] h = gcR h.length (outR (exs (callM (run K n)) gg (xs0 K) b_L_mixed [some a0, some a1, none, none] h)) := callF_tab (d := fd_L_mixed) rfl
theorem run_L_position (K n : Nat) {h : Hm} (a0 a1 : D) : run K (n + 1) i_L_position [a0, a1] h = gcR h.length (outR (exs (callM (run K n)) gg (xs0 K) b_L_position [some a0, some a1, none, none, none, none, none] h)) := callF_tab (d := fd_L_position) rfl
theorem run_L_is_hand (K n : Nat) {h : Hm} (a0 : D) : run K (n + 1) i_L_is_hand [a0] h = gcR h.length (outR (exs (callM (run K n)) gg (xs0 K) b_L_is_hand [some a0] h)) := callF_tab (d := fd_L_is_hand) rfl
theorem run_L_odd (K n : Nat) {h : Hm} (a0 : D) : run K (n + 1) i_L_odd [a0] h = gcR h.length (outR (exs (callM (run K n)) gg (xs0 K) b_L_odd [some a0, none] h)) := callF_tab (d := fd_L_odd) rfl
theorem run_L_boards (K n : Nat) {h : Hm} (a0 : D) : run K (n + 1) i_L_boards [a0] h = gcR h.length (outR (exs (callM (run K n)) gg (xs0 K) b_L_boards [some a0, none, none, none] h)) := callF_tab (d := fd_L_boards) rfl
theorem run_L_longer (K n : Nat) {h : Hm} (a0 a1 : D) : run K (n + 1) i_L_longer [a0, a1] h = gcR h.length (outR (exs (callM (run K n)) gg (xs0 K) b_L_longer [some a0, some a1, none, none, none] h)) := callF_tab (d := fd_L_longer) rfl
theorem run_L_put_in (K n : Nat) {h : Hm} (a0 a1 a2 a3 : D) : run K (n + 1) i_L_put_in [a0, a1, a2, a3] h = gcR h.length (outR (exs (callM (run K n)) gg (xs0 K) b_L_put_in [some a0, some a1, some a2, some a3] h)) := callF_tab (d := fd_L_put_in) rfl
theorem run_L_heard (K n : Nat) {h : Hm} (a0 a1 a2 a3 : D) : run K (n + 1) i_L_heard [a0, a1, a2, a3] h = gcR h.length (outR (exs (callM (run K n)) gg (xs0 K) b_L_heard [some a0, some a1, some a2, some a3, none] h)) := callF_tab (d := fd_L_heard) rfl
theorem run_L_due (K n : Nat) {h : Hm} (a0 a1 a2 : D) : run K (n + 1) i_L_due [a0, a1, a2] h = gcR h.length (outR (exs (callM (run K n)) gg (xs0 K) b_L_due [some a0, some a1, some a2, none, none, none, none] h)) := callF_tab (d := fd_L_due) rfl
theorem run_L_is_right (K n : Nat) {h : Hm} (a0 a1 a2 a3 : D) : run K (n + 1) i_L_is_right [a0, a1, a2, a3] h = gcR h.length (outR (exs (callM (run K n)) gg (xs0 K) b_L_is_right [some a0, some a1, some a2, some a3, none] h)) := callF_tab (d := fd_L_is_right) rfl
theorem run_Llaw (K n : Nat) {h : Hm} (a0 : D) : run K (n + 1) i_Llaw [a0] h = gcR h.length (outR (exs (callM (run K n)) gg (xs0 K) b_Llaw [some a0, none, none, none, none, none, none, none, none, none, none, none, none, none] h)) := callF_tab (d := fd_Llaw) rfl
end Mi

set_option Elab.async false
set_option linter.all false
set_option maxRecDepth 100000
namespace Mi
open PySem
/-- the jar, its far cells, its cells -/
abbrev jkO (s c : Int) : O := .dic [(.inr "far", .ref 1), (.inr "cells", .ref 2), (.inr "seal", .int s), (.inr "count", .int c)]
abbrev jkH (f cs : List Int) (s c : Int) : Hm := [jkO s c, .lst (f.map .int), .lst (cs.map .int)]
section
variable {s c : Int} {f cs : List Int} {rest : Hm}
theorem jx_far : ixD (jkO s c :: rest) (.ref 0) (.str "far") = some (.ref 1) := by simp [ixD, keyOf, lookK]
theorem jx_cells : ixD (jkO s c :: rest) (.ref 0) (.str "cells") = some (.ref 2) := by simp [ixD, keyOf, lookK]
theorem jx_seal : ixD (jkO s c :: rest) (.ref 0) (.str "seal") = some (.int s) := by simp [ixD, keyOf, lookK]
theorem jx_count : ixD (jkO s c :: rest) (.ref 0) (.str "count") = some (.int c) := by simp [ixD, keyOf, lookK]
theorem jset_count (d : Int) : setI (jkO s c :: rest) (.ref 0) (.str "count") (.int d) = .ok () (jkO s d :: rest) := by
  simp [setI, keyOf, putK]
theorem j_closed (f cs : List Int) (s c : Int) : ∀ o ∈ jkH f cs s c, ∀ n ∈ o.refs, n < (jkH f cs s c).length := by
  intro o ho n hn
  simp only [List.mem_cons, List.not_mem_nil, or_false] at ho
  rcases ho with rfl | rfl | rfl
  · simp [O.refs, kvRefs, D.refs] at hn; rcases hn with rfl | rfl <;> simp
  · simp [O.refs, ints_refs] at hn
  · simp [O.refs, ints_refs] at hn
theorem gc_j {v : D} (hv : v.refs = []) : gcR 3 (.ok v (jkO s c :: .lst (f.map .int) :: .lst (cs.map .int) :: rest)) = .ok v (jkH f cs s c) :=
  gcR_keep (h0 := jkH f cs s c) (rest := rest) rfl (j_closed f cs s c) (by simp [hv])
theorem callM_j {Γ : Gm} {k : Nat} {as : List D} {f' cs' : List Int} {s' c' : Int} {v : D} (ha : D.refsL as = []) (hv : v.refs = []) (e : Γ k (.ref 0 :: as) (jkH f cs s c) = .ok v (jkH f' cs' s' c')) :
    callM Γ k (.ref 0 :: as) (jkO s c :: .lst (f.map .int) :: .lst (cs.map .int) :: rest) = .ok v (jkO s' c' :: .lst (f'.map .int) :: .lst (cs'.map .int) :: rest) := by
  refine callM_keep (h0 := jkH f cs s c) (h0' := jkH f' cs' s' c') (rest := rest) (j_closed f cs s c) ?_ ?_ rfl (by simpa using j_closed f' cs' s' c') hv e
  · show reach (99997 + 1 + 1 + 1) _ (D.refsL (.ref 0 :: as)) [] = _
    simp [reach, O.refs, kvRefs, D.refs, D.refsL, ha, ints_refs, nums]
  · simp [D.refsL, D.refs, ha]
end
section
variable {s c : Int} {f cs : List Int} {rest : Hm}
theorem jeq_far : eqD (jkO s c :: .lst (f.map .int) :: rest) (.ref 1) (.lv []) = some (decide (f = [])) := eq_lnil rfl
theorem jok_far {g : List D} {m : Me} (hf : m.onL = true) : meOk (jkO s c :: .lst g :: rest) m (.ref 1) = true := ok_ref (ds := g) rfl hf
theorem jok_pop {g : List D} : meOk (jkO s c :: .lst g :: rest) .pop (.ref 1) = true := jok_far rfl
theorem jok_ins {g : List D} : meOk (jkO s c :: .lst g :: rest) .insert (.ref 1) = true := jok_far rfl
theorem jpop {x : Int} : meD (jkO s c :: .lst ((x :: f).map .int) :: rest) .pop (.ref 1) [.int 0] = .ok (.int x) (jkO s c :: .lst (f.map .int) :: rest) := by
  simp [meD, meL]
theorem jins {x : Int} (hl : f.length < 16777216) : meD (jkO s c :: .lst (f.map .int) :: rest) .insert (.ref 1) [.int 0, .int x] = .ok .non (jkO s c :: .lst ((x :: f).map .int) :: rest) := by
  simp [meD, meL, hl]
theorem jlen : biD (jkO s c :: .lst (f.map .int) :: .lst (cs.map .int) :: rest) .len [.ref 2] = some (.int cs.length) := by
  simp [biD, bi1, lenD, seqOf, lstOf]
theorem jcell {i : Int} (h0 : 0 ≤ i) (h1 : i < cs.length) : ixD (jkO s c :: .lst (f.map .int) :: .lst (cs.map .int) :: rest) (.ref 2) (.int i) = some (.int (cs.getD i.toNat 0)) := by
  rw [ix_ref' (ds := cs.map .int) rfl, atI_lt (j := i.toNat) (by omega) (by rw [List.length_map]; omega), List.getElem?_map, List.getD_eq_getElem?_getD, List.getElem?_eq_getElem (by omega)]
  rfl
end
theorem r_jdraw (K n : Nat) (f cs : List Int) (s c many : Int) (hp : 0 < many) (hm : Bt 300 many) (hf : f.length ≤ 100) (hc : 1 ≤ cs.length) (c0 : 0 ≤ c) (c1 : c ≤ 1000000) :
    ∃ r f' c', run K (n + 1) i_L_draw2 [.ref 0, .int many] (jkH f cs s c) = .ok (.int r) (jkH f' cs s c') ∧ f'.length ≤ 100 ∧ 0 ≤ r ∧ r < many ∧ 0 ≤ c' ∧ c' ≤ c + 1 := by
  cases f with
  | nil =>
    have e := fun (c : Int) => jeq_far (f := []) (s := s) (c := c) (rest := [.lst (cs.map .int)])
    have gc := fun (c : Int) (v : D) (hv : v.refs = []) => gc_j (f := []) (cs := cs) (s := s) (c := c) (rest := []) hv
    have i0 : 0 ≤ (c + 1) % (cs.length : Int) := Int.emod_nonneg _ (by omega)
    have i1 : (c + 1) % (cs.length : Int) < cs.length := Int.emod_lt_of_pos _ (by omega)
    have jc := fun (c' : Int) => jcell (s := s) (c := c') (f := []) (cs := cs) (rest := []) i0 i1
    have jl := fun (c' : Int) => jlen (s := s) (c := c') (f := []) (cs := cs) (rest := [])
    have sq := fun (h : Hm) => mul_lit (h := h) (i := c + 1) (j := c + 1) (by omega)
    have lp : 0 < cs.length := by omega
    simp only [List.map_nil] at e gc jc jl
    obtain ⟨r, er⟩ : ∃ r : Int, run K (n + 1) i_L_draw2 [.ref 0, .int many] (jkH [] cs s c) = .ok (.int (r % many)) (jkH [] cs s (c + 1)) := by
      refine ⟨((((s + 7919 * cs.getD ((c + 1) % (cs.length : Int)).toNat 0 + 104729 * (c + 1)) % 4294967291 * 22695477 + (c + 1) * (c + 1) + 1) % 4294967291 * 48271 + ((s + 7919 * cs.getD ((c + 1) % (cs.length : Int)).toNat 0 + 104729 * (c + 1)) % 4294967291 * 22695477 + (c + 1) * (c + 1) + 1) % 4294967291 / 65536) % 4294967279) / 1024, ?_⟩
      rw [run_L_draw2]
      simp [b_L_draw2, jx_far, jx_cells, jx_seal, jx_count, jset_count, jkH, e, mul_lit, mul_emod, div_lit, hp, jc, jl, sq, lp]
      exact gc _ _ (by simp [D.refs])
    exact ⟨r % many, [], c + 1, er, by simp, Int.emod_nonneg _ (by omega), Int.emod_lt_of_pos _ hp, by omega, by omega⟩
  | cons x f =>
    simp only [List.length_cons] at hf
    by_cases hx : many ≤ x
    · refine ⟨x % many, x / many :: f, c, ?_, by simp; omega, Int.emod_nonneg _ (by omega), Int.emod_lt_of_pos _ hp, c0, by omega⟩
      rw [run_L_draw2]
      simp [b_L_draw2, jx_far, jkH, jeq_far, -List.map_cons, jok_pop, jok_ins, jpop, hx, div_bt hp hm, jins (show f.length < 16777216 by omega), hp]
      exact gc_j (by simp [D.refs])
    · refine ⟨x % many, f, c, ?_, by omega, Int.emod_nonneg _ (by omega), Int.emod_lt_of_pos _ hp, c0, by omega⟩
      rw [run_L_draw2]
      simp [b_L_draw2, jx_far, jkH, jeq_far, -List.map_cons, jok_pop, jok_ins, jpop, hx, hp]
      exact gc_j (by simp [D.refs])
theorem c_jdraw (K n : Nat) {f cs : List Int} {s c many : Int} {rest : Hm} (hp : 0 < many) (hm : Bt 300 many) (hf : f.length ≤ 100) (hc : 1 ≤ cs.length) (c0 : 0 ≤ c) (c1 : c ≤ 1000000) :
    ∃ r f' c', callM (run K (n + 1)) i_L_draw2 [.ref 0, .int many] (jkO s c :: .lst (f.map .int) :: .lst (cs.map .int) :: rest) = .ok (.int r) (jkO s c' :: .lst (List.map D.int f') :: .lst (cs.map .int) :: rest) ∧ f'.length ≤ 100 ∧ 0 ≤ r ∧ r < many ∧ 0 ≤ c' ∧ c' ≤ c + 1 := by
  obtain ⟨r, f', c', e, a⟩ := r_jdraw K n f cs s c many hp hm hf hc c0 c1
  exact ⟨r, f', c', callM_j (by simp [D.refsL, D.refs]) (by simp [D.refs]) e, a⟩
end Mi

set_option Elab.async false
set_option linter.all false
set_option maxRecDepth 100000
namespace Mi
open PySem
theorem cut63 (ns : List Int) : (cutL ns none (some 63)).length ≤ 63 := by
  unfold cutL
  rw [HT.sIx_none, show HT.sIx ns.length ns.length (some 63) = min 63 ns.length from HT.sIx_nat ns.length ns.length 63]
  simp
  omega
theorem r_jar (K n : Nat) (ns : List Int) : ∃ f cs s, run K (n + 1) i_L_jar [.fl (ns.map .int)] [] = .ok (.ref 0) (jkH f cs s 0) ∧ f.length ≤ 100 ∧ 1 ≤ cs.length := by
  rw [run_L_jar]
  have e0 : slD [] (.fl (ns.map .int)) none (some (.int 63)) = some (.lv ((cutL ns none (some 63)).map .int)) := by
    simp [slD, ixI, cutD, lstOf, cut_map]
  have l1 := cut63 ns
  generalize cutL ns none (some 63) = cells at e0 l1
  have c1 := comp_ints (step := stepC (evF (callM (run K n)) gg .nil) (ev (callM (run K n)) gg b_L_jar_0) (.n 1) [some (.fl (ns.map .int)), none, none, none, none] [1]) (src := none) (h := []) (fun x => some (if 0 ≤ x then 2 * x else -2 * x - 1)) rfl (fun i => by
    by_cases hi : 0 ≤ i <;> simp [stepC, wipeD, b_L_jar_0, hi, mul_lit, nox]) cells
  have l2 : (cells.filterMap fun x : Int => some (if 0 ≤ x then 2 * x else -2 * x - 1)).length ≤ 63 := by
    have := List.length_filterMap_le (fun x : Int => some (if 0 ≤ x then 2 * x else -2 * x - 1)) cells
    omega
  generalize (cells.filterMap fun x : Int => some (if 0 ≤ x then 2 * x else -2 * x - 1)) = C at c1 l2
  obtain ⟨ρ', h', e, s, o, k, rfl, rfl, es, e1⟩ := for_rule (step := forS (exs (callM (run K n)) gg (xs0 K) b_L_jar_1) (T.n 1)) (src := some (0, .lst (C.map .int)))
    (fun ds ρ h => ∃ (s : Int) (o : Option D) (k : Nat), ρ = [some (.fl (ns.map .int)), o, none, some (.ref 0), some (.int s)] ∧ h = [.lst (C.map .int)] ∧ ∃ es : List Int, ds = es.map .int) (by
    rintro d ds ρ h ⟨s, o, k, rfl, rfl, es, e⟩
    cases es with
    | nil => cases e
    | cons c es =>
      simp only [List.map_cons, List.cons.injEq] at e
      obtain ⟨rfl, rfl⟩ := e
      refine ⟨[some (.fl (ns.map .int)), some (.int c), none, some (.ref 0), some (.int ((s * 16807 + c * 3 + 5) % 4294967279))], [.lst (C.map .int)], .inl ?_, by simp [srcOk], _, _, k, rfl, rfl, es, rfl⟩
      simp [forS, b_L_jar_1, mul_right (j := 16807) (by decide), mul_right (j := 3) (by decide)]) (C.map .int) [some (.fl (ns.map .int)), none, none, some (.ref 0), some (.int (15724 + 5 * ns.length))] [.lst (C.map .int)] ⟨_, none, 0, rfl, rfl, C, rfl⟩
  have c2 := comp_ints (step := stepC (evF (callM (run K n)) gg b_L_jar_3) (ev (callM (run K n)) gg b_L_jar_2) (.n 1) [some (.fl (ns.map .int)), o, none, some (.ref 0), some (.int s)] [1]) (src := some (0, .lst (C.map .int))) (h := [.lst (C.map .int)]) (fun x => if 1000000000000000000 ≤ x then some x else none) (by simp [srcOk]) (fun i => by
    by_cases hi : (1000000000000000000 : Int) ≤ i <;> simp [stepC, wipeD, b_L_jar_2, b_L_jar_3, hi, pow_lit, nox]) C
  have l3 : (C.filterMap fun x : Int => if 1000000000000000000 ≤ x then some x else none).length ≤ 63 := by
    have := List.length_filterMap_le (fun x : Int => if 1000000000000000000 ≤ x then some x else none) C
    omega
  generalize (C.filterMap fun x : Int => if 1000000000000000000 ≤ x then some x else none) = F at c2 l3
  refine ⟨F, C ++ [7 * (C.length : Int) + 3], s, ?_, by omega, by simp⟩
  have lC : C.length < 16777216 := by omega
  have sq0 : seqOf [.lst (C.map .int)] (.ref 0) = some (C.map .int) := by simp [seqOf, lstOf]
  have sr0 : srcOf [.lst (C.map .int)] (.ref 0) = some (0, .lst (C.map .int)) := by simp [srcOf]
  have lF : F.length < 16777216 := by omega
  have ln : biD [.lst (C.map .int), .lst (F.map .int)] .len [.ref 0] = some (.int C.length) := by simp [biD, bi1, lenD, seqOf, lstOf]
  have ad : ∀ x : Int, binD [.lst (C.map .int), .lst (F.map .int)] .Add (.ref 0) (.lv [.int x]) = some (.lv ((C ++ [x]).map .int)) := fun x => by
    have : C.length + 1 ≤ 16777216 := by omega
    simp [binD, addL, wlsOf, this]
  have hr : ∀ C2 : List Int, gcH 0 [.lst (C.map .int), .lst (F.map .int), .lst (C2.map .int), .dic [(.inr "far", .ref 1), (.inr "cells", .ref 2), (.inr "seal", .int s), (.inr "count", .int 0)]] [3] = [3, 1, 2] := fun C2 => by
    show reach (99996 + 1 + 1 + 1 + 1) _ [3] [] = _
    simp [reach, O.refs, kvRefs, D.refs, ints_refs]
  have ad := ad (7 * (C.length : Int) + 3)
  generalize C ++ [7 * (C.length : Int) + 3] = C2 at ad ⊢
  have hr := hr C2
  simp [b_L_jar, e0, mul_lit, forR, e, compR, c1, c2, lC, sq0, sr0, lF, ln, ad]
  unfold gcR
  simp only [D.refs, hr]
  simp [closedB, nums, O.refs, kvRefs, D.refs, ints_refs, subH, O.map, kvMap, D.map, ixOf, mapL_norefs _ _ (ints_refs _)]
end Mi

set_option Elab.async false
set_option linter.all false
set_option maxRecDepth 100000
/-! a suite in two parts -/
namespace Mi
open PySem
def takeS : Nat → Ss → Ss
  | 0, _ => .nil
  | _ + 1, .nil => .nil
  | n + 1, .cons a s => .cons a (takeS n s)
def dropS : Nat → Ss → Ss
  | 0, s => s
  | _ + 1, .nil => .nil
  | n + 1, .cons _ s => dropS n s
theorem exs_split (Γ : Gm) (G : Nat → Option D) (X : Xs) : ∀ (n : Nat) (s : Ss) (ρ : Env) (h : Hm), exs Γ G X s ρ h = sq (exs Γ G X (takeS n s) ρ h) (exs Γ G X (dropS n s))
  | 0, s, ρ, h => by
    rw [takeS, dropS, exs]; rfl
  | n + 1, .nil, ρ, h => by
    rw [takeS, dropS, exs]; rfl
  | n + 1, .cons a s, ρ, h => by
    rw [takeS, dropS, exs, exs]
    cases ex Γ G X a ρ h with
    | nx ρ' h' => exact exs_split Γ G X n s ρ' h'
    | _ => rfl
end Mi

set_option Elab.async false
set_option linter.all false
set_option maxRecDepth 100000
/-! Mini: rules that need no hand: lists of zl under a name, data of tuples, objects by their numbers. -/
namespace Mi
open PySem
/-! ### lists of zl -/
def zl (l : List Int) : List D := l.map .int
theorem zl_def (l : List Int) : zl l = l.map .int := rfl
@[simp] theorem zl_nil : zl [] = [] := rfl
theorem zl_cons (a : Int) (l : List Int) : zl (a :: l) = .int a :: zl l := rfl
theorem zl_app (a b : List Int) : zl (a ++ b) = zl a ++ zl b := by simp [zl]
@[simp] theorem zl_app' (a b : List Int) : zl a ++ zl b = zl (a ++ b) := (zl_app a b).symm
@[simp] theorem zl_snoc (a : List Int) (x : Int) : zl a ++ [.int x] = zl (a ++ [x]) := by simp [zl]
@[simp] theorem zl_len (l : List Int) : (zl l).length = l.length := by simp [zl]
@[simp] theorem zl_refsL (l : List Int) : D.refsL (zl l) = [] := ints_refs l
@[simp] theorem zl_get (l : List Int) (i : Nat) : (zl l)[i]? = (l[i]?).map .int := by simp [zl]
theorem atI_map {α β : Type} (f : α → β) (l : List α) (i : Int) : L2.atI (l.map f) i = (L2.atI l i).map f := by
  unfold L2.atI
  simp only [List.length_map]
  cases L2.ixN l.length i <;> simp
@[simp] theorem zl_atI (l : List Int) (i : Int) : L2.atI (zl l) i = (L2.atI l i).map .int := atI_map _ _ _
@[simp] theorem zl_set (l : List Int) (i : Nat) (x : Int) : (zl l).set i (.int x) = zl (l.set i x) := by simp [zl, List.map_set]
@[simp] theorem zl_cut (l : List Int) (a b : Option Int) : cutL (zl l) a b = zl (cutL l a b) := cut_map _ _ _ _
@[simp] theorem zl_rev (l : List Int) : (zl l).reverse = zl l.reverse := by simp [zl]
@[simp] theorem zl_intsOf : ∀ l : List Int, intsOf (zl l) = some l
  | [] => rfl
  | a :: r => by
    have := zl_intsOf r
    show (intsOf (zl r)).map (a :: ·) = _
    rw [this]; rfl
@[simp] theorem zl_isEmpty (l : List Int) : (zl l).isEmpty = l.isEmpty := by cases l <;> rfl
@[simp] theorem zl_inj (a b : List Int) : (zl a = zl b) = (a = b) := by
  refine propext ⟨fun h => ?_, fun h => by rw [h]⟩
  have := congrArg intsOf h
  simpa using this
@[simp] theorem zl_eq_nil (a : List Int) : (zl a = []) = (a = []) := zl_inj a []
@[simp] theorem zl_eq_nil' (a : List Int) : ([] = zl a) = (a = []) := by rw [eq_comm (a := ([] : List D))]; exact zl_inj a []
theorem zl_mem (l : List Int) (d : D) : d ∈ zl l ↔ ∃ i ∈ l, d = .int i := by simp [zl, eq_comm]
@[simp] theorem zl_mem_int (l : List Int) (i : Int) : (D.int i ∈ zl l) = (i ∈ l) := by simp [zl]
@[simp] theorem upto_zl (s : Int) (n : Nat) : upto s n = zl ((List.range n).map fun i : Nat => s + (i : Int)) := upto_map n s
@[simp] theorem zl_st (l : List Int) : D.stL (zl l) = true := by
  induction l with
  | nil => rfl
  | cons a r ih => rw [zl_cons]; simp [D.stL, D.st, ih]
@[simp] theorem zl_mapL (f : Nat → Nat) (l : List Int) : D.mapL f (zl l) = zl l := mapL_norefs f _ (ints_refs l)
@[simp] theorem zl_dropLast (l : List Int) : (zl l).dropLast = zl l.dropLast := by simp [zl, List.map_dropLast]
/-! ### data of tuples -/
mutual
def toPy : D → PyData
  | .non => .none
  | .bl b => .bool b
  | .int i => .int i
  | .str x => .str x
  | .tup ds => .tuple (toPyL ds)
  | .lv ds => .list (toPyL ds)
  | .fl ds => .list (toPyL ds)
  | .ref _ => .none
def toPyL : List D → List PyData
  | [] => []
  | d :: ds => toPy d :: toPyL ds
end
mutual
/-- how many brackets within one another -/
def lvl : D → Nat
  | .tup ds => lvlL ds + 1
  | .lv ds => lvlL ds + 1
  | .fl ds => lvlL ds + 1
  | .non => 0
  | .bl _ => 0
  | .int _ => 0
  | .str _ => 0
  | .ref _ => 0
def lvlL : List D → Nat
  | [] => 0
  | d :: ds => max (lvl d) (lvlL ds)
end
mutual
/-- nothing but numbers, texts, None, tuples -/
def td : D → Bool
  | .non => true
  | .bl _ => false
  | .int _ => true
  | .str x => PyData.strOk x
  | .tup ds => tdL ds
  | .lv _ => false
  | .fl _ => false
  | .ref _ => false
def tdL : List D → Bool
  | [] => true
  | d :: ds => td d && tdL ds
end
mutual
theorem td_refs : ∀ d : D, td d = true → d.refs = []
  | .non, _ => by simp [D.refs]
  | .bl _, _ => by simp [D.refs]
  | .int _, _ => by simp [D.refs]
  | .str _, _ => by simp [D.refs]
  | .tup ds, h => by rw [D.refs]; exact tdL_refs ds (by simpa [td] using h)
  | .lv _, h => by simp [td] at h
  | .fl _, h => by simp [td] at h
  | .ref _, h => by simp [td] at h
theorem tdL_refs : ∀ ds : List D, tdL ds = true → D.refsL ds = []
  | [], _ => rfl
  | d :: ds, h => by
    simp only [tdL, Bool.and_eq_true] at h
    rw [D.refsL, td_refs d h.1, tdL_refs ds h.2]; rfl
end
mutual
theorem td_st : ∀ d : D, td d = true → d.st = true
  | .non, _ => by simp [D.st]
  | .bl _, _ => by simp [D.st]
  | .int _, _ => by simp [D.st]
  | .str _, _ => by simp [D.st]
  | .tup ds, h => by rw [D.st]; exact tdL_st ds (by simpa [td] using h)
  | .lv _, h => by simp [td] at h
  | .fl _, h => by simp [td] at h
  | .ref _, h => by simp [td] at h
theorem tdL_st : ∀ ds : List D, tdL ds = true → D.stL ds = true
  | [], _ => rfl
  | d :: ds, h => by
    simp only [tdL, Bool.and_eq_true] at h
    rw [D.stL, td_st d h.1, tdL_st ds h.2]; rfl
end
mutual
theorem py_td (h : Hm) : ∀ (n : Nat) (d : D), td d = true → lvl d ≤ n → pyOf n h d = some (toPy d)
  | n, .non, _, _ => by cases n <;> simp [pyOf, toPy]
  | n, .bl _, _, _ => by cases n <;> simp [pyOf, toPy]
  | n, .int _, _, _ => by cases n <;> simp [pyOf, toPy]
  | n, .str _, _, _ => by cases n <;> simp [pyOf, toPy]
  | 0, .tup ds, _, l => by simp [lvl] at l
  | n + 1, .tup ds, t, l => by
    simp only [td] at t
    simp only [lvl] at l
    rw [pyOf, py_tdL h n ds t (by omega), toPy]; rfl
  | _, .lv _, t, _ => by simp [td] at t
  | _, .fl _, t, _ => by simp [td] at t
  | _, .ref _, t, _ => by simp [td] at t
theorem py_tdL (h : Hm) : ∀ (n : Nat) (ds : List D), tdL ds = true → lvlL ds ≤ n → allSome (pyOf n h) ds = some (toPyL ds)
  | _, [], _, _ => by simp [allSome, toPyL]
  | n, d :: ds, t, l => by
    simp only [tdL, Bool.and_eq_true] at t
    simp only [lvlL] at l
    rw [allSome, py_td h n d t.1 (by omega), py_tdL h n ds t.2 (by omega), toPyL]
end
mutual
theorem eq_td : ∀ a b : D, td a = true → td b = true → eqQ (toPy a) (toPy b) = decide (a = b)
  | .non, b, _, tb => by cases b <;> simp [td, toPy, eqQ] at *
  | .int i, b, _, tb => by cases b <;> simp [td, toPy, eqQ] at *
  | .str x, b, _, tb => by
    cases b <;> simp [td, toPy, eqQ] at *
    rw [Bool.eq_iff_iff]; simp
  | .tup as, b, ta, tb => by
    cases b with
    | tup bs =>
      simp only [td] at ta tb
      simp only [toPy, eqQ, eq_tdL as bs ta tb, D.tup.injEq]
    | _ => simp [td, toPy, eqQ] at *
  | .bl _, _, t, _ => by simp [td] at t
  | .lv _, _, t, _ => by simp [td] at t
  | .fl _, _, t, _ => by simp [td] at t
  | .ref _, _, t, _ => by simp [td] at t
theorem eq_tdL : ∀ a b : List D, tdL a = true → tdL b = true → eqQL (toPyL a) (toPyL b) = decide (a = b)
  | [], [], _, _ => by simp [toPyL, eqQL]
  | [], _ :: _, _, _ => by simp [toPyL, eqQL]
  | _ :: _, [], _, _ => by simp [toPyL, eqQL]
  | a :: as, b :: bs, ta, tb => by
    simp only [tdL, Bool.and_eq_true] at ta tb
    simp only [toPyL, eqQL, eq_td a b ta.1 tb.1, eq_tdL as bs ta.2 tb.2, List.cons.injEq, Bool.decide_and]
end
mutual
theorem shq_td : ∀ (d : D) (n : Nat), td d = true → lvl d ≤ n → shQ (toPy d) n = true
  | .non, n, _, _ => by cases n <;> simp [toPy, shQ]
  | .int _, n, _, _ => by cases n <;> simp [toPy, shQ]
  | .str x, n, t, _ => by cases n <;> simpa [toPy, shQ, td] using t
  | .tup ds, 0, _, l => by simp [lvl] at l
  | .tup ds, n + 1, t, l => by
    simp only [td] at t
    simp only [lvl] at l
    simp only [toPy, shQ, shq_tdL ds n t (by omega)]
  | .bl _, _, t, _ => by simp [td] at t
  | .lv _, _, t, _ => by simp [td] at t
  | .fl _, _, t, _ => by simp [td] at t
  | .ref _, _, t, _ => by simp [td] at t
theorem shq_tdL : ∀ (d : List D) (n : Nat), tdL d = true → lvlL d ≤ n → shQL (toPyL d) n = true
  | [], n, _, _ => by simp [toPyL, shQL]
  | d :: ds, n, t, l => by
    simp only [tdL, Bool.and_eq_true] at t
    simp only [lvlL] at l
    simp only [toPyL, shQL, shq_td d n t.1 (by omega), shq_tdL ds n t.2 (by omega), Bool.and_self]
end
theorem shp_td {d : D} (t : td d = true) (l : lvl d ≤ 40) : shp (toPy d) = true := shq_td d 64 t (by omega)
theorem shp_tdl {ds : List D} (t : tdL ds = true) (l : lvlL ds ≤ 39) : shp (.list (toPyL ds)) = true := by
  show shQ _ (63 + 1) = true
  simp only [shQ, shq_tdL ds 63 t (by omega)]
theorem py_lst {h : Hm} {y : D} {ds : List D} (e : lstOf h y = some ds) (t : tdL ds = true) (l : lvlL ds ≤ 39) : pyOf deepN h y = some (.list (toPyL ds)) := by
  show pyOf (39 + 1) h y = _
  cases y with
  | lv es =>
    simp only [lstOf, Option.some.injEq] at e; subst e
    rw [pyOf, py_tdL h 39 es t l]; rfl
  | fl es =>
    simp only [lstOf, Option.some.injEq] at e; subst e
    rw [pyOf, py_tdL h 39 es t l]; rfl
  | ref n =>
    simp only [lstOf] at e
    rw [pyOf]
    split at e
    · rename_i e2
      cases e
      simp only [e2, py_tdL h 39 ds t l]; rfl
    · cases e
  | _ => simp [lstOf] at e
theorem eqD_td {h : Hm} {a b : D} (ta : td a = true) (tb : td b = true) (la : lvl a ≤ 40) (lb : lvl b ≤ 40) : eqD h a b = some (decide (a = b)) := by
  unfold eqD
  split
  · congr 1
    rw [decide_eq_decide]; simp
  · congr 1
    rw [Bool.eq_iff_iff]; simp
  · rw [py_td h deepN a ta la, py_td h deepN b tb lb]
    simp only [shp_td ta la, shp_td tb lb, and_self, if_true, eq_td a b ta tb]
theorem mem_tdL : ∀ {ds : List D} {d : D}, tdL ds = true → d ∈ ds → td d = true
  | x :: xs, d, t, m => by
    simp only [tdL, Bool.and_eq_true] at t
    rcases List.mem_cons.mp m with rfl | m
    · exact t.1
    · exact mem_tdL t.2 m
theorem any_td {x : D} (tx : td x = true) : ∀ ds : List D, tdL ds = true → ((toPyL ds).any fun z => eqQ z (toPy x)) = decide (x ∈ ds)
  | [], _ => by simp [toPyL]
  | d :: ds, t => by
    simp only [tdL, Bool.and_eq_true] at t
    rw [toPyL, List.any_cons, any_td tx ds t.2, eq_td d x t.1 tx]
    have : (x = d) = (d = x) := propext ⟨Eq.symm, Eq.symm⟩
    simp only [List.mem_cons, Bool.decide_or, this]
theorem inD_tup {h : Hm} {x : D} {ds : List D} (tx : td x = true) (t : tdL ds = true) (lx : lvl x ≤ 40) (l : lvlL ds ≤ 39) : inD h x (.tup ds) = some (decide (x ∈ ds)) := by
  have tt : td (.tup ds) = true := by simpa [td] using t
  have ll : lvl (.tup ds) ≤ 40 := by simp only [lvl]; omega
  unfold inD
  simp only [dicOf]
  rw [py_td h deepN x tx lx, py_td h deepN _ tt ll]
  simp only [toPy]
  rw [if_pos ⟨shp_td tx lx, by have := shp_td tt ll; simpa only [toPy] using this⟩, any_td tx ds t]
theorem dicOf_lst {h : Hm} {y : D} {ds : List D} (e : lstOf h y = some ds) : dicOf h y = none := by
  cases y with
  | ref n =>
    simp only [lstOf] at e
    split at e
    · rename_i e2; simp [dicOf, e2]
    · cases e
  | _ => first | rfl | simp [lstOf] at e
theorem inD_lst {h : Hm} {x y : D} {ds : List D} (e : lstOf h y = some ds) (tx : td x = true) (t : tdL ds = true) (lx : lvl x ≤ 40) (l : lvlL ds ≤ 39) : inD h x y = some (decide (x ∈ ds)) := by
  have e2 := dicOf_lst e
  have e3 := py_lst e t l
  have ns : ∀ s, y ≠ .str s := fun s q => by subst q; simp [lstOf] at e
  unfold inD
  split
  · rename_i s; exact absurd rfl (ns s)
  · rw [e2, py_td h deepN x tx lx, e3]
    simp only []
    rw [if_pos ⟨shp_td tx lx, shp_tdl t l⟩, any_td tx ds t]
theorem count_td {x : D} (tx : td x = true) : ∀ ds : List D, tdL ds = true → (toPyL ds).countP (fun z => eqQ z (toPy x)) = ds.count x
  | [], _ => by simp [toPyL]
  | d :: ds, t => by
    simp only [tdL, Bool.and_eq_true] at t
    rw [toPyL, List.countP_cons, count_td tx ds t.2, eq_td d x t.1 tx, List.count_cons]
    simp only [decide_eq_true_eq, beq_iff_eq]
theorem me_count {h : Hm} {x : D} {ds : List D} (tx : td x = true) (t : tdL ds = true) (lx : lvl x ≤ 40) (l : lvlL ds ≤ 39) : meD h .count (.tup ds) [x] = .ok (.int (ds.count x : Nat)) h := by
  have tt : td (.tup ds) = true := by simpa [td] using t
  have ll : lvl (.tup ds) ≤ 40 := by simp only [lvl]; omega
  simp only [meD, countD]
  rw [py_td h deepN x tx lx, py_td h deepN _ tt ll]
  simp only [toPy]
  rw [if_pos ⟨shp_td tx lx, by have := shp_td tt ll; simpa only [toPy] using this⟩, count_td tx ds t]; rfl
/-- what repr tells -/
def reprD (d : D) : D := .str (PyData.shown (toPy d))
/-- fit to be told by repr -/
def rOk (d : D) : Prop := (toPy d).showable = true ∧ (toPy d).leavesShort 2000 = true ∧ (toPy d).bulk ≤ 8000
theorem rOk_len {d : D} (r : rOk d) : (PyData.shown (toPy d)).length ≤ sizeLine := by
  have q := PyData.shown_le_bulk 2000 (by omega) (toPy d) r.2.1
  have := r.2.2
  rw [sizeLine_eq]
  omega
theorem repr_td {h : Hm} {d : D} (t : td d = true) (l : lvl d ≤ 40) (r : rOk d) : biD h .repr [d] = some (reprD d) := by
  show reprOf h d = _
  unfold reprOf
  rw [py_td h deepN d t l]
  simp only [r.1, shp_td t l, rOk_len r, and_self, if_true]; rfl
theorem repr_lst {h : Hm} {y : D} {ds : List D} (e : lstOf h y = some ds) (t : tdL ds = true) (l : lvlL ds ≤ 39) (r : rOk (.lv ds)) : biD h .repr [y] = some (reprD (.lv ds)) := by
  have rl := rOk_len r
  have r1 := r.1
  simp only [toPy] at rl r1
  show reprOf h y = _
  unfold reprOf
  rw [py_lst e t l]
  simp only [r1, shp_tdl t l, rl, and_self, if_true]; rfl
@[simp] theorem eqD_repr {h : Hm} (a b : D) : eqD h (reprD a) (reprD b) = some (PyData.shown (toPy a) == PyData.shown (toPy b)) := rfl
@[simp] theorem own_repr {h : Hm} (a : D) : own (reprD a) h = .ok (reprD a) h := rfl
theorem reprD_refs (a : D) : (reprD a).refs = [] := by simp [reprD, D.refs]
/-! zl as such -/
@[simp] theorem td_int (i : Int) : td (.int i) = true := rfl
@[simp] theorem td_non : td .non = true := rfl
@[simp] theorem tdL_ints : ∀ l : List Int, tdL (zl l) = true
  | [] => rfl
  | a :: r => by rw [zl_cons, tdL, tdL_ints r]; rfl
@[simp] theorem td_tup (ds : List D) : td (.tup ds) = tdL ds := by rw [td]
@[simp] theorem tdL_nil : tdL [] = true := rfl
@[simp] theorem tdL_cons (d : D) (ds : List D) : tdL (d :: ds) = (td d && tdL ds) := by rw [tdL]
@[simp] theorem lvl_int (i : Int) : lvl (.int i) = 0 := by simp [lvl]
@[simp] theorem lvl_non : lvl .non = 0 := by simp [lvl]
@[simp] theorem lvl_str (x : Str) : lvl (.str x) = 0 := by simp [lvl]
@[simp] theorem lvl_tup (ds : List D) : lvl (.tup ds) = lvlL ds + 1 := by simp [lvl]
@[simp] theorem lvlL_nil : lvlL [] = 0 := by simp [lvlL]
@[simp] theorem lvlL_cons (d : D) (ds : List D) : lvlL (d :: ds) = max (lvl d) (lvlL ds) := by simp [lvlL]
@[simp] theorem lvlL_ints : ∀ l : List Int, lvlL (zl l) = 0
  | [] => by simp
  | a :: r => by rw [zl_cons]; simp [lvlL_ints r]
theorem toPyL_ints : ∀ l : List Int, toPyL (zl l) = l.map .int
  | [] => rfl
  | a :: r => by rw [zl_cons, toPyL, toPyL_ints r]; rfl
theorem rOk_ints {l : List Int} (hb : ∀ c ∈ l, Bt 1919 c) (hl : l.length ≤ 8000) : rOk (.tup (zl l)) ∧ rOk (.lv (zl l)) := by
  have e := toPyL_ints l
  refine ⟨⟨?_, ?_, ?_⟩, ⟨?_, ?_, ?_⟩⟩ <;> simp only [toPy, e, PyData.showable, PyData.leavesShort, PyData.bulk, bulk_ints]
  · exact show_ints hb
  · exact short_ints hb
  · exact hl
  · exact show_ints hb
  · exact short_ints hb
  · exact hl
theorem rOk_int {i : Int} (hb : Bt 1919 i) : rOk (.int i) := by
  refine ⟨?_, ?_, ?_⟩
  · simp only [toPy]; exact show_int hb
  · simp only [toPy, PyData.leavesShort]; have := leaf_int hb; simpa using this
  · simp [toPy, PyData.bulk]
/-- a tuple of zl -/
abbrev tZ (l : List Int) : D := .tup (zl l)
theorem eqD_ints {h : Hm} (a b : List Int) : eqD h (.tup (zl a)) (.tup (zl b)) = some (decide (a = b)) := by
  rw [eqD_td (by simp) (by simp) (by simp) (by simp)]; simp
@[simp] theorem eqD_intsN {h : Hm} (a : List Int) : eqD h (.tup (zl a)) (.tup []) = some (decide (a = [])) := eqD_ints a []
theorem repr_ints {h : Hm} {l : List Int} (hb : ∀ c ∈ l, Bt 1919 c) (hl : l.length ≤ 8000) : biD h .repr [.tup (zl l)] = some (reprD (.tup (zl l))) := repr_td (by simp) (by simp) (rOk_ints hb hl).1
theorem repr_int {h : Hm} {i : Int} (hb : Bt 1919 i) : biD h .repr [.int i] = some (reprD (.int i)) := repr_td (by simp) (by simp) (rOk_int hb)
theorem repr_lints {h : Hm} {y : D} {l : List Int} (e : lstOf h y = some (zl l)) (hb : ∀ c ∈ l, Bt 1919 c) (hl : l.length ≤ 8000) : biD h .repr [y] = some (reprD (.lv (zl l))) := repr_lst e (by simp) (by simp) (rOk_ints hb hl).2
theorem in_ints_tup {h : Hm} (i : Int) (l : List Int) : inD h (.int i) (.tup (zl l)) = some (decide (i ∈ l)) := by
  rw [inD_tup (by simp) (by simp) (by simp) (by simp)]; simp
theorem in_ints_lst {h : Hm} {y : D} {l : List Int} (e : lstOf h y = some (zl l)) (i : Int) : inD h (.int i) y = some (decide (i ∈ l)) := by
  rw [inD_lst e (by simp) (by simp) (by simp) (by simp)]; simp
theorem eqD_lints {h : Hm} {y z : D} {a b : List Int} (ea : lstOf h y = some (zl a)) (eb : lstOf h z = some (zl b)) : eqD h y z = some (decide (a = b)) := by
  have pa := py_lst ea (by simp) (by simp)
  have pb := py_lst eb (by simp) (by simp)
  have sa := shp_tdl (ds := zl a) (by simp) (by simp)
  have sb := shp_tdl (ds := zl b) (by simp) (by simp)
  unfold eqD
  split
  · simp [lstOf] at ea
  · simp [lstOf] at ea
  · rw [pa, pb]
    simp only [sa, sb, and_self, if_true, eqQ, eq_tdL (zl a) (zl b) (by simp) (by simp)]
    simp
/-! ### objects by their numbers -/
section
variable {h : Hm} {n : Nat}
def lstO (o : Option O) : Option (List D) := match o with
  | some (.lst ds) => some ds
  | _ => none
@[simp] theorem lstO_lst (ds : List D) : lstO (some (.lst ds)) = some ds := rfl
@[simp] theorem lstOf_ref (h : Hm) (n : Nat) : lstOf h (.ref n) = lstO h[n]? := by
  simp only [lstOf]; rfl
@[simp] theorem lstOf_lv (h : Hm) (ds : List D) : lstOf h (.lv ds) = some ds := rfl
@[simp] theorem lstOf_fl (h : Hm) (ds : List D) : lstOf h (.fl ds) = some ds := rfl
@[simp] theorem seqOf_ref (h : Hm) (n : Nat) : seqOf h (.ref n) = lstO h[n]? := by
  simp only [seqOf]; rfl
@[simp] theorem srcOf_ref (h : Hm) (n : Nat) : srcOf h (.ref n) = (h[n]?).map fun o => (n, o) := rfl
@[simp] theorem srcOk_so (n : Nat) (o : O) (h : Hm) : srcOk (some (n, o)) h = decide (h[n]? = some o) := rfl
def isLstO (o : Option O) : Bool := match o with
  | some (.lst _) => true
  | _ => false
@[simp] theorem isLstO_lst (ds : List D) : isLstO (some (.lst ds)) = true := rfl
@[simp] theorem meOk_app : meOk h .append (.ref n) = isLstO h[n]? := by simp only [meOk]; rfl
@[simp] theorem meOk_ext : meOk h .extend (.ref n) = isLstO h[n]? := by simp only [meOk]; rfl
@[simp] theorem meOk_pop : meOk h .pop (.ref n) = isLstO h[n]? := by simp only [meOk]; rfl
@[simp] theorem meOk_ins : meOk h .insert (.ref n) = isLstO h[n]? := by simp only [meOk]; rfl
@[simp] theorem meOk_count (ds : List D) : meOk h .count (.tup ds) = true := rfl
@[simp] theorem meOk_tindex (ds : List D) : meOk h .tindex (.tup ds) = true := rfl
@[simp] theorem meOk_sindex (x : Str) : meOk h .sindex (.str x) = true := rfl
@[simp] theorem meOk_join (x : Str) : meOk h .join (.str x) = true := rfl
@[simp] theorem meOk_split (x : Str) : meOk h .split (.str x) = true := rfl
@[simp] theorem meOk_index : meOk h .index (.ref n) = (lstO h[n]?).isSome := by simp only [meOk, lstOf_ref]
def appR (o : Option O) (h : Hm) (n : Nat) (d : D) : R D := match o with
  | some (.lst xs) => if xs.length < 16777216 then .ok .non (h.set n (.lst (xs ++ [d]))) else .bad
  | _ => .bad
@[simp] theorem appR_lst (xs : List D) (d : D) : appR (some (.lst xs)) h n d = if xs.length < 16777216 then .ok .non (h.set n (.lst (xs ++ [d]))) else .bad := rfl
@[simp] theorem me_app (d : D) : meD h .append (.ref n) [d] = appR h[n]? h n d := by
  simp only [meD]
  unfold appR
  cases e : h[n]? with
  | none => rfl
  | some o => cases o <;> first | rfl | (simp only [meL, size_lt])
def extR (o : Option O) (h : Hm) (n : Nat) (ys : Option (List D)) : R D := match o, ys with
  | some (.lst xs), some ys => if xs.length + ys.length ≤ 16777216 then .ok .non (h.set n (.lst (xs ++ ys))) else .bad
  | _, _ => .bad
@[simp] theorem extR_lst (xs ys : List D) : extR (some (.lst xs)) h n (some ys) = if xs.length + ys.length ≤ 16777216 then .ok .non (h.set n (.lst (xs ++ ys))) else .bad := rfl
@[simp] theorem me_ext (d : D) : meD h .extend (.ref n) [d] = extR h[n]? h n (wlsOf h d) := by
  simp only [meD]
  unfold extR
  cases e : h[n]? with
  | none => rfl
  | some o => cases o <;> first | (cases wlsOf h d <;> rfl) | (simp only [meL, size_le]; cases wlsOf h d <;> rfl)
@[simp] theorem wlsOf_lv (ds : List D) : wlsOf h (.lv ds) = some ds := rfl
@[simp] theorem wlsOf_ref : wlsOf h (.ref n) = lstO h[n]? := by simp only [wlsOf]; rfl
def popR (o : Option O) (h : Hm) (n : Nat) : R D := match o with
  | some (.lst xs) => match xs.getLast? with
    | some d => .ok d (h.set n (.lst xs.dropLast))
    | none => .bad
  | _ => .bad
def popL (x : Option D) (xs : List D) (h : Hm) (n : Nat) : R D := match x with
  | some d => .ok d (h.set n (.lst xs))
  | none => .bad
@[simp] theorem popL_some (d : D) (xs : List D) : popL (some d) xs h n = .ok d (h.set n (.lst xs)) := rfl
@[simp] theorem popR_lst (xs : List D) : popR (some (.lst xs)) h n = popL xs.getLast? xs.dropLast h n := rfl
@[simp] theorem me_pop : meD h .pop (.ref n) [] = popR h[n]? h n := by
  simp only [meD]
  unfold popR
  cases e : h[n]? with
  | none => rfl
  | some o =>
    cases o with
    | lst xs =>
      simp only [meL, List.getLast?_eq_getElem?]
      all_goals cases xs[xs.length - 1]? <;> rfl
    | _ => rfl
def popAtR (o : Option O) (h : Hm) (n : Nat) (i : Int) : R D := match o with
  | some (.lst xs) => if 0 ≤ i ∧ i < xs.length ∧ i < 2 ^ 63 then popL xs[i.toNat]? (xs.eraseIdx i.toNat) h n else .bad
  | _ => .bad
@[simp] theorem popAtR_lst (xs : List D) (i : Int) : popAtR (some (.lst xs)) h n i = if 0 ≤ i ∧ i < xs.length ∧ i < 2 ^ 63 then popL xs[i.toNat]? (xs.eraseIdx i.toNat) h n else .bad := rfl
@[simp] theorem me_popAt (i : Int) : meD h .pop (.ref n) [.int i] = popAtR h[n]? h n i := by
  simp only [meD]
  unfold popAtR
  cases e : h[n]? with
  | none => rfl
  | some o =>
    cases o with
    | lst xs => simp only [meL]; rfl
    | _ => rfl
def insR (o : Option O) (h : Hm) (n : Nat) (i : Int) (d : D) : R D := match o with
  | some (.lst xs) => if 0 ≤ i ∧ i < 2 ^ 63 ∧ xs.length < 16777216 then .ok .non (h.set n (.lst (xs.take i.toNat ++ [d] ++ xs.drop i.toNat))) else .bad
  | _ => .bad
@[simp] theorem insR_lst (xs : List D) (i : Int) (d : D) : insR (some (.lst xs)) h n i d = if 0 ≤ i ∧ i < 2 ^ 63 ∧ xs.length < 16777216 then .ok .non (h.set n (.lst (xs.take i.toNat ++ [d] ++ xs.drop i.toNat))) else .bad := rfl
@[simp] theorem me_ins (i : Int) (d : D) : meD h .insert (.ref n) [.int i, d] = insR h[n]? h n i d := by
  simp only [meD]
  unfold insR
  cases e : h[n]? with
  | none => rfl
  | some o =>
    cases o with
    | lst xs => simp only [meL, size_lt]
    | _ => rfl
def lenO (o : Option (List D)) : Option D := o.map fun ds => D.int ds.length
@[simp] theorem lenO_some (ds : List D) : lenO (some ds) = some (.int ds.length) := rfl
@[simp] theorem bi_len_ref : biD h .len [.ref n] = lenO (lstO h[n]?) := by
  show ((seqOf h (.ref n)).map (·.length)).map _ = _
  rw [seqOf_ref]
  cases lstO h[n]? <;> rfl
@[simp] theorem bi_list_ref : biD h .list [.ref n] = (lstO h[n]?).map .lv := by
  show (seqOf h (.ref n)).map D.lv = _
  rw [seqOf_ref]
@[simp] theorem bi_tuple_ref : biD h .tuple [.ref n] = (lstO h[n]?).map .tup := by
  show (seqOf h (.ref n)).map D.tup = _
  rw [seqOf_ref]
@[simp] theorem bi_sumt (ds : List D) : biD h .sumt [.tup ds] = (intsOf ds).map fun ns => .int ns.sum := rfl
def lenK (o : Option O) : Option D := match o with
  | some (.dic kvs) => if kvs.length ≤ 16777216 then some (.int kvs.length) else none
  | _ => none
@[simp] theorem lenK_dic (kvs : List (L2.Key × D)) : lenK (some (.dic kvs)) = if kvs.length ≤ 16777216 then some (.int kvs.length) else none := rfl
theorem dicN_ref : dicN h (.ref n) = match h[n]? with
    | some (.dic kvs) => if kvs.length ≤ sizeLine then some kvs.length else none
    | _ => none := rfl
@[simp] theorem bi_lend : biD h .lend [.ref n] = lenK h[n]? := by
  show (dicN h (.ref n)).map _ = _
  rw [dicN_ref]
  cases e : h[n]? with
  | none => rfl
  | some o =>
    cases o with
    | dic kvs =>
      simp only [lenK_dic, size_le]
      by_cases hk : kvs.length ≤ 16777216
      · rw [if_pos hk, if_pos hk]; rfl
      · rw [if_neg hk, if_neg hk]; rfl
    | _ => rfl
@[simp] theorem bi_sum (d : D) : biD h .sum [d] = ((lstOf h d).bind intsOf).map fun ns => .int ns.sum := by
  show sumD h d = _
  unfold sumD
  cases lstOf h d <;> rfl
def blR (o : Option (List Bool)) : Option D := o.map fun bs => .bl (bs.all id)
@[simp] theorem blR_some (bs : List Bool) : blR (some bs) = some (.bl (bs.all id)) := rfl
@[simp] theorem bi_all (d : D) : biD h .all [d] = blR ((lstOf h d).bind blsOf) := by
  show bi1 h .all d = _
  simp only [bi1]
  cases lstOf h d <;> rfl
def srtR (o : Option (List Int)) (ds : List D) : Option D := match o with
  | some ns => some (.lv (zl (sortI ns)))
  | none => (tupsI ds).map fun nss => .lv ((sortT nss).map fun ns => .tup (zl ns))
@[simp] theorem srtR_some (ns : List Int) (ds) : srtR (some ns) ds = some (.lv (zl (sortI ns))) := rfl
theorem bi_sorted {d : D} {ds : List D} (e : seqOf h d = some ds) : biD h .sorted [d] = srtR (intsOf ds) ds := by
  show bi1 h .sorted d = _
  simp only [bi1, e]; rfl
def mxR (o : Option (List Int)) : Option D := match o with
  | some (n :: ns) => some (.int (maxI n ns))
  | _ => none
def mnR (o : Option (List Int)) : Option D := match o with
  | some (n :: ns) => some (.int (minI n ns))
  | _ => none
theorem bi_max {d : D} {ds : List D} (e : lstOf h d = some ds) : biD h .max [d] = mxR (intsOf ds) := by
  show bi1 h .max d = _
  simp only [bi1, e]; rfl
theorem bi_min {d : D} {ds : List D} (e : lstOf h d = some ds) : biD h .min [d] = mnR (intsOf ds) := by
  show bi1 h .min d = _
  simp only [bi1, e]; rfl
def setR (o : Option O) (h : Hm) (n : Nat) (i : D) (d : D) : R Unit := match o with
  | some (.lst xs) => match i with
    | .int i => if 0 ≤ i ∧ i < xs.length then .ok () (h.set n (.lst (xs.set i.toNat d))) else .bad
    | _ => .bad
  | some (.dic kvs) => match keyOf i with
    | some k => if kvs.length < 16777216 then .ok () (h.set n (.dic (putK k d kvs))) else .bad
    | none => .bad
  | _ => .bad
@[simp] theorem setR_lst (xs : List D) (i : Int) (d : D) : setR (some (.lst xs)) h n (.int i) d = if 0 ≤ i ∧ i < xs.length then .ok () (h.set n (.lst (xs.set i.toNat d))) else .bad := rfl
@[simp] theorem setR_dicI (kvs : List (L2.Key × D)) (i : Int) (d : D) : setR (some (.dic kvs)) h n (.int i) d = if kvs.length < 16777216 then .ok () (h.set n (.dic (putK (.inl i) d kvs))) else .bad := rfl
@[simp] theorem setR_dicS (kvs : List (L2.Key × D)) (i : Str) (d : D) : setR (some (.dic kvs)) h n (.str i) d = if kvs.length < 16777216 then .ok () (h.set n (.dic (putK (.inr i) d kvs))) else .bad := rfl
@[simp] theorem setI_ref (i d : D) : setI h (.ref n) i d = setR h[n]? h n i d := by
  simp only [setI]
  unfold setR
  cases e : h[n]? with
  | none => rfl
  | some o =>
    cases o with
    | lst xs => rfl
    | dic kvs =>
      simp only [size_lt]
      all_goals cases keyOf i <;> rfl
    | _ => rfl
def ixR (o : Option O) (i : D) : Option D := match o with
  | some (.lst ds) => match i with
    | .int i => L2.atI ds i
    | _ => none
  | some (.dic kvs) => (keyOf i).bind (lookK kvs)
  | some (.frd kvs) => (keyOf i).bind (lookK kvs)
  | _ => none
@[simp] theorem ixR_lst (ds : List D) (i : Int) : ixR (some (.lst ds)) (.int i) = L2.atI ds i := rfl
@[simp] theorem ixR_dicI (kvs : List (L2.Key × D)) (i : Int) : ixR (some (.dic kvs)) (.int i) = lookK kvs (.inl i) := rfl
@[simp] theorem ixR_dicS (kvs : List (L2.Key × D)) (i : Str) : ixR (some (.dic kvs)) (.str i) = lookK kvs (.inr i) := rfl
@[simp] theorem ixR_frdI (kvs : List (L2.Key × D)) (i : Int) : ixR (some (.frd kvs)) (.int i) = lookK kvs (.inl i) := rfl
@[simp] theorem ixR_frdS (kvs : List (L2.Key × D)) (i : Str) : ixR (some (.frd kvs)) (.str i) = lookK kvs (.inr i) := rfl
@[simp] theorem ixD_ref (i : D) : ixD h (.ref n) i = ixR h[n]? i := by
  simp only [ixD]
  unfold ixR
  cases e : h[n]? with
  | none => rfl
  | some o =>
    cases o with
    | lst xs => rfl
    | dic kvs => simp only []; cases keyOf i <;> rfl
    | frd kvs => simp only []; cases keyOf i <;> rfl
    | ins _ _ => rfl
def ixWR (o : Option O) (i : D) : Option D := match o with
  | some (.lst xs) => match i with
    | .int i => if 0 ≤ i ∧ i < 2 ^ 63 then xs[i.toNat]? else none
    | _ => none
  | some (.dic kvs) => (keyOf i).bind (lookK kvs)
  | _ => none
@[simp] theorem ixWR_lst (ds : List D) (i : Int) : ixWR (some (.lst ds)) (.int i) = if 0 ≤ i ∧ i < 2 ^ 63 then ds[i.toNat]? else none := rfl
@[simp] theorem ixWR_dicI (kvs : List (L2.Key × D)) (i : Int) : ixWR (some (.dic kvs)) (.int i) = lookK kvs (.inl i) := rfl
@[simp] theorem ixWR_dicS (kvs : List (L2.Key × D)) (i : Str) : ixWR (some (.dic kvs)) (.str i) = lookK kvs (.inr i) := rfl
@[simp] theorem ixW_ref (i : D) : ixW h (.ref n) i = ixWR h[n]? i := by
  simp only [ixW]
  unfold ixWR
  cases e : h[n]? with
  | none => rfl
  | some o =>
    cases o with
    | lst xs => rfl
    | dic kvs => simp only []; cases keyOf i <;> rfl
    | _ => rfl
def dicO (o : Option O) : Option (List (L2.Key × D)) := match o with
  | some (.dic kvs) => some kvs
  | some (.frd kvs) => some kvs
  | _ => none
@[simp] theorem dicO_dic (kvs : List (L2.Key × D)) : dicO (some (.dic kvs)) = some kvs := rfl
@[simp] theorem dicO_frd (kvs : List (L2.Key × D)) : dicO (some (.frd kvs)) = some kvs := rfl
@[simp] theorem dicOf_ref : dicOf h (.ref n) = dicO h[n]? := by simp only [dicOf]; rfl
theorem inD_dicI {kvs : List (L2.Key × D)} (e : dicOf h (.ref n) = some kvs) (i : Int) : inD h (.int i) (.ref n) = some (lookK kvs (.inl i)).isSome := by
  simp [inD, e, keyOf]
theorem inD_dicS {kvs : List (L2.Key × D)} (e : dicOf h (.ref n) = some kvs) (i : Str) : inD h (.str i) (.ref n) = some (lookK kvs (.inr i)).isSome := by
  simp [inD, e, keyOf]
theorem get_ok {y : D} {kvs : List (L2.Key × D)} (e : dicOf h y = some kvs) : meOk h .get y = true := by simp [meOk, e]
theorem get1 {y k : D} {kvs : List (L2.Key × D)} {q : L2.Key} (e : dicOf h y = some kvs) (ek : keyOf k = some q) : meD h .get y [k] = .ok ((lookK kvs q).getD .non) h := by
  simp [meD, getD, e, ek]
theorem get2 {y k d : D} {kvs : List (L2.Key × D)} {q : L2.Key} (e : dicOf h y = some kvs) (ek : keyOf k = some q) : meD h .get y [k, d] = .ok ((lookK kvs q).getD d) h := by
  simp [meD, getD, e, ek]
end
end Mi

set_option Elab.async false
set_option linter.all false
set_option maxRecDepth 100000
/-! Mini: what calls and the ends of calls do with heaps of any form. -/
namespace Mi
open PySem
def rl (h : Hm) (i : Nat) : Nat := match h[i]? with
  | some o => o.refs.length
  | none => 0
def pnd (h : Hm) (seen l : List Nat) : Nat := (l.map fun i => if i ∈ seen then 0 else rl h i).sum
theorem pnd_not {h : Hm} {seen : List Nat} {n : Nat} : ∀ {l : List Nat}, n ∉ l → pnd h (seen ++ [n]) l = pnd h seen l
  | [], _ => rfl
  | a :: r, hn => by
    simp only [List.mem_cons, not_or] at hn
    have ih := pnd_not (h := h) (seen := seen) hn.2
    unfold pnd at ih ⊢
    simp only [List.map_cons, List.sum_cons, ih]
    have : (a ∈ seen ++ [n]) ↔ a ∈ seen := by simp [Ne.symm hn.1]
    simp only [this]
theorem pnd_add {h : Hm} {seen : List Nat} {n : Nat} (hs : n ∉ seen) : ∀ {l : List Nat}, l.Nodup → n ∈ l → pnd h (seen ++ [n]) l + rl h n = pnd h seen l
  | [], _, hm => by cases hm
  | a :: r, nd, hm => by
    have nd' := List.nodup_cons.mp nd
    by_cases e : a = n
    · subst e
      have := pnd_not (h := h) (seen := seen) nd'.1
      unfold pnd at this ⊢
      simp only [List.map_cons, List.sum_cons, this]
      simp [hs]; omega
    · have hm' : n ∈ r := by
        rcases List.mem_cons.mp hm with q | q
        · exact absurd q.symm e
        · exact q
      have ih := pnd_add (h := h) hs nd'.2 hm'
      unfold pnd at ih ⊢
      simp only [List.map_cons, List.sum_cons]
      have : (a ∈ seen ++ [n]) ↔ a ∈ seen := by simp [e]
      simp only [this]
      omega
theorem reach_spec (h : Hm) (hr : ∀ (i : Nat) (o : O), h[i]? = some o → ∀ k ∈ o.refs, k < h.length) : ∀ (f : Nat) (work seen : List Nat), seen.Nodup → (∀ n ∈ work, n < h.length) → (∀ n ∈ seen, n < h.length) →
    (∀ n ∈ seen, ∀ o, h[n]? = some o → ∀ k ∈ o.refs, k ∈ seen ∨ k ∈ work) → work.length + pnd h seen (nums 0 h.length) < f →
    (reach f h work seen).Nodup ∧ (∃ t, reach f h work seen = seen ++ t) ∧ (∀ n ∈ work, n ∈ reach f h work seen) ∧ (∀ n ∈ reach f h work seen, n < h.length) ∧ ∀ n ∈ reach f h work seen, ∀ o, h[n]? = some o → ∀ k ∈ o.refs, k ∈ reach f h work seen
  | 0, _, _, _, _, _, _, hf => by omega
  | f + 1, [], seen, nd, _, hs, hc, _ => ⟨nd, ⟨[], by simp [reach]⟩, fun _ q => (nomatch q), hs, fun n hn o ho k hk => by
      rcases hc n hn o ho k hk with q | q
      · exact q
      · cases q⟩
  | f + 1, n :: t, seen, nd, hw, hs, hc, hf => by
    rw [reach]
    simp only [List.length_cons] at hf
    by_cases hn : n ∈ seen
    · rw [if_pos (by simpa using hn)]
      obtain ⟨h1, h2, h3, h4, h5⟩ := reach_spec h hr f t seen nd (fun m hm => hw m (List.mem_cons_of_mem _ hm)) hs (fun m hm o ho k hk => by
        rcases hc m hm o ho k hk with q | q
        · exact .inl q
        · rcases List.mem_cons.mp q with rfl | q
          · exact .inl hn
          · exact .inr q) (by omega)
      refine ⟨h1, h2, fun m hm => ?_, h4, h5⟩
      rcases List.mem_cons.mp hm with rfl | hm
      · obtain ⟨t', e⟩ := h2
        rw [e]; exact List.mem_append_left _ hn
      · exact h3 m hm
    · rw [if_neg (by simpa using hn)]
      have hl := hw n List.mem_cons_self
      have e1 : h[n]? = some h[n] := List.getElem?_eq_getElem hl
      simp only [e1]
      have pa := pnd_add (h := h) hn (nums_nd h.length 0) ((mem_nums _ _ _).mpr ⟨Nat.zero_le _, by omega⟩)
      have er : rl h n = h[n].refs.length := by unfold rl; rw [e1]
      obtain ⟨h1, ⟨t', h2⟩, h3, h4, h5⟩ := reach_spec h hr f (h[n].refs ++ t) (seen ++ [n]) (by
          rw [List.nodup_append]
          exact ⟨nd, by simp, fun a ha b hb q => by simp at hb; subst hb; subst q; exact hn ha⟩) (fun m hm => by
          rcases List.mem_append.mp hm with hm | hm
          · exact hr n _ e1 m hm
          · exact hw m (List.mem_cons_of_mem _ hm)) (fun m hm => by
          rcases List.mem_append.mp hm with hm | hm
          · exact hs m hm
          · simp at hm; subst hm; exact hl) (fun m hm o ho k hk => by
          rcases List.mem_append.mp hm with hm | hm
          · rcases hc m hm o ho k hk with q | q
            · exact .inl (List.mem_append_left _ q)
            · rcases List.mem_cons.mp q with rfl | q
              · exact .inl (by simp)
              · exact .inr (List.mem_append_right _ q)
          · simp at hm; subst hm
            rw [e1] at ho; cases ho
            exact .inr (List.mem_append_left _ hk)) (by rw [List.length_append]; omega)
      refine ⟨h1, ⟨[n] ++ t', by rw [h2, List.append_assoc]⟩, fun m hm => ?_, h4, h5⟩
      rcases List.mem_cons.mp hm with rfl | hm
      · rw [h2]; simp
      · exact h3 m (List.mem_append_right _ hm)
theorem closedB_of {h : Hm} {rs ns : List Nat} (nd : rs.Nodup) (hn : ∀ n ∈ ns, n ∈ rs) (hl : ∀ n ∈ rs, n < h.length) (hc : ∀ n ∈ rs, ∀ o, h[n]? = some o → ∀ k ∈ o.refs, k ∈ rs) : closedB h rs ns = true := by
  simp only [closedB, Bool.and_eq_true, decide_eq_true_eq, List.all_eq_true, List.contains_iff_mem]
  refine ⟨⟨nd, hn⟩, fun n hm => ?_⟩
  have e1 : h[n]? = some (h[n]'(hl n hm)) := List.getElem?_eq_getElem (hl n hm)
  rw [e1]
  simp only [List.all_eq_true, List.contains_iff_mem]
  exact hc n hm _ e1
/-- how many places objects hold -/
def tot (h : Hm) : Nat := (h.map fun o => o.refs.length).sum
theorem nums_succ (s k : Nat) : nums s (k + 1) = nums s k ++ [s + k] := by
  induction k generalizing s with
  | zero => rfl
  | succ k ih => rw [nums, ih (s + 1), nums]; simp; omega
theorem rl_tot : ∀ h : Hm, ((nums 0 h.length).map (rl h)).sum = tot h := by
  intro h
  have : ∀ (l : Hm) (pre : Hm), ((nums pre.length l.length).map (rl (pre ++ l))).sum = tot l := by
    intro l
    induction l with
    | nil => intro pre; rfl
    | cons a r ih =>
      intro pre
      have e := ih (pre ++ [a])
      simp only [List.length_append, List.length_cons, List.length_nil, List.append_assoc, List.cons_append, List.nil_append] at e
      simp only [List.length_cons, nums, List.map_cons, List.sum_cons]
      have e2 : rl (pre ++ a :: r) pre.length = a.refs.length := by
        unfold rl
        rw [List.getElem?_append_right (Nat.le_refl _), Nat.sub_self]; rfl
      rw [e2, show pre.length + (0 + 1) = pre.length + 1 from rfl] at *
      rw [e]
      simp [tot]
  simpa using this h []
theorem pnd_le (h : Hm) (seen : List Nat) : ∀ l : List Nat, pnd h seen l ≤ (l.map (rl h)).sum
  | [] => Nat.le_refl _
  | a :: r => by
    have := pnd_le h seen r
    unfold pnd at this ⊢
    simp only [List.map_cons, List.sum_cons]
    split <;> omega
theorem pnd_nums (h : Hm) (k : Nat) (hk : k ≤ h.length) : ((nums 0 k).flatMap fun n => match h[n]? with | some o => o.refs | none => []).length + pnd h (nums 0 k) (nums 0 h.length) = tot h := by
  rw [← rl_tot]
  have e1 : ∀ l : List Nat, (l.flatMap fun n => match h[n]? with | some o => o.refs | none => []).length = (l.map (rl h)).sum := fun l => by
    induction l with
    | nil => rfl
    | cons a r ih =>
      rw [List.flatMap_cons, List.length_append, ih, List.map_cons, List.sum_cons]
      congr 1
      unfold rl
      cases h[a]? <;> rfl
  rw [e1]
  have e2 : ∀ (m : Nat), k ≤ m → pnd h (nums 0 k) (nums 0 m) + ((nums 0 k).map (rl h)).sum = ((nums 0 m).map (rl h)).sum := fun m => by
    induction m with
    | zero =>
      intro hm
      obtain rfl : k = 0 := by omega
      rfl
    | succ m ih =>
      intro hm
      by_cases e : k ≤ m
      · have := ih e
        rw [nums_succ]
        unfold pnd at this ⊢
        simp only [List.map_append, List.sum_append, List.map_cons, List.map_nil, List.sum_cons, List.sum_nil]
        have : ¬ (0 + m) ∈ nums 0 k := fun q => by have := (mem_nums _ _ _).mp q; omega
        rw [if_neg this]
        omega
      · obtain rfl : k = m + 1 := by omega
        have z : ∀ l : List Nat, (∀ i ∈ l, i ∈ nums 0 (m + 1)) → pnd h (nums 0 (m + 1)) l = 0 := fun l => by
          induction l with
          | nil => intro _; rfl
          | cons a r ih =>
            intro hl
            have := ih fun i hi => hl i (List.mem_cons_of_mem _ hi)
            unfold pnd at this ⊢
            simp only [List.map_cons, List.sum_cons, this]
            rw [if_pos (hl a List.mem_cons_self)]
        rw [z _ fun i hi => hi]; omega
  have := e2 h.length hk
  omega
/-- the end of a call, whatever the heap -/
theorem gcR_gen {v : D} {h : Hm} {k : Nat} (hk : k ≤ h.length) (hr : ∀ (i : Nat) (o : O), h[i]? = some o → ∀ n ∈ o.refs, n < h.length) (hv : ∀ n ∈ v.refs, n < h.length) (hz : v.refs.length + tot h < 100000) :
    ∃ rs, rs.Nodup ∧ rs.take k = nums 0 k ∧ (∀ n ∈ v.refs, n ∈ rs) ∧ (∀ n ∈ rs, n < h.length) ∧ (∀ n ∈ rs, ∀ o, h[n]? = some o → ∀ m ∈ o.refs, m ∈ rs) ∧ gcR k (.ok v h) = .ok (v.map (ixOf rs)) (subH h rs) := by
  have pn := pnd_nums h k hk
  obtain ⟨h1, ⟨t, h2⟩, h3, h4, h5⟩ := reach_spec h hr 100000 (((nums 0 k).flatMap fun n => match h[n]? with | some o => o.refs | none => []) ++ v.refs) (nums 0 k) (nums_nd k 0) (fun n hn => by
      rcases List.mem_append.mp hn with hn | hn
      · obtain ⟨m, _, hn⟩ := List.mem_flatMap.mp hn
        split at hn
        · rename_i o ho; exact hr m o ho n hn
        · cases hn
      · exact hv n hn) (fun n hn => by have := (mem_nums _ _ _).mp hn; omega) (fun n hn o ho m hm => .inr (List.mem_append_left _ (List.mem_flatMap.mpr ⟨n, hn, by rw [ho]; exact hm⟩))) (by rw [List.length_append]; omega)
  have hg : gcH k h v.refs = reach 100000 h (((nums 0 k).flatMap fun n => match h[n]? with | some o => o.refs | none => []) ++ v.refs) (nums 0 k) := rfl
  rw [← hg] at h1 h2 h3 h4 h5
  have tk : (gcH k h v.refs).take k = nums 0 k := by rw [h2, List.take_left' (nums_len 0 k)]
  have cl : closedB h (gcH k h v.refs) (nums 0 k ++ v.refs) = true := closedB_of h1 (fun n hn => by
      rcases List.mem_append.mp hn with hn | hn
      · rw [h2]; exact List.mem_append_left _ hn
      · exact h3 n (List.mem_append_right _ hn)) h4 h5
  refine ⟨gcH k h v.refs, h1, tk, fun n hn => h3 n (List.mem_append_right _ hn), h4, h5, ?_⟩
  unfold gcR
  simp only [cl, tk, decide_true, Bool.and_self, gd_t]
theorem subH_at {h : Hm} {rs : List Nat} {n : Nat} {o : O} (hn : n ∈ rs) (e : h[n]? = some o) : (subH h rs)[ixOf rs n]? = some (o.map (ixOf rs)) := by
  unfold subH
  rw [List.getElem?_map, ixOf_get hn, Option.map_some, List.getD_eq_getElem?_getD, e]; rfl
/-- objects that hold none but the first ones stay the first ones -/
theorem subH_low {h : Hm} {rs : List Nat} {k i : Nat} {o : O} (tk : rs.take k = nums 0 k) (hi : i < k) (e : h[i]? = some o) (ho : ∀ n ∈ o.refs, n < k) : (subH h rs)[i]? = some o := by
  have ei : ∀ j, j < k → rs[j]? = some j := fun j hj => by
    have : (rs.take k)[j]? = some j := by rw [tk, nums_at k 0 j hj]; simp
    rwa [List.getElem?_take_of_lt hj] at this
  have ix : ∀ j, j < k → ixOf rs j = j := fun j hj => by
    have : ∀ (rs : List Nat) (s k : Nat), rs.take k = nums s k → ∀ j, s ≤ j → j < s + k → ixOf rs j = j - s := fun rs => by
      induction rs with
      | nil => intro s k e j h1 h2; have := congrArg List.length e; rw [nums_len] at this; simp at this; omega
      | cons a r ih =>
        intro s k e j h1 h2
        cases k with
        | zero => omega
        | succ k =>
          simp only [List.take_succ_cons, nums, List.cons.injEq] at e
          rw [ixOf]
          split
          · rename_i q; rw [q, e.1]; omega
          · rename_i q
            rw [e.1] at q
            rw [ih (s + 1) k e.2 j (by omega) (by omega)]; omega
    simpa using this rs 0 k tk j (Nat.zero_le _) (by omega)
  unfold subH
  rw [List.getElem?_map, ei i hi, Option.map_some, List.getD_eq_getElem?_getD, e]
  simp only [Option.getD_some]
  rw [omap_id _ _ fun n hn => ix n (ho n hn)]
/-! ### lists of lists of ints -/
/-- items that are lists of ints of their own -/
inductive LL (h : Hm) : List D → List (List Int) → Prop
  | nil : LL h [] []
  | cons {n : Nat} {l : List Int} {ds : List D} {ls : List (List Int)} : h[n]? = some (.lst (zl l)) → LL h ds ls → LL h (.ref n :: ds) (l :: ls)
theorem LL.mono {h h' : Hm} : ∀ {ds : List D} {ls : List (List Int)}, (∀ n ∈ D.refsL ds, ∀ o, h[n]? = some o → h'[n]? = some o) → LL h ds ls → LL h' ds ls
  | _, _, _, .nil => .nil
  | _, _, hk, .cons e t => .cons (hk _ (by simp [D.refsL, D.refs]) _ e) (t.mono fun n hn => hk n (by simp [D.refsL, D.refs, hn]))
theorem LL.snoc {h : Hm} {n : Nat} {l : List Int} (e : h[n]? = some (.lst (zl l))) : ∀ {ds : List D} {ls : List (List Int)}, LL h ds ls → LL h (ds ++ [.ref n]) (ls ++ [l])
  | _, _, .nil => .cons e .nil
  | _, _, .cons e' t => .cons e' (t.snoc e)
theorem LL.len {h : Hm} : ∀ {ds : List D} {ls : List (List Int)}, LL h ds ls → ds.length = ls.length
  | _, _, .nil => rfl
  | _, _, .cons _ t => congrArg Nat.succ t.len
theorem LL.sub {h : Hm} {rs : List Nat} : ∀ {ds : List D} {ls : List (List Int)}, (∀ n ∈ D.refsL ds, n ∈ rs) → LL h ds ls → LL (subH h rs) (D.mapL (ixOf rs) ds) ls
  | _, _, _, .nil => .nil
  | _, _, hk, .cons e t => by
    rename_i n l ds ls
    rw [D.mapL, D.map]
    refine .cons ?_ (t.sub fun m hm => hk m (by simp [D.refsL, D.refs, hm]))
    have := subH_at (hk n (by simp [D.refsL, D.refs])) e
    rw [this]
    simp [O.map]
theorem LL.get {h : Hm} : ∀ {ds : List D} {ls : List (List Int)} {i : Nat} {l : List Int}, LL h ds ls → ls[i]? = some l → ∃ n, ds[i]? = some (.ref n) ∧ h[n]? = some (.lst (zl l))
  | _, _, i, l, .nil, e => by simp at e
  | _, _, 0, l, .cons q _, e => by simp at e; subst e; exact ⟨_, rfl, q⟩
  | _, _, i + 1, l, .cons _ t, e => by
    obtain ⟨n, h1, h2⟩ := t.get (i := i) (l := l) (by simpa using e)
    exact ⟨n, by simpa using h1, h2⟩
/-! ### calls with one place or two, their objects flat -/
theorem reach_flat1 {h : Hm} {a : Nat} {o : O} (e : h[a]? = some o) (ho : o.refs = []) : reach 100000 h [a] [] = [a] := by
  show reach (99998 + 1 + 1) h [a] [] = _
  simp [reach, e, ho]
theorem reach_flat2 {h : Hm} {a b : Nat} {o p : O} (ea : h[a]? = some o) (eb : h[b]? = some p) (ho : o.refs = []) (hp : p.refs = []) (ne : a ≠ b) : reach 100000 h [a, b] [] = [a, b] := by
  show reach (99997 + 1 + 1 + 1) h [a, b] [] = _
  simp [reach, ea, eb, ho, hp, Ne.symm ne]
theorem closed_flat1 {h : Hm} {a : Nat} {o : O} (e : h[a]? = some o) (ho : o.refs = []) : closedB h [a] [a] = true := by
  simp [closedB, e, ho]
theorem closed_flat2 {h : Hm} {a b : Nat} {o p : O} (ea : h[a]? = some o) (eb : h[b]? = some p) (ho : o.refs = []) (hp : p.refs = []) (ne : a ≠ b) : closedB h [a, b] [a, b] = true := by
  simp [closedB, ea, eb, ho, hp, ne]
theorem map_flat (f : Nat → Nat) {o : O} (ho : o.refs = []) : o.map f = o := omap_id f o (by simp [ho])
theorem callM_ro1 {Γ : Gm} {f a : Nat} {args : List D} {h : Hm} {o : O} {v : D} (hr : D.refsL args = [a]) (e : h[a]? = some o) (ho : o.refs = []) (hv : v.refs = []) (g : Γ f (D.mapL (ixOf [a]) args) [o] = .ok v [o]) : callM Γ f args h = .ok v h := by
  refine callM_ro [a] (by rw [hr]; exact reach_flat1 e ho) (by rw [hr]; exact closed_flat1 e ho) hv ?_
  have : subH h [a] = [o] := by simp [subH, List.getD_eq_getElem?_getD, e, map_flat _ ho]
  rw [this]; exact g
theorem callM_ro2 {Γ : Gm} {f a b : Nat} {args : List D} {h : Hm} {o p : O} {v : D} (hr : D.refsL args = [a, b]) (ea : h[a]? = some o) (eb : h[b]? = some p) (ho : o.refs = []) (hp : p.refs = []) (ne : a ≠ b) (hv : v.refs = []) (g : Γ f (D.mapL (ixOf [a, b]) args) [o, p] = .ok v [o, p]) : callM Γ f args h = .ok v h := by
  refine callM_ro [a, b] (by rw [hr]; exact reach_flat2 ea eb ho hp ne) (by rw [hr]; exact closed_flat2 ea eb ho hp ne) hv ?_
  have : subH h [a, b] = [o, p] := by simp [subH, List.getD_eq_getElem?_getD, ea, eb, map_flat _ ho, map_flat _ hp]
  rw [this]; exact g
/-- a call that reads one flat object and makes new ones -/
theorem callM_mk1 {Γ : Gm} {f a : Nat} {args : List D} {h new : Hm} {o : O} {v : D} (hr : D.refsL args = [a]) (e : h[a]? = some o) (ho : o.refs = []) (g : Γ f (D.mapL (ixOf [a]) args) [o] = .ok v (o :: new)) :
    callM Γ f args h = .ok (v.map (bk [a] h.length)) (h ++ new.map (O.map (bk [a] h.length))) := by
  unfold callM
  have hs : subH h [a] = [o] := by simp [subH, List.getD_eq_getElem?_getD, e, map_flat _ ho]
  simp only [hr, reach_flat1 e ho, closed_flat1 e ho, gd_t, hs, g]
  congr 1
  unfold putH
  simp only [List.length_cons, List.length_nil, Nat.zero_add, List.take_succ_cons, List.take_zero, List.map_cons, List.map_nil, List.drop_succ_cons, List.drop_zero, setAll, map_flat _ ho]
  rw [set_same e]
theorem bk1_ge {a len i : Nat} (h : 1 ≤ i) : bk [a] len i = len + (i - 1) := by
  unfold bk
  rw [if_neg (by simp; omega)]; simp
end Mi

set_option Elab.async false
set_option linter.all false
set_option maxRecDepth 100000
/-! values of all kinds: heaps with a base, renaming, calls and their ends -/
namespace Mi
open PySem
mutual
theorem refs_map (f : Nat → Nat) : ∀ d : D, (d.map f).refs = d.refs.map f
  | .non => by simp [D.map, D.refs]
  | .bl _ => by simp [D.map, D.refs]
  | .int _ => by simp [D.map, D.refs]
  | .str _ => by simp [D.map, D.refs]
  | .ref _ => by simp [D.map, D.refs]
  | .tup ds => by simp [D.map, D.refs, refsL_map f ds]
  | .lv ds => by simp [D.map, D.refs, refsL_map f ds]
  | .fl ds => by simp [D.map, D.refs, refsL_map f ds]
theorem refsL_map (f : Nat → Nat) : ∀ ds : List D, D.refsL (D.mapL f ds) = (D.refsL ds).map f
  | [] => rfl
  | d :: ds => by simp [D.mapL, D.refsL, refs_map f d, refsL_map f ds]
end
theorem kvRefs_map {κ : Type} (f : Nat → Nat) : ∀ l : List (κ × D), kvRefs (kvMap (D.map f) l) = (kvRefs l).map f
  | [] => rfl
  | (k, d) :: r => by simp [kvMap, kvRefs, refs_map, kvRefs_map f r]
theorem orefs_map (f : Nat → Nat) (o : O) : (o.map f).refs = o.refs.map f := by
  cases o <;> simp [O.map, O.refs, refsL_map, kvRefs_map]
theorem mapL_map (f : Nat → Nat) : ∀ ds : List D, D.mapL f ds = ds.map (D.map f)
  | [] => rfl
  | d :: ds => by simp [D.mapL, mapL_map f ds]
theorem mapL_len (f : Nat → Nat) (ds : List D) : (D.mapL f ds).length = ds.length := by rw [mapL_map]; simp
theorem kvPy_map (f : Nat → Nat) : ∀ l : List (L2.Key × D), (kvMap (D.map f) l).map (fun q => keyPy q.1) = l.map fun q => keyPy q.1
  | [] => rfl
  | (k, d) :: r => by simp [kvMap, kvPy_map f r]
theorem kvVal_map (f : Nat → Nat) : ∀ l : List (L2.Key × D), (kvMap (D.map f) l).map (·.2) = D.mapL f (l.map (·.2))
  | [] => rfl
  | (k, d) :: r => by simp [kvMap, D.mapL, kvVal_map f r]
theorem kvRefs_val : ∀ l : List (L2.Key × D), kvRefs l = D.refsL (l.map (·.2))
  | [] => rfl
  | (k, d) :: r => by simp [kvRefs, D.refsL, kvRefs_val r]
mutual
theorem st_mapV (f : Nat → Nat) : ∀ d : D, (d.map f).st = d.st
  | .non => by simp [D.map, D.st]
  | .bl _ => by simp [D.map, D.st]
  | .int _ => by simp [D.map, D.st]
  | .str _ => by simp [D.map, D.st]
  | .ref _ => by simp [D.map, D.st]
  | .tup ds => by simp [D.map, D.st, stL_mapV f ds]
  | .lv ds => by simp [D.map, D.st]
  | .fl ds => by simp [D.map, D.st, stL_mapV f ds]
theorem stL_mapV (f : Nat → Nat) : ∀ ds : List D, D.stL (D.mapL f ds) = D.stL ds
  | [] => rfl
  | d :: ds => by simp [D.mapL, D.stL, st_mapV f d, stL_mapV f ds]
end
/-! ### renaming -/
structure Ren (B : Nat) (h1 h2 : Hm) (g : Nat → Nat) (S : Nat → Prop) : Prop where
  at_ : ∀ i, S i → ∃ o, h1[i]? = some o ∧ h2[g i]? = some (o.map g) ∧ ∀ m ∈ o.refs, S m
  ge : ∀ i, S i → B ≤ g i
section
variable {B : Nat} {h1 h2 h3 : Hm} {g g' : Nat → Nat} {S S' : Nat → Prop}
theorem Ren.lt (R : Ren B h1 h2 g S) {i : Nat} (s : S i) : g i < h2.length := by
  obtain ⟨o, _, e, _⟩ := R.at_ i s
  exact (List.getElem?_eq_some_iff.mp e).1
theorem Ren.all {f1 f2 : D → Option PyData} : ∀ (ds : List D), (∀ d ∈ ds, f2 (d.map g) = f1 d) → allSome f2 (D.mapL g ds) = allSome f1 ds
  | [], _ => rfl
  | d :: ds, h => by
    rw [D.mapL, allSome, allSome, h d List.mem_cons_self, Ren.all ds fun x hx => h x (List.mem_cons_of_mem _ hx)]
theorem mem_refsL {ds : List D} {n : Nat} (h : n ∈ D.refsL ds) : ∃ d ∈ ds, n ∈ d.refs := by
  induction ds with
  | nil => cases h
  | cons x r ih =>
    rw [D.refsL] at h
    rcases List.mem_append.mp h with h | h
    · exact ⟨x, List.mem_cons_self, h⟩
    · obtain ⟨d, h1, h2⟩ := ih h
      exact ⟨d, List.mem_cons_of_mem _ h1, h2⟩
theorem Ren.py (R : Ren B h1 h2 g S) : ∀ (n : Nat) (v : D), (∀ m ∈ v.refs, S m) → pyOf n h2 (v.map g) = pyOf n h1 v
  | 0, v, _ => by cases v <;> simp [D.map, pyOf]
  | n + 1, v, s => by
    cases v with
    | tup ds =>
      rw [D.map, pyOf, pyOf, Ren.all ds fun d hd => R.py n d fun m hm => s m (by rw [D.refs]; exact refsL_mem hd hm)]
    | lv ds =>
      rw [D.map, pyOf, pyOf, Ren.all ds fun d hd => R.py n d fun m hm => s m (by rw [D.refs]; exact refsL_mem hd hm)]
    | fl ds =>
      rw [D.map, pyOf, pyOf, Ren.all ds fun d hd => R.py n d fun m hm => s m (by rw [D.refs]; exact refsL_mem hd hm)]
    | ref k =>
      obtain ⟨o, e1, e2, so⟩ := R.at_ k (s k (by simp [D.refs]))
      rw [D.map, pyOf, pyOf, e1, e2]
      cases o with
      | lst ds =>
        simp only [O.map]
        rw [Ren.all ds fun d hd => R.py n d fun m hm => so m (by rw [O.refs]; exact refsL_mem hd hm)]
      | dic kvs =>
        simp only [O.map]
        rw [kvVal_map, Ren.all (kvs.map (·.2)) fun d hd => R.py n d fun m hm => so m (by rw [O.refs, kvRefs_val]; exact refsL_mem hd hm), kvPy_map]
      | frd kvs => simp only [O.map]
      | ins c fs => simp only [O.map]
    | non => simp [D.map, pyOf]
    | bl b => simp [D.map, pyOf]
    | int b => simp [D.map, pyOf]
    | str b => simp [D.map, pyOf]
theorem Ren.lst (R : Ren B h1 h2 g S) {k : Nat} (s : S k) {ds : List D} (e : h1[k]? = some (.lst ds)) : h2[g k]? = some (.lst (D.mapL g ds)) ∧ ∀ m ∈ D.refsL ds, S m := by
  obtain ⟨o, e1, e2, so⟩ := R.at_ k s
  rw [e] at e1; cases e1
  exact ⟨e2, so⟩
end
/-! ### heaps with a base -/
structure HB (B : Nat) (X : List Nat) (h : Hm) : Prop where
  le : B ≤ h.length
  lo : ∀ (i : Nat) (o : O), i < B → h[i]? = some o → ∀ n ∈ o.refs, n < B
  hi : ∀ (i : Nat) (o : O), B ≤ i → i ∉ X → h[i]? = some o → ∀ n ∈ o.refs, B ≤ n ∧ n < h.length ∧ n ∉ X
  wf : ∀ (i : Nat) (o : O), h[i]? = some o → ∀ n ∈ o.refs, n < h.length
/-- numbers behind the base -/
def Inn (B : Nat) (X : List Nat) (h : Hm) (l : List Nat) : Prop := ∀ n ∈ l, B ≤ n ∧ n < h.length ∧ n ∉ X
structure Base (b : Hm) : Prop where
  pos : 0 < b.length
  lo : ∀ (i : Nat) (o : O), b[i]? = some o → ∀ n ∈ o.refs, n < b.length
  rch : ∀ (rest : Hm) (f : Nat) (ws : List Nat), reach (f + b.length) (b ++ rest) (0 :: ws) [] = reach f (b ++ rest) ws (nums 0 b.length)
theorem reach_in (h : Hm) (P : Nat → Prop) (hP : ∀ i, P i → ∀ o, h[i]? = some o → ∀ m ∈ o.refs, P m) : ∀ (f : Nat) (work seen : List Nat), (∀ n ∈ work, P n) → (∀ n ∈ seen, P n) → ∀ n ∈ reach f h work seen, P n
  | 0, _, seen, _, hs => by rw [reach]; exact hs
  | _ + 1, [], seen, _, hs => by rw [reach]; exact hs
  | f + 1, n :: t, seen, hw, hs => by
    rw [reach]
    split
    · exact reach_in h P hP f t seen (fun m hm => hw m (List.mem_cons_of_mem _ hm)) hs
    · refine reach_in h P hP f _ _ (fun m hm => ?_) fun m hm => ?_
      · rcases List.mem_append.mp hm with hm | hm
        · split at hm
          · rename_i o eo; exact hP n (hw n List.mem_cons_self) o eo m hm
          · cases hm
        · exact hw m (List.mem_cons_of_mem _ hm)
      · rcases List.mem_append.mp hm with hm | hm
        · exact hs m hm
        · simp at hm; subst hm; exact hw _ List.mem_cons_self
theorem sum_sub (φ : Nat → Nat) : ∀ {rs l : List Nat}, rs.Nodup → (∀ n ∈ rs, n ∈ l) → (rs.map φ).sum ≤ (l.map φ).sum
  | [], _, _, _ => by simp
  | a :: r, l, nd, hm => by
    have nd' := List.nodup_cons.mp nd
    have ha : a ∈ l := hm a List.mem_cons_self
    have p := List.perm_cons_erase ha
    have e : (l.map φ).sum = φ a + ((l.erase a).map φ).sum := by
      have := (p.map φ).sum_nat
      rw [this]; simp
    have ih := sum_sub φ (l := l.erase a) nd'.2 fun n hn => by
      refine (List.mem_erase_of_ne ?_).mpr (hm n (List.mem_cons_of_mem _ hn))
      intro q; subst q; exact nd'.1 hn
    simp only [List.map_cons, List.sum_cons]
    omega
theorem tot_sub {h : Hm} {rs : List Nat} (nd : rs.Nodup) (hl : ∀ n ∈ rs, n < h.length) : tot (subH h rs) ≤ tot h := by
  have e : tot (subH h rs) = (rs.map (rl h)).sum := by
    unfold tot subH
    rw [List.map_map]
    congr 1
    refine List.map_congr_left fun n hn => ?_
    simp only [Function.comp]
    rw [orefs_map, List.length_map]
    unfold rl
    rw [List.getD_eq_getElem?_getD, List.getElem?_eq_getElem (hl n hn)]
    rfl
  rw [e, ← rl_tot]
  exact sum_sub _ nd fun n hn => (mem_nums _ _ _).mpr (by have := hl n hn; omega)
theorem tot_app (a b : Hm) : tot (a ++ b) = tot a + tot b := by simp [tot]
theorem tot_map (f : Nat → Nat) (h : Hm) : tot (h.map (O.map f)) = tot h := by
  unfold tot
  rw [List.map_map]
  congr 1
  refine List.map_congr_left fun o _ => ?_
  simp [orefs_map]
/-- what a call sees -/
structure Sub (b rest rest' : Hm) (X : List Nat) (rs : List Nat) (as : List D) : Prop where
  rch : reach 100000 (b ++ rest) (D.refsL (.ref 0 :: as)) [] = rs
  cl : closedB (b ++ rest) rs (D.refsL (.ref 0 :: as)) = true
  sub : subH (b ++ rest) rs = b ++ rest'
  hb : HB b.length [] (b ++ rest')
  tot : tot (b ++ rest') ≤ tot (b ++ rest)
  ren : Ren b.length (b ++ rest) (b ++ rest') (ixOf rs) fun i => i ∈ rs ∧ b.length ≤ i
  arg : ∀ n ∈ D.refsL as, n ∈ rs
  tk : rs.take b.length = nums 0 b.length
  nx : ∀ n ∈ rs, n ∉ X
  pos : 0 < b.length
theorem Sub.c {b rest rest' : Hm} {X rs : List Nat} {as : List D} (s : Sub b rest rest' X rs as) : Cl (b ++ rest) rs (D.refsL (.ref 0 :: as)) := closed_of s.cl
theorem nums_take : ∀ {rs : List Nat} {k s : Nat}, rs.take k = nums s k → ∀ j, j < k → rs[j]? = some (s + j) := fun {rs k s} e j hj => by
  have : (rs.take k)[j]? = some (s + j) := by rw [e, nums_at k s j hj]
  rwa [List.getElem?_take_of_lt hj] at this
theorem ix_low {rs : List Nat} {k : Nat} (nd : rs.Nodup) (tk : rs.take k = nums 0 k) {j : Nat} (hj : j < k) : ixOf rs j = j := by
  have := nums_take tk j hj
  exact ixOf_at nd (by simpa using this)
theorem ix_high {rs : List Nat} {k : Nat} (nd : rs.Nodup) (tk : rs.take k = nums 0 k) {n : Nat} (hn : n ∈ rs) (hk : k ≤ n) : k ≤ ixOf rs n := by
  by_cases c : ixOf rs n < k
  · have h1 := nums_take tk _ c
    rw [ixOf_get hn] at h1
    simp at h1; omega
  · omega
theorem sub_base {b rest : Hm} {X : List Nat} (hb : Base b) (H : HB b.length X (b ++ rest)) (hX : ∀ x ∈ X, b.length ≤ x) {as : List D} (ha : Inn b.length X (b ++ rest) (D.refsL as)) (hz : (D.refsL as).length + tot (b ++ rest) < 90000) (hl : b.length ≤ 100) : ∃ rs rest', Sub b rest rest' X rs as := by
  have hr0 : reach 100000 (b ++ rest) (D.refsL (.ref 0 :: as)) [] = reach (100000 - b.length) (b ++ rest) (D.refsL as) (nums 0 b.length) := by
    have := hb.rch rest (100000 - b.length) (D.refsL as)
    rw [show 100000 - b.length + b.length = 100000 by omega] at this
    rw [← this]; rfl
  have blt : ∀ i, i < b.length → (b ++ rest)[i]? = b[i]? := fun i hi => List.getElem?_append_left hi
  obtain ⟨h1, ⟨t, h2⟩, h3, h4, h5⟩ := reach_spec (b ++ rest) H.wf (100000 - b.length) (D.refsL as) (nums 0 b.length) (nums_nd _ _) (fun n hn => (ha n hn).2.1) (fun n hn => by have := (mem_nums _ _ _).mp hn; have := H.le; omega)
    (fun n hn o ho k hk => .inl ((mem_nums _ _ _).mpr (by have := H.lo n o (by have := (mem_nums _ _ _).mp hn; omega) ho k hk; omega))) (by
      have : pnd (b ++ rest) (nums 0 b.length) (nums 0 (b ++ rest).length) ≤ tot (b ++ rest) := by rw [← rl_tot]; exact pnd_le _ _ _
      omega)
  generalize hrs : reach (100000 - b.length) (b ++ rest) (D.refsL as) (nums 0 b.length) = rs at *
  have tk : rs.take b.length = nums 0 b.length := by rw [h2, List.take_left' (nums_len 0 _)]
  have lowin : ∀ j, j < b.length → j ∈ rs := fun j hj => by rw [h2]; exact List.mem_append_left _ ((mem_nums _ _ _).mpr (by omega))
  have nx : ∀ n ∈ rs, n < b.length ∨ (b.length ≤ n ∧ n ∉ X) := by
    rw [← hrs]
    refine reach_in (b ++ rest) (fun n => n < b.length ∨ (b.length ≤ n ∧ n ∉ X)) (fun i hi o ho m hm => ?_) _ _ _ (fun n hn => .inr ⟨(ha n hn).1, (ha n hn).2.2⟩) (fun n hn => .inl (by have := (mem_nums _ _ _).mp hn; omega))
    rcases hi with hi | ⟨hi, hx⟩
    · exact .inl (H.lo i o hi ho m hm)
    · have := H.hi i o hi hx ho m hm
      exact .inr ⟨this.1, this.2.2⟩
  have cl : closedB (b ++ rest) rs (D.refsL (.ref 0 :: as)) = true := closedB_of h1 (fun n hn => by
    rcases List.mem_cons.mp (show n ∈ 0 :: D.refsL as from hn) with rfl | hn
    · exact lowin 0 hb.pos
    · exact h3 n hn) h4 h5
  have ixl : ∀ {j}, j < b.length → ixOf rs j = j := fun hj => ix_low h1 tk hj
  have es : subH (b ++ rest) rs = b ++ (subH (b ++ rest) rs).drop b.length := by
    have : (subH (b ++ rest) rs).take b.length = b := by
      refine List.ext_getElem? fun i => ?_
      by_cases hi : i < b.length
      · rw [List.getElem?_take_of_lt hi, subH_low tk hi (by rw [blt i hi]; exact List.getElem?_eq_getElem hi) (fun n hn => H.lo i _ hi (by rw [blt i hi]; exact List.getElem?_eq_getElem hi) n hn), List.getElem?_eq_getElem hi]
      · rw [List.getElem?_eq_none (by rw [List.length_take]; omega), List.getElem?_eq_none (by omega)]
    conv => lhs; rw [← List.take_append_drop b.length (subH (b ++ rest) rs), this]
  have ren : Ren b.length (b ++ rest) (subH (b ++ rest) rs) (ixOf rs) fun i => i ∈ rs ∧ b.length ≤ i := by
    refine ⟨fun i ⟨hi, hb'⟩ => ?_, fun i ⟨hi, hb'⟩ => ix_high h1 tk hi hb'⟩
    have e1 : (b ++ rest)[i]? = some ((b ++ rest)[i]'(h4 i hi)) := List.getElem?_eq_getElem (h4 i hi)
    refine ⟨_, e1, subH_at hi e1, fun m hm => ⟨h5 i hi _ e1 m hm, ?_⟩⟩
    rcases nx i hi with q | ⟨q, q2⟩
    · omega
    · exact (H.hi i _ q q2 e1 m hm).1
  have hbs : HB b.length [] (subH (b ++ rest) rs) := by
    have len : (subH (b ++ rest) rs).length = rs.length := by simp [subH]
    have at_ : ∀ (i : Nat) (o : O), (subH (b ++ rest) rs)[i]? = some o → ∃ n o', rs[i]? = some n ∧ (b ++ rest)[n]? = some o' ∧ o = o'.map (ixOf rs) := fun i o e => by
      have hi : i < rs.length := by rw [← len]; exact (List.getElem?_eq_some_iff.mp e).1
      have hn := List.getElem_mem hi
      have e1 : (b ++ rest)[rs[i]]? = some ((b ++ rest)[rs[i]]'(h4 _ hn)) := List.getElem?_eq_getElem (h4 _ hn)
      refine ⟨rs[i], _, List.getElem?_eq_getElem hi, e1, ?_⟩
      have := subH_at hn e1
      rw [ixOf_at h1 (List.getElem?_eq_getElem hi), e] at this
      exact Option.some.inj this
    refine ⟨by rw [len, h2, List.length_append, nums_len]; omega, fun i o hi e n hn => ?_, fun i o hi _ e n hn => ?_, fun i o e n hn => ?_⟩
    · have e' := subH_low (rs := rs) tk hi (by rw [blt i hi]; exact List.getElem?_eq_getElem hi) (fun n hn => H.lo i _ hi (by rw [blt i hi]; exact List.getElem?_eq_getElem hi) n hn)
      rw [e] at e'
      cases e'
      exact hb.lo i _ (List.getElem?_eq_getElem hi) n hn
    · obtain ⟨m, o', e1, e2, rfl⟩ := at_ i o e
      rw [orefs_map] at hn
      obtain ⟨k, hk, rfl⟩ := List.mem_map.mp hn
      have hm : m ∈ rs := List.mem_of_getElem? e1
      have hmB : b.length ≤ m := by
        by_cases c : m < b.length
        · have := ixl c
          rw [ixOf_at h1 e1] at this; omega
        · omega
      have hk' := h5 m hm o' e2 k hk
      have hkB : b.length ≤ k := by
        rcases nx m hm with q | ⟨q, q2⟩
        · omega
        · exact (H.hi m _ q q2 e2 k hk).1
      exact ⟨ix_high h1 tk hk' hkB, by rw [len]; exact ixOf_lt hk', by simp⟩
    · obtain ⟨m, o', e1, e2, rfl⟩ := at_ i o e
      rw [orefs_map] at hn
      obtain ⟨k, hk, rfl⟩ := List.mem_map.mp hn
      rw [len]; exact ixOf_lt (h5 m (List.mem_of_getElem? e1) o' e2 k hk)
  have tt := tot_sub (h := b ++ rest) h1 h4
  rw [es] at ren hbs tt
  exact ⟨rs, _, hr0, cl, es, hbs, tt, ren, h3, tk, fun n hn q => by
    rcases nx n hn with h | ⟨_, h⟩
    · have := hX n q; omega
    · exact h q, hb.pos⟩
theorem setAll_get : ∀ {rs : List Nat} {os : List O} {h : Hm} {n : Nat}, rs.Nodup → os.length = rs.length → (∀ n ∈ rs, n < h.length) → (setAll h rs os)[n]? = if n ∈ rs then os[ixOf rs n]? else h[n]?
  | [], [], h, n, _, _, _ => by simp [setAll]
  | [], _ :: _, h, n, _, e, _ => by simp at e
  | _ :: _, [], h, n, _, e, _ => by simp at e
  | a :: rs, o :: os, h, n, nd, e, hl => by
    have nd' := List.nodup_cons.mp nd
    rw [setAll, setAll_get nd'.2 (by simpa using e) (fun m hm => by rw [List.length_set]; exact hl m (List.mem_cons_of_mem _ hm))]
    by_cases q : n = a
    · subst q
      rw [if_neg nd'.1, if_pos List.mem_cons_self, List.getElem?_set_self (hl n List.mem_cons_self)]
      simp [ixOf]
    · rw [List.getElem?_set_ne (Ne.symm q)]
      by_cases q2 : n ∈ rs
      · rw [if_pos q2, if_pos (List.mem_cons_of_mem _ q2), ixOf, if_neg q]; rfl
      · rw [if_neg q2, if_neg]
        intro q3
        rcases List.mem_cons.mp q3 with q3 | q3
        · exact q q3
        · exact q2 q3
/-- a value that lies behind the base in the call's heap, from there to the caller's -/
theorem call_base {Γ : Gm} {f : Nat} {b rest rest' : Hm} {X rs : List Nat} {as : List D} (H : HB b.length X (b ++ rest)) (s : Sub b rest rest' X rs as) (hX : ∀ x ∈ X, x < (b ++ rest).length) {b' new : Hm} {v : D} (hb' : b'.length = b.length) (lo' : ∀ (i : Nat) (o : O), b'[i]? = some o → ∀ n ∈ o.refs, n < b.length)
    (hH : HB b.length [] (b' ++ (rest' ++ new)))
    (e : Γ f (.ref 0 :: D.mapL (ixOf rs) as) (b ++ rest') = .ok v (b' ++ (rest' ++ new))) :
    ∃ new', callM Γ f (.ref 0 :: as) (b ++ rest) = .ok (v.map (bk rs (b ++ rest).length)) (b' ++ (rest ++ new')) ∧ tot new' = tot new ∧ new'.length = new.length ∧
      Ren b.length (b' ++ (rest' ++ new)) (b' ++ (rest ++ new')) (bk rs (b ++ rest).length) (fun i => b.length ≤ i ∧ i < (b' ++ (rest' ++ new)).length) ∧ (∀ i, b.length ≤ i → i < (b' ++ (rest' ++ new)).length → bk rs (b ++ rest).length i ∉ X) ∧ HB b.length X (b' ++ (rest ++ new')) := by
  have c := s.c
  have nd := c.nd
  have lr' : (b ++ rest').length = b.length + rest'.length := by simp
  have lrs : rs.length = b.length + rest'.length := by rw [← lr', ← s.sub]; simp [subH]
  have a0 : D.mapL (ixOf rs) (.ref 0 :: as) = .ref 0 :: D.mapL (ixOf rs) as := by
    rw [D.mapL, D.map, ix_low nd s.tk s.pos]
  generalize hL : (b ++ rest).length = L at *
  have rl1 : ∀ i, i < rs.length → ∃ n, rs[i]? = some n ∧ n ∈ rs ∧ n < L ∧ bk rs L i = n := fun i hi => by
    have hm := List.getElem_mem hi
    refine ⟨rs[i], List.getElem?_eq_getElem hi, hm, by rw [← hL]; exact c.lt hm, ?_⟩
    unfold bk
    rw [if_pos hi, List.getD_eq_getElem?_getD, List.getElem?_eq_getElem hi]; rfl
  have rlB : ∀ i n, rs[i]? = some n → b.length ≤ i → b.length ≤ n := fun i n e1 hi => by
    by_cases q : n < b.length
    · have := ix_low nd s.tk q
      rw [ixOf_at nd e1] at this; omega
    · omega
  have bkl : ∀ i, i < b.length → bk rs L i = i := fun i hi => by
    have := nums_take s.tk i hi
    obtain ⟨n, e1, _, _, e2⟩ := rl1 i (by omega)
    rw [e1] at this
    simp at this; omega
  -- the objects of the base's end
  have orig : ∀ n o, n ∈ rs → b.length ≤ n → (b ++ rest)[n]? = some o → (b ++ rest')[ixOf rs n]? = some (o.map (ixOf rs)) ∧ (o.map (ixOf rs)).map (bk rs L) = o := fun n o hn hb2 eo => by
    refine ⟨by rw [← s.sub]; exact subH_at hn eo, ?_⟩
    rw [omap_map', omap_id]
    intro m hm
    obtain ⟨o2, eo2, cl2⟩ := c.clo n hn
    rw [eo] at eo2; cases eo2
    exact bk_ixOf (cl2 m hm)
  have lenb : ∀ (x : Hm) (i : Nat), b.length ≤ i → (b' ++ x)[i]? = (b ++ x)[i]? := fun x i hi => by
    rw [List.getElem?_append_right (by omega), List.getElem?_append_right hi, hb']
  have sa : setAll (b ++ rest) rs ((b' ++ rest').map (O.map (bk rs L))) = b' ++ rest := by
    have lo : ((b' ++ rest').map (O.map (bk rs L))).length = rs.length := by simp; omega
    refine List.ext_getElem? fun n => ?_
    rw [setAll_get nd lo (fun n hn => c.lt hn)]
    by_cases hn : n ∈ rs
    · rw [if_pos hn, List.getElem?_map]
      by_cases q : n < b.length
      · rw [ix_low nd s.tk q, List.getElem?_append_left (by omega), List.getElem?_append_left (by omega), List.getElem?_eq_getElem (by omega), Option.map_some]
        rw [omap_id _ _ fun m hm => bkl m (lo' n _ (List.getElem?_eq_getElem (by omega)) m hm)]
      · have hlt : n < (b ++ rest).length := c.lt hn
        obtain ⟨e1, e2⟩ := orig n _ hn (by omega) (List.getElem?_eq_getElem hlt)
        rw [lenb _ _ (ix_high nd s.tk hn (by omega)), e1, Option.map_some, e2, lenb _ _ (by omega), List.getElem?_eq_getElem hlt]
    · rw [if_neg hn]
      have q : ¬ n < b.length := fun q => hn (List.mem_of_getElem? (nums_take s.tk n q |>.trans (by simp)))
      rw [lenb _ _ (by omega)]
  have lH : (b' ++ (rest' ++ new)).length = rs.length + new.length := by simp; omega
  have lF : (b' ++ (rest ++ new.map (O.map (bk rs L)))).length = L + new.length := by rw [← hL]; simp; omega
  have atF : ∀ i, i < L → b.length ≤ i → (b' ++ (rest ++ new.map (O.map (bk rs L))))[i]? = (b ++ rest)[i]? := fun i hi hb2 => by
    rw [← List.append_assoc, List.getElem?_append_left (by rw [← hL] at hi; simpa [hb'] using hi), lenb _ _ hb2]
  have atN : ∀ j, (b' ++ (rest ++ new.map (O.map (bk rs L))))[L + j]? = (new[j]?).map (O.map (bk rs L)) := fun j => by
    have l2 : (b' ++ rest).length = L := by rw [← hL]; simp [hb']
    rw [← List.append_assoc, List.getElem?_append_right (by omega), l2, show L + j - L = j by omega, List.getElem?_map]
  have ren : Ren b.length (b' ++ (rest' ++ new)) (b' ++ (rest ++ new.map (O.map (bk rs L)))) (bk rs L) (fun i => b.length ≤ i ∧ i < (b' ++ (rest' ++ new)).length) := by
    refine ⟨fun i ⟨h1, h2⟩ => ?_, fun i ⟨h1, h2⟩ => ?_⟩
    · have eo : (b' ++ (rest' ++ new))[i]? = some ((b' ++ (rest' ++ new))[i]'h2) := List.getElem?_eq_getElem h2
      generalize (b' ++ (rest' ++ new))[i]'h2 = o at eo
      refine ⟨o, eo, ?_, fun m hm => by have := hH.hi i o h1 (by simp) eo m hm; exact ⟨this.1, this.2.1⟩⟩
      by_cases q : i < rs.length
      · obtain ⟨n, e2, hn, hl, e3⟩ := rl1 i q
        have hnB := rlB i n e2 h1
        have hlt : n < (b ++ rest).length := c.lt hn
        obtain ⟨e4, e5⟩ := orig n _ hn hnB (List.getElem?_eq_getElem hlt)
        rw [ixOf_at nd e2] at e4
        have : (b' ++ (rest' ++ new))[i]? = (b ++ rest')[i]? := by
          rw [← List.append_assoc, List.getElem?_append_left (by simp; omega), lenb _ _ h1]
        rw [this, e4] at eo
        cases eo
        rw [e3, atF n hl hnB, e5]
        exact List.getElem?_eq_getElem hlt
      · have e2 : bk rs L i = L + (i - rs.length) := by unfold bk; rw [if_neg q]
        rw [e2, atN]
        have : (b' ++ (rest' ++ new))[i]? = new[i - rs.length]? := by
          rw [← List.append_assoc, List.getElem?_append_right (by simp; omega)]
          congr 1
          simp; omega
        rw [this] at eo
        rw [eo]; rfl
    · by_cases q : i < rs.length
      · obtain ⟨n, e2, hn, hl, e3⟩ := rl1 i q
        rw [e3]; exact rlB i n e2 h1
      · unfold bk; rw [if_neg q, ← hL]; simp; omega
  have nX : ∀ i, b.length ≤ i → i < (b' ++ (rest' ++ new)).length → bk rs L i ∉ X := fun i h1 h2 => by
    by_cases q : i < rs.length
    · obtain ⟨n, e2, hn, hl, e3⟩ := rl1 i q
      rw [e3]; exact s.nx n hn
    · intro hx
      have := hX _ hx
      unfold bk at this
      rw [if_neg q] at this; omega
  have newO : ∀ i o, L ≤ i → (b' ++ (rest ++ new.map (O.map (bk rs L))))[i]? = some o → ∀ n ∈ o.refs, b.length ≤ n ∧ n < L + new.length ∧ n ∉ X := fun i o hi e2 n hn => by
    obtain ⟨j, rfl⟩ : ∃ j, i = L + j := ⟨i - L, by omega⟩
    rw [atN] at e2
    rw [Option.map_eq_some_iff] at e2
    obtain ⟨o', e3, rfl⟩ := e2
    rw [orefs_map] at hn
    obtain ⟨m, hm, rfl⟩ := List.mem_map.mp hn
    have hj := (List.getElem?_eq_some_iff.mp e3).1
    have e4 : (b' ++ (rest' ++ new))[rs.length + j]? = some o' := by
      rw [← List.append_assoc, List.getElem?_append_right (by simp; omega), ← e3]
      congr 1
      simp; omega
    have := hH.hi _ o' (by omega) (by simp) e4 m hm
    refine ⟨ren.ge m ⟨this.1, this.2.1⟩, by rw [← lF]; exact ren.lt ⟨this.1, this.2.1⟩, nX m this.1 this.2.1⟩
  refine ⟨new.map (O.map (bk rs L)), ?_, tot_map _ _, by simp, ren, nX, ?_⟩
  · unfold callM
    simp only [s.rch, s.cl, gd_t, s.sub, a0, e, hL]
    congr 1
    unfold putH
    have t1 : (b' ++ (rest' ++ new)).take rs.length = b' ++ rest' := by
      rw [← List.append_assoc, List.take_left' (by simp; omega)]
    have t2 : (b' ++ (rest' ++ new)).drop rs.length = new := by
      rw [← List.append_assoc, List.drop_left' (by simp; omega)]
    rw [t1, t2, hL, sa, List.append_assoc]
  · refine ⟨by rw [lF, ← hL]; simp; omega, fun i o hi e2 n hn => ?_, fun i o hi hx e2 n hn => ?_, fun i o e2 n hn => ?_⟩
    · rw [List.getElem?_append_left (by omega)] at e2
      exact lo' i o e2 n hn
    · by_cases q : i < L
      · rw [atF i q hi] at e2
        have := H.hi i o hi hx e2 n hn
        rw [lF]
        exact ⟨this.1, by omega, this.2.2⟩
      · rw [lF]; exact newO i o (by omega) e2 n hn
    · rw [lF]
      by_cases q0 : i < b.length
      · rw [List.getElem?_append_left (by omega)] at e2
        have := lo' i o e2 n hn
        have : b.length ≤ L := by rw [← hL]; simp
        omega
      · by_cases q : i < L
        · rw [atF i q (by omega)] at e2
          have := H.wf i o e2 n hn
          omega
        · exact (newO i o (by omega) e2 n hn).2.1
end Mi

set_option Elab.async false
set_option linter.all false
/-! what isinstance tells -/
namespace Mi
open PySem
@[simp] theorem bi_isInt (h : Hm) (d : D) : biD h .isInt [d] = some (.bl (isIn d)) := rfl
@[simp] theorem bi_isBool (h : Hm) (d : D) : biD h .isBool [d] = some (.bl (isBl d)) := rfl
@[simp] theorem bi_isTuple (h : Hm) (d : D) : biD h .isTuple [d] = some (.bl (isTup d)) := rfl
@[simp] theorem isIn_int (i : Int) : isIn (.int i) = true := rfl
@[simp] theorem isBl_int (i : Int) : isBl (.int i) = false := rfl
@[simp] theorem isTup_tup (l : List D) : isTup (.tup l) = true := rfl
end Mi

set_option Elab.async false
set_option linter.all false
/-! what repr can show -/
namespace Mi
open PySem
def rs (d : D) : Prop := (toPy d).showable = true ∧ (toPy d).leavesShort 2000 = true
def rsL (ds : List D) : Prop := PyData.showableAll (toPyL ds) = true ∧ PyData.leavesShortAll 2000 (toPyL ds) = true
def blkL (ds : List D) : Nat := PyData.bulkAll (toPyL ds)
theorem rs_non : rs .non := ⟨by simp [toPy, PyData.showable], by simp [toPy, PyData.leavesShort]⟩
theorem rs_int {i : Int} (h : Bt 1919 i) : rs (.int i) := ⟨(rOk_int h).1, (rOk_int h).2.1⟩
theorem rs_tup {ds : List D} (h : rsL ds) : rs (.tup ds) := ⟨by simp only [toPy, PyData.showable]; exact h.1, by simp only [toPy, PyData.leavesShort]; exact h.2⟩
theorem rsL_nil : rsL [] := ⟨by simp [toPyL, PyData.showableAll], by simp [toPyL, PyData.leavesShortAll]⟩
theorem rsL_cons {d : D} {ds : List D} (h : rs d) (g : rsL ds) : rsL (d :: ds) := ⟨by simp [toPyL, PyData.showableAll, h.1, g.1], by simp [toPyL, PyData.leavesShortAll, h.2, g.2]⟩
theorem blkL_cons (d : D) (ds : List D) : blkL (d :: ds) = (toPy d).bulk + 1 + blkL ds := by simp [blkL, toPyL, PyData.bulkAll]
theorem rOk_tup {ds : List D} (h : rsL ds) (b : blkL ds ≤ 8000) : rOk (.tup ds) := ⟨(rs_tup h).1, (rs_tup h).2, by simp only [toPy, PyData.bulk]; exact b⟩
theorem blk_tup (ds : List D) : (toPy (.tup ds)).bulk = blkL ds := by simp [toPy, PyData.bulk, blkL]
theorem blk_int (i : Int) : (toPy (.int i)).bulk = 0 := by simp [toPy, PyData.bulk]
theorem blk_non : (toPy .non).bulk = 0 := by simp [toPy, PyData.bulk]
/-- numbers and None -/
theorem rs_flat : ∀ {ds : List D}, (∀ x ∈ ds, x = .non ∨ ∃ i, x = .int i ∧ Bt 1919 i) → rsL ds ∧ blkL ds = ds.length ∧ tdL ds = true ∧ lvlL ds = 0
  | [], _ => ⟨rsL_nil, by simp [blkL, toPyL, PyData.bulkAll], rfl, by simp⟩
  | d :: ds, h => by
    obtain ⟨h1, h2, h3, h4⟩ := rs_flat fun x hx => h x (List.mem_cons_of_mem _ hx)
    rcases h d List.mem_cons_self with rfl | ⟨i, rfl, hi⟩
    · exact ⟨rsL_cons rs_non h1, by rw [blkL_cons, blk_non, h2]; simp; omega, by simp [h3], by simp [h4]⟩
    · exact ⟨rsL_cons (rs_int hi) h1, by rw [blkL_cons, blk_int, h2]; simp; omega, by simp [h3], by simp [h4]⟩
end Mi

set_option Elab.async false
set_option linter.all false
set_option maxRecDepth 100000
/-! what repr can show; lists of texts -/
namespace Mi
open PySem
theorem blkL_nil : blkL [] = 0 := by simp [blkL, toPyL, PyData.bulkAll]
theorem rsL_all : ∀ {ds : List D}, (∀ d ∈ ds, rs d) → rsL ds
  | [], _ => rsL_nil
  | d :: ds, h => rsL_cons (h d List.mem_cons_self) (rsL_all fun x hx => h x (List.mem_cons_of_mem _ hx))
theorem blkL_all (k : Nat) : ∀ {ds : List D}, (∀ d ∈ ds, (toPy d).bulk ≤ k) → blkL ds ≤ (k + 1) * ds.length
  | [], _ => by simp [blkL_nil]
  | d :: ds, h => by
    have := blkL_all k (ds := ds) fun x hx => h x (List.mem_cons_of_mem _ hx)
    have := h d List.mem_cons_self
    rw [blkL_cons, List.length_cons, Nat.mul_succ]; omega
theorem tdL_all : ∀ {ds : List D}, (∀ d ∈ ds, td d = true) → tdL ds = true
  | [], _ => rfl
  | d :: ds, h => by simp [h d List.mem_cons_self, tdL_all fun x hx => h x (List.mem_cons_of_mem _ hx)]
theorem lvlL_all (k : Nat) : ∀ {ds : List D}, (∀ d ∈ ds, lvl d ≤ k) → lvlL ds ≤ k
  | [], _ => by simp
  | d :: ds, h => by
    have := lvlL_all k (ds := ds) fun x hx => h x (List.mem_cons_of_mem _ hx)
    have := h d List.mem_cons_self
    simp only [lvlL_cons]; omega
/-- all that repr wants -/
structure Rk (k l : Nat) (d : D) : Prop where
  s : rs d
  b : (toPy d).bulk ≤ k
  t : td d = true
  l : lvl d ≤ l
theorem Rk.int {i : Int} (h : Bt 1919 i) : Rk 0 0 (.int i) := ⟨rs_int h, by simp [blk_int], rfl, by simp⟩
theorem Rk.non : Rk 0 0 .non := ⟨rs_non, by simp [blk_non], rfl, by simp⟩
theorem Rk.mono {k l k' l' : Nat} {d : D} (r : Rk k l d) (hk : k ≤ k') (hl : l ≤ l') : Rk k' l' d := ⟨r.s, Nat.le_trans r.b hk, r.t, Nat.le_trans r.l hl⟩
theorem Rk.tup {k l n : Nat} {ds : List D} (h : ∀ d ∈ ds, Rk k l d) (hn : ds.length ≤ n) : Rk ((k + 1) * n) (l + 1) (.tup ds) :=
  ⟨rs_tup (rsL_all fun d hd => (h d hd).s), by
    rw [blk_tup]; exact Nat.le_trans (blkL_all k fun d hd => (h d hd).b) (Nat.mul_le_mul_left _ hn), by
    rw [td_tup]; exact tdL_all fun d hd => (h d hd).t, by
    have := lvlL_all l fun d hd => (h d hd).l
    simp only [lvl_tup]; omega⟩
theorem Rk.ok {k l : Nat} {d : D} (r : Rk k l d) (hk : k ≤ 8000) : rOk d := ⟨r.s.1, r.s.2, Nat.le_trans r.b hk⟩
theorem Rk.repr {k l : Nat} {d : D} {h : Hm} (r : Rk k l d) (hk : k ≤ 8000) (hl : l ≤ 40) : biD h .repr [d] = some (reprD d) := repr_td r.t (Nat.le_trans r.l hl) (r.ok hk)
theorem Rk.refs {k l : Nat} {d : D} (r : Rk k l d) : d.refs = [] := td_refs d r.t
end Mi

set_option Elab.async false
set_option linter.all false
set_option maxRecDepth 100000
/-! values of all kinds: ends of calls, looks, what repr tells -/
namespace Mi
open PySem
theorem hb_sub {B : Nat} {X : List Nat} {h : Hm} {rs : List Nat} (H : HB B X h) (nd : rs.Nodup) (tk : rs.take B = nums 0 B) (hl : ∀ n ∈ rs, n < h.length) (cl : ∀ n ∈ rs, ∀ o, h[n]? = some o → ∀ m ∈ o.refs, m ∈ rs) (nx : ∀ n ∈ rs, B ≤ n → n ∉ X) :
    HB B [] (subH h rs) ∧ Ren B h (subH h rs) (ixOf rs) fun i => i ∈ rs ∧ B ≤ i := by
  have len : (subH h rs).length = rs.length := by simp [subH]
  have at_ : ∀ (i : Nat) (o : O), (subH h rs)[i]? = some o → ∃ n o', rs[i]? = some n ∧ h[n]? = some o' ∧ o = o'.map (ixOf rs) := fun i o e => by
    have hi : i < rs.length := by rw [← len]; exact (List.getElem?_eq_some_iff.mp e).1
    have hn := List.getElem_mem hi
    have e1 : h[rs[i]]? = some (h[rs[i]]'(hl _ hn)) := List.getElem?_eq_getElem (hl _ hn)
    refine ⟨rs[i], _, List.getElem?_eq_getElem hi, e1, ?_⟩
    have := subH_at hn e1
    rw [ixOf_at nd (List.getElem?_eq_getElem hi), e] at this
    exact Option.some.inj this
  refine ⟨⟨?_, fun i o hi e n hn => ?_, fun i o hi _ e n hn => ?_, fun i o e n hn => ?_⟩, fun i ⟨hi, hb'⟩ => ?_, fun i ⟨hi, hb'⟩ => ix_high nd tk hi hb'⟩
  · rw [len]
    have := congrArg List.length tk
    rw [nums_len, List.length_take] at this
    omega
  · obtain ⟨m, o', e1, e2, rfl⟩ := at_ i o e
    have := nums_take tk i hi
    rw [e1] at this
    simp only [Option.some.injEq, Nat.zero_add] at this
    subst this
    rw [orefs_map] at hn
    obtain ⟨k, hk, rfl⟩ := List.mem_map.mp hn
    have hkB := H.lo m o' hi e2 k hk
    rw [ix_low nd tk hkB]; exact hkB
  · obtain ⟨m, o', e1, e2, rfl⟩ := at_ i o e
    rw [orefs_map] at hn
    obtain ⟨k, hk, rfl⟩ := List.mem_map.mp hn
    have hm : m ∈ rs := List.mem_of_getElem? e1
    have hmB : B ≤ m := by
      by_cases c : m < B
      · have := ix_low nd tk c
        rw [ixOf_at nd e1] at this; omega
      · omega
    have hk' := cl m hm o' e2 k hk
    have hkB := (H.hi m o' hmB (nx m hm hmB) e2 k hk).1
    exact ⟨ix_high nd tk hk' hkB, by rw [len]; exact ixOf_lt hk', by simp⟩
  · obtain ⟨m, o', e1, e2, rfl⟩ := at_ i o e
    rw [orefs_map] at hn
    obtain ⟨k, hk, rfl⟩ := List.mem_map.mp hn
    rw [len]; exact ixOf_lt (cl m (List.mem_of_getElem? e1) o' e2 k hk)
  · have e1 : h[i]? = some (h[i]'(hl i hi)) := List.getElem?_eq_getElem (hl i hi)
    refine ⟨_, e1, subH_at hi e1, fun m hm => ⟨cl i hi _ e1 m hm, (H.hi i _ hb' (nx i hi hb') e1 m hm).1⟩⟩
theorem nodup_leN {rs l : List Nat} (nd : rs.Nodup) (h : ∀ n ∈ rs, n ∈ l) : rs.length ≤ l.length := by
  have e : ∀ l : List Nat, (l.map fun _ => 1).sum = l.length := fun l => by
    induction l with
    | nil => rfl
    | cons a r ih => simp only [List.map_cons, List.sum_cons, ih, List.length_cons]; omega
  have := sum_sub (fun _ => 1) nd h
  rwa [e, e] at this
/-- the end of a call -/
theorem gc_base {B : Nat} {b rest junk : Hm} (hB : b.length = B) (H : HB B [] (b ++ (rest ++ junk))) (old : ∀ (i : Nat) (o : O), B ≤ i → i < B + rest.length → (b ++ (rest ++ junk))[i]? = some o → ∀ n ∈ o.refs, n < B + rest.length) {v : D} (hv : Inn B [] (b ++ (rest ++ junk)) v.refs) (hz : v.refs.length + tot (b ++ (rest ++ junk)) < 100000) :
    ∃ rs new, gcR (B + rest.length) (.ok v (b ++ (rest ++ junk))) = .ok (v.map (ixOf rs)) (b ++ (rest ++ new)) ∧ tot new ≤ tot junk ∧ new.length ≤ junk.length ∧ Ren B (b ++ (rest ++ junk)) (b ++ (rest ++ new)) (ixOf rs) (fun i => i ∈ rs ∧ B ≤ i) ∧ (∀ n ∈ v.refs, n ∈ rs ∧ B ≤ n) ∧ HB B [] (b ++ (rest ++ new)) := by
  have lh : (b ++ (rest ++ junk)).length = B + rest.length + junk.length := by simp; omega
  obtain ⟨rs, nd, tk, hvr, hlt, cl, e⟩ := gcR_gen (v := v) (h := b ++ (rest ++ junk)) (k := B + rest.length) (by omega) H.wf (fun n hn => (hv n hn).2.1) hz
  have tkB : rs.take B = nums 0 B := by
    have : (rs.take (B + rest.length)).take B = (nums 0 (B + rest.length)).take B := by rw [tk]
    rw [List.take_take, show min B (B + rest.length) = B by omega] at this
    rw [this]
    refine List.ext_getElem? fun i => ?_
    by_cases hi : i < B
    · rw [List.getElem?_take_of_lt hi, nums_at _ _ _ (by omega), nums_at _ _ _ hi]
    · rw [List.getElem?_eq_none (by rw [List.length_take, nums_len]; omega), List.getElem?_eq_none (by rw [nums_len]; omega)]
  obtain ⟨hb, ren⟩ := hb_sub H nd tkB hlt cl (fun _ _ _ => by simp)
  have es : subH (b ++ (rest ++ junk)) rs = b ++ (rest ++ (subH (b ++ (rest ++ junk)) rs).drop (B + rest.length)) := by
    have tkk : (subH (b ++ (rest ++ junk)) rs).take (B + rest.length) = b ++ rest := by
      refine List.ext_getElem? fun i => ?_
      by_cases hi : i < B + rest.length
      · have e1 : (b ++ (rest ++ junk))[i]? = some ((b ++ (rest ++ junk))[i]'(by omega)) := List.getElem?_eq_getElem (by omega)
        rw [List.getElem?_take_of_lt hi, subH_low tk hi e1 (fun n hn => by
          by_cases q : i < B
          · have := H.lo i _ q e1 n hn; omega
          · exact old i _ (by omega) hi e1 n hn), ← e1, ← List.append_assoc, List.getElem?_append_left (by simp; omega)]
      · rw [List.getElem?_eq_none (by rw [List.length_take]; omega), List.getElem?_eq_none (by simp; omega)]
    conv => lhs; rw [← List.take_append_drop (B + rest.length) (subH (b ++ (rest ++ junk)) rs), tkk, List.append_assoc]
  have tt := tot_sub nd hlt
  have ll : (subH (b ++ (rest ++ junk)) rs).length ≤ (b ++ (rest ++ junk)).length := by
    have := nodup_leN nd (l := nums 0 (b ++ (rest ++ junk)).length) fun n hn => (mem_nums _ _ _).mpr (by have := hlt n hn; omega)
    rw [nums_len] at this
    simpa [subH] using this
  rw [es] at e hb ren tt ll
  refine ⟨rs, _, e, ?_, ?_, ren, fun n hn => ⟨hvr n hn, (hv n hn).1⟩, hb⟩
  · simp only [tot_app] at tt; omega
  · simp only [List.length_append] at ll; omega
/-- a call that looks at what it is given -/
theorem callM_look {Γ : Gm} {f : Nat} {as : List D} {h : Hm} {v : D} (wf : ∀ (i : Nat) (o : O), h[i]? = some o → ∀ n ∈ o.refs, n < h.length) (ha : ∀ n ∈ D.refsL as, n < h.length) (hz : (D.refsL as).length + tot h < 90000) (hv : v.refs = [])
    (e : ∀ (g : Nat → Nat) (h' : Hm), (∀ (i : Nat) (o : O), h'[i]? = some o → ∀ n ∈ o.refs, n < h'.length) → (∀ n ∈ D.refsL (D.mapL g as), n < h'.length) → tot h' ≤ tot h → Γ f (D.mapL g as) h' = .ok v h') : callM Γ f as h = .ok v h := by
  obtain ⟨h1, ⟨t, h2⟩, h3, h4, h5⟩ := reach_spec h wf 100000 (D.refsL as) [] (by simp) ha (by simp) (by simp) (by
      have : pnd h [] (nums 0 h.length) ≤ tot h := by rw [← rl_tot]; exact pnd_le _ _ _
      omega)
  refine callM_ro _ rfl (closedB_of h1 h3 h4 h5) hv ?_
  generalize reach 100000 h (D.refsL as) [] = rs at *
  have len : (subH h rs).length = rs.length := by simp [subH]
  refine e (ixOf rs) (subH h rs) (fun i o e n hn => ?_) (fun n hn => ?_) (tot_sub h1 h4)
  · have hi : i < rs.length := by rw [← len]; exact (List.getElem?_eq_some_iff.mp e).1
    have hm := List.getElem_mem hi
    have e1 : h[rs[i]]? = some (h[rs[i]]'(h4 _ hm)) := List.getElem?_eq_getElem (h4 _ hm)
    have e2 := subH_at hm e1
    rw [ixOf_at h1 (List.getElem?_eq_getElem hi), e] at e2
    obtain rfl := Option.some.inj e2
    rw [orefs_map] at hn
    obtain ⟨k, hk, rfl⟩ := List.mem_map.mp hn
    rw [len]; exact ixOf_lt (h5 _ hm _ e1 k hk)
  · rw [refsL_map] at hn
    obtain ⟨k, hk, rfl⟩ := List.mem_map.mp hn
    rw [len]; exact ixOf_lt (h3 k hk)
/-! ### what repr tells -/
structure Pq (k l : Nat) (p : PyData) : Prop where
  s1 : p.showable = true
  s2 : p.leavesShort 2000 = true
  b : p.bulk ≤ k
  d : p.depth ≤ l
theorem Pq.of {k l : Nat} {d : D} (r : Rk k l d) : Pq k l (toPy d) := by
  have q := shq_td d l r.t r.l
  rw [shQ_eq, Bool.and_eq_true, decide_eq_true_eq] at q
  exact ⟨r.s.1, r.s.2, r.b, q.2⟩
theorem Pq.mono {k l k' l' : Nat} {p : PyData} (h : Pq k l p) (hk : k ≤ k') (hl : l ≤ l') : Pq k' l' p := ⟨h.s1, h.s2, Nat.le_trans h.b hk, Nat.le_trans h.d hl⟩
theorem Pq.all {k l : Nat} : ∀ {ps : List PyData}, (∀ p ∈ ps, Pq k l p) → PyData.showableAll ps = true ∧ PyData.leavesShortAll 2000 ps = true ∧ PyData.bulkAll ps ≤ (k + 1) * ps.length ∧ PyData.depthAll ps ≤ l
  | [], _ => by simp [PyData.showableAll, PyData.leavesShortAll, PyData.bulkAll, PyData.depthAll]
  | p :: ps, h => by
    obtain ⟨h1, h2, h3, h5⟩ := Pq.all fun x hx => h x (List.mem_cons_of_mem _ hx)
    have g := h p List.mem_cons_self
    refine ⟨by simp [PyData.showableAll, g.s1, h1], by simp [PyData.leavesShortAll, g.s2, h2], ?_, by simp only [PyData.depthAll]; have := g.d; omega⟩
    simp only [PyData.bulkAll, List.length_cons, Nat.mul_succ]
    have := g.b
    omega
theorem Pq.lst {k l n : Nat} {ps : List PyData} (h : ∀ p ∈ ps, Pq k l p) (hn : ps.length ≤ n) : Pq ((k + 1) * n) (l + 1) (.list ps) := by
  obtain ⟨h1, h2, h3, h5⟩ := Pq.all h
  exact ⟨by simp only [PyData.showable]; exact h1, by simp only [PyData.leavesShort]; exact h2, by simp only [PyData.bulk]; exact Nat.le_trans h3 (Nat.mul_le_mul_left _ hn), by simp only [PyData.depth]; omega⟩
theorem Pq.tup {k l n : Nat} {ps : List PyData} (h : ∀ p ∈ ps, Pq k l p) (hn : ps.length ≤ n) : Pq ((k + 1) * n) (l + 1) (.tuple ps) := by
  obtain ⟨h1, h2, h3, h5⟩ := Pq.all h
  exact ⟨by simp only [PyData.showable]; exact h1, by simp only [PyData.leavesShort]; exact h2, by simp only [PyData.bulk]; exact Nat.le_trans h3 (Nat.mul_le_mul_left _ hn), by simp only [PyData.depth]; omega⟩
theorem Pq.bl (b : Bool) : Pq 0 0 (.bool b) := ⟨by simp [PyData.showable], by simp [PyData.leavesShort], by simp [PyData.bulk], by simp [PyData.depth]⟩
theorem Pq.int {i : Int} (h : Bt 1919 i) : Pq 0 0 (.int i) := Pq.of (d := .int i) (Rk.int h)
theorem Pq.non : Pq 0 0 .none := Pq.of (d := .non) Rk.non
theorem reprQ {h : Hm} {d : D} {p : PyData} (e : pyOf deepN h d = some p) (k : Pq 8000 60 p) : biD h .repr [d] = some (.str p.shown) := by
  have l := PyData.shown_le_bulk 2000 (by decide) p k.s2
  have hb := k.b
  have hd := k.d
  have hl : p.shown.length ≤ sizeLine := by rw [sizeLine_eq]; omega
  show reprOf h d = _
  unfold reprOf
  rw [e]
  simp only []
  split
  · rfl
  · rw [if_pos ⟨k.s1, by omega, hl⟩]
end Mi

set_option Elab.async false
set_option linter.all false
set_option maxRecDepth 100000
/-! values of all kinds: items, rows, values -/
namespace Mi
open PySem
theorem py_mono {h : Hm} : ∀ (n : Nat) {d : D} {p : PyData}, pyOf n h d = some p → pyOf (n + 1) h d = some p
  | 0, d, p, e => by cases d <;> simp_all [pyOf]
  | n + 1, d, p, e => by
    have al : ∀ (ds : List D) (ps : List PyData), allSome (pyOf n h) ds = some ps → allSome (pyOf (n + 1) h) ds = some ps := fun ds => by
      induction ds with
      | nil => exact fun ps e => e
      | cons a r ih =>
        intro ps e
        simp only [allSome] at e ⊢
        split at e
        · rename_i q qs e1 e2
          rw [py_mono n e1, ih _ e2]; exact e
        · cases e
    cases d with
    | tup ds =>
      rw [pyOf, Option.map_eq_some_iff] at e
      obtain ⟨ps, e1, rfl⟩ := e
      rw [pyOf, al _ _ e1]; rfl
    | lv ds =>
      rw [pyOf, Option.map_eq_some_iff] at e
      obtain ⟨ps, e1, rfl⟩ := e
      rw [pyOf, al _ _ e1]; rfl
    | fl ds =>
      rw [pyOf, Option.map_eq_some_iff] at e
      obtain ⟨ps, e1, rfl⟩ := e
      rw [pyOf, al _ _ e1]; rfl
    | ref k =>
      rw [pyOf] at e ⊢
      cases ek : h[k]? with
      | none => rw [ek] at e; cases e
      | some o =>
        rw [ek] at e
        cases o with
        | lst ds =>
          simp only [Option.map_eq_some_iff] at e ⊢
          obtain ⟨ps, e1, rfl⟩ := e
          exact ⟨ps, al _ _ e1, rfl⟩
        | dic kvs =>
          simp only [Option.map_eq_some_iff] at e ⊢
          obtain ⟨ps, e1, rfl⟩ := e
          exact ⟨ps, al _ _ e1, rfl⟩
        | frd kvs => cases e
        | ins c fs => cases e
    | _ => simpa [pyOf] using e
theorem py_le {h : Hm} {n m : Nat} (hm : n ≤ m) {d : D} {p : PyData} (e : pyOf n h d = some p) : pyOf m h d = some p := by
  obtain ⟨k, rfl⟩ := Nat.le.dest hm
  induction k with
  | zero => exact e
  | succ k ih => exact py_mono _ (ih (by omega))
theorem py_all {h : Hm} {n k l : Nat} : ∀ {ds : List D}, (∀ d ∈ ds, ∃ p, pyOf n h d = some p ∧ Pq k l p) → ∃ ps, allSome (pyOf n h) ds = some ps ∧ (∀ p ∈ ps, Pq k l p) ∧ ps.length = ds.length
  | [], _ => ⟨[], rfl, by simp, rfl⟩
  | d :: ds, hd => by
    obtain ⟨p, e1, q1⟩ := hd d List.mem_cons_self
    obtain ⟨ps, e2, q2, l⟩ := py_all fun x hx => hd x (List.mem_cons_of_mem _ hx)
    refine ⟨p :: ps, by rw [allSome, e1, e2], fun x hx => ?_, by simp [l]⟩
    rcases List.mem_cons.mp hx with rfl | hx
    · exact q1
    · exact q2 x hx
/-- a small item of whatever kind -/
structure It (B : Nat) (X : List Nat) (h : Hm) (d : D) : Prop where
  st : d.st = true
  inn : Inn B X h d.refs
  few : d.refs.length ≤ 1
  py : ∃ p, pyOf 9 h d = some p ∧ Pq 10 3 p
theorem It.of {B : Nat} {X : List Nat} {h : Hm} {d : D} (r : Rk 10 3 d) : It B X h d :=
  ⟨td_st d r.t, (fun n hn => by rw [r.refs] at hn; exact nomatch hn), (by rw [r.refs]; simp), toPy d, py_td h 9 d r.t (Nat.le_trans r.l (by omega)), Pq.of r⟩
theorem It.bl {B : Nat} {X : List Nat} {h : Hm} (b : Bool) : It B X h (.bl b) :=
  ⟨rfl, fun n hn => by simp [D.refs] at hn, by simp [D.refs], .bool b, by simp [pyOf], (Pq.bl b).mono (by omega) (by omega)⟩
theorem It.ren {B : Nat} {X X' : List Nat} {h h' : Hm} {g : Nat → Nat} {S : Nat → Prop} (R : Ren B h h' g S) (nX : ∀ i, S i → g i ∉ X') {d : D} (i : It B X h d) (s : ∀ m ∈ d.refs, S m) : It B X' h' (d.map g) := by
  obtain ⟨p, e, q⟩ := i.py
  refine ⟨by rw [st_mapV]; exact i.st, fun n hn => ?_, by rw [refs_map, List.length_map]; exact i.few, p, by rw [R.py 9 d s]; exact e, q⟩
  rw [refs_map] at hn
  obtain ⟨m, hm, rfl⟩ := List.mem_map.mp hn
  exact ⟨R.ge m (s m hm), R.lt (s m hm), nX m (s m hm)⟩
/-- a row of such: a tuple or a list -/
def RowD (B : Nat) (X : List Nat) (h : Hm) (a : D) (ds : List D) : Prop :=
  (a = .tup ds ∨ ∃ k, a = .ref k ∧ B ≤ k ∧ k ∉ X ∧ h[k]? = some (.lst ds)) ∧ ds.length ≤ 40 ∧ ∀ d ∈ ds, It B X h d
theorem refsL_few {ds : List D} {k : Nat} (h : ∀ d ∈ ds, d.refs.length ≤ k) : (D.refsL ds).length ≤ k * ds.length := by
  induction ds with
  | nil => simp [D.refsL]
  | cons a r ih =>
    have h1 := h a List.mem_cons_self
    have h2 := ih fun d hd => h d (List.mem_cons_of_mem _ hd)
    rw [D.refsL, List.length_append, List.length_cons, Nat.mul_succ]; omega
theorem its_inn {B : Nat} {X : List Nat} {h : Hm} {ds : List D} (hd : ∀ d ∈ ds, It B X h d) : Inn B X h (D.refsL ds) := fun n hn => by
  obtain ⟨d, h1, h2⟩ := mem_refsL hn
  exact (hd d h1).inn n h2
theorem RowD.inn {B : Nat} {X : List Nat} {h : Hm} {a : D} {ds : List D} (r : RowD B X h a ds) : Inn B X h a.refs := by
  rcases r.1 with rfl | ⟨k, rfl, h1, h2, h3⟩
  · simp only [D.refs]; exact its_inn r.2.2
  · intro n hn
    simp [D.refs] at hn; subst hn
    exact ⟨h1, (List.getElem?_eq_some_iff.mp h3).1, h2⟩
theorem RowD.st {B : Nat} {X : List Nat} {h : Hm} {a : D} {ds : List D} (r : RowD B X h a ds) : a.st = true := by
  rcases r.1 with rfl | ⟨k, rfl, _⟩
  · simp only [D.st]; exact (stL_iff ds).mpr fun d hd => (r.2.2 d hd).st
  · rfl
theorem RowD.few {B : Nat} {X : List Nat} {h : Hm} {a : D} {ds : List D} (r : RowD B X h a ds) : a.refs.length ≤ 40 := by
  rcases r.1 with rfl | ⟨k, rfl, _⟩
  · simp only [D.refs]
    have := refsL_few (k := 1) fun d hd => (r.2.2 d hd).few
    have := r.2.1
    omega
  · simp [D.refs]
theorem RowD.py {B : Nat} {X : List Nat} {h : Hm} {a : D} {ds : List D} (r : RowD B X h a ds) : ∃ p, pyOf 10 h a = some p ∧ Pq 440 4 p := by
  obtain ⟨ps, e, q, l⟩ := py_all fun d hd => (r.2.2 d hd).py
  have hl := r.2.1
  rcases r.1 with rfl | ⟨k, rfl, _, _, e2⟩
  · exact ⟨.tuple ps, by rw [pyOf, e]; rfl, Pq.tup (n := 40) q (by omega)⟩
  · exact ⟨.list ps, by rw [pyOf, e2]; simp only []; rw [e]; rfl, Pq.lst (n := 40) q (by omega)⟩
theorem RowD.ren {B : Nat} {X X' : List Nat} {h h' : Hm} {g : Nat → Nat} {S : Nat → Prop} (R : Ren B h h' g S) (nX : ∀ i, S i → g i ∉ X') {a : D} {ds : List D} (r : RowD B X h a ds) (s : ∀ m ∈ a.refs, S m) : RowD B X' h' (a.map g) (D.mapL g ds) := by
  have items : (∀ m ∈ D.refsL ds, S m) → ∀ d ∈ D.mapL g ds, It B X' h' d := fun sd d hd => by
    rw [mapL_map] at hd
    obtain ⟨x, hx, rfl⟩ := List.mem_map.mp hd
    exact (r.2.2 x hx).ren R nX fun m hm => sd m (refsL_mem hx hm)
  refine ⟨?_, by rw [mapL_len]; exact r.2.1, ?_⟩
  · rcases r.1 with rfl | ⟨k, rfl, h1, h2, h3⟩
    · exact .inl (by rw [D.map])
    · have sk := s k (by simp [D.refs])
      exact .inr ⟨g k, by rw [D.map], R.ge k sk, nX k sk, (R.lst sk h3).1⟩
  · rcases r.1 with rfl | ⟨k, rfl, h1, h2, h3⟩
    · exact items (by simpa [D.refs] using s)
    · exact items (R.lst (s k (by simp [D.refs])) h3).2
/-- a value to be asked about -/
structure Vl (B : Nat) (X : List Nat) (h : Hm) (v : D) : Prop where
  st : v.st = true
  inn : Inn B X h v.refs
  few : v.refs.length ≤ 130
  py : ∃ p, pyOf 12 h v = some p ∧ Pq 2000 6 p
  len : ∀ ds ds' : List D, v = .tup ds → .tup ds' ∈ ds → ds'.length ≤ 1000
theorem Vl.ren {B : Nat} {X X' : List Nat} {h h' : Hm} {g : Nat → Nat} {S : Nat → Prop} (R : Ren B h h' g S) (nX : ∀ i, S i → g i ∉ X') {d : D} (i : Vl B X h d) (s : ∀ m ∈ d.refs, S m) : Vl B X' h' (d.map g) := by
  obtain ⟨p, e, q⟩ := i.py
  refine ⟨by rw [st_mapV]; exact i.st, fun n hn => ?_, by rw [refs_map, List.length_map]; exact i.few, ⟨p, by rw [R.py 12 d s]; exact e, q⟩, fun ds ds' hv hd => ?_⟩
  · rw [refs_map] at hn
    obtain ⟨m, hm, rfl⟩ := List.mem_map.mp hn
    exact ⟨R.ge m (s m hm), R.lt (s m hm), nX m (s m hm)⟩
  · cases d with
    | tup es =>
      rw [D.map] at hv
      cases hv
      rw [mapL_map] at hd
      obtain ⟨x, hx, ex⟩ := List.mem_map.mp hd
      cases x with
      | tup ys =>
        rw [D.map] at ex
        cases ex
        rw [mapL_len]; exact i.len es ys rfl hx
      | _ => simp [D.map] at ex
    | _ => simp [D.map] at hv
/-- .. that can be turned again -/
def Kd (B : Nat) (X : List Nat) (h : Hm) (v : D) (N : Nat) : Prop := Vl B X h v ∧ ∀ ds, v = .tup ds → ds.length = 2 → ∃ a b ra rb, ds = [a, b] ∧ RowD B X h a ra ∧ RowD B X h b rb ∧ ra.length ≤ N ∧ rb.length ≤ N
theorem Kd.ren {B : Nat} {X X' : List Nat} {h h' : Hm} {g : Nat → Nat} {S : Nat → Prop} (R : Ren B h h' g S) (nX : ∀ i, S i → g i ∉ X') {d : D} {N : Nat} (i : Kd B X h d N) (s : ∀ m ∈ d.refs, S m) : Kd B X' h' (d.map g) N := by
  refine ⟨i.1.ren R nX s, fun ds hv hl => ?_⟩
  cases d with
  | tup es =>
    rw [D.map] at hv
    cases hv
    rw [mapL_len] at hl
    obtain ⟨a, b, ra, rb, rfl, h1, h2, h3, h4⟩ := i.2 es rfl hl
    refine ⟨a.map g, b.map g, _, _, rfl, h1.ren R nX fun m hm => s m (by simp [D.refs, D.refsL, hm]), h2.ren R nX fun m hm => s m (by simp [D.refs, D.refsL, hm]), by rw [mapL_len]; exact h3, by rw [mapL_len]; exact h4⟩
  | _ => simp [D.map] at hv
/-- a heap that has what another one has -/
theorem ren_ext {B : Nat} {X : List Nat} {h h' : Hm} (H : HB B X h) (hk : ∀ (i : Nat) (o : O), B ≤ i → i ∉ X → h[i]? = some o → h'[i]? = some o) : Ren B h h' id fun i => B ≤ i ∧ i < h.length ∧ i ∉ X := by
  refine ⟨fun i ⟨h1, h2, h3⟩ => ?_, fun i s => s.1⟩
  have e := List.getElem?_eq_getElem h2
  refine ⟨_, e, ?_, fun m hm => H.hi i _ h1 h3 e m hm⟩
  rw [omap_id id _ fun _ _ => rfl]
  exact hk i _ h1 h3 e
theorem map_idD (d : D) : d.map id = d := map_id' id d fun _ _ => rfl
theorem Vl.ext {B : Nat} {X : List Nat} {h h' : Hm} (H : HB B X h) (hk : ∀ (i : Nat) (o : O), B ≤ i → i ∉ X → h[i]? = some o → h'[i]? = some o) {d : D} (i : Vl B X h d) : Vl B X h' d := by
  have := i.ren (ren_ext H hk) (X' := X) (fun i s => s.2.2) i.inn
  rwa [map_idD] at this
theorem It.ext {B : Nat} {X : List Nat} {h h' : Hm} (H : HB B X h) (hk : ∀ (i : Nat) (o : O), B ≤ i → i ∉ X → h[i]? = some o → h'[i]? = some o) {d : D} (i : It B X h d) : It B X h' d := by
  have := i.ren (ren_ext H hk) (X' := X) (fun i s => s.2.2) i.inn
  rwa [map_idD] at this
theorem RowD.ext {B : Nat} {X : List Nat} {h h' : Hm} (H : HB B X h) (hk : ∀ (i : Nat) (o : O), B ≤ i → i ∉ X → h[i]? = some o → h'[i]? = some o) {d : D} {ds : List D} (i : RowD B X h d ds) : RowD B X h' d ds := by
  have := i.ren (ren_ext H hk) (X' := X) (fun i s => s.2.2) i.inn
  rw [map_idD, mapL_id' id ds fun _ _ => rfl] at this
  exact this
theorem Kd.ext {B : Nat} {X : List Nat} {h h' : Hm} (H : HB B X h) (hk : ∀ (i : Nat) (o : O), B ≤ i → i ∉ X → h[i]? = some o → h'[i]? = some o) {d : D} {N : Nat} (i : Kd B X h d N) : Kd B X h' d N := by
  have := i.ren (ren_ext H hk) (X' := X) (fun i s => s.2.2) i.1.inn
  rwa [map_idD] at this
/-- tuples of such -/
theorem Vl.tup {B : Nat} {X : List Nat} {h : Hm} {ds : List D} (hl : ds.length ≤ 3) (hd : ∀ d ∈ ds, d.st = true ∧ Inn B X h d.refs ∧ d.refs.length ≤ 40 ∧ (∃ p, pyOf 11 h d = some p ∧ Pq 440 5 p) ∧ ∀ ds', d = .tup ds' → ds'.length ≤ 1000) : Vl B X h (.tup ds) := by
  obtain ⟨ps, e, q, l⟩ := py_all fun d hx => (hd d hx).2.2.2.1
  refine ⟨by simp only [D.st]; exact (stL_iff ds).mpr fun d hx => (hd d hx).1, fun n hn => ?_, ?_, ⟨.tuple ps, by rw [pyOf, e]; rfl, (Pq.tup (n := 3) q (by omega)).mono (by omega) (by omega)⟩, fun es ds' hv hm => ?_⟩
  · simp only [D.refs] at hn
    obtain ⟨d, h1, h2⟩ := mem_refsL hn
    exact (hd d h1).2.1 n h2
  · simp only [D.refs]
    have := refsL_few (k := 40) fun d hx => (hd d hx).2.2.1
    omega
  · cases hv
    exact (hd _ hm).2.2.2.2 ds' rfl
theorem RowD.part {B : Nat} {X : List Nat} {h : Hm} {a : D} {ra : List D} (r : RowD B X h a ra) : a.st = true ∧ Inn B X h a.refs ∧ a.refs.length ≤ 40 ∧ (∃ p, pyOf 11 h a = some p ∧ Pq 440 5 p) ∧ ∀ ds', a = .tup ds' → ds'.length ≤ 1000 := by
  obtain ⟨p, e, q⟩ := r.py
  refine ⟨r.st, r.inn, r.few, ⟨p, py_mono _ e, q.mono (by omega) (by omega)⟩, fun ds' ea => ?_⟩
  have hl := r.2.1
  rcases r.1 with rfl | ⟨k, rfl, _⟩
  · cases ea; omega
  · cases ea
theorem It.part {B : Nat} {X : List Nat} {h : Hm} {a : D} (r : It B X h a) (hl : ∀ ds', a = .tup ds' → ds'.length ≤ 1000) : a.st = true ∧ Inn B X h a.refs ∧ a.refs.length ≤ 40 ∧ (∃ p, pyOf 11 h a = some p ∧ Pq 440 5 p) ∧ ∀ ds', a = .tup ds' → ds'.length ≤ 1000 := by
  obtain ⟨p, e, q⟩ := r.py
  exact ⟨r.st, r.inn, by have := r.few; omega, ⟨p, py_le (by omega) e, q.mono (by omega) (by omega)⟩, hl⟩
theorem Kd.pair {B : Nat} {X : List Nat} {h : Hm} {a b : D} {ra rb : List D} {N : Nat} (h1 : RowD B X h a ra) (h2 : RowD B X h b rb) (h3 : ra.length ≤ N) (h4 : rb.length ≤ N) : Kd B X h (.tup [a, b]) N :=
  ⟨Vl.tup (by simp) fun d hd => by
    simp only [List.mem_cons, List.not_mem_nil, or_false] at hd
    rcases hd with rfl | rfl
    · exact h1.part
    · exact h2.part, fun ds e _ => by cases e; exact ⟨a, b, ra, rb, rfl, h1, h2, h3, h4⟩⟩
end Mi

set_option Elab.async false
set_option linter.all false
set_option maxRecDepth 100000
/-! looks at values of all kinds -/
namespace Mi
open PySem
def Wf (h : Hm) : Prop := ∀ (i : Nat) (o : O), h[i]? = some o → ∀ n ∈ o.refs, n < h.length
theorem Wf.mem {h : Hm} (w : Wf h) : ∀ o ∈ h, ∀ n ∈ o.refs, n < h.length := fun o ho => by
  obtain ⟨i, hi, e⟩ := List.getElem_of_mem ho
  exact w i o (by rw [List.getElem?_eq_getElem hi, e])
theorem gc_same {h : Hm} (w : Wf h) {v : D} (hv : v.refs = []) : gcR h.length (.ok v h) = .ok v h := by
  have := gcR_keep (v := v) (h0 := h) (rest := []) rfl w.mem (by simp [hv])
  rwa [List.append_nil] at this
theorem gc_same1 {h rest : Hm} (w : Wf h) {v : D} (hv : v.refs = []) : gcR h.length (.ok v (h ++ rest)) = .ok v h :=
  gcR_keep (v := v) (h0 := h) (rest := rest) rfl w.mem (by simp [hv])
theorem isE_eqQ (ps : List PyData) : eqQ (.list ps) (.list []) = ps.isEmpty := by cases ps <;> simp [eqQ, eqQL]
theorem isE_eqQt (ps : List PyData) : eqQ (.tuple ps) (.tuple []) = ps.isEmpty := by cases ps <;> simp [eqQ, eqQL]
theorem allSome_isE {f : D → Option PyData} {ds : List D} {ps : List PyData} (e : allSome f ds = some ps) : ps.isEmpty = ds.isEmpty := by
  cases ds with
  | nil => simp [allSome] at e; subst e; rfl
  | cons d r =>
    simp only [allSome] at e
    split at e
    · cases e; rfl
    · cases e
theorem py_nilL (n : Nat) (h : Hm) : pyOf (n + 1) h (.lv []) = some (.list []) := by simp [pyOf, allSome]
theorem py_nilT (n : Nat) (h : Hm) : pyOf (n + 1) h (.tup []) = some (.tuple []) := by simp [pyOf, allSome]
theorem eq_lvE (h : Hm) (ds : List D) : eqD h (.lv ds) (.lv []) = some ds.isEmpty := by
  show (match pyOf (39 + 1) h (.lv ds), pyOf (39 + 1) h (.lv []) with
    | some a, some b => if shp a = true ∧ shp b = true then some (eqQ a b) else eqE h (.lv ds) (.lv [])
    | _, _ => eqE h (.lv ds) (.lv [])) = _
  rw [py_nilL]
  have ee : eqE h (.lv ds) (.lv []) = some ds.isEmpty := rfl
  rw [ee]
  rw [pyOf]
  cases e : allSome (pyOf 39 h) ds with
  | none => rfl
  | some ps =>
    simp only [Option.map_some]
    rw [isE_eqQ, allSome_isE e]
    split <;> rfl
theorem eq_tupE (h : Hm) (ds : List D) : eqD h (.tup ds) (.tup []) = some ds.isEmpty := by
  show (match pyOf (39 + 1) h (.tup ds), pyOf (39 + 1) h (.tup []) with
    | some a, some b => if shp a = true ∧ shp b = true then some (eqQ a b) else eqE h (.tup ds) (.tup [])
    | _, _ => eqE h (.tup ds) (.tup [])) = _
  rw [py_nilT]
  have ee : eqE h (.tup ds) (.tup []) = some ds.isEmpty := rfl
  rw [ee]
  rw [pyOf]
  cases e : allSome (pyOf 39 h) ds with
  | none => rfl
  | some ps =>
    simp only [Option.map_some]
    rw [isE_eqQt, allSome_isE e]
    split <;> rfl
def inn : D → Bool
  | .int _ => true
  | _ => false
theorem inn_map (g : Nat → Nat) (d : D) : inn (d.map g) = inn d := by cases d <;> simp [D.map, inn]
/-- small enough values in a heap -/
structure Sm (h : Hm) (v : D) : Prop where
  st : v.st = true
  rf : ∀ n ∈ v.refs, n < h.length
  few : v.refs.length ≤ 1000
theorem Sm.item {h : Hm} {ds : List D} (s : Sm h (.tup ds)) {d : D} (hd : d ∈ ds) : Sm h d := by
  have h1 := s.st
  have h2 := s.rf
  have h3 := s.few
  simp only [D.st] at h1
  simp only [D.refs] at h2 h3
  refine ⟨(stL_iff ds).mp h1 d hd, fun n hn => h2 n (refsL_mem hd hn), Nat.le_trans ?_ h3⟩
  clear h1 h2 h3 s
  induction ds with
  | nil => cases hd
  | cons a r ih =>
    rw [D.refsL, List.length_append]
    rcases List.mem_cons.mp hd with rfl | hd
    · omega
    · have := ih hd; omega
theorem isnot_non (h : Hm) (d : D) : cmpD h .IsNot d .non = some (!isN d) := rfl
theorem is_non (h : Hm) (d : D) : cmpD h .Is d .non = some (isN d) := rfl
theorem zl_sm {h : Hm} (l : List Int) : Sm h (.tup (zl l)) := ⟨by simp [D.st], by simp [D.refs], by simp [D.refs]⟩
theorem isN_map (g : Nat → Nat) (d : D) : isN (d.map g) = isN d := by cases d <;> simp [D.map, isN]
theorem isTup_f {v : D} (h : isTup v = false) (x : Hm) : biD x .isTuple [v] = some (.bl false) := by
  show some (D.bl (isTup v)) = _
  rw [h]
theorem isTup_t {ds : List D} (x : Hm) : biD x .isTuple [.tup ds] = some (.bl true) := rfl
theorem comp_filt {step : D → Hm → R (Option D)} {h : Hm} (f : D → Bool) : ∀ ds : List D, (∀ d ∈ ds, step d h = .ok (if f d = true then some d else none) h) → compL step none ds h = .ok (ds.filter f) h
  | [], _ => rfl
  | d :: ds, hs => by
    rw [compL, hs d List.mem_cons_self, bnd_ok, src_no, gd_t, comp_filt f ds fun x hx => hs x (List.mem_cons_of_mem _ hx), bnd_ok, List.filter_cons]
    cases f d <;> rfl
end Mi

set_option Elab.async false
set_option linter.all false
set_option maxRecDepth 100000
/-! lists of texts -/
namespace Mi
open PySem PyProof.Rows
def SO (x : Str) : Prop := ∀ c ∈ x.cps.toList, c < 0x110000
theorem SO.app {a b : Str} (h : SO a) (g : SO b) : SO (a ++ b) := fun c hc => by
  rcases mem_cps_append.mp hc with hc | hc
  · exact h c hc
  · exact g c hc
theorem SO.of (s : String) : SO (Str.ofString s) := fun c hc => by
  rw [signs_ofString] at hc
  obtain ⟨ch, _, rfl⟩ := List.mem_map.mp hc
  have := ch.valid
  unfold UInt32.isValidChar Nat.isValidChar at this
  have e : ch.toNat = ch.val.toNat := rfl
  rw [e]
  omega
theorem SO.join {sep : Str} {ts : List Str} (hs : SO sep) (h : ∀ t ∈ ts, SO t) : SO (Str.join sep ts) := fun c hc => by
  rcases (mem_join sep c ts).mp hc with ⟨t, ht, hc⟩ | ⟨_, hc⟩
  · exact h t ht c hc
  · exact hs c hc
theorem SO.ok {x : Str} (h : SO x) : PyData.strOk x = true := by
  unfold PyData.strOk
  rw [Array.all_eq_true']
  intro c hc
  have := h c (by simpa using hc)
  simpa using this
theorem SO.int (i : Int) : SO (PyData.shown (.int i)) := by rw [PyData.shown_int]; exact SO.of _
theorem SO.non : SO (PyData.shown .none) := by rw [PyData.shown_none]; exact SO.of _
theorem SO.all : ∀ {xs : List PyData}, (∀ x ∈ xs, SO x.shown) → ∀ t ∈ PyData.shownAll xs, SO t
  | [], _, t, ht => by rw [PyData.shownAll_nil] at ht; cases ht
  | x :: r, h, t, ht => by
    rw [PyData.shownAll_cons, List.mem_cons] at ht
    rcases ht with e | ht
    · rw [e]; exact h x List.mem_cons_self
    · exact SO.all (fun y hy => h y (List.mem_cons_of_mem _ hy)) t ht
theorem SO.tupP {xs : List PyData} (h : ∀ x ∈ xs, SO x.shown) : SO (PyData.shown (.tuple xs)) := by
  rw [PyData.shown_tuple]
  exact ((SO.of _).app (SO.join (SO.of _) (SO.all h))).app (SO.of _)
theorem SO.listP {xs : List PyData} (h : ∀ x ∈ xs, SO x.shown) : SO (PyData.shown (.list xs)) := by
  rw [PyData.shown_list]
  exact ((SO.of _).app (SO.join (SO.of _) (SO.all h))).app (SO.of _)
theorem toPyL_mem : ∀ {ds : List D} {x : PyData}, x ∈ toPyL ds → ∃ d ∈ ds, x = toPy d
  | [], x, h => by rw [toPyL] at h; cases h
  | d :: ds, x, h => by
    rw [toPyL] at h
    rcases List.mem_cons.mp h with rfl | h
    · exact ⟨d, List.mem_cons_self, rfl⟩
    · obtain ⟨d', h1, h2⟩ := toPyL_mem h
      exact ⟨d', List.mem_cons_of_mem _ h1, h2⟩
/-- the text that repr makes of d is a text -/
def So (d : D) : Prop := SO (PyData.shown (toPy d))
theorem So.int (i : Int) : So (.int i) := by unfold So; rw [toPy]; exact SO.int i
theorem So.non : So .non := by unfold So; rw [toPy]; exact SO.non
theorem So.tup {ds : List D} (h : ∀ d ∈ ds, So d) : So (.tup ds) := by
  unfold So
  rw [toPy]
  refine SO.tupP fun x hx => ?_
  obtain ⟨d, hd, rfl⟩ := toPyL_mem hx
  exact h d hd
theorem So.lv {ds : List D} (h : ∀ d ∈ ds, So d) : So (.lv ds) := by
  unfold So
  rw [toPy]
  refine SO.listP fun x hx => ?_
  obtain ⟨d, hd, rfl⟩ := toPyL_mem hx
  exact h d hd
theorem So.td {d : D} (h : So d) : td (reprD d) = true := by
  unfold reprD
  rw [Mi.td]
  exact SO.ok h
theorem eqD_lists {h : Hm} {y z : D} {a b : List D} (ea : lstOf h y = some a) (eb : lstOf h z = some b) (ta : tdL a = true) (tb : tdL b = true) (la : lvlL a ≤ 39) (lb : lvlL b ≤ 39) : eqD h y z = some (decide (a = b)) := by
  have pa := py_lst ea ta la
  have pb := py_lst eb tb lb
  have sa := shp_tdl (ds := a) ta la
  have sb := shp_tdl (ds := b) tb lb
  unfold eqD
  split
  · simp [lstOf] at ea
  · simp [lstOf] at ea
  · rw [pa, pb]
    simp only [sa, sb, and_self, if_true, eqQ, eq_tdL _ _ ta tb]
theorem reprs_td {ds : List D} (h : ∀ d ∈ ds, So d) : tdL (ds.map reprD) = true ∧ lvlL (ds.map reprD) ≤ 39 :=
  ⟨tdL_all fun d hd => by obtain ⟨x, hx, rfl⟩ := List.mem_map.mp hd; exact (h x hx).td, Nat.le_trans (lvlL_all 0 fun d hd => by obtain ⟨x, hx, rfl⟩ := List.mem_map.mp hd; unfold reprD; rw [lvl_str]; exact Nat.le_refl _) (by omega)⟩
/-- the reprs of a list, one behind another -/
theorem eq_reprs {h : Hm} {n : Nat} {ds : List D} (hs : ∀ d ∈ ds, So d) (e : h[n]? = some (.lst (ds.map reprD))) : eqD h (.lv (ds.map reprD)) (.ref n) = some true := by
  obtain ⟨t, l⟩ := reprs_td hs
  rw [eqD_lists (a := ds.map reprD) (b := ds.map reprD) rfl (by rw [lstOf_ref, e]; rfl) t t l l]
  simp
theorem comp_reprs {step : D → Hm → R (Option D)} {src : Src} {h : Hm} (so : srcOk src h = true) (ds : List D) (hs : ∀ d ∈ ds, step d h = .ok (some (reprD d)) h) : compL step src ds h = .ok (ds.map reprD) h := by
  rw [comp_pure (fun d => some (reprD d)) so ds hs]
  congr 1
  rw [List.filterMap_eq_map']
/-- a while whose test may draw -/
theorem while_rule2 {test : Env → Hm → R Bool} {body : Env → Hm → Rs} (I : Nat → Env → Hm → Prop) (Fin : Env → Hm → Prop)
    (step : ∀ m ρ h, I m ρ h → (∃ h1, test ρ h = .ok false h1 ∧ Fin ρ h1) ∨ (∃ h1, test ρ h = .ok true h1 ∧ ∃ m' ρ' h', m' < m ∧ body ρ h1 = .nx ρ' h' ∧ I m' ρ' h')) :
    ∀ n m ρ h, m < n → I m ρ h → ∃ ρ' h', whileL test body n ρ h = .nx ρ' h' ∧ Fin ρ' h'
  | 0, m, ρ, h, hm, _ => absurd hm (Nat.not_lt_zero _)
  | n + 1, m, ρ, h, hm, i => by
    rw [whileL]
    rcases step m ρ h i with ⟨h1, e, f⟩ | ⟨h1, e, m', ρ', h', lt, eb, i'⟩
    · rw [e]
      exact ⟨ρ, h1, by simp, f⟩
    · obtain ⟨ρ2, h2, e2, f2⟩ := while_rule2 I Fin step n m' ρ' h' (by omega) i'
      rw [e]
      exact ⟨ρ2, h2, by simp [eb, e2], f2⟩
end Mi

set_option Elab.async false
set_option linter.all false
set_option maxRecDepth 100000
/-! values of all kinds: more -/
namespace Mi
open PySem
theorem HB.w {B : Nat} {X : List Nat} {h : Hm} (H : HB B X h) : Wf h := H.wf
theorem rk_str (x : Str) (h1 : (x.cps.toList.all fun c => decide (c < 16 ^ 8)) = true) (h2 : x.cps.size ≤ 10) (h3 : PyData.strOk x = true) : Rk 10 3 (.str x) :=
  ⟨⟨by simp [toPy, PyData.showable], by simp only [toPy, PyData.leavesShort]; exact h1⟩, by simp only [toPy, PyData.bulk]; exact h2, h3, by rw [lvl_str]; omega⟩
theorem rk_i {i : Int} (h : Bt 1919 i) : Rk 10 3 (.int i) := (Rk.int h).mono (by omega) (by omega)
theorem bt40 : Bt 1919 (10 ^ 40 : Int) := bt_lit (by decide +kernel)
theorem bt30 : Bt 1919 (10 ^ 30 : Int) := bt_lit (by decide +kernel)
theorem rk_tupI {l : List Int} (h : ∀ x ∈ l, Bt 1919 x) (hl : l.length ≤ 10) : Rk 10 3 (.tup (zl l)) :=
  (Rk.tup (k := 0) (l := 0) (n := 10) (fun d hd => by
    obtain ⟨i, hi, rfl⟩ := (zl_mem l d).mp hd
    exact Rk.int (h i hi)) (by rw [zl_len]; exact hl)).mono (by omega) (by omega)
theorem bt_s {i : Int} (h : -10 ≤ i ∧ i ≤ 10) : Bt 1919 i := (show Bt 10 i by unfold Bt; omega).mono (by omega)
theorem it_refI {B : Nat} {X : List Nat} {h : Hm} {k : Nat} (h1 : B ≤ k) (h2 : k ∉ X) {l : List Int} (hl : ∀ x ∈ l, Bt 1919 x) (hn : l.length ≤ 10) (e : h[k]? = some (.lst (zl l))) : It B X h (.ref k) := by
  refine ⟨rfl, fun n hn => by simp [D.refs] at hn; subst hn; exact ⟨h1, (List.getElem?_eq_some_iff.mp e).1, h2⟩, by simp [D.refs], .list (toPyL (zl l)), ?_, ?_⟩
  · rw [pyOf, e]
    simp only []
    rw [py_tdL h 8 (zl l) (by simp) (by simp)]; rfl
  · refine (Pq.lst (k := 0) (l := 0) (n := 10) (fun p hp => ?_) (by rw [toPyL_ints]; simpa using hn)).mono (by omega) (by omega)
    rw [toPyL_ints] at hp
    obtain ⟨i, hi, rfl⟩ := List.mem_map.mp hp
    exact Pq.int (hl i hi)
theorem sub_none {b rest rest' : Hm} {X rs : List Nat} (hb : Base b) (hl : b.length ≤ 100) (s : Sub b rest rest' X rs []) : rest' = [] := by
  have h1 := s.rch
  have h2 := hb.rch rest (100000 - b.length) []
  rw [show 100000 - b.length + b.length = 100000 by omega] at h2
  have h3 : reach (100000 - b.length) (b ++ rest) [] (nums 0 b.length) = nums 0 b.length := by
    rw [show 100000 - b.length = (99999 - b.length) + 1 by omega, reach]
  have h4 : rs = nums 0 b.length := by
    rw [← h1, ← h3, ← h2]; rfl
  have h5 : (subH (b ++ rest) rs).length = b.length := by simp [subH, h4, nums_len]
  rw [s.sub] at h5
  simpa using h5
theorem app_at {α : Type} (a b : List α) (j : Nat) : (a ++ b)[a.length + j]? = b[j]? := by
  rw [List.getElem?_append_right (by omega), Nat.add_sub_cancel_left]
theorem app_at0 {α : Type} (a b : List α) : (a ++ b)[a.length]? = b[0]? := app_at a b 0
theorem app_set {α : Type} (a b : List α) (j : Nat) (x : α) : (a ++ b).set (a.length + j) x = a ++ b.set j x := by
  rw [List.set_append_right _ _ (by omega), Nat.add_sub_cancel_left]
theorem HB.app {B : Nat} {X : List Nat} {h new : Hm} (H : HB B X h) (hn : ∀ o ∈ new, ∀ n ∈ o.refs, B ≤ n ∧ n < (h ++ new).length ∧ n ∉ X) : HB B X (h ++ new) := by
  have hl : h.length ≤ (h ++ new).length := by simp
  have at2 : ∀ (i : Nat) (o : O), (h ++ new)[i]? = some o → h[i]? = some o ∨ (h.length ≤ i ∧ o ∈ new) := fun i o e => by
    by_cases q : i < h.length
    · rw [List.getElem?_append_left q] at e; exact .inl e
    · rw [List.getElem?_append_right (by omega)] at e
      exact .inr ⟨by omega, List.mem_of_getElem? e⟩
  refine ⟨Nat.le_trans H.le hl, fun i o hi e n h2 => ?_, fun i o hi hx e n h2 => ?_, fun i o e n h2 => ?_⟩
  · rcases at2 i o e with e | ⟨q, _⟩
    · exact H.lo i o hi e n h2
    · have := H.le; omega
  · rcases at2 i o e with e | ⟨q, ho⟩
    · have := H.hi i o hi hx e n h2
      exact ⟨this.1, by omega, this.2.2⟩
    · exact hn o ho n h2
  · rcases at2 i o e with e | ⟨q, ho⟩
    · have := H.wf i o e n h2; omega
    · exact (hn o ho n h2).2.1
theorem its_few {B : Nat} {X : List Nat} {h : Hm} {ds : List D} (hd : ∀ d ∈ ds, It B X h d) : (D.refsL ds).length ≤ ds.length := by
  have := refsL_few (k := 1) fun d hx => (hd d hx).few
  omega
theorem Vl.lst {B : Nat} {X : List Nat} {h : Hm} {k : Nat} {ds : List D} (h1 : B ≤ k) (h2 : k ∉ X) (e0 : h[k]? = some (.lst ds)) (hl : ds.length ≤ 3) (hd : ∀ d ∈ ds, ∃ p, pyOf 11 h d = some p ∧ Pq 440 5 p) : Vl B X h (.ref k) := by
  obtain ⟨ps, e, q, l⟩ := py_all hd
  refine ⟨rfl, fun n hn => by simp [D.refs] at hn; subst hn; exact ⟨h1, (List.getElem?_eq_some_iff.mp e0).1, h2⟩, by simp [D.refs], ⟨.list ps, by rw [pyOf, e0]; simp only []; rw [e]; rfl, (Pq.lst (n := 3) q (by omega)).mono (by omega) (by omega)⟩, fun es ds' hv => by cases hv⟩
theorem bulkAll_len : ∀ ps : List PyData, ps.length ≤ PyData.bulkAll ps ∧ ∀ p ∈ ps, p.bulk ≤ PyData.bulkAll ps
  | [] => ⟨Nat.zero_le _, fun p hp => by cases hp⟩
  | q :: ps => by
    obtain ⟨h1, h2⟩ := bulkAll_len ps
    simp only [PyData.bulkAll, List.length_cons]
    refine ⟨by omega, fun p hp => ?_⟩
    rcases List.mem_cons.mp hp with rfl | hp
    · omega
    · have := h2 p hp; omega
theorem allSome_mem {f : D → Option PyData} : ∀ {ds : List D} {ps : List PyData}, allSome f ds = some ps → ds.length = ps.length ∧ ∀ d ∈ ds, ∃ p ∈ ps, f d = some p
  | [], ps, e => by simp [allSome] at e; subst e; exact ⟨rfl, fun d hd => by cases hd⟩
  | a :: ds, ps, e => by
    simp only [allSome] at e
    split at e
    · rename_i q qs e1 e2
      cases e
      obtain ⟨h1, h2⟩ := allSome_mem e2
      refine ⟨by simp [h1], fun d hd => ?_⟩
      rcases List.mem_cons.mp hd with rfl | hd
      · exact ⟨q, List.mem_cons_self, e1⟩
      · obtain ⟨p, hp, e3⟩ := h2 d hd
        exact ⟨p, List.mem_cons_of_mem _ hp, e3⟩
    · cases e
theorem It.tl {B : Nat} {X : List Nat} {h : Hm} {d : D} (i : It B X h d) : ∀ ds ds' : List D, d = .tup ds → .tup ds' ∈ ds → ds'.length ≤ 1000 := fun ds ds' hv hd => by
  subst hv
  obtain ⟨p, ep, qp⟩ := i.py
  rw [pyOf, Option.map_eq_some_iff] at ep
  obtain ⟨ps, e1, rfl⟩ := ep
  obtain ⟨_, h2⟩ := allSome_mem e1
  obtain ⟨p', hp', e3⟩ := h2 _ hd
  rw [pyOf, Option.map_eq_some_iff] at e3
  obtain ⟨qs, e4, rfl⟩ := e3
  obtain ⟨h3, _⟩ := allSome_mem e4
  have b1 := qp.b
  simp only [PyData.bulk] at b1
  have b2 := (bulkAll_len ps).2 _ hp'
  simp only [PyData.bulk] at b2
  have b3 := (bulkAll_len qs).1
  omega
theorem tot_one (vals : List D) : tot [.lst vals] = (D.refsL vals).length := by simp [tot, O.refs]
theorem Vl.sm {B : Nat} {X : List Nat} {h : Hm} {v : D} (i : Vl B X h v) : Sm h v := ⟨i.st, fun n hn => (i.inn n hn).2.1, by have := i.few; omega⟩
theorem len_map {g : Nat → Nat} {v : D} (hl : ∀ ds ds' : List D, v = .tup ds → .tup ds' ∈ ds → ds'.length ≤ 1000) : ∀ ds ds' : List D, v.map g = .tup ds → .tup ds' ∈ ds → ds'.length ≤ 1000 := fun ds ds' hv hd => by
  cases v with
  | tup es =>
    rw [D.map] at hv
    cases hv
    rw [mapL_map] at hd
    obtain ⟨x, hx, ex⟩ := List.mem_map.mp hd
    cases x with
    | tup ys =>
      rw [D.map] at ex
      cases ex
      rw [mapL_len]; exact hl es ys rfl hx
    | _ => simp [D.map] at ex
  | _ => simp [D.map] at hv
theorem sm_map {g : Nat → Nat} {h h' : Hm} {v : D} {m : Int} (s : Sm h v) (hr : ∀ n ∈ D.refsL (D.mapL g [.int m, v]), n < h'.length) : Sm h' (v.map g) :=
  ⟨by rw [st_mapV]; exact s.st, fun n hn => hr n (by simp only [D.mapL, D.map, D.refsL, D.refs, List.nil_append, List.append_nil]; exact hn), by rw [refs_map, List.length_map]; exact s.few⟩
end Mi

set_option Elab.async false
set_option linter.all false
set_option maxRecDepth 100000
namespace Mi
open PySem
theorem r_isint (K n : Nat) (i : Int) : run K (n + 1) i_is_integer [.int i] [] = .ok (.bl true) [] := by
  rw [run_is_integer]
  simp [b_is_integer]
  all_goals exact gcR_pure (v := .bl true) (h := []) (by simp [D.refs])
theorem r_ishand (K n : Nat) (i : Int) : run K (n + 2) i_is_hand [.int i] [] = .ok (.bl (decide (0 ≤ i ∧ i ≤ 1))) [] := by
  have c := callM_pure (Γ := run K (n + 1)) (f := i_is_integer) (args := [.int i]) (h := []) (by simp [D.refsL, D.refs]) (by simp [D.refs]) (r_isint K n i)
  rw [run_is_hand]
  generalize callM (run K (n + 1)) = Γ at *
  by_cases h0 : 0 ≤ i
  · simp [b_is_hand, c, h0]
  · simp [b_is_hand, c, h0]
theorem c_ishand (K n : Nat) (i : Int) (h : Hm) : callM (run K (n + 2)) i_is_hand [.int i] h = .ok (.bl (decide (0 ≤ i ∧ i ≤ 1))) h :=
  callM_pure (by simp [D.refsL, D.refs]) (by simp [D.refs]) (r_ishand K n i)
theorem r_isint_non (K n : Nat) : run K (n + 1) i_is_integer [.non] [] = .ok (.bl false) [] := by
  rw [run_is_integer]
  simp [b_is_integer]
  all_goals exact gcR_pure (v := .bl false) (h := []) (by simp [D.refs])
end Mi

set_option Elab.async false
set_option linter.all false
set_option maxRecDepth 100000
/-! fillings of a standing, in plain Lean -/
namespace Mi
open PySem
abbrev isItem (d : D) : Prop := d = .non ∨ d = .int 0 ∨ d = .int 1
def optsD : D → List Int
  | .non => [0, 1]
  | .int i => [i]
  | _ => []
@[simp] theorem opts_non : optsD .non = [0, 1] := rfl
@[simp] theorem opts_int (i : Int) : optsD (.int i) = [i] := rfl
def fstep (F : List (List Int)) (d : D) : List (List Int) := F.flatMap fun b => (optsD d).map fun x => b ++ [x]
def fils (S : List D) : List (List Int) := S.foldl fstep [[]]
theorem fils_snoc (A : List D) (d : D) : fils (A ++ [d]) = fstep (fils A) d := by simp [fils]
theorem fstep_app (F G : List (List Int)) (d : D) : fstep (F ++ G) d = fstep F d ++ fstep G d := List.flatMap_append
theorem fstep_nil (d : D) : fstep [] d = [] := rfl
theorem foldf_app : ∀ (S : List D) (F G : List (List Int)), S.foldl fstep (F ++ G) = S.foldl fstep F ++ S.foldl fstep G
  | [], _, _ => rfl
  | d :: S, F, G => by rw [List.foldl_cons, fstep_app, foldf_app S]; rfl
theorem foldf_perm : ∀ (S : List D) {F G : List (List Int)}, F.Perm G → (S.foldl fstep F).Perm (S.foldl fstep G)
  | [], _, _, h => h
  | d :: S, F, G, h => foldf_perm S (h.flatMap_right _)
theorem fstep_non : ∀ F : List (List Int), (fstep F .non).Perm (fstep F (.int 1) ++ fstep F (.int 0))
  | [] => .refl _
  | b :: r => by
    have ih := fstep_non r
    have e : ∀ d, fstep (b :: r) d = ((optsD d).map fun x => b ++ [x]) ++ fstep r d := fun d => List.flatMap_cons
    rw [e, e, e]
    simp only [opts_non, opts_int, List.map_cons, List.map_nil, List.cons_append, List.nil_append]
    refine List.Perm.trans (.swap _ _ _) (.cons _ ?_)
    exact List.Perm.trans (.cons _ ih) List.perm_middle.symm
theorem fils_part (A B : List D) : (fils (A ++ .non :: B)).Perm (fils (A ++ .int 1 :: B) ++ fils (A ++ .int 0 :: B)) := by
  simp only [fils, List.foldl_append, List.foldl_cons]
  rw [← foldf_app]
  exact foldf_perm B (fstep_non _)
theorem fstep_len (F : List (List Int)) (d : D) (hd : isItem d) : (fstep F d).length = F.length * 2 ^ (if d = .non then 1 else 0) := by
  unfold fstep
  rw [List.length_flatMap]
  have k : ∀ k : Nat, (F.map fun _ => k).sum = F.length * k := fun k => by
    induction F with
    | nil => simp
    | cons a r ih => rw [List.map_cons, List.sum_cons, ih, List.length_cons, Nat.succ_mul]; omega
  have k1 := k 1
  have k2 := k 2
  rcases hd with rfl | rfl | rfl <;> simp [optsD] at k1 k2 ⊢ <;> assumption
theorem foldf_len : ∀ (S : List D) (F : List (List Int)), (∀ d ∈ S, isItem d) → (S.foldl fstep F).length = F.length * 2 ^ (S.countP fun d => decide (d = .non))
  | [], F, _ => by simp
  | d :: S, F, h => by
    rw [List.foldl_cons, foldf_len S _ fun x hx => h x (List.mem_cons_of_mem _ hx), fstep_len F d (h d List.mem_cons_self), List.countP_cons, Nat.mul_assoc, ← Nat.pow_add]
    congr 2
    simp only [decide_eq_true_eq]
    omega
theorem fils_len (S : List D) (h : ∀ d ∈ S, isItem d) : (fils S).length = 2 ^ (S.countP fun d => decide (d = .non)) := by
  rw [fils, foldf_len S _ h]; simp
/-- a board agrees with a standing -/
def Fit (S : List D) (t : List Int) : Prop := t.length = S.length ∧ (∀ x ∈ t, 0 ≤ x ∧ x ≤ 1) ∧ ∀ (i : Nat) (x : Int), S[i]? = some (.int x) → t[i]? = some x
theorem fold_mem : ∀ (S : List D) (F : List (List Int)), (∀ d ∈ S, isItem d) → ∀ b ∈ S.foldl fstep F, ∃ b0 ∈ F, ∃ t, b = b0 ++ t ∧ Fit S t
  | [], F, _, b, hb => ⟨b, hb, [], by simp, by simp [Fit]⟩
  | d :: S, F, h, b, hb => by
    obtain ⟨b1, h1, t, rfl, f1, f2, f3⟩ := fold_mem S (fstep F d) (fun x hx => h x (List.mem_cons_of_mem _ hx)) b hb
    obtain ⟨b0, h0, hx⟩ := List.mem_flatMap.mp h1
    obtain ⟨x, hx, rfl⟩ := List.mem_map.mp hx
    have x01 : (0 ≤ x ∧ x ≤ 1) ∧ ∀ y, d = .int y → x = y := by
      rcases h d List.mem_cons_self with rfl | rfl | rfl
      · simp at hx
        exact ⟨by omega, fun y e => (nomatch e)⟩
      · simp at hx; subst hx
        exact ⟨by omega, fun y e => by cases e; rfl⟩
      · simp at hx; subst hx
        exact ⟨by omega, fun y e => by cases e; rfl⟩
    refine ⟨b0, h0, x :: t, by simp, by simp [f1], ?_, ?_⟩
    · intro y hy
      rcases List.mem_cons.mp hy with rfl | hy
      · exact x01.1
      · exact f2 y hy
    · intro i y e
      cases i with
      | zero => simp at e; simp [x01.2 y e]
      | succ i => simp at e; simpa using f3 i y e
theorem fils_mem {S : List D} (h : ∀ d ∈ S, isItem d) {b : List Int} (hb : b ∈ fils S) : Fit S b := by
  obtain ⟨b0, h0, t, e, f⟩ := fold_mem S [[]] h b hb
  simp at h0
  subst h0
  simp at e
  subst e
  exact f
theorem lex_snoc : ∀ {a b : List Int} (x y : Int), a.length = b.length → HT.lexLt a b = true → HT.lexLt (a ++ [x]) (b ++ [y]) = true
  | [], [], _, _, _, h => by rw [HT.lexLt_nil_nil] at h; cases h
  | [], _ :: _, _, _, e, _ => by simp at e
  | _ :: _, [], _, _, e, _ => by simp at e
  | p :: a, q :: b, x, y, e, h => by
    rw [HT.lexLt_cons] at h
    rw [List.cons_append, List.cons_append, HT.lexLt_cons]
    split
    · rename_i e2
      rw [if_pos e2] at h
      exact lex_snoc x y (by simpa using e) h
    · rename_i e2
      rw [if_neg e2] at h
      exact h
theorem lex_last : ∀ (a : List Int) {x y : Int}, x < y → HT.lexLt (a ++ [x]) (a ++ [y]) = true
  | [], x, y, h => by
    rw [List.nil_append, List.nil_append, HT.lexLt_cons, if_neg (by omega)]; simp [h]
  | p :: a, x, y, h => by
    rw [List.cons_append, List.cons_append, HT.lexLt_cons, if_pos rfl]; exact lex_last a h
theorem lex_asymm : ∀ {a b : List Int}, HT.lexLt a b = true → HT.lexLt b a = false
  | [], [], h => by rw [HT.lexLt_nil_nil]
  | [], _ :: _, _ => by rw [HT.lexLt_cons_nil]
  | _ :: _, [], h => by rw [HT.lexLt_cons_nil] at h; cases h
  | p :: a, q :: b, h => by
    rw [HT.lexLt_cons] at h ⊢
    by_cases e : p = q
    · rw [if_pos e] at h
      rw [if_pos e.symm]; exact lex_asymm h
    · rw [if_neg e] at h
      rw [if_neg (Ne.symm e)]
      simp at h ⊢
      omega
theorem fstep_sorted {F : List (List Int)} {n : Nat} (hl : ∀ b ∈ F, b.length = n) (hs : F.Pairwise fun a b => HT.lexLt a b = true) (d : D) (hd : isItem d) :
    (∀ b ∈ fstep F d, b.length = n + 1) ∧ (fstep F d).Pairwise fun a b => HT.lexLt a b = true := by
  constructor
  · intro b hb
    obtain ⟨b0, h0, hx⟩ := List.mem_flatMap.mp hb
    obtain ⟨x, hx, rfl⟩ := List.mem_map.mp hx
    simp [hl b0 h0]
  · unfold fstep
    rw [List.pairwise_flatMap]
    constructor
    · intro a ha
      rcases hd with rfl | rfl | rfl
      · simp [lex_last a (show (0 : Int) < 1 by omega)]
      · simp
      · simp
    · refine List.Pairwise.imp_of_mem ?_ hs
      intro a b ha hb hab x hx y hy
      obtain ⟨u, _, rfl⟩ := List.mem_map.mp hx
      obtain ⟨v, _, rfl⟩ := List.mem_map.mp hy
      exact lex_snoc u v (by rw [hl a ha, hl b hb]) hab
theorem foldf_sorted : ∀ (S : List D) {F : List (List Int)} {n : Nat}, (∀ d ∈ S, isItem d) → (∀ b ∈ F, b.length = n) → (F.Pairwise fun a b => HT.lexLt a b = true) → (S.foldl fstep F).Pairwise fun a b => HT.lexLt a b = true
  | [], _, _, _, _, hs => hs
  | d :: S, F, n, h, hl, hs => by
    obtain ⟨h1, h2⟩ := fstep_sorted hl hs d (h d List.mem_cons_self)
    exact foldf_sorted S (fun x hx => h x (List.mem_cons_of_mem _ hx)) h1 h2
theorem fils_sorted {S : List D} (h : ∀ d ∈ S, isItem d) : (fils S).Pairwise fun a b => HT.lexLt b a = false :=
  (foldf_sorted S (n := 0) h (by simp) (by simp)).imp fun h => lex_asymm h
/-- the two parts, sorted, are the whole -/
theorem fils_two {A B : List D} (hA : ∀ d ∈ A, isItem d) (hB : ∀ d ∈ B, isItem d) : sortT (fils (A ++ .int 1 :: B) ++ fils (A ++ .int 0 :: B)) = fils (A ++ .non :: B) := by
  refine sortedT_unique ((sortT_perm _).trans (fils_part A B).symm) (sortT_sorted _) (fils_sorted fun d hd => ?_)
  rcases List.mem_append.mp hd with h | h
  · exact hA d h
  · rcases List.mem_cons.mp h with rfl | h
    · exact .inl rfl
    · exact hB d h
/-- the empty cells -/
def emp : Nat → List D → List Int
  | _, [] => []
  | n, d :: r => if d = .non then (n : Int) :: emp (n + 1) r else emp (n + 1) r
theorem emp_len : ∀ (S : List D) (n : Nat), (emp n S).length = S.countP fun d => decide (d = .non)
  | [], _ => rfl
  | d :: S, n => by
    rw [emp, List.countP_cons]
    by_cases h : d = .non
    · rw [if_pos h, List.length_cons, emp_len S]; simp [h]
    · rw [if_neg h, emp_len S]; simp [h]
theorem mem_emp : ∀ (S : List D) (n : Nat) (i : Int), i ∈ emp n S ↔ ∃ j : Nat, i = ((n + j : Nat) : Int) ∧ S[j]? = some .non
  | [], n, i => by simp [emp]
  | d :: S, n, i => by
    have ih := mem_emp S (n + 1) i
    rw [emp]
    by_cases h : d = .non
    · rw [if_pos h, List.mem_cons, ih]
      constructor
      · rintro (rfl | ⟨j, rfl, hj⟩)
        · exact ⟨0, by simp, by simp [h]⟩
        · exact ⟨j + 1, by push_cast; omega, by simpa using hj⟩
      · rintro ⟨j, rfl, hj⟩
        cases j with
        | zero => left; simp
        | succ j => right; exact ⟨j, by push_cast; omega, by simpa using hj⟩
    · rw [if_neg h, ih]
      constructor
      · rintro ⟨j, rfl, hj⟩
        exact ⟨j + 1, by push_cast; omega, by simpa using hj⟩
      · rintro ⟨j, rfl, hj⟩
        cases j with
        | zero => simp at hj; exact absurd hj h
        | succ j => exact ⟨j, by push_cast; omega, by simpa using hj⟩
/-- one cell less -/
theorem emp_set : ∀ (S : List D) (n c : Nat) (x : Int), S[c]? = some .non → (emp n S).filter (fun i => decide (i ≠ ((n + c : Nat) : Int))) = emp n (S.set c (.int x))
  | [], n, c, x, h => by simp at h
  | d :: S, n, 0, x, h => by
    simp at h
    subst h
    rw [List.set_cons_zero, emp, emp, if_pos rfl, if_neg (by simp), List.filter_cons, if_neg (by simp), List.filter_eq_self]
    intro i hi
    obtain ⟨j, rfl, _⟩ := (mem_emp S (n + 1) i).mp hi
    simp
    omega
  | d :: S, n, c + 1, x, h => by
    have ih := emp_set S (n + 1) c x (by simpa using h)
    rw [show n + 1 + c = n + (c + 1) by omega] at ih
    rw [List.set_cons_succ, emp, emp]
    by_cases hd : d = .non
    · rw [if_pos hd, if_pos hd, List.filter_cons, if_pos (by simp; omega), ih]
    · rw [if_neg hd, if_neg hd, ih]
end Mi

set_option Elab.async false
set_option linter.all false
set_option maxRecDepth 100000
/-! slices, pops, shifts -/
namespace Mi
open PySem
theorem cutTo {α : Type} (xs : List α) (c : Nat) : cutL xs none (some (c : Int)) = xs.take c := by
  unfold cutL
  rw [HT.sIx_none, show HT.sIx xs.length xs.length (some (c : Int)) = min c xs.length from HT.sIx_nat _ _ c]
  simp
theorem cutFrom {α : Type} (xs : List α) (c : Nat) : cutL xs (some (c : Int)) none = xs.drop c := by
  unfold cutL
  rw [HT.sIx_none, show HT.sIx xs.length 0 (some (c : Int)) = min c xs.length from HT.sIx_nat _ 0 c]
  by_cases h : c ≤ xs.length
  · rw [Nat.min_eq_left h, List.take_of_length_le (by simp)]
  · rw [Nat.min_eq_right (by omega), List.drop_eq_nil_of_le (Nat.le_refl _), List.drop_eq_nil_of_le (by omega)]; simp
theorem setCut {α : Type} (l : List α) (c : Nat) (x : α) (hc : c < l.length) : l.take c ++ [x] ++ l.drop (c + 1) = l.set c x := by
  rw [List.set_eq_take_append_cons_drop, if_pos hc]; simp
theorem setMid {α : Type} (l : List α) (c : Nat) (x : α) (hc : c < l.length) : l.set c x = l.take c ++ x :: l.drop (c + 1) := by
  rw [List.set_eq_take_append_cons_drop, if_pos hc]
theorem popAt {h : Hm} {n j : Nat} {xs : List D} (e : h[n]? = some (.lst xs)) (hj : j < xs.length) (hl : xs.length ≤ 1000) : meD h .pop (.ref n) [.int j] = .ok xs[j] (h.set n (.lst (xs.eraseIdx j))) := by
  have h63 : (j : Int) < 9223372036854775808 := by omega
  simp [meD, e, meL, hj, h63]
theorem eraseMap {α β : Type} (f : α → β) : ∀ (l : List α) (j : Nat), (l.map f).eraseIdx j = (l.eraseIdx j).map f
  | [], j => by simp
  | a :: r, 0 => by simp
  | a :: r, j + 1 => by simp [eraseMap f r j]
theorem permErase {α : Type} : ∀ (l : List α) (j : Nat) (hj : j < l.length), (l[j] :: l.eraseIdx j).Perm l
  | [], j, h => by simp at h
  | a :: r, 0, _ => by simp
  | a :: r, j + 1, h => by
    have := permErase r j (by simpa using h)
    simp only [List.getElem_cons_succ, List.eraseIdx_cons_succ]
    exact (List.Perm.swap _ _ _).trans (this.cons a)
theorem twoPow (k : Nat) : ((2 ^ k : Nat) : Int) = 2 ^ k := by push_cast; rfl
theorem shlOne (k : Nat) (hk : k ≤ 100) (h : Hm) : binD h .LShift (.int 1) (.int (k : Int)) = some (.int ((2 ^ k : Nat) : Int)) := by
  have pw : powOk 1 (k : Int) = true := by
    unfold powOk
    simp only [Bool.and_eq_true, decide_eq_true_eq]
    exact ⟨⟨by omega, by omega⟩, by decide⟩
  have e : binD h .LShift (.int 1) (.int (k : Int)) = if powOk 1 (k : Int) = true then some (D.int (1 * 2 ^ (k : Int).toNat)) else none := rfl
  rw [e, if_pos pw, Int.toNat_natCast, Int.one_mul, ← twoPow]
@[simp] theorem cmp_inD (h : Hm) (x y : D) : cmpD h .In x y = inD h x y := rfl
@[simp] theorem cmp_ninD (h : Hm) (x y : D) : cmpD h .NotIn x y = (inD h x y).map (!·) := rfl
@[simp] theorem is_non_non (h : Hm) : cmpD h .Is .non .non = some true := rfl
@[simp] theorem is_int_non (h : Hm) (i : Int) : cmpD h .Is (.int i) .non = some false := rfl
@[simp] theorem isnt_non_non (h : Hm) : cmpD h .IsNot .non .non = some false := rfl
@[simp] theorem isnt_int_non (h : Hm) (i : Int) : cmpD h .IsNot (.int i) .non = some true := rfl
@[simp] theorem isnt_str_non (h : Hm) (i : Str) : cmpD h .IsNot (.str i) .non = some true := rfl
end Mi

set_option Elab.async false
set_option linter.all false
set_option maxRecDepth 100000
/-! items, positions, slices -/
namespace Mi
open PySem
theorem it_td {d : D} (h : isItem d) : td d = true := by rcases h with rfl | rfl | rfl <;> rfl
theorem it_refs {S : List D} (h : ∀ d ∈ S, isItem d) : D.refsL S = [] := tdL_refs S (tdL_all fun d hd => it_td (h d hd))
theorem it_rk {d : D} (h : isItem d) : Rk 0 0 d := by
  rcases h with rfl | rfl | rfl
  · exact Rk.non
  · exact Rk.int ((show Bt 5 _ from bt_lit (by decide)).mono (by omega))
  · exact Rk.int ((show Bt 5 _ from bt_lit (by decide)).mono (by omega))
theorem it_set {S : List D} (h : ∀ d ∈ S, isItem d) (c : Nat) {x : Int} (hx : x = 0 ∨ x = 1) : ∀ d ∈ S.set c (.int x), isItem d := fun d hd => by
  rcases List.mem_or_eq_of_mem_set hd with hd | rfl
  · exact h d hd
  · rcases hx with rfl | rfl
    · exact .inr (.inl rfl)
    · exact .inr (.inr rfl)
theorem comp_emp {step : D → Hm → R (Option D)} {h : Hm} : ∀ (S : List D) (n : Nat), (∀ (m : Nat) (d : D), d ∈ S → step (.tup [.int m, d]) h = .ok (if d = .non then some (.int m) else none) h) → compL step none (pairs n S) h = .ok (zl (emp n S)) h
  | [], n, _ => rfl
  | d :: S, n, hs => by
    rw [pairs, compL, hs n d List.mem_cons_self, bnd_ok, src_no, gd_t, comp_emp S (n + 1) fun m d hd => hs m d (List.mem_cons_of_mem _ hd), bnd_ok, emp]
    by_cases e : d = .non
    · rw [if_pos e, if_pos e]; rfl
    · rw [if_neg e, if_neg e]
theorem emp_le (S : List D) (n : Nat) : (emp n S).length ≤ S.length := by
  rw [emp_len]; exact List.countP_le_length
theorem sl_to {h : Hm} (S : List D) (c : Nat) : slD h (.tup S) none (some (.int (c : Int))) = some (.tup (S.take c)) := by
  show some (D.tup (cutL S none (some (c : Int)))) = _
  rw [cutTo]
theorem sl_from {h : Hm} (S : List D) (c : Nat) : slD h (.tup S) (some (.int ((c : Int) + 1))) none = some (.tup (S.drop (c + 1))) := by
  show some (D.tup (cutL S (some ((c : Int) + 1)) none)) = _
  rw [show (c : Int) + 1 = ((c + 1 : Nat) : Int) by push_cast; rfl, cutFrom]
theorem ad_tup {h : Hm} {a b : List D} (hab : a.length + b.length ≤ 16777216) : binD h .Add (.tup a) (.tup b) = some (.tup (a ++ b)) := by
  rw [add_tup, if_pos (by rw [size_le]; exact hab)]
abbrev posD (r : List Int) (S : List D) : D := .tup [.tup (zl r), .tup S]
theorem posD_refs (r : List Int) {S : List D} (hS : ∀ d ∈ S, isItem d) : (posD r S).refs = [] := by simp [D.refs, D.refsL, it_refs hS]
theorem isint_c (K n : Nat) (i : Int) (h : Hm) : callM (run K (n + 1)) i_is_integer [.int i] h = .ok (.bl true) h := callM_pure (by simp [D.refsL, D.refs]) (by simp [D.refs]) (r_isint K n i)
theorem tZs_refs (F : List (List Int)) : D.refsL (F.map tZ) = [] := tups_refs F
theorem fils_le (S : List D) (h : ∀ d ∈ S, isItem d) (hl : S.length ≤ 10) : (fils S).length ≤ 1024 := by
  rw [fils_len S h]
  have : S.countP (fun d => decide (d = .non)) ≤ 10 := Nat.le_trans List.countP_le_length hl
  exact Nat.le_trans (Nat.pow_le_pow_right (by decide) this) (by decide)
theorem fstep_le (F : List (List Int)) (d : D) (hd : isItem d) : (fstep F d).length ≤ 2 * F.length := by
  rw [fstep_len F d hd]
  split <;> simp <;> omega
end Mi

set_option Elab.async false
set_option linter.all false
set_option maxRecDepth 100000
/-! positions: what they are, and position_error -/
namespace Mi
open PySem
structure PosOk (m : Nat) (r : List Int) (S : List D) : Prop where
  it : ∀ d ∈ S, isItem d
  len : S.length = m
  row : ∀ x ∈ r, x = 0 ∨ x = 1
  n1 : S.count (.int 1) = r.count 1
  n0 : S.count (.int 0) = r.count 0
theorem count_all : ∀ (S : List D), (∀ d ∈ S, isItem d) → S.count .non + S.count (.int 0) + S.count (.int 1) = S.length
  | [], _ => rfl
  | d :: S, h => by
    have := count_all S fun x hx => h x (List.mem_cons_of_mem _ hx)
    rw [List.length_cons]
    rcases h d List.mem_cons_self with rfl | rfl | rfl
    · rw [List.count_cons_self, List.count_cons_of_ne (by decide), List.count_cons_of_ne (by decide)]; omega
    · rw [List.count_cons_self, List.count_cons_of_ne (by decide), List.count_cons_of_ne (by decide)]; omega
    · rw [List.count_cons_self, List.count_cons_of_ne (by decide), List.count_cons_of_ne (by decide)]; omega
theorem count_row : ∀ (r : List Int), (∀ x ∈ r, x = 0 ∨ x = 1) → r.count 0 + r.count 1 = r.length
  | [], _ => rfl
  | d :: S, h => by
    have := count_row S fun x hx => h x (List.mem_cons_of_mem _ hx)
    rw [List.length_cons]
    rcases h d List.mem_cons_self with rfl | rfl
    · rw [List.count_cons_self, List.count_cons_of_ne (by decide)]; omega
    · rw [List.count_cons_self, List.count_cons_of_ne (by decide)]; omega
theorem PosOk.rlen {m : Nat} {r : List Int} {S : List D} (p : PosOk m r S) : r.length + S.count .non = m := by
  have := count_all S p.it
  have := count_row r p.row
  have := p.n1; have := p.n0; have := p.len
  omega
theorem count_set : ∀ (S : List D) (c : Nat) (x y : Int), S[c]? = some .non → (S.set c (.int x)).count (.int y) = S.count (.int y) + if x = y then 1 else 0
  | [], c, x, y, h => by simp at h
  | d :: S, 0, x, y, h => by
    simp at h
    subst h
    simp [List.count_cons]
  | d :: S, c + 1, x, y, h => by
    rw [List.set_cons_succ, List.count_cons, List.count_cons, count_set S c x y (by simpa using h)]; omega
theorem count_set_non : ∀ (S : List D) (c : Nat) (x : Int), S[c]? = some .non → (S.set c (.int x)).count .non + 1 = S.count .non
  | [], c, x, h => by simp at h
  | d :: S, 0, x, h => by
    simp at h
    subst h
    simp [List.count_cons]
  | d :: S, c + 1, x, h => by
    have := count_set_non S c x (by simpa using h)
    rw [List.set_cons_succ, List.count_cons, List.count_cons]; omega
theorem PosOk.take {m : Nat} {r : List Int} {S : List D} (p : PosOk m r S) {c : Nat} (hc : S[c]? = some .non) {x : Int} (hx : x = 0 ∨ x = 1) : PosOk m (r ++ [x]) (S.set c (.int x)) :=
  ⟨it_set p.it c hx, by rw [List.length_set]; exact p.len, fun y hy => by
    rcases List.mem_append.mp hy with h | h
    · exact p.row y h
    · simp at h; subst h; exact hx, by
    rw [count_set S c x 1 hc, List.count_append, p.n1]
    rcases hx with rfl | rfl <;> rfl, by
    rw [count_set S c x 0 hc, List.count_append, p.n0]
    rcases hx with rfl | rfl <;> rfl⟩
theorem zl_count (l : List Int) (x : Int) : (zl l).count (.int x) = l.count x := by
  induction l with
  | nil => rfl
  | cons a r ih =>
    rw [zl_cons, List.count_cons, List.count_cons, ih]
    congr 1
    by_cases e : a = x
    · subst e; simp
    · have : ¬ D.int a = D.int x := by intro q; injection q; contradiction
      simp [e]
theorem it_lvl {S : List D} (h : ∀ d ∈ S, isItem d) : tdL S = true ∧ lvlL S ≤ 39 :=
  ⟨tdL_all fun d hd => it_td (h d hd), Nat.le_trans (lvlL_all 0 fun d hd => (it_rk (h d hd)).l) (by omega)⟩
theorem r_sterr (K n : Nat) {m : Nat} {r : List Int} {S : List D} (p : PosOk m r S) : run K (n + 3) i_standing_error [.tup (zl r), .tup S] [] = .ok .non [] := by
  obtain ⟨ρ', h', e, o2, o3, rfl, rfl, _⟩ := for_rule (step := forS (exs (callM (run K (n + 2))) gg (xs0 K) b_standing_error_0) (.t (.cons (.n 2) (.cons (.n 3) .nil)))) (src := none)
    (fun ds ρ h => ∃ (o2 o3 : Option D), ρ = [some (.tup (zl r)), some (.tup S), o2, o3] ∧ h = [] ∧ ∃ (k : Nat) (S' : List D), ds = pairs k S' ∧ ∀ d ∈ S', isItem d) (by
    rintro d ds ρ h ⟨o2, o3, rfl, rfl, k, S', e, hS'⟩
    cases S' with
    | nil => cases e
    | cons a S' =>
      rw [pairs, List.cons.injEq] at e
      obtain ⟨rfl, rfl⟩ := e
      refine ⟨[some (.tup (zl r)), some (.tup S), some (.int k), some a], [], .inl ?_, rfl, _, _, rfl, rfl, k + 1, S', rfl, fun d hd => hS' d (List.mem_cons_of_mem _ hd)⟩
      have c0 := c_ishand K n 0 []
      have c1 := c_ishand K n 1 []
      generalize callM (run K (n + 2)) = Γ at *
      rcases hS' a List.mem_cons_self with rfl | rfl | rfl <;> simp [forS, b_standing_error_0, c0, c1]) (pairs 0 S) [some (.tup (zl r)), some (.tup S), none, none] [] ⟨none, none, rfl, rfl, 0, S, rfl, p.it⟩
  have m1 : ∀ h, meD h .count (.tup S) [.int 1] = .ok (.int (r.count 1 : Nat)) h := fun h => by rw [me_count rfl (it_lvl p.it).1 (by simp) (it_lvl p.it).2, p.n1]
  have m0 : ∀ h, meD h .count (.tup S) [.int 0] = .ok (.int (r.count 0 : Nat)) h := fun h => by rw [me_count rfl (it_lvl p.it).1 (by simp) (it_lvl p.it).2, p.n0]
  have k1 : ∀ h, meD h .count (.tup (zl r)) [.int 1] = .ok (.int (r.count 1 : Nat)) h := fun h => by rw [me_count rfl (by simp) (by simp) (by simp), zl_count]
  have k0 : ∀ h, meD h .count (.tup (zl r)) [.int 0] = .ok (.int (r.count 0 : Nat)) h := fun h => by rw [me_count rfl (by simp) (by simp) (by simp), zl_count]
  rw [run_standing_error]
  generalize callM (run K (n + 2)) = Γ at *
  generalize zl r = R at *
  generalize ((r.count 1 : Nat) : Int) = q1 at *
  generalize ((r.count 0 : Nat) : Int) = q0 at *
  simp [b_standing_error, forR, e, m1, m0, k1, k0]
  exact gcR_pure (by simp [D.refs])
theorem bls_true : ∀ r : List Int, blsOf (r.map fun _ => D.bl true) = some (r.map fun _ => true)
  | [] => rfl
  | _ :: r => by rw [List.map_cons, List.map_cons, blsOf, bls_true r]; rfl
theorem r_perr (K n : Nat) {m : Nat} {r : List Int} {S : List D} (p : PosOk m r S) (hm : m ≤ 100) : run K (n + 4) i_position_error [.int m, posD r S] [] = .ok .non [] := by
  have rl := p.rlen
  have ce := callM_pure (Γ := run K (n + 3)) (f := i_standing_error) (args := [.tup (zl r), .tup S]) (h := []) (by simp [D.refsL, D.refs, it_refs p.it]) (by simp [D.refs]) (r_sterr K n p)
  have cm := comp_map (step := stepC (evF (callM (run K (n + 3))) gg .nil) (ev (callM (run K (n + 3))) gg b_position_error_0) (.n 4) [some (.int m), some (posD r S), some (.tup (zl r)), some (.tup S), none] [4]) (src := none) (h := []) D.int (fun x => some (.bl true)) rfl r (fun x hx => by
    have c := c_ishand K (n + 1) x []
    rw [show decide (0 ≤ x ∧ x ≤ 1) = true by rcases p.row x hx with rfl | rfl <;> rfl] at c
    generalize callM (run K (n + 3)) = Γ at *
    simp [stepC, wipeD, b_position_error_0, nox, c])
  have fe : (r.filterMap fun _ => some (D.bl true)) = r.map fun _ => D.bl true := by rw [List.filterMap_eq_map']
  rw [fe, ← zl_def] at cm
  have ba : blsOf (r.map fun _ => D.bl true) = some (r.map fun _ => true) := bls_true r
  have lr : (r.map fun _ => D.bl true).length < 16777216 := by simp; omega
  have hall : (r.map fun _ => true).all id = true := by simp
  have l1 : ¬ ((m : Int) < r.length) := by omega
  have lS : S.length = m := p.len
  rw [run_position_error]
  simp only [posD] at cm ⊢
  generalize callM (run K (n + 3)) = Γ at *
  have lz : (zl r).length = r.length := zl_len r
  generalize (r.map fun _ => D.bl true) = X at *
  generalize (r.map fun _ => true) = Y at *
  generalize zl r = R at *
  simp [b_position_error, compR, cm, lr, ba, hall, lz, l1, lS, ce]
  exact gcR_pure (v := .non) (by rfl)
theorem c_perr (K n : Nat) {m : Nat} {r : List Int} {S : List D} (p : PosOk m r S) (hm : m ≤ 100) (h : Hm) : callM (run K (n + 4)) i_position_error [.int m, posD r S] h = .ok .non h :=
  callM_pure (by simp [D.refsL, D.refs, it_refs p.it]) (by simp [D.refs]) (r_perr K n p hm)
end Mi

set_option Elab.async false
set_option linter.all false
set_option maxRecDepth 100000
/-! the jar: picks and mixed rows -/
namespace Mi
open PySem
theorem callM_j4 {Γ : Gm} {k p : Nat} {f cs f' : List Int} {s c c' : Int} {rest new : Hm} {ds : List D} {v : D} (hp : rest[p]? = some (.lst ds)) (ho : D.refsL ds = []) (hn : ∀ q ∈ new, q.refs = []) (e : Γ k [.ref 0, .ref 3] (jkH f cs s c ++ [.lst ds]) = .ok v (jkH f' cs s c' ++ [.lst ds] ++ new)) :
    callM Γ k [.ref 0, .ref (p + 3)] (jkO s c :: .lst (f.map .int) :: .lst (cs.map .int) :: rest) = .ok (v.map (bk [0, 1, 2, p + 3] (rest.length + 3))) (jkO s c' :: .lst (f'.map .int) :: .lst (cs.map .int) :: (rest ++ new)) := by
  have hl : p < rest.length := (List.getElem?_eq_some_iff.mp hp).1
  have e : Γ k [.ref 0, .ref 3] [jkO s c, .lst (f.map .int), .lst (cs.map .int), .lst ds] = .ok v (jkO s c' :: .lst (f'.map .int) :: .lst (cs.map .int) :: .lst ds :: new) := e
  have hr : reach 100000 (jkO s c :: .lst (f.map .int) :: .lst (cs.map .int) :: rest) [0, p + 3] [] = [0, 1, 2, p + 3] := by
    show reach (99995 + 1 + 1 + 1 + 1 + 1) _ [0, p + 3] [] = _
    simp [reach, O.refs, kvRefs, D.refs, ints_refs, hp, ho]
  have hc : closedB (jkO s c :: .lst (f.map .int) :: .lst (cs.map .int) :: rest) [0, 1, 2, p + 3] [0, p + 3] = true := by
    simp [closedB, O.refs, kvRefs, D.refs, ints_refs, hp, ho]
  have hs : subH (jkO s c :: .lst (f.map .int) :: .lst (cs.map .int) :: rest) [0, 1, 2, p + 3] = [jkO s c, .lst (f.map .int), .lst (cs.map .int), .lst ds] := by
    simp [subH, O.map, kvMap, D.map, ixOf, mapL_norefs _ _ (ints_refs _), List.getD_eq_getElem?_getD, hp, mapL_norefs _ _ ho]
  have ha : D.mapL (ixOf [0, 1, 2, p + 3]) [.ref 0, .ref (p + 3)] = [.ref 0, .ref 3] := by
    simp [D.mapL, D.map, ixOf]
  have hnew : ∀ g : Nat → Nat, new.map (O.map g) = new := fun g => by
    have : new.map (O.map g) = new.map id := List.map_congr_left fun q hq => map_flat _ (hn q hq)
    rw [this]; simp
  have hlen : (jkO s c :: .lst (f.map .int) :: .lst (cs.map .int) :: rest).length = rest.length + 3 := by simp
  have b1 : bk [0, 1, 2, p + 3] (rest.length + 3) 1 = 1 := rfl
  have b2 : bk [0, 1, 2, p + 3] (rest.length + 3) 2 = 2 := rfl
  unfold callM
  simp only [D.refsL, D.refs, List.append_nil, List.cons_append, List.nil_append, hr, hc, gd_t, hs, ha, e, hlen]
  congr 1
  unfold putH
  rw [hlen]
  simp only [List.length_cons, List.length_nil, Nat.zero_add, List.take_succ_cons, List.take_zero, List.drop_succ_cons, List.drop_zero, List.map_cons, List.map_nil, hnew]
  simp [O.map, kvMap, D.map, b1, b2, mapL_norefs _ _ (ints_refs _), mapL_norefs _ _ ho, setAll, set_same hp]
theorem r_pick2 (K n : Nat) (f cs row : List Int) (s c : Int) (hr0 : 0 < row.length) (hr : row.length ≤ 1000) (hf : f.length ≤ 100) (hc : 1 ≤ cs.length) (c0 : 0 ≤ c) (c1 : c ≤ 1000000) :
    ∃ x f' c', run K (n + 2) i_L_pick2 [.ref 0, .ref 3] (jkH f cs s c ++ [.lst (zl row)]) = .ok (.int x) (jkH f' cs s c' ++ [.lst (zl row)]) ∧ x ∈ row ∧ f'.length ≤ 100 ∧ 0 ≤ c' ∧ c' ≤ c + 1 := by
  obtain ⟨r, f', c', e, hf', r0, r1, c0', c1'⟩ := c_jdraw K n (f := f) (cs := cs) (s := s) (c := c) (many := row.length) (rest := [.lst (zl row)]) (by omega) ((show Bt 20 (row.length : Int) by unfold Bt; omega).mono (by omega)) hf hc c0 c1
  obtain ⟨j, rfl⟩ : ∃ j : Nat, r = (j : Int) := ⟨r.toNat, by omega⟩
  have hj : j < row.length := by omega
  refine ⟨row[j], f', c', ?_, List.getElem_mem hj, hf', c0', c1'⟩
  have hat : L2.atI (zl row) (j : Int) = some (.int row[j]) := by
    rw [atI_lt (j := j) rfl (by simpa using hj), zl_get, List.getElem?_eq_getElem hj]; rfl
  have gc := gcR_keep (v := .int row[j]) (h0 := jkH f' cs s c' ++ [.lst (zl row)]) (rest := []) (k := 4) rfl (by
    intro o ho n hn
    simp only [List.mem_append, List.mem_cons, List.not_mem_nil, or_false] at ho
    rcases ho with (rfl | rfl | rfl) | rfl
    · simp [O.refs, kvRefs, D.refs] at hn; rcases hn with rfl | rfl <;> simp
    · simp [O.refs, ints_refs] at hn
    · simp [O.refs, ints_refs] at hn
    · simp [O.refs] at hn) (by simp [D.refs])
  rw [List.append_nil] at gc
  have ln : ((zl row).length : Int) = row.length := by simp
  rw [run_L_pick2]
  generalize callM (run K (n + 1)) = Γ at *
  generalize row[j] = x at *
  generalize (row.length : Int) = L at *
  generalize zl row = R at *
  simp [b_L_pick2, jkH, ln, e, hat]
  exact gc
theorem c_pick2 (K n : Nat) {f cs row : List Int} {s c : Int} {rest : Hm} {p : Nat} (hp : rest[p]? = some (.lst (zl row))) (hr0 : 0 < row.length) (hr : row.length ≤ 1000) (hf : f.length ≤ 100) (hc : 1 ≤ cs.length) (c0 : 0 ≤ c) (c1 : c ≤ 1000000) :
    ∃ x f' c', callM (run K (n + 2)) i_L_pick2 [.ref 0, .ref (p + 3)] (jkO s c :: .lst (f.map .int) :: .lst (cs.map .int) :: rest) = .ok (.int x) (jkO s c' :: .lst (List.map D.int f') :: .lst (cs.map .int) :: rest) ∧ x ∈ row ∧ f'.length ≤ 100 ∧ 0 ≤ c' ∧ c' ≤ c + 1 := by
  obtain ⟨x, f', c', e, a⟩ := r_pick2 K n f cs row s c hr0 hr hf hc c0 c1
  refine ⟨x, f', c', ?_, a⟩
  have := callM_j4 (new := []) hp (by simp [O.refs]) (by simp) (by rw [List.append_nil]; exact e)
  simpa [D.map] using this
theorem mix_body (K n : Nat) (row A B : List Int) (f cs : List Int) (s c : Int) (lA : A.length ≤ 1000) (lB : B.length ≤ 1000) (hA : 0 < A.length) (hf : f.length ≤ 100) (hc : 1 ≤ cs.length) (c0 : 0 ≤ c) (c1 : c ≤ 1000000) :
    ∃ (j : Nat) (hj : j < A.length) (f' : List Int) (c' : Int), exs (callM (run K (n + 1))) gg (xs0 K) b_L_mixed_1 [some (.ref 0), some (.ref 3), some (.ref 4), some (.ref 5)] (jkO s c :: .lst (f.map .int) :: .lst (cs.map .int) :: [.lst (zl row), .lst (zl A), .lst (zl B)]) =
      .nx [some (.ref 0), some (.ref 3), some (.ref 4), some (.ref 5)] (jkO s c' :: .lst (f'.map .int) :: .lst (cs.map .int) :: [.lst (zl row), .lst (zl (A.eraseIdx j)), .lst (zl (B ++ [A[j]]))]) ∧ f'.length ≤ 100 ∧ 0 ≤ c' ∧ c' ≤ c + 1 := by
  obtain ⟨r, f', c', e, hf', r0, r1, c0', c1'⟩ := c_jdraw K n (f := f) (cs := cs) (s := s) (c := c) (many := A.length) (rest := [.lst (zl row), .lst (zl A), .lst (zl B)]) (by omega) ((show Bt 20 (A.length : Int) by unfold Bt; omega).mono (by omega)) hf hc c0 c1
  obtain ⟨j, rfl⟩ : ∃ j : Nat, r = (j : Int) := ⟨r.toNat, by omega⟩
  have hj : j < A.length := by omega
  refine ⟨j, hj, f', c', ?_, hf', c0', c1'⟩
  have ln : ((zl A).length : Int) = A.length := by simp
  have lb : (zl B).length < 16777216 := by simp; omega
  have po : ∀ (o1 o2 o3 : O), meD (o1 :: o2 :: o3 :: [.lst (zl row), .lst (zl A), .lst (zl B)]) .pop (.ref 4) [.int j] = .ok (.int A[j]) (o1 :: o2 :: o3 :: [.lst (zl row), .lst (zl (A.eraseIdx j)), .lst (zl B)]) := fun o1 o2 o3 => by
    rw [popAt (xs := zl A) rfl (by simpa using hj) (by simpa using lA)]
    have : (zl A).eraseIdx j = zl (A.eraseIdx j) := eraseMap _ _ _
    rw [this]
    simp [zl]
  have sn : zl B ++ [D.int A[j]] = zl (B ++ [A[j]]) := zl_snoc B A[j]
  generalize callM (run K (n + 1)) = Γ at *
  generalize zl (B ++ [A[j]]) = B2 at *
  generalize A[j] = x at *
  generalize zl (A.eraseIdx j) = A2 at *
  generalize (A.length : Int) = L at *
  generalize f.map D.int = F at *
  generalize f'.map D.int = F' at *
  generalize cs.map D.int = C at *
  generalize zl row = R at *
  generalize zl A = A1 at *
  generalize zl B = B1 at *
  simp [b_L_mixed_1, ln, e, po, lb, sn, -me_popAt]
theorem r_mixed (K n : Nat) (hK : 1001 ≤ K) (f cs row : List Int) (s c : Int) (hr : row.length ≤ 1000) (hf : f.length ≤ 100) (hc : 1 ≤ cs.length) (c0 : 0 ≤ c) (c1 : c ≤ 900000) :
    ∃ L f' c', run K (n + 2) i_L_mixed [.ref 0, .ref 3] (jkH f cs s c ++ [.lst (zl row)]) = .ok (.ref 4) (jkH f' cs s c' ++ [.lst (zl row)] ++ [.lst (zl L)]) ∧ L.Perm row ∧ f'.length ≤ 100 ∧ 0 ≤ c' ∧ c' ≤ c + row.length := by
  obtain ⟨ρ', h', e, f', c', L, rfl, rfl, hf', c0', c1', pm⟩ := while_rule (test := truF (ev (callM (run K (n + 1))) gg b_L_mixed_0)) (body := exs (callM (run K (n + 1))) gg (xs0 K) b_L_mixed_1)
    (fun m ρ h => ∃ (f' : List Int) (c' : Int) (A B : List Int), ρ = [some (.ref 0), some (.ref 3), some (.ref 4), some (.ref 5)] ∧ h = jkO s c' :: .lst (f'.map .int) :: .lst (cs.map .int) :: [.lst (zl row), .lst (zl A), .lst (zl B)] ∧ A.length = m ∧ A.length + B.length = row.length ∧ (B ++ A).Perm row ∧ f'.length ≤ 100 ∧ 0 ≤ c' ∧ c' ≤ c + B.length)
    (fun ρ h => ∃ (f' : List Int) (c' : Int) (B : List Int), ρ = [some (.ref 0), some (.ref 3), some (.ref 4), some (.ref 5)] ∧ h = jkO s c' :: .lst (f'.map .int) :: .lst (cs.map .int) :: [.lst (zl row), .lst [], .lst (zl B)] ∧ f'.length ≤ 100 ∧ 0 ≤ c' ∧ c' ≤ c + row.length ∧ B.Perm row) (by
    rintro m ρ h ⟨f', c', A, B, rfl, rfl, hm, hl, pm, hf', c0', c1'⟩
    have eq0 : ∀ (o1 o2 o3 : O), eqD (o1 :: o2 :: o3 :: [.lst (zl row), .lst (zl A), .lst (zl B)]) (.ref 4) (.lv []) = some (decide (A = [])) := fun o1 o2 o3 => eqD_lints (b := []) rfl rfl
    cases A with
    | nil =>
      left
      refine ⟨?_, f', c', B, rfl, rfl, hf', c0', by simp at hl; omega, by simpa using pm⟩
      generalize callM (run K (n + 1)) = Γ at *
      simp [b_L_mixed_0] at eq0 ⊢
      simp [eq0]
    | cons a A =>
      right
      have lA : (a :: A).length ≤ 1000 := by omega
      obtain ⟨j, hj, f2, c2, e2, hf2, c20, c21⟩ := mix_body K n row (a :: A) B f' cs s c' lA (by omega) (by simp) hf' hc c0' (by omega)
      refine ⟨?_, ((a :: A).eraseIdx j).length, _, _, ?_, e2, f2, c2, (a :: A).eraseIdx j, B ++ [(a :: A)[j]], rfl, rfl, rfl, ?_, ?_, hf2, c20, by simp; omega⟩
      · generalize callM (run K (n + 1)) = Γ at *
        simp [b_L_mixed_0, eq0]
      · rw [List.length_eraseIdx, if_pos hj]; simp at hm ⊢; omega
      · rw [List.length_eraseIdx, if_pos hj]; simp at hl ⊢; omega
      · rw [List.append_assoc, List.singleton_append]
        exact ((permErase (a :: A) j hj).append_left B).trans pm) K row.length [some (.ref 0), some (.ref 3), some (.ref 4), some (.ref 5)] (jkO s c :: .lst (f.map .int) :: .lst (cs.map .int) :: [.lst (zl row), .lst (zl row), .lst (zl [])]) (by omega) ⟨f, c, row, [], rfl, rfl, rfl, by simp, by simp, hf, c0, by simp⟩
  refine ⟨L, f', c', ?_, pm, hf', c0', c1'⟩
  have hr2 : gcH 4 (jkO s c' :: .lst (f'.map .int) :: .lst (cs.map .int) :: [.lst (zl row), .lst [], .lst (zl L)]) [5] = [0, 1, 2, 3, 5] := by
    show reach (99995 + 1 + 1 + 1 + 1 + 1) _ _ _ = _
    simp [nums, reach, O.refs, kvRefs, D.refs, ints_refs]
  have gc : gcR 4 (.ok (.ref 5) (jkO s c' :: .lst (f'.map .int) :: .lst (cs.map .int) :: [.lst (zl row), .lst [], .lst (zl L)])) = .ok (.ref 4) (jkH f' cs s c' ++ [.lst (zl row)] ++ [.lst (zl L)]) := by
    unfold gcR
    simp only [D.refs, hr2]
    simp [closedB, nums, O.refs, kvRefs, D.refs, ints_refs, subH, O.map, kvMap, D.map, ixOf, mapL_norefs _ _ (ints_refs _)]
  rw [run_L_mixed]
  generalize callM (run K (n + 1)) = Γ at *
  rw [zl_nil] at e
  generalize zl row = R at *
  generalize zl L = L' at *
  simp [b_L_mixed, jkH, e]
  exact gc
theorem c_mixed (K n : Nat) (hK : 1001 ≤ K) {f cs row : List Int} {s c : Int} {rest : Hm} {p : Nat} (hp : rest[p]? = some (.lst (zl row))) (hr : row.length ≤ 1000) (hf : f.length ≤ 100) (hc : 1 ≤ cs.length) (c0 : 0 ≤ c) (c1 : c ≤ 900000) :
    ∃ L f' c', callM (run K (n + 2)) i_L_mixed [.ref 0, .ref (p + 3)] (jkO s c :: .lst (f.map .int) :: .lst (cs.map .int) :: rest) = .ok (.ref (rest.length + 3)) (jkO s c' :: .lst (List.map D.int f') :: .lst (cs.map .int) :: (rest ++ [.lst (zl L)])) ∧ L.Perm row ∧ f'.length ≤ 100 ∧ 0 ≤ c' ∧ c' ≤ c + row.length := by
  obtain ⟨L, f', c', e, a⟩ := r_mixed K n hK f cs row s c hr hf hc c0 c1
  refine ⟨L, f', c', ?_, a⟩
  have := callM_j4 (new := [.lst (zl L)]) hp (by simp [O.refs]) (by simp [O.refs]) e
  simpa [D.map, bk] using this
end Mi

set_option Elab.async false
set_option linter.all false
set_option maxRecDepth 100000
/-! the jar: positions -/
namespace Mi
open PySem
theorem comp_draws (K n : Nat) (cs : List Int) (s : Int) (a1 : Option D) (hc : 1 ≤ cs.length) : ∀ (m : Nat) (k : Int) (f : List Int) (c : Int), f.length ≤ 100 → 0 ≤ c → c + m ≤ 1000000 →
    ∃ xs f' c', compL (stepC (evF (callM (run K (n + 1))) gg .nil) (ev (callM (run K (n + 1))) gg b_L_position_0) (.n 5) [some (.ref 0), a1, none, none, none, none, none] [5]) none (upto k m) (jkH f cs s c) = .ok (zl xs) (jkH f' cs s c') ∧ xs.length = m ∧ (∀ x ∈ xs, x = 0 ∨ x = 1) ∧ f'.length ≤ 100 ∧ 0 ≤ c' ∧ c' ≤ c + m
  | 0, k, f, c, hf, c0, c1 => ⟨[], f, c, rfl, rfl, by simp, hf, c0, by simp⟩
  | m + 1, k, f, c, hf, c0, c1 => by
    obtain ⟨x, f1, d1, e1, hf1, x0, x1, d10, d11⟩ := c_jdraw K n (f := f) (cs := cs) (s := s) (c := c) (many := 2) (rest := []) (by omega) ((show Bt 5 _ from bt_lit (by decide)).mono (by omega)) hf hc c0 (by omega)
    obtain ⟨xs, f2, d2, e2, l2, h2, hf2, d20, d21⟩ := comp_draws K n cs s a1 hc m (k + 1) f1 d1 hf1 d10 (by omega)
    refine ⟨x :: xs, f2, d2, ?_, by simp [l2], ?_, hf2, d20, by push_cast; omega⟩
    · have st : stepC (evF (callM (run K (n + 1))) gg .nil) (ev (callM (run K (n + 1))) gg b_L_position_0) (.n 5) [some (.ref 0), a1, none, none, none, none, none] [5] (.int k) (jkH f cs s c) = .ok (some (.int x)) (jkH f1 cs s d1) := by
        generalize callM (run K (n + 1)) = Γ at *
        simp [stepC, wipeD, b_L_position_0, nox, e1]
      rw [upto, compL, st, bnd_ok, src_no, gd_t, e2, bnd_ok]; rfl
    · intro y hy
      rcases List.mem_cons.mp hy with rfl | hy
      · omega
      · exact h2 y hy
def rgZ (m : Nat) : List Int := (List.range m).map fun i : Nat => (0 : Int) + (i : Int)
theorem rgZ_len (m : Nat) : (rgZ m).length = m := by simp [rgZ]
theorem rgZ_mem {m : Nat} {x : Int} (h : x ∈ rgZ m) : 0 ≤ x ∧ x < m := by
  obtain ⟨i, hi, rfl⟩ := List.mem_map.mp h
  have := List.mem_range.mp hi
  omega
theorem rgZ_nodup (m : Nat) : (rgZ m).Nodup := by
  unfold rgZ
  unfold List.Nodup
  rw [List.pairwise_map]
  exact (List.nodup_range (n := m)).imp fun h => by omega
theorem lrangeZ (m : Nat) (hm : m ≤ 1000) (h : Hm) : biD h .lrange [.int m] = some (.lv (zl (rgZ m))) := by
  show lrg 0 m = _
  unfold lrg
  rw [if_pos ⟨by decide, by omega, by omega⟩]
  rw [show ((m : Int) - 0).toNat = m by omega, upto_zl]
  rfl
theorem repsOne (d : D) : ∀ n : Nat, reps [d] n = List.replicate n d
  | 0 => rfl
  | n + 1 => by
    have := repsOne d n
    unfold reps at this ⊢
    rw [List.replicate_succ, List.flatten_cons, this]; rfl
theorem mul_non (m : Nat) (hm : m ≤ 1000) (h : Hm) : binD h .Mult (.lv [.non]) (.int m) = some (.lv (List.replicate m .non)) := by
  have hk : repOk 1 m = true := by
    unfold repOk
    simp only [Bool.and_eq_true, decide_eq_true_eq]
    exact ⟨by omega, by rw [size_le]; omega⟩
  show (if repOk 1 m = true then some (D.lv (reps [.non] (m : Int).toNat)) else none) = _
  rw [if_pos hk, repsOne]; rfl
theorem rep_ok (m : Nat) : PosOk m [] (List.replicate m .non) :=
  ⟨fun d hd => .inl (List.eq_of_mem_replicate hd), by simp, by simp, by
    rw [List.count_replicate]; simp, by
    rw [List.count_replicate]; simp⟩
theorem pos_loop (Γ : Gm) (K m : Nat) (hm : m ≤ 100) (xs L : List Int) (hxs : ∀ x ∈ xs, x = 0 ∨ x = 1) (lx : xs.length ≤ m) (nL : L.Nodup) (mL : ∀ x ∈ L, 0 ≤ x ∧ x < m) (lL : L.length = m) (o1 o2 o3 o4 : O) (a0 a1 : Option D) :
    ∃ (S : List D) (o5 o6 : Option D), PosOk m xs S ∧ forL (forS (exs Γ gg (xs0 K) b_L_position_1) (.t (.cons (.n 5) (.cons (.n 6) .nil)))) (some (3, .lst (zl xs))) (pairs 0 (zl xs)) [a0, a1, some (.ref 3), some (.ref 5), some (.ref 6), none, none] [o1, o2, o3, .lst (zl xs), o4, .lst (zl L), .lst (List.replicate m .non)] =
      .nx [a0, a1, some (.ref 3), some (.ref 5), some (.ref 6), o5, o6] [o1, o2, o3, .lst (zl xs), o4, .lst (zl L), .lst S] := by
  obtain ⟨ρ', h', e, ys, zs, S, o5, o6, ex, e2, rfl, rfl, pk, hh⟩ := for_rule (step := forS (exs Γ gg (xs0 K) b_L_position_1) (.t (.cons (.n 5) (.cons (.n 6) .nil)))) (src := some (3, .lst (zl xs)))
    (fun ds ρ h => ∃ (ys zs : List Int) (S : List D) (o5 o6 : Option D), xs = ys ++ zs ∧ ds = pairs ys.length (zl zs) ∧ ρ = [a0, a1, some (.ref 3), some (.ref 5), some (.ref 6), o5, o6] ∧ h = [o1, o2, o3, .lst (zl xs), o4, .lst (zl L), .lst S] ∧ PosOk m ys S ∧ ∀ i : Nat, ys.length ≤ i → ∀ x, L[i]? = some x → S[x.toNat]? = some .non) (by
    rintro d ds ρ h ⟨ys, zs, S, o5, o6, ex, e2, rfl, rfl, pk, hh⟩
    cases zs with
    | nil => cases e2
    | cons z zs =>
      rw [zl_cons, pairs, List.cons.injEq] at e2
      obtain ⟨rfl, rfl⟩ := e2
      have hl : ys.length < L.length := by rw [ex] at lx; simp at lx; omega
      have hx := mL _ (List.getElem_mem hl)
      have hz : z = 0 ∨ z = 1 := hxs z (by rw [ex]; simp)
      have e3 := List.getElem?_eq_getElem hl
      have hn := hh ys.length (Nat.le_refl _) _ e3
      have hS : S.length = m := pk.len
      have hd : ∀ i (hi : i < L.length), ys.length < i → L[i] ≠ L[ys.length] := fun i hi hlt q => by
        have := (List.pairwise_iff_getElem.mp nL) ys.length i hl hi hlt
        exact this q.symm
      generalize hX : L[ys.length] = x at *
      refine ⟨[a0, a1, some (.ref 3), some (.ref 5), some (.ref 6), some (.int ys.length), some (.int z)], [o1, o2, o3, .lst (zl xs), o4, .lst (zl L), .lst (S.set x.toNat (.int z))], .inl ?_, by simp, ys ++ [z], zs, _, _, _, by simp [ex], by simp, rfl, rfl, pk.take hn hz, ?_⟩
      · have at1 : L2.atI L (ys.length : Int) = some x := by
          rw [atI_lt (j := ys.length) rfl hl, e3]
        have c2 : x < (S.length : Int) := by omega
        simp [forS, b_L_position_1, at1, hx.1, c2]
      · intro i hi y hy
        have hi2 : i < L.length := (List.getElem?_eq_some_iff.mp hy).1
        have hlt : ys.length < i := by simp at hi; omega
        have hne := hd i hi2 hlt
        have hy2 := hh i (by omega) y hy
        rw [List.getElem?_eq_getElem hi2] at hy
        injection hy with hy
        rw [hy] at hne
        have hy3 := mL y (by rw [← hy]; exact List.getElem_mem hi2)
        rw [List.getElem?_set_ne (by omega)]; exact hy2) (pairs 0 (zl xs)) [a0, a1, some (.ref 3), some (.ref 5), some (.ref 6), none, none] [o1, o2, o3, .lst (zl xs), o4, .lst (zl L), .lst (List.replicate m .non)] ⟨[], xs, _, none, none, rfl, rfl, rfl, rfl, rep_ok m, fun i _ x hx => by
      have := mL x (List.mem_of_getElem? hx)
      rw [List.getElem?_replicate, if_pos (by omega)]⟩
  have hz : zs = [] := by cases zs with
    | nil => rfl
    | cons z zs => cases e2
  subst hz
  rw [List.append_nil] at ex
  subst ex
  exact ⟨S, o5, o6, pk, e⟩
theorem r_position (K n : Nat) (hK : 1001 ≤ K) (f cs : List Int) (s c : Int) (m : Nat) (hm : m ≤ 100) (hf : f.length ≤ 100) (hc : 1 ≤ cs.length) (c0 : 0 ≤ c) (c1 : c ≤ 800000) :
    ∃ r S f' c', run K (n + 3) i_L_position [.ref 0, .int m] (jkH f cs s c) = .ok (posD r S) (jkH f' cs s c') ∧ PosOk m r S ∧ f'.length ≤ 100 ∧ 0 ≤ c' ∧ c' ≤ c + 300 := by
  obtain ⟨r0, f1, d1, e1, hf1, r00, r01, d10, d11⟩ := c_jdraw K (n + 1) (f := f) (cs := cs) (s := s) (c := c) (many := (m : Int) + 1) (rest := []) (by omega) ((show Bt 20 ((m : Int) + 1) by unfold Bt; omega).mono (by omega)) hf hc c0 (by omega)
  obtain ⟨k, rfl⟩ : ∃ k : Nat, r0 = (k : Int) := ⟨r0.toNat, by omega⟩
  obtain ⟨xs, f2, d2, e2, lx, h2, hf2, d20, d21⟩ := comp_draws K (n + 1) cs s (some (.int m)) hc k 0 f1 d1 hf1 d10 (by omega)
  obtain ⟨L, f3, d3, e3, pm, hf3, d30, d31⟩ := c_mixed K n hK (f := f2) (cs := cs) (row := rgZ m) (s := s) (c := d2) (rest := [.lst (zl xs), .lst (zl (rgZ m))]) (p := 1) rfl (by rw [rgZ_len]; omega) hf2 hc d20 (by omega)
  obtain ⟨S, o5, o6, pk, e4⟩ := pos_loop (callM (run K (n + 2))) K m hm xs L h2 (by omega) (pm.nodup_iff.mpr (rgZ_nodup m)) (fun x hx => rgZ_mem (pm.mem_iff.mp hx)) (by rw [pm.length_eq, rgZ_len]) (jkO s d3) (.lst (f3.map .int)) (.lst (cs.map .int)) (.lst (zl (rgZ m))) (some (.ref 0)) (some (.int m))
  rw [rgZ_len] at d31
  refine ⟨xs, S, f3, d3, ?_, pk, hf3, d30, by omega⟩
  have rk : rngOk (k : Int) = true := rngOk_of (by omega) (by omega)
  have lr := lrangeZ m (by omega)
  have mn := mul_non m (by omega)
  have lxs : xs.length < 16777216 := by omega
  have gc := gc_j (v := posD xs S) (f := f3) (cs := cs) (s := s) (c := d3) (rest := [.lst (zl xs), .lst (zl (rgZ m)), .lst (zl L), .lst S]) (posD_refs xs pk.it)
  rw [run_L_position]
  generalize callM (run K (n + 2)) = Γ at *
  generalize zl (rgZ m) = RG at *
  generalize hRp : List.replicate m D.non = RP at *
  simp only [posD] at gc ⊢
  generalize hM : (m : Int) = M at *
  have lz : (zl xs).length = xs.length := zl_len xs
  generalize zl xs = X at *
  generalize zl L = LL at *
  simp [b_L_position, jkH, e1, rk, compR, e2, lz, lxs, lr, mn, e3, forR, e4, -upto_zl]
  exact gc
theorem c_position (K n : Nat) (hK : 1001 ≤ K) {f cs : List Int} {s c : Int} {rest : Hm} (m : Nat) (hm : m ≤ 100) (hf : f.length ≤ 100) (hc : 1 ≤ cs.length) (c0 : 0 ≤ c) (c1 : c ≤ 800000) :
    ∃ r S f' c', callM (run K (n + 3)) i_L_position [.ref 0, .int m] (jkO s c :: .lst (f.map .int) :: .lst (cs.map .int) :: rest) = .ok (posD r S) (jkO s c' :: .lst (List.map D.int f') :: .lst (cs.map .int) :: rest) ∧ PosOk m r S ∧ f'.length ≤ 100 ∧ 0 ≤ c' ∧ c' ≤ c + 300 := by
  obtain ⟨r, S, f', c', e, p, a⟩ := r_position K n hK f cs s c m hm hf hc c0 c1
  exact ⟨r, S, f', c', callM_j (by simp [D.refsL, D.refs]) (posD_refs r p.it) e, p, a⟩
end Mi

set_option Elab.async false
set_option linter.all false
/-! the jar beside values of all kinds -/
namespace Mi
end Mi

set_option Elab.async false
set_option linter.all false
set_option maxRecDepth 100000
/-! the jar's calls beside values of all kinds -/
namespace Mi
open PySem
theorem jk_refs (f cs : List Int) (s c : Int) : ∀ (i : Nat) (o : O), (jkH f cs s c)[i]? = some o → ∀ n ∈ o.refs, n < (jkH f cs s c).length := fun i o e n hn => j_closed f cs s c o (List.mem_of_getElem? e) n hn
theorem base_jar (f cs : List Int) (s c : Int) : Base (jkH f cs s c) := by
  refine ⟨by simp, jk_refs f cs s c, fun rest k ws => ?_⟩
  show reach (k + 1 + 1 + 1) _ _ _ = _
  simp [reach, O.refs, kvRefs, D.refs, ints_refs, nums]
theorem jk_low {f cs : List Int} {s c : Int} {rest : Hm} {i : Nat} (hi : i < 3) {o : O} (e : (jkH f cs s c ++ rest)[i]? = some o) : (jkH f cs s c)[i]? = some o := by
  rwa [List.getElem?_append_left (by simpa using hi)] at e
theorem jk_high {f cs f' cs' : List Int} {s c s' c' : Int} {rest : Hm} {i : Nat} (hi : 3 ≤ i) : (jkH f cs s c ++ rest)[i]? = (jkH f' cs' s' c' ++ rest)[i]? := by
  rw [List.getElem?_append_right (by simpa using hi), List.getElem?_append_right (by simpa using hi)]; rfl
theorem HB.jar {X : List Nat} {f cs f' cs' : List Int} {s c s' c' : Int} {rest : Hm} (H : HB 3 X (jkH f cs s c ++ rest)) : HB 3 X (jkH f' cs' s' c' ++ rest) := by
  have l : (jkH f cs s c ++ rest).length = (jkH f' cs' s' c' ++ rest).length := by simp
  refine ⟨by rw [← l]; exact H.le, fun i o hi e n hn => jk_refs f' cs' s' c' i o (jk_low hi e) n hn, fun i o hi hx e n hn => ?_, fun i o e n hn => ?_⟩
  · rw [jk_high (f' := f) (cs' := cs) (s' := s) (c' := c) hi] at e
    rw [← l]; exact H.hi i o hi hx e n hn
  · by_cases hi : i < 3
    · have := jk_refs f' cs' s' c' i o (jk_low hi e) n hn
      have h3 : (jkH f' cs' s' c').length = 3 := rfl
      simp only [List.length_append]; omega
    · rw [jk_high (f' := f) (cs' := cs) (s' := s) (c' := c) (by omega)] at e
      rw [← l]; exact H.wf i o e n hn
theorem tot_jar (f cs : List Int) (s c : Int) (rest : Hm) : tot (jkH f cs s c ++ rest) = 2 + tot rest := by
  rw [tot_app]
  congr 1
  simp [tot, O.refs, kvRefs, D.refs, ints_refs]
theorem r_pickV (K n : Nat) {f cs : List Int} {s c : Int} {rest : Hm} (H : HB 3 [] (jkH f cs s c ++ rest)) {p : Nat} {ds : List D} (hp : rest[p]? = some (.lst ds)) (hs : ∀ d ∈ ds, d.st = true) (l0 : 0 < ds.length) (l1 : ds.length ≤ 1000) (hf : f.length ≤ 100) (hc : 1 ≤ cs.length) (c0 : 0 ≤ c) (c1 : c ≤ 1000000) :
    ∃ (x : D) (f' : List Int) (c' : Int), run K (n + 2) i_L_pick2 [.ref 0, .ref (p + 3)] (jkH f cs s c ++ rest) = .ok x (jkH f' cs s c' ++ rest) ∧ x ∈ ds ∧ f'.length ≤ 100 ∧ 0 ≤ c' ∧ c' ≤ c + 1 := by
  obtain ⟨r, f', c', e, hf', r0, r1, c0', c1'⟩ := c_jdraw K n (f := f) (cs := cs) (s := s) (c := c) (many := ds.length) (rest := rest) (by omega) ((show Bt 20 (ds.length : Int) by unfold Bt; omega).mono (by omega)) hf hc c0 c1
  obtain ⟨j, rfl⟩ : ∃ j : Nat, r = (j : Int) := ⟨r.toNat, by omega⟩
  have hj : j < ds.length := by omega
  have hm := List.getElem_mem hj
  refine ⟨ds[j], f', c', ?_, hm, hf', c0', c1'⟩
  have hat : L2.atI ds (j : Int) = some ds[j] := by
    rw [atI_lt (j := j) rfl hj, List.getElem?_eq_getElem hj]
  have ow := fun h => own_st (h := h) (hs _ hm)
  have H' : HB 3 [] (jkH f' cs s c' ++ rest) := H.jar
  have rx : ∀ n ∈ (ds[j]).refs, n < (jkH f' cs s c' ++ rest).length := fun n hn => H'.wf (p + 3) (.lst ds) (by simpa using hp) n (by rw [O.refs]; exact refsL_mem hm hn)
  have gc := gcR_keep (v := ds[j]) (h0 := jkH f' cs s c' ++ rest) (rest := []) (k := (jkH f cs s c ++ rest).length) (by simp) H'.w.mem rx
  rw [List.append_nil] at gc
  rw [run_L_pick2]
  generalize callM (run K (n + 1)) = Γ at *
  generalize ds[j] = x at *
  rw [← gc]
  congr 1
  simp [b_L_pick2, jkH, hp, e, hat, ow]
theorem c_pickV (K n : Nat) {f cs : List Int} {s c : Int} {rest : Hm} {X : List Nat} (H : HB 3 X (jkH f cs s c ++ rest)) (hX : ∀ x ∈ X, 3 ≤ x ∧ x < (jkH f cs s c ++ rest).length) {p : Nat} (px : p + 3 ∉ X) {ds : List D} (hp : rest[p]? = some (.lst ds)) (hs : ∀ d ∈ ds, d.st = true) (l0 : 0 < ds.length) (l1 : ds.length ≤ 1000) (hf : f.length ≤ 100) (hc : 1 ≤ cs.length) (c0 : 0 ≤ c) (c1 : c ≤ 1000000) (ht : tot rest ≤ 80000) :
    ∃ (x : D) (f' : List Int) (c' : Int), callM (run K (n + 2)) i_L_pick2 [.ref 0, .ref (p + 3)] (jkH f cs s c ++ rest) = .ok x (jkH f' cs s c' ++ rest) ∧ x ∈ ds ∧ f'.length ≤ 100 ∧ 0 ≤ c' ∧ c' ≤ c + 1 := by
  have hpl : p < rest.length := (List.getElem?_eq_some_iff.mp hp).1
  have ek : (jkH f cs s c ++ rest)[p + 3]? = some (.lst ds) := by simpa using hp
  obtain ⟨rs, rest', sb⟩ := sub_base (X := X) (base_jar f cs s c) H (fun x hx => (hX x hx).1) (as := [.ref (p + 3)]) (fun n hn => by
    simp [D.refsL, D.refs] at hn; subst hn
    exact ⟨by simp, by simp; omega, px⟩) (by rw [tot_jar]; simp [D.refsL, D.refs]; omega) (by simp)
  have nd := sb.c.nd
  have hin : p + 3 ∈ rs := sb.arg _ (by simp [D.refsL, D.refs])
  obtain ⟨e1, ed⟩ := sb.ren.lst (k := p + 3) ⟨hin, by simp⟩ ek
  have hq : 3 ≤ ixOf rs (p + 3) := sb.ren.ge _ ⟨hin, by simp⟩
  obtain ⟨q, eq⟩ : ∃ q, ixOf rs (p + 3) = q + 3 := ⟨ixOf rs (p + 3) - 3, by omega⟩
  rw [eq] at e1
  obtain ⟨x, f', c', e, hx, hf', c0', c1'⟩ := r_pickV K n (f := f) (cs := cs) (s := s) (c := c) (rest := rest') sb.hb (p := q) (by simpa using e1) (fun d hd => by
    rw [mapL_map] at hd
    obtain ⟨y, hy, rfl⟩ := List.mem_map.mp hd
    rw [st_mapV]; exact hs y hy) (by rw [mapL_len]; exact l0) (by rw [mapL_len]; exact l1) hf hc c0 c1
  rw [mapL_map] at hx
  obtain ⟨y, hy, rfl⟩ := List.mem_map.mp hx
  have hb' : HB 3 [] (jkH f' cs s c' ++ (rest' ++ [])) := by rw [List.append_nil]; exact sb.hb.jar
  obtain ⟨new', e2, _, ln, _, _, _⟩ := call_base (Γ := run K (n + 2)) (f := i_L_pick2) (b := jkH f cs s c) (b' := jkH f' cs s c') (new := []) (v := y.map (ixOf rs)) H sb (fun x hx => (hX x hx).2) rfl (jk_refs f' cs s c') hb' (by
    simp only [D.mapL, D.map, eq, List.append_nil]; exact e)
  have : new' = [] := by simpa using ln
  subst this
  refine ⟨y, f', c', ?_, hy, hf', c0', c1'⟩
  rw [e2, List.append_nil, map_map', map_id' _ y fun m hm => bk_ixOf (ed m (refsL_mem hy hm)).1]
/-! ### odd values -/
def oddV : List D := [.non, .bl true, .bl false, .int (-1), .int 2, .int (10 ^ 40), .str "", .str "0", .str "A", .tup [], .ref 3, .ref 4, .ref 5, .tup [.int 0], .tup [.int 0, .int 1], .tup [.tup [], .tup []], .ref 6]
def oddJ : Hm := [.lst [], .dic [], .lst [.int 0], .dic [(.inr "a", .int 1)], .lst oddV]
theorem oddV_refs : D.refsL oddV = [3, 4, 5, 6] := by simp [oddV, D.refsL, D.refs]
theorem hb_odd (f cs : List Int) (s c : Int) : HB 3 [] (jkH f cs s c ++ oddJ) := by
  have hi : ∀ (i : Nat) (o : O), 3 ≤ i → (jkH f cs s c ++ oddJ)[i]? = some o → ∀ n ∈ o.refs, 3 ≤ n ∧ n < 8 := fun i o h3 e n hn => by
    obtain ⟨j, rfl⟩ : ∃ j, i = j + 3 := ⟨i - 3, by omega⟩
    have e' : oddJ[j]? = some o := by simpa using e
    match j with
    | 0 => simp [oddJ] at e'; subst e'; simp [O.refs, D.refsL] at hn
    | 1 => simp [oddJ] at e'; subst e'; simp [O.refs, kvRefs] at hn
    | 2 => simp [oddJ] at e'; subst e'; simp [O.refs, D.refsL, D.refs] at hn
    | 3 => simp [oddJ] at e'; subst e'; simp [O.refs, kvRefs, D.refs] at hn
    | 4 =>
      simp [oddJ] at e'; subst e'
      rw [O.refs, oddV_refs] at hn
      simp at hn; omega
    | j + 5 => simp [oddJ] at e'
  have l8 : (jkH f cs s c ++ oddJ).length = 8 := rfl
  refine ⟨by rw [l8]; omega, fun i o h e n hn => jk_refs f cs s c i o (jk_low h e) n hn, fun i o h _ e n hn => ?_, fun i o e n hn => ?_⟩
  · have := hi i o h e n hn
    rw [l8]; exact ⟨this.1, this.2, by simp⟩
  · rw [l8]
    by_cases h : i < 3
    · have := jk_refs f cs s c i o (jk_low h e) n hn
      have h3 : (jkH f cs s c).length = 3 := rfl
      omega
    · exact (hi i o (by omega) e n hn).2
theorem odd_it (f cs : List Int) (s c : Int) : ∀ d ∈ oddV, It 3 [] (jkH f cs s c ++ oddJ) d ∧ ∀ ds', d = .tup ds' → ds'.length ≤ 1000 := fun d hd => by
  have b0 : ∀ i : Int, -10 ≤ i → i ≤ 10 → Bt 1919 i := fun i h1 h2 => bt_s ⟨h1, h2⟩
  simp only [oddV, List.mem_cons, List.not_mem_nil, or_false] at hd
  rcases hd with rfl | rfl | rfl | rfl | rfl | rfl | rfl | rfl | rfl | rfl | rfl | rfl | rfl | rfl | rfl | rfl | rfl
  · exact ⟨.of (Rk.non.mono (by omega) (by omega)), fun _ e => by cases e⟩
  · exact ⟨.bl _, fun _ e => by cases e⟩
  · exact ⟨.bl _, fun _ e => by cases e⟩
  · exact ⟨.of (rk_i (b0 _ (by omega) (by omega))), fun _ e => by cases e⟩
  · exact ⟨.of (rk_i (b0 _ (by omega) (by omega))), fun _ e => by cases e⟩
  · exact ⟨.of (rk_i bt40), fun _ e => by cases e⟩
  · exact ⟨.of (rk_str _ (by decide) (by decide) (SO.of _).ok), fun _ e => by cases e⟩
  · exact ⟨.of (rk_str _ (by decide) (by decide) (SO.of _).ok), fun _ e => by cases e⟩
  · exact ⟨.of (rk_str _ (by decide) (by decide) (SO.of _).ok), fun _ e => by cases e⟩
  · exact ⟨.of (rk_tupI (l := []) (by simp) (by simp)), fun _ e => by cases e; simp⟩
  · exact ⟨it_refI (l := []) (by omega) (by simp) (by simp) (by simp) rfl, fun _ e => by cases e⟩
  · refine ⟨⟨rfl, fun n hn => by simp [D.refs] at hn; subst hn; exact ⟨by omega, by simp [oddJ], by simp⟩, by simp [D.refs], .dict [], rfl, ⟨by simp [PyData.showable, PyData.showableKv], by simp [PyData.leavesShort, PyData.leavesShortKv], by simp [PyData.bulk, PyData.bulkKv], by simp [PyData.depth, PyData.depthKv]⟩⟩, fun _ e => by cases e⟩
  · exact ⟨it_refI (l := [0]) (by omega) (by simp) (by simp; exact b0 0 (by omega) (by omega)) (by simp) rfl, fun _ e => by cases e⟩
  · exact ⟨.of (rk_tupI (l := [0]) (by simp; exact b0 0 (by omega) (by omega)) (by simp)), fun _ e => by cases e; simp⟩
  · exact ⟨.of (rk_tupI (l := [0, 1]) (by simp; exact ⟨b0 0 (by omega) (by omega), b0 1 (by omega) (by omega)⟩) (by simp)), fun _ e => by cases e; simp⟩
  · refine ⟨.of ((Rk.tup (k := 0) (l := 1) (n := 2) (fun d hd => ?_) (by simp)).mono (by omega) (by omega)), fun _ e => by cases e; simp⟩
    simp only [List.mem_cons, List.not_mem_nil, or_false, or_self] at hd
    subst hd
    exact (Rk.tup (k := 0) (l := 0) (n := 0) (fun d hd => by cases hd) (by simp)).mono (by omega) (by omega)
  · refine ⟨⟨rfl, fun n hn => by simp [D.refs] at hn; subst hn; exact ⟨by omega, by simp [oddJ], by simp⟩, by simp [D.refs], .dict [(.str "a", .int 1)], rfl, ⟨?_, ?_, ?_, ?_⟩⟩, fun _ e => by cases e⟩
    · have := (Pq.int (b0 1 (by omega) (by omega))).s1
      simp [PyData.showable, PyData.showableKv] at this ⊢
      exact this
    · have : ((("a" : Str)).cps.toList.all fun c => decide (c < 16 ^ 8)) = true := by decide
      have h2 := (Pq.int (b0 1 (by omega) (by omega))).s2
      simp only [PyData.leavesShort, PyData.leavesShortKv, Bool.and_true] at this h2 ⊢
      rw [this, h2]; rfl
    · simp [PyData.bulk, PyData.bulkKv]
      decide
    · simp [PyData.depth, PyData.depthKv]
end Mi

set_option Elab.async false
set_option linter.all false
set_option maxRecDepth 100000
/-! the jar: odd values -/
namespace Mi
open PySem
theorem r_odd (K n : Nat) {f cs : List Int} {s c : Int} (hf : f.length ≤ 100) (hc : 1 ≤ cs.length) (c0 : 0 ≤ c) (c1 : c ≤ 1000000) :
    ∃ (x : D) (new : Hm) (f' : List Int) (c' : Int), run K (n + 3) i_L_odd [.ref 0] (jkH f cs s c) = .ok x (jkH f' cs s c' ++ new) ∧ It 3 [] (jkH f' cs s c' ++ new) x ∧ (∀ ds', x = .tup ds' → ds'.length ≤ 1000) ∧ HB 3 [] (jkH f' cs s c' ++ new) ∧ tot new ≤ 4 ∧ f'.length ≤ 100 ∧ 0 ≤ c' ∧ c' ≤ c + 1 := by
  obtain ⟨x, f', c', e, hx, hf', c0', c1'⟩ := c_pickV K n (f := f) (cs := cs) (s := s) (c := c) (rest := oddJ) (X := []) (hb_odd f cs s c) (by simp) (p := 4) (by simp) (ds := oddV) rfl (fun d hd => (odd_it f cs s c d hd).1.st) (by simp [oddV]) (by simp [oddV]) hf hc c0 c1 (by decide)
  obtain ⟨it, tl⟩ := odd_it f' cs s c' x hx
  have t4 : tot oddJ = 4 := by decide
  have hz : x.refs.length + tot (jkH f' cs s c' ++ ([] ++ oddJ)) < 100000 := by
    have := it.few
    rw [List.nil_append, tot_jar]; omega
  obtain ⟨rs, new, eg, tn, _, ren, hv, hb⟩ := gc_base (B := 3) (b := jkH f' cs s c') (rest := []) (junk := oddJ) rfl (hb_odd f' cs s c') (fun i o h1 h2 => by simp at h2; omega) (v := x) it.inn hz
  simp only [List.nil_append, List.length_nil, Nat.add_zero] at eg ren hb
  have ow := fun h => own_st (h := h) it.st
  refine ⟨x.map (ixOf rs), new, f', c', ?_, it.ren ren (fun i _ => by simp) hv, fun ds' e' => ?_, hb, Nat.le_trans tn (by decide), hf', c0', c1'⟩
  · rw [run_L_odd]
    have ol : (jkH f cs s c).length = 3 := rfl
    rw [ol, ← eg]
    congr 1
    have po : ∀ h : Hm, binD h .Pow (.int 10) (.int 40) = some (.int (10 ^ 40)) := fun h => by rw [pow_lit (by decide) (by decide) (by decide)]; rfl
    simp only [oddJ, oddV, jkH, List.cons_append, List.nil_append] at e ⊢
    generalize ((10 : Int) ^ 40) = T40 at *
    generalize callM (run K (n + 2)) = Γ at *
    simp [b_L_odd, po, e, ow]
  · cases x with
    | tup es =>
      rw [D.map] at e'
      cases e'
      rw [mapL_len]; exact tl es rfl
    | _ => simp [D.map] at e'
theorem c_odd (K n : Nat) {f cs : List Int} {s c : Int} {rest : Hm} {X : List Nat} (H : HB 3 X (jkH f cs s c ++ rest)) (hX : ∀ x ∈ X, 3 ≤ x ∧ x < (jkH f cs s c ++ rest).length) (ht : tot rest ≤ 80000) (hf : f.length ≤ 100) (hc : 1 ≤ cs.length) (c0 : 0 ≤ c) (c1 : c ≤ 1000000) :
    ∃ (x : D) (new : Hm) (f' : List Int) (c' : Int), callM (run K (n + 3)) i_L_odd [.ref 0] (jkH f cs s c ++ rest) = .ok x (jkH f' cs s c' ++ (rest ++ new)) ∧ It 3 X (jkH f' cs s c' ++ (rest ++ new)) x ∧ (∀ ds', x = .tup ds' → ds'.length ≤ 1000) ∧ HB 3 X (jkH f' cs s c' ++ (rest ++ new)) ∧ tot new ≤ 4 ∧ f'.length ≤ 100 ∧ 0 ≤ c' ∧ c' ≤ c + 1 := by
  obtain ⟨rs, rest', sb⟩ := sub_base (X := X) (base_jar f cs s c) H (fun x hx => (hX x hx).1) (as := []) (fun n hn => by simp [D.refsL] at hn) (by rw [tot_jar]; simp [D.refsL]; omega) (by simp)
  obtain rfl := sub_none (base_jar f cs s c) (by simp) sb
  obtain ⟨x, new, f', c', e, it, tl, hb, tn, hf', c0', c1'⟩ := r_odd K n (f := f) (cs := cs) (s := s) (c := c) hf hc c0 c1
  obtain ⟨new', e2, tn', _, ren, nX, hb2⟩ := call_base (Γ := run K (n + 3)) (f := i_L_odd) (b := jkH f cs s c) (b' := jkH f' cs s c') (new := new) (v := x) H sb (fun x hx => (hX x hx).2) rfl (jk_refs f' cs s c') (by simpa using hb) (by simpa [D.mapL] using e)
  simp only [List.nil_append] at ren nX
  refine ⟨_, new', f', c', e2, it.ren ren (fun i hi => nX i hi.1 hi.2) (fun m hm => ⟨(it.inn m hm).1, (it.inn m hm).2.1⟩), fun ds' e' => ?_, hb2, by omega, hf', c0', c1'⟩
  cases x with
  | tup es =>
    rw [D.map] at e'
    cases e'
    rw [mapL_len]; exact tl es rfl
  | _ => simp [D.map] at e'
end Mi

set_option Elab.async false
set_option linter.all false
set_option maxRecDepth 100000
/-! the walks: empty cells, a taking -/
namespace Mi
open PySem
theorem r_empty (K n : Nat) {S : List D} (hS : ∀ d ∈ S, isItem d) (hl : S.length ≤ 1000) : run K (n + 1) i_empty_cells [.tup S] [] = .ok (.tup (zl (emp 0 S))) [] := by
  have c := comp_emp (h := []) (step := stepC (evF (callM (run K n)) gg b_empty_cells_1) (ev (callM (run K n)) gg b_empty_cells_0) (.t (.cons (.n 1) (.cons (.n 2) .nil))) [some (.tup S), none, none] [1, 2]) S 0 (fun m d hd => by
    rcases hS d hd with rfl | rfl | rfl <;> simp [stepC, wipeD, b_empty_cells_0, b_empty_cells_1, nox])
  have hle : (emp 0 S).length < 16777216 := by have := emp_le S 0; omega
  rw [run_empty_cells]
  simp [b_empty_cells, compR, c, hle]
  exact gcR_pure (by simp [D.refs])
theorem c_empty (K n : Nat) {S : List D} (hS : ∀ d ∈ S, isItem d) (hl : S.length ≤ 1000) (h : Hm) : callM (run K (n + 1)) i_empty_cells [.tup S] h = .ok (.tup (zl (emp 0 S))) h :=
  callM_pure (by simp [D.refsL, D.refs, it_refs hS]) (by simp [D.refs]) (r_empty K n hS hl)
theorem r_taken (K n : Nat) (r : List Int) {S : List D} (hS : ∀ d ∈ S, isItem d) (hl : S.length ≤ 100) (hr : r.length ≤ 100) {x : Int} (hx : x = 0 ∨ x = 1) {c : Nat} (hc : S[c]? = some .non) :
    run K (n + 3) i_taken [posD r S, .int x, .int c] [] = .ok (posD (r ++ [x]) (S.set c (.int x))) [] := by
  have c1 := c_ishand K n x []
  rw [show decide (0 ≤ x ∧ x ≤ 1) = true by rcases hx with rfl | rfl <;> rfl] at c1
  have c2 := isint_c K (n + 1) c []
  have c3 := c_empty K (n + 1) hS (by omega) []
  have hm : (c : Int) ∈ emp 0 S := (mem_emp S 0 c).mpr ⟨c, by simp, hc⟩
  have in1 := fun h => in_ints_tup (h := h) c (emp 0 S)
  rw [decide_eq_true hm] at in1
  have hcl : c < S.length := (List.getElem?_eq_some_iff.mp hc).1
  have s1 := fun h => sl_to (h := h) S c
  have s2 := fun h => sl_from (h := h) S c
  have a0 := fun h => ad_tup (h := h) (a := zl r) (b := [.int x]) (by simp; omega)
  have a1 := fun h => ad_tup (h := h) (a := S.take c) (b := [.int x]) (by simp; omega)
  have a2 := fun h => ad_tup (h := h) (a := S.take c ++ [.int x]) (b := S.drop (c + 1)) (by simp; omega)
  have gc := fun h => gcR_pure (v := posD (r ++ [x]) (S.set c (.int x))) (h := h) (posD_refs _ (it_set hS c hx))
  rw [setCut S c _ hcl] at a2
  rw [zl_snoc] at a0
  rw [run_taken]
  simp only [posD] at *
  generalize callM (run K (n + 2)) = Γ at *
  generalize S.set c (.int x) = S' at *
  generalize S.take c ++ [.int x] = S3 at *
  generalize S.take c = S1 at *
  generalize S.drop (c + 1) = S2 at *
  generalize zl (r ++ [x]) = r2 at *
  generalize zl r = r1 at *
  generalize zl (emp 0 S) = em at *
  simp [b_taken, c1, c2, c3, in1, s1, s2, a0, a1, a2, -add_tup]
  exact gc _
theorem c_taken (K n : Nat) (r : List Int) {S : List D} (hS : ∀ d ∈ S, isItem d) (hl : S.length ≤ 100) (hr : r.length ≤ 100) {x : Int} (hx : x = 0 ∨ x = 1) {c : Nat} (hc : S[c]? = some .non) (h : Hm) :
    callM (run K (n + 3)) i_taken [posD r S, .int x, .int c] h = .ok (posD (r ++ [x]) (S.set c (.int x))) h :=
  callM_pure (by simp [D.refsL, D.refs, it_refs hS]) (posD_refs _ (it_set hS c hx)) (r_taken K n r hS hl hr hx hc)
end Mi

set_option Elab.async false
set_option linter.all false
set_option maxRecDepth 100000
/-! errors -/
namespace Mi
open PySem
def tryR (X : Xs) (c : Nat) (k : Env → Hm → Rs) (r : Rs) : Rs := match r with
  | .xx n v ρ h => if X.sub n c = true then k ρ h else .xx n v ρ h
  | r => r
@[simp] theorem tryR_nx (X : Xs) (c : Nat) (k : Env → Hm → Rs) (ρ : Env) (h : Hm) : tryR X c k (.nx ρ h) = .nx ρ h := rfl
@[simp] theorem tryR_rt (X : Xs) (c : Nat) (k : Env → Hm → Rs) (d : D) (h : Hm) : tryR X c k (.rt d h) = .rt d h := rfl
@[simp] theorem tryR_xx (X : Xs) (c : Nat) (k : Env → Hm → Rs) (n : Str) (v : List (Str × D)) (ρ : Env) (h : Hm) : tryR X c k (.xx n v ρ h) = if X.sub n c = true then k ρ h else .xx n v ρ h := rfl
section
variable {Γ : Gm} {G : Nat → Option D} {X : Xs} {ρ : Env} {h : Hm}
@[simp] theorem ex_try (b : Ss) (c : Nat) (s : Ss) : ex Γ G X (.try_ b c s) ρ h = tryR X c (exs Γ G X s) (exs Γ G X b ρ h) := by rw [ex]; rfl
theorem ex_raise0 (c : Nat) {n : Str} (e : X.cls c = some (n, [])) : ex Γ G X (.raise c .nil) ρ h = .xx n [] ρ h := by
  rw [ex]; simp [evs, e]
end
theorem gcR_ex {c : Str} {h : Hm} : gcR 0 (.ex c [] h) = .ex c [] [] := by
  have e : gcH 0 h [] = [] := rfl
  unfold gcR
  simp only [kvRefs, e]
  rfl
theorem callM_exc {Γ : Gm} {f : Nat} {args : List D} {h : Hm} {c : Str} (ha : D.refsL args = []) (e : Γ f args [] = .ex c [] []) : callM Γ f args h = .ex c [] h := by
  unfold callM
  have hr : reach 100000 h [] [] = [] := rfl
  simp only [ha, hr]
  have hs : subH h [] = [] := rfl
  rw [hs, mapL_norefs _ _ ha, e]
  simp [closedB, putH, setAll, kvMap]
end Mi

set_option Elab.async false
set_option linter.all false
set_option maxRecDepth 100000
/-! a taking that is refused -/
namespace Mi
open PySem
theorem r_taken_no (K n : Nat) (r : List Int) {S : List D} (hS : ∀ d ∈ S, isItem d) (hl : S.length ≤ 100) {x : Int} (hx : x = 0 ∨ x = 1) {c : Nat} (hc : S[c]? ≠ some .non) :
    run K (n + 3) i_taken [posD r S, .int x, .int c] [] = .ex "Unfit" [] [] := by
  have c1 := c_ishand K n x []
  rw [show decide (0 ≤ x ∧ x ≤ 1) = true by rcases hx with rfl | rfl <;> rfl] at c1
  have c2 := isint_c K (n + 1) c []
  have c3 := c_empty K (n + 1) hS (by omega) []
  have hm : ¬ (c : Int) ∈ emp 0 S := fun q => by
    obtain ⟨j, e, h⟩ := (mem_emp S 0 c).mp q
    have : c = j := by omega
    subst this; exact hc h
  have in1 := fun h => in_ints_tup (h := h) c (emp 0 S)
  rw [decide_eq_false hm] at in1
  have rs := fun ρ h => ex_raise0 (Γ := callM (run K (n + 2))) (G := gg) (X := xs0 K) (ρ := ρ) (h := h) 0 (n := "Unfit") rfl
  rw [run_taken]
  simp only [posD] at *
  generalize callM (run K (n + 2)) = Γ at *
  generalize zl r = r1 at *
  generalize zl (emp 0 S) = em at *
  simp [b_taken, c1, c2, c3, in1, rs]
  exact gcR_ex
theorem c_taken_no (K n : Nat) (r : List Int) {S : List D} (hS : ∀ d ∈ S, isItem d) (hl : S.length ≤ 100) {x : Int} (hx : x = 0 ∨ x = 1) {c : Nat} (hc : S[c]? ≠ some .non) (h : Hm) :
    callM (run K (n + 3)) i_taken [posD r S, .int x, .int c] h = .ex "Unfit" [] h :=
  callM_exc (by simp [D.refsL, D.refs, it_refs hS]) (r_taken_no K n r hS hl hx hc)
end Mi

set_option Elab.async false
set_option linter.all false
set_option maxRecDepth 100000
/-! is_integer of whatever -/
namespace Mi
open PySem
theorem r_isintV (K n : Nat) {h : Hm} (w : Wf h) (d : D) : run K (n + 1) i_is_integer [d] h = .ok (.bl (inn d)) h := by
  rw [run_is_integer]
  cases d with
  | int i =>
    simp [b_is_integer, inn]
    exact gc_same w (v := .bl true) rfl
  | bl b =>
    simp [b_is_integer, inn]
    exact gc_same w (v := .bl false) rfl
  | _ =>
    have i1 : ∀ d h, isIn d = false → biD h .isInt [d] = some (.bl false) := fun d h e => by
      show some (D.bl (isIn d)) = _
      rw [e]
    simp [b_is_integer, inn, i1, isIn]
    exact gc_same w (v := .bl false) rfl
theorem c_isintV (K n : Nat) {h : Hm} (w : Wf h) {d : D} (hd : ∀ n ∈ d.refs, n < h.length) (hz : d.refs.length + tot h < 90000) : callM (run K (n + 1)) i_is_integer [d] h = .ok (.bl (inn d)) h :=
  callM_look w (by simpa [D.refsL] using hd) (by simpa [D.refsL] using hz) rfl fun g h' w' _ _ => by
    rw [D.mapL, D.mapL, r_isintV K n w' (d.map g), inn_map]
end Mi

set_option Elab.async false
set_option linter.all false
set_option maxRecDepth 100000
/-! what is wrong with a value as a position -/
namespace Mi
open PySem
def hnd : D → Bool
  | .int i => decide (0 ≤ i ∧ i ≤ 1)
  | _ => false
theorem hnd_map (g : Nat → Nat) (d : D) : hnd (d.map g) = hnd d := by cases d <;> simp [D.map, hnd]
theorem r_ishandV (K n : Nat) {h : Hm} (w : Wf h) {d : D} (hs : d.st = true) (hd : ∀ n ∈ d.refs, n < h.length) (hz : d.refs.length + tot h < 90000) : run K (n + 2) i_is_hand [d] h = .ok (.bl (hnd d)) h := by
  have c := c_isintV K n w hd hz
  rw [run_is_hand]
  generalize callM (run K (n + 1)) = Γ at *
  have e : exs Γ gg (xs0 K) b_is_hand [some d] h = .rt (.bl (hnd d)) h := by
    cases d with
    | int i =>
      simp only [inn] at c
      by_cases h0 : 0 ≤ i <;> simp [b_is_hand, c, h0, hnd]
    | lv ds => simp [D.st] at hs
    | _ =>
      simp only [inn] at c
      simp [b_is_hand, c, hnd]
  rw [e]
  exact gc_same w (v := .bl (hnd d)) rfl
theorem c_ishandV (K n : Nat) {h : Hm} (w : Wf h) {d : D} (hs : d.st = true) (hd : ∀ n ∈ d.refs, n < h.length) (hz : d.refs.length + tot h < 80000) : callM (run K (n + 2)) i_is_hand [d] h = .ok (.bl (hnd d)) h :=
  callM_look w (by simpa [D.refsL] using hd) (by simp [D.refsL]; omega) rfl fun g h' w' hr ht => by
    rw [D.mapL, D.mapL] at *
    rw [r_ishandV K n w' (by rw [st_mapV]; exact hs) (by simpa [D.refsL] using hr) (by rw [refs_map, List.length_map]; omega), hnd_map]
theorem r_LishandV (K n : Nat) {h : Hm} (w : Wf h) (d : D) : run K (n + 1) i_L_is_hand [d] h = .ok (.bl (hnd d)) h := by
  rw [run_L_is_hand]
  generalize callM (run K n) = Γ at *
  have e : exs Γ gg (xs0 K) b_L_is_hand [some d] h = .rt (.bl (hnd d)) h := by
    cases d with
    | int i =>
      by_cases h0 : 0 ≤ i <;> simp [b_L_is_hand, h0, hnd]
    | bl b => simp [b_L_is_hand, hnd, isIn, isBl]
    | _ =>
      have i1 : ∀ d h, isIn d = false → biD h .isInt [d] = some (.bl false) := fun d h e => by
        show some (D.bl (isIn d)) = _
        rw [e]
      simp [b_L_is_hand, hnd, i1, isIn]
  rw [e]
  exact gc_same w (v := .bl (hnd d)) rfl
theorem c_LishandV (K n : Nat) {h : Hm} (w : Wf h) {d : D} (hd : ∀ n ∈ d.refs, n < h.length) (hz : d.refs.length + tot h < 90000) : callM (run K (n + 1)) i_L_is_hand [d] h = .ok (.bl (hnd d)) h :=
  callM_look w (by simpa [D.refsL] using hd) (by simpa [D.refsL] using hz) rfl fun g h' w' _ _ => by
    rw [D.mapL, D.mapL, r_LishandV K n w' (d.map g), hnd_map]
/-- an item that is neither a hand nor none -/
def badI (d : D) : Bool := !isN d && !hnd d
def fstB : Nat → List D → Option Nat
  | _, [] => none
  | n, d :: ds => if badI d = true then some n else fstB (n + 1) ds
theorem fstB_it : ∀ (n : Nat) (S : List D), fstB n S = none → ∀ d ∈ S, isItem d
  | _, [], _, d, hd => by cases hd
  | n, a :: S, e, d, hd => by
    rw [fstB] at e
    split at e
    · cases e
    · rename_i hb
      rcases List.mem_cons.mp hd with rfl | hd
      · unfold badI at hb
        cases d with
        | non => exact .inl rfl
        | int i =>
          simp [isN, hnd] at hb
          have : i = 0 ∨ i = 1 := by omega
          rcases this with rfl | rfl
          · exact .inr (.inl rfl)
          · exact .inr (.inr rfl)
        | _ => simp [isN, hnd] at hb
      · exact fstB_it (n + 1) S e d hd
def faultD (m : Nat) : D → D
  | .tup [.tup r, .tup s] => if m < r.length ∨ r.all hnd = false then .str "row" else if s.length ≠ m then .str "many" else
      match fstB 0 s with
      | some c => .tup [.str "cell", .int c]
      | none => if s.count (.int 1) = r.count (.int 1) ∧ s.count (.int 0) = r.count (.int 0) then .non else .str "number"
  | _ => .str "form"
theorem faultD_flat (m : Nat) (v : D) : (faultD m v).refs = [] := by
  unfold faultD
  split
  · split
    · rfl
    · split
      · rfl
      · split
        · simp [D.refs, D.refsL]
        · split <;> rfl
  · rfl
end Mi

set_option Elab.async false
set_option linter.all false
set_option maxRecDepth 100000
/-! calls that look, and make one flat list, or raise -/
namespace Mi
open PySem
theorem reach_skip (h : Hm) : ∀ (ws t seen : List Nat) (f : Nat), (∀ n ∈ ws, n ∈ seen) → reach (f + ws.length) h (ws ++ t) seen = reach f h t seen
  | [], t, seen, f, _ => rfl
  | n :: ws, t, seen, f, hs => by
    rw [List.length_cons, ← Nat.add_assoc, List.cons_append, reach, if_pos (by simpa using hs n List.mem_cons_self)]
    exact reach_skip h ws t seen f fun m hm => hs m (List.mem_cons_of_mem _ hm)
theorem sub_same {h : Hm} {rs ns : List Nat} (c : Cl h rs ns) : setAll h rs ((subH h rs).map (O.map (bk rs h.length))) = h := by
  refine setAll_same _ _ (by simp [subH]) fun i n hn => ?_
  have hmem : n ∈ rs := List.mem_of_getElem? hn
  have hlt : n < h.length := c.lt hmem
  simp only [subH, List.getElem?_map, hn, Option.map_some]
  rw [List.getElem?_eq_getElem hlt, List.getD_eq_getElem?_getD, List.getElem?_eq_getElem hlt]
  congr 1
  simp only [Option.getD_some]
  rw [omap_map', omap_id]
  intro m hm
  obtain ⟨o, eo, ho⟩ := c.clo n hmem
  rw [List.getElem?_eq_getElem hlt] at eo
  cases eo
  exact bk_ixOf (ho m hm)
/-- a call that makes a flat list -/
theorem callM_nw {Γ : Gm} {f : Nat} {args : List D} {h : Hm} {L : List D} (rs : List Nat) (hr : reach 100000 h (D.refsL args) [] = rs) (hc : closedB h rs (D.refsL args) = true) (hL : D.refsL L = [])
    (e : Γ f (D.mapL (ixOf rs) args) (subH h rs) = .ok (.ref rs.length) (subH h rs ++ [.lst L])) : callM Γ f args h = .ok (.ref h.length) (h ++ [.lst L]) := by
  have c := closed_of hc
  have ls : (subH h rs).length = rs.length := by simp [subH]
  unfold callM
  simp only [hr, hc, gd_t, e]
  have b1 : bk rs h.length rs.length = h.length := by unfold bk; rw [if_neg (by omega)]; omega
  have p1 : putH h rs (subH h rs ++ [.lst L]) = h ++ [.lst L] := by
    unfold putH
    rw [← ls, List.take_left, List.drop_left, sub_same c, List.map_cons, List.map_nil, map_flat _ (by simpa [O.refs] using hL)]
  rw [p1, D.map, b1]
theorem callM_er {Γ : Gm} {f : Nat} {args : List D} {h : Hm} {x : Str} (rs : List Nat) (hr : reach 100000 h (D.refsL args) [] = rs) (hc : closedB h rs (D.refsL args) = true)
    (e : Γ f (D.mapL (ixOf rs) args) (subH h rs) = .ex x [] (subH h rs)) : callM Γ f args h = .ex x [] h := by
  have c := closed_of hc
  have ls : (subH h rs).length = rs.length := by simp [subH]
  unfold callM
  simp only [hr, hc, gd_t, e]
  have p1 : putH h rs (subH h rs) = h := by
    unfold putH
    rw [← ls, List.take_length, List.drop_length, sub_same c, List.map_nil, List.append_nil]
  rw [p1]; rfl
/-- what a call that looks sees -/
structure Sees (h : Hm) (as : List D) (g : Nat → Nat) (h' : Hm) : Prop where
  wf : Wf h'
  rf : ∀ n ∈ D.refsL (D.mapL g as), n < h'.length
  tt : tot h' ≤ tot h
  at_ : ∀ n ∈ D.refsL as, ∀ o, h[n]? = some o → h'[g n]? = some (o.map g)
theorem sees {h : Hm} {as : List D} (wf : Wf h) (ha : ∀ n ∈ D.refsL as, n < h.length) (hz : (D.refsL as).length + tot h < 90000) :
    closedB h (reach 100000 h (D.refsL as) []) (D.refsL as) = true ∧ Sees h as (ixOf (reach 100000 h (D.refsL as) [])) (subH h (reach 100000 h (D.refsL as) [])) := by
  obtain ⟨h1, ⟨t, h2⟩, h3, h4, h5⟩ := reach_spec h wf 100000 (D.refsL as) [] (by simp) ha (by simp) (by simp) (by
      have : pnd h [] (nums 0 h.length) ≤ tot h := by rw [← rl_tot]; exact pnd_le _ _ _
      omega)
  refine ⟨closedB_of h1 h3 h4 h5, ?_⟩
  generalize reach 100000 h (D.refsL as) [] = rs at *
  have len : (subH h rs).length = rs.length := by simp [subH]
  refine ⟨fun i o e n hn => ?_, fun n hn => ?_, tot_sub h1 h4, fun n hn o e => subH_at (h3 n hn) e⟩
  · have hi : i < rs.length := by rw [← len]; exact (List.getElem?_eq_some_iff.mp e).1
    have hm := List.getElem_mem hi
    have e1 : h[rs[i]]? = some (h[rs[i]]'(h4 _ hm)) := List.getElem?_eq_getElem (h4 _ hm)
    have e2 := subH_at hm e1
    rw [ixOf_at h1 (List.getElem?_eq_getElem hi), e] at e2
    obtain rfl := Option.some.inj e2
    rw [orefs_map] at hn
    obtain ⟨k, hk, rfl⟩ := List.mem_map.mp hn
    rw [len]; exact ixOf_lt (h5 _ hm _ e1 k hk)
  · rw [refsL_map] at hn
    obtain ⟨k, hk, rfl⟩ := List.mem_map.mp hn
    rw [len]; exact ixOf_lt (h3 k hk)
theorem callM_lookN {Γ : Gm} {f : Nat} {as : List D} {h : Hm} {L : List D} (wf : Wf h) (ha : ∀ n ∈ D.refsL as, n < h.length) (hz : (D.refsL as).length + tot h < 90000) (hL : D.refsL L = [])
    (e : ∀ (g : Nat → Nat) (h' : Hm), Sees h as g h' → Γ f (D.mapL g as) h' = .ok (.ref h'.length) (h' ++ [.lst L])) : callM Γ f as h = .ok (.ref h.length) (h ++ [.lst L]) := by
  obtain ⟨c, s⟩ := sees wf ha hz
  exact callM_nw _ rfl c hL (by rw [e _ _ s]; simp [subH])
theorem callM_lookE {Γ : Gm} {f : Nat} {as : List D} {h : Hm} {x : Str} (wf : Wf h) (ha : ∀ n ∈ D.refsL as, n < h.length) (hz : (D.refsL as).length + tot h < 90000)
    (e : ∀ (g : Nat → Nat) (h' : Hm), Sees h as g h' → Γ f (D.mapL g as) h' = .ex x [] h') : callM Γ f as h = .ex x [] h := by
  obtain ⟨c, s⟩ := sees wf ha hz
  exact callM_er _ rfl c (e _ _ s)
/-- the end of a call that made a flat list -/
theorem low_seen {h0 rest : Hm} (w : Wf h0) : ∀ n ∈ (nums 0 h0.length).flatMap (fun n => match (h0 ++ rest)[n]? with | some o => o.refs | none => []), n ∈ nums 0 h0.length := fun n hn => by
  obtain ⟨m, hm, hn⟩ := List.mem_flatMap.mp hn
  have hm := (mem_nums _ _ _).mp hm
  rw [List.getElem?_append_left (by omega), List.getElem?_eq_getElem (by omega)] at hn
  have := w m _ (List.getElem?_eq_getElem (by omega)) n hn
  exact (mem_nums _ _ _).mpr (by omega)
theorem gc_newL {h0 rest : Hm} (w : Wf h0) {j : Nat} {L : List D} (e : rest[j]? = some (.lst L)) (hL : D.refsL L = []) (hz : tot (h0 ++ rest) < 90000) : gcR h0.length (.ok (.ref (h0.length + j)) (h0 ++ rest)) = .ok (.ref h0.length) (h0 ++ [.lst L]) := by
  have hj := (List.getElem?_eq_some_iff.mp e).1
  have pn := pnd_nums (h0 ++ rest) h0.length (by simp)
  have ls := low_seen (rest := rest) w
  have eo : (h0 ++ rest)[h0.length + j]? = some (.lst L) := by rw [List.getElem?_append_right (by omega), Nat.add_sub_cancel_left]; exact e
  have hr : gcH h0.length (h0 ++ rest) [h0.length + j] = nums 0 h0.length ++ [h0.length + j] := by
    unfold gcH
    generalize ((nums 0 h0.length).flatMap fun n => match (h0 ++ rest)[n]? with | some o => o.refs | none => []) = lo at *
    have := reach_skip (h0 ++ rest) lo [h0.length + j] (nums 0 h0.length) (100000 - lo.length) ls
    rw [show 100000 - lo.length + lo.length = 100000 by omega] at this
    rw [this, show 100000 - lo.length = 99998 - lo.length + 1 + 1 by omega, reach, if_neg (by
      intro q
      have := (mem_nums _ _ _).mp (by simpa using q)
      omega), eo]
    simp only [O.refs, hL, List.append_nil, reach]
  have nd : (nums 0 h0.length ++ [h0.length + j]).Nodup := by
    rw [List.nodup_append]
    refine ⟨nums_nd _ _, by simp, fun a ha b hb => ?_⟩
    have := (mem_nums _ _ _).mp ha
    simp at hb; omega
  have ln : (nums 0 h0.length ++ [h0.length + j]).length = h0.length + 1 := by rw [List.length_append, nums_len]; rfl
  have ixl : ∀ n, n < h0.length → ixOf (nums 0 h0.length ++ [h0.length + j]) n = n := fun n hn => ixOf_at nd (by rw [List.getElem?_append_left (by rw [nums_len]; omega), nums_at _ _ _ hn, Nat.zero_add])
  have ixh : ixOf (nums 0 h0.length ++ [h0.length + j]) (h0.length + j) = h0.length := ixOf_at nd (by rw [List.getElem?_append_right (by rw [nums_len]; omega), nums_len]; simp)
  have hcl : closedB (h0 ++ rest) (nums 0 h0.length ++ [h0.length + j]) (nums 0 h0.length ++ [h0.length + j]) = true := closedB_of nd (fun _ h => h) (fun n hn => by
      rw [List.length_append]
      rcases List.mem_append.mp hn with hn | hn
      · have := (mem_nums _ _ _).mp hn; omega
      · simp at hn; omega) fun n hn o ho k hk => by
        rcases List.mem_append.mp hn with hn | hn
        · have hn := (mem_nums _ _ _).mp hn
          rw [List.getElem?_append_left (by omega)] at ho
          have := w n o ho k hk
          exact List.mem_append_left _ ((mem_nums _ _ _).mpr (by omega))
        · simp at hn; subst hn
          rw [eo] at ho; cases ho
          rw [O.refs, hL] at hk; cases hk
  have tk : (nums 0 h0.length ++ [h0.length + j]).take h0.length = nums 0 h0.length := List.take_left' (nums_len 0 _)
  have sb : subH (h0 ++ rest) (nums 0 h0.length ++ [h0.length + j]) = h0 ++ [.lst L] := by
    have key : ∀ n o, (h0 ++ rest)[n]? = some o → (∀ k ∈ o.refs, ixOf (nums 0 h0.length ++ [h0.length + j]) k = k) → ((h0 ++ rest).getD n default).map (ixOf (nums 0 h0.length ++ [h0.length + j])) = o := fun n o ho hk => by
      rw [List.getD_eq_getElem?_getD, ho]; exact omap_id _ o hk
    unfold subH
    rw [List.map_append, List.map_cons, List.map_nil]
    congr 1
    · refine List.ext_getElem? fun i => ?_
      by_cases hi : i < h0.length
      · have e0 := List.getElem?_eq_getElem hi
        rw [List.getElem?_map, nums_at _ 0 i hi, Option.map_some, Nat.zero_add, e0]
        congr 1
        exact key i _ (by rw [List.getElem?_append_left hi]; exact e0) fun k hk => ixl k (w i _ e0 k hk)
      · rw [List.getElem?_eq_none (by simp [nums_len]; omega), List.getElem?_eq_none (by omega)]
    · rw [key _ _ eo fun k hk => by rw [O.refs, hL] at hk; cases hk]
  unfold gcR
  simp only [D.refs, hr, hcl, tk, decide_true, Bool.and_self, gd_t, sb, D.map, ixh]
theorem gc_er {h0 rest : Hm} (w : Wf h0) {x : Str} : gcR h0.length (.ex x [] (h0 ++ rest)) = .ex x [] h0 := by
  have hr : gcH h0.length (h0 ++ rest) [] = nums 0 h0.length := by
    unfold gcH
    refine reach_seen _ _ _ _ fun n hn => ?_
    rw [List.append_nil] at hn
    exact low_seen w n hn
  have hcl : closedB (h0 ++ rest) (nums 0 h0.length) (nums 0 h0.length ++ []) = true := closedB_of (nums_nd _ _) (fun n hn => by simpa using hn) (fun n hn => by
      have := (mem_nums _ _ _).mp hn
      rw [List.length_append]; omega) fun n hn o ho k hk => by
        have hn := (mem_nums _ _ _).mp hn
        rw [List.getElem?_append_left (by omega)] at ho
        have := w n o ho k hk
        exact (mem_nums _ _ _).mpr (by omega)
  have ht : (nums 0 h0.length).take h0.length = nums 0 h0.length := List.take_of_length_le (by rw [nums_len]; exact Nat.le_refl _)
  unfold gcR
  simp only [kvRefs, hr, hcl, ht, decide_true, Bool.and_self, gd_t, kvMap, subH_first h0 rest w.mem]
end Mi

set_option Elab.async false
set_option linter.all false
set_option maxRecDepth 100000
/-! a taking by whatever hand, of whatever cell -/
namespace Mi
open PySem
def okT (S : List D) (x c : D) : Prop := hnd x = true ∧ ∃ k : Nat, c = .int k ∧ S[k]? = some .non
theorem smM {g : Nat → Nat} {h h' : Hm} {d : D} (s : Sm h d) (hr : ∀ n ∈ (d.map g).refs, n < h'.length) : Sm h' (d.map g) := ⟨by rw [st_mapV]; exact s.st, hr, by rw [refs_map, List.length_map]; exact s.few⟩
theorem okT_map {S : List D} {x c : D} (g : Nat → Nat) (h : ¬ okT S x c) : ¬ okT S (x.map g) (c.map g) := fun ⟨h1, k, h2, h3⟩ => h ⟨by rw [← h1, hnd_map], k, by cases c <;> simp_all [D.map], h3⟩
theorem ex_of {K : Nat} {h : Hm} (w : Wf h) {Γ : Gm} {b : Ss} {ρ : Env} (q : ∃ ρ', exs Γ gg (xs0 K) b ρ h = .xx "Unfit" [] ρ' h) : gcR h.length (outR (exs Γ gg (xs0 K) b ρ h)) = .ex "Unfit" [] h := by
  obtain ⟨ρ', q⟩ := q
  rw [q]
  have := gc_er (rest := []) w (x := "Unfit")
  rwa [List.append_nil] at this
theorem r_takenV_no (K n : Nat) {h : Hm} (w : Wf h) (ht : tot h ≤ 50000) (r : List Int) {S : List D} (hS : ∀ d ∈ S, isItem d) (hl : S.length ≤ 100) {x c : D} (sx : Sm h x) (sc : Sm h c) (no : ¬ okT S x c) :
    run K (n + 3) i_taken [posD r S, x, c] h = .ex "Unfit" [] h := by
  have c1 := c_ishandV K n w sx.st sx.rf (by have := sx.few; omega)
  have c2 := c_isintV K (n + 1) w sc.rf (by have := sc.few; omega)
  have c3 := c_empty K (n + 1) hS (by omega) h
  have rs := fun ρ h => ex_raise0 (Γ := callM (run K (n + 2))) (G := gg) (X := xs0 K) (ρ := ρ) (h := h) 0 (n := "Unfit") rfl
  rw [run_taken]
  refine ex_of w ?_
  have ox := fun h => own_st (h := h) sx.st
  have oc := fun h => own_st (h := h) sc.st
  simp only [posD] at *
  have in1 := fun h z => in_ints_tup (h := h) z (emp 0 S)
  generalize callM (run K (n + 2)) = Γ at *
  cases eh : hnd x with
  | false =>
    rw [eh] at c1
    exact ⟨_, by simp [b_taken, c1, ox, oc, rs]; rfl⟩
  | true =>
    rw [eh] at c1
    cases ei : inn c with
    | false =>
      rw [ei] at c2
      exact ⟨_, by simp [b_taken, c1, c2, ox, oc, rs]; rfl⟩
    | true =>
      rw [ei] at c2
      obtain ⟨z, rfl⟩ : ∃ z, c = .int z := by cases c <;> simp_all [inn]
      have hm : ¬ z ∈ emp 0 S := fun q => by
        obtain ⟨j, e, hj⟩ := (mem_emp S 0 z).mp q
        exact no ⟨eh, j, by rw [e, Nat.zero_add], hj⟩
      have in2 := fun h => in1 h z
      rw [decide_eq_false hm] at in2
      generalize zl r = r1 at *
      generalize zl (emp 0 S) = em at *
      exact ⟨_, by simp [b_taken, c1, c2, c3, in2, ox, oc, rs]; rfl⟩
theorem pos_map (g : Nat → Nat) (r : List Int) {S : List D} (hS : ∀ d ∈ S, isItem d) : (posD r S).map g = posD r S := map_norefs _ (posD r S) (posD_refs r hS)
theorem refs3 (r : List Int) {S : List D} (hS : ∀ d ∈ S, isItem d) (x c : D) (as : List D) : D.refsL (posD r S :: x :: c :: as) = x.refs ++ (c.refs ++ D.refsL as) := by
  rw [D.refsL, posD_refs r hS]; simp [D.refsL]
theorem c_takenV_no (K n : Nat) {h : Hm} (w : Wf h) (ht : tot h ≤ 50000) (r : List Int) {S : List D} (hS : ∀ d ∈ S, isItem d) (hl : S.length ≤ 100) {x c : D} (sx : Sm h x) (sc : Sm h c) (no : ¬ okT S x c) :
    callM (run K (n + 3)) i_taken [posD r S, x, c] h = .ex "Unfit" [] h := by
  have er := refs3 r hS x c []
  have fx := sx.few
  have fc := sc.few
  refine callM_lookE w (fun n hn => ?_) (by rw [er]; simp [D.refsL]; omega) fun g h' s => ?_
  · rw [er] at hn
    simp only [D.refsL, List.append_nil, List.mem_append] at hn
    rcases hn with hn | hn
    · exact sx.rf n hn
    · exact sc.rf n hn
  · have rf := s.rf
    have tt := s.tt
    simp only [D.mapL, pos_map g r hS] at rf ⊢
    rw [refs3 r hS (x.map g) (c.map g) []] at rf
    simp only [D.refsL, List.append_nil, List.mem_append] at rf
    exact r_takenV_no K n s.wf (by omega) r hS hl (smM sx fun n hn => rf n (.inl hn)) (smM sc fun n hn => rf n (.inr hn)) (okT_map g no)
/-! the law's own look -/
abbrev told (r : List Int) (S : List D) (i : Int) (k : Nat) : List D := [.str "told", posD (r ++ [i]) (S.set k (.int i))]
abbrev unft : List D := [.str "unfit", .bl true]
theorem nw_of {K : Nat} {h : Hm} (w : Wf h) (ht : tot h ≤ 80000) {Γ : Gm} {b : Ss} {ρ : Env} {L : List D} (hL : D.refsL L = []) {rest : Hm} {j : Nat} (hj : rest[j]? = some (.lst L)) (tr : tot rest ≤ 5000) (q : exs Γ gg (xs0 K) b ρ h = .rt (.ref (h.length + j)) (h ++ rest)) : gcR h.length (outR (exs Γ gg (xs0 K) b ρ h)) = .ok (.ref h.length) (h ++ [.lst L]) := by
  rw [q]
  exact gc_newL w hj hL (by rw [tot_app]; omega)
theorem r_heard_no (K n : Nat) {h : Hm} (w : Wf h) (ht : tot h ≤ 50000) (r : List Int) {S : List D} (hS : ∀ d ∈ S, isItem d) (hl : S.length ≤ 100) {x c : D} (sx : Sm h x) (sc : Sm h c) (no : ¬ okT S x c) (b : Bool) :
    run K (n + 4) i_L_heard [posD r S, x, c, .bl b] h = .ok (.ref h.length) (h ++ [.lst unft]) := by
  have c1 := c_takenV_no K n w ht r hS hl sx sc no
  have sb : (xs0 K).sub "Unfit" 0 = true := rfl
  have ox := fun h => own_st (h := h) sx.st
  have oc := fun h => own_st (h := h) sc.st
  have op : ∀ h, own (posD r S) h = .ok (posD r S) h := fun h => rfl
  rw [run_L_heard]
  refine nw_of w (by omega) (by simp [D.refsL, D.refs]) (rest := [.lst unft]) (j := 0) rfl (by simp [tot, O.refs, D.refsL, D.refs]) ?_
  generalize callM (run K (n + 3)) = Γ at *
  generalize posD r S = P at *
  cases b <;> simp [b_L_heard, c1, sb, ox, oc, op]
theorem told_refs (r : List Int) {S : List D} (hS : ∀ d ∈ S, isItem d) {i : Int} (hi : i = 0 ∨ i = 1) (k : Nat) : D.refsL (told r S i k) = [] := by
  rw [D.refsL, D.refsL, posD_refs _ (it_set hS k hi)]; simp [D.refsL, D.refs]
theorem r_heard_yes (K n : Nat) {h : Hm} (w : Wf h) (ht : tot h ≤ 50000) (r : List Int) {S : List D} (hS : ∀ d ∈ S, isItem d) (hl : S.length ≤ 100) (hr : r.length ≤ 100) {i : Int} (hi : i = 0 ∨ i = 1) {k : Nat} (hk : S[k]? = some .non) (b : Bool) :
    run K (n + 4) i_L_heard [posD r S, .int i, .int k, .bl b] h = .ok (.ref h.length) (h ++ [.lst (told r S i k)]) := by
  have c1 := c_taken K n r hS hl hr hi hk h
  have tr := told_refs r hS hi k
  have ow : ∀ h, own (posD (r ++ [i]) (S.set k (.int i))) h = .ok (posD (r ++ [i]) (S.set k (.int i))) h := fun h => rfl
  have op : ∀ h, own (posD r S) h = .ok (posD r S) h := fun h => rfl
  rw [run_L_heard]
  refine nw_of w (by omega) tr (rest := [.lst (told r S i k)]) (j := 0) rfl (by simp [tot, O.refs, tr]) ?_
  clear tr
  simp only [told] at *
  generalize callM (run K (n + 3)) = Γ at *
  generalize posD (r ++ [i]) (S.set k (.int i)) = P2 at *
  generalize posD r S = P at *
  cases b <;> simp [b_L_heard, c1, ow, op]
end Mi

set_option Elab.async false
set_option linter.all false
set_option maxRecDepth 100000
/-! what is due of a taking, and whether it is told -/
namespace Mi
open PySem
theorem comp_free {step : D → Hm → R (Option D)} {h : Hm} : ∀ (T : List D) (n : Nat), (∀ (j : Nat) (d : D), T[j]? = some d → step (.int ((n + j : Nat) : Int)) h = .ok (if d = .non then some (.int ((n + j : Nat) : Int)) else none) h) → compL step none (upto (n : Int) T.length) h = .ok (zl (emp n T)) h
  | [], n, _ => rfl
  | d :: T, n, hs => by
    have e0 := hs 0 d rfl
    rw [Nat.add_zero] at e0
    have ih := comp_free T (n + 1) fun j d' hj => by
      have := hs (j + 1) d' (by simpa using hj)
      rwa [show n + (j + 1) = n + 1 + j by omega] at this
    rw [List.length_cons, upto, compL, e0, bnd_ok, src_no, gd_t, show (n : Int) + 1 = ((n + 1 : Nat) : Int) by push_cast; rfl, ih, bnd_ok]
    by_cases q : d = .non
    · subst q; simp [emp, zl_cons]
    · rw [if_neg q]; simp [emp, q]
theorem r_due_gen (K : Nat) {Γ : Gm} {h : Hm} (w : Wf h) (ht : tot h ≤ 50000) (r : List Int) {S : List D} (hS : ∀ d ∈ S, isItem d) (hl : S.length ≤ 100) {x c : D} (sx : Sm h x) (sc : Sm h c)
    (c1 : ∀ H1, H1 = h ++ [O.lst (zl (emp 0 S))] → Γ i_L_is_hand [x] H1 = .ok (.bl (hnd x)) H1) (no : ¬ okT S x c) :
    exs Γ gg (xs0 K) b_L_due [some (posD r S), some x, some c, none, none, none, none] h = .rt (.ref (h.length + 1)) (h ++ [.lst (zl (emp 0 S)), .lst unft]) := by
  have c1 := c1 _ rfl
  have cm := comp_free (h := h) (step := stepC (evF Γ gg b_L_due_1) (ev Γ gg b_L_due_0) (.n 6) [some (posD r S), some x, some c, none, some (.tup (zl r)), some (.tup S), none] [6]) S 0 (fun j d hj => by
    have hd := hS d (List.mem_of_getElem? hj)
    have lt := (List.getElem?_eq_some_iff.mp hj).1
    have at' : L2.atI S ((0 + j : Nat) : Int) = some d := by rw [Nat.zero_add, atI_lt rfl lt]; exact hj
    rw [Nat.zero_add] at at' ⊢
    generalize posD r S = P at *
    rcases hd with rfl | rfl | rfl <;> simp [stepC, wipeD, b_L_due_0, b_L_due_1, nox, at'])
  have rk : rngOk (S.length : Int) = true := rngOk_of (by omega) (by omega)
  have le : (zl (emp 0 S)).length < 16777216 := by have := emp_le S 0; simp; omega
  have ib : ∀ d h, biD h .isBool [d] = some (.bl (isBl d)) := fun _ _ => rfl
  have ii : ∀ d h, biD h .isInt [d] = some (.bl (isIn d)) := fun _ _ => rfl
  have ox := fun h => own_st (h := h) sx.st
  have oc := fun h => own_st (h := h) sc.st
  have in1 : ∀ z, ¬ z ∈ emp 0 S → inD (h ++ [.lst (zl (emp 0 S))]) (.int z) (.ref h.length) = some false := fun z hz => by
    rw [in_ints_lst (l := emp 0 S) (by simp [lstOf]), decide_eq_false hz]
  have hcs : (isBl c = true) ∨ (isBl c = false ∧ isIn c = false) ∨ (hnd x = false) ∨ ∃ z, c = .int z ∧ ¬ z ∈ emp 0 S := by
    cases c with
    | bl b => exact .inl rfl
    | int z =>
      cases eh : hnd x with
      | false => exact .inr (.inr (.inl rfl))
      | true =>
        refine .inr (.inr (.inr ⟨z, rfl, fun q => ?_⟩))
        obtain ⟨j, e, hj⟩ := (mem_emp S 0 z).mp q
        exact no ⟨eh, j, by rw [e, Nat.zero_add], hj⟩
    | _ => exact .inr (.inl ⟨rfl, rfl⟩)
  have i0 : upto (0 : Int) S.length = upto ((0 : Nat) : Int) S.length := rfl
  rw [← i0] at cm
  clear i0
  simp only [posD] at *
  generalize zl (emp 0 S) = em at *
  generalize zl r = r1 at *
  cases eh : hnd x with
  | false =>
    rw [eh] at c1
    simp [b_L_due, rk, compR, cm, le, c1, ox, oc, -upto_zl]
  | true =>
    rw [eh] at c1
    rcases hcs with q | ⟨q1, q2⟩ | q | ⟨z, rfl, hz⟩
    · simp [b_L_due, rk, compR, cm, le, c1, ib, q, ox, oc, -upto_zl]
    · simp [b_L_due, rk, compR, cm, le, c1, ib, ii, q1, q2, ox, oc, -upto_zl]
    · rw [eh] at q; cases q
    · have in2 := in1 z hz
      simp [b_L_due, rk, compR, cm, le, c1, ib, ii, isBl, isIn, in2, ox, -upto_zl]
theorem emp_flat (S : List D) : (O.lst (zl (emp 0 S))).refs = [] := by simp [O.refs]
theorem wf_app {h : Hm} (w : Wf h) {new : Hm} (hn : ∀ o ∈ new, o.refs = []) : Wf (h ++ new) := fun i o e n h2 => by
  by_cases q : i < h.length
  · rw [List.getElem?_append_left q] at e
    have := w i o e n h2
    rw [List.length_append]; omega
  · rw [List.getElem?_append_right (by omega)] at e
    rw [hn o (List.mem_of_getElem? e)] at h2; cases h2
theorem tot_flat {new : Hm} (hn : ∀ o ∈ new, o.refs = []) : tot new = 0 := by
  induction new with
  | nil => rfl
  | cons o r ih =>
    have := ih fun x hx => hn x (List.mem_cons_of_mem _ hx)
    simp only [tot, List.map_cons, List.sum_cons] at this ⊢
    rw [this, hn o List.mem_cons_self]; rfl
theorem sm_app {h : Hm} {x : D} (s : Sm h x) (new : Hm) : Sm (h ++ new) x := ⟨s.st, fun n hn => by rw [List.length_append]; have := s.rf n hn; omega, s.few⟩
theorem unft_flat : ∀ o ∈ ([.lst unft] : Hm), o.refs = [] := fun o ho => by simp at ho; subst ho; simp [O.refs, D.refsL, D.refs]
theorem emps_flat (S : List D) : ∀ o ∈ ([.lst (zl (emp 0 S))] : Hm), o.refs = [] := fun o ho => by simp at ho; subst ho; exact emp_flat S
theorem r_due_no (K n : Nat) {h : Hm} (w : Wf h) (ht : tot h ≤ 50000) (r : List Int) {S : List D} (hS : ∀ d ∈ S, isItem d) (hl : S.length ≤ 100) {x c : D} (sx : Sm h x) (sc : Sm h c) (no : ¬ okT S x c) :
    run K (n + 2) i_L_due [posD r S, x, c] h = .ok (.ref h.length) (h ++ [.lst unft]) := by
  rw [run_L_due]
  refine nw_of w (by omega) (by simp [D.refsL, D.refs]) (rest := [.lst (zl (emp 0 S)), .lst unft]) (j := 1) rfl (by simp [tot, O.refs, D.refsL, D.refs]) ?_
  exact r_due_gen K w ht r hS hl sx sc (fun H1 e => by
    subst e
    exact c_LishandV K n (wf_app w (emps_flat S)) (fun n hn => (sm_app sx _).rf n hn) (by rw [tot_app, tot_flat (emps_flat S)]; have := sx.few; omega)) no
theorem r_due_yes (K n : Nat) {h : Hm} (w : Wf h) (ht : tot h ≤ 50000) (r : List Int) {S : List D} (hS : ∀ d ∈ S, isItem d) (hl : S.length ≤ 100) (hr : r.length ≤ 100) {i : Int} (hi : i = 0 ∨ i = 1) {k : Nat} (hk : S[k]? = some .non) :
    run K (n + 2) i_L_due [posD r S, .int i, .int k] h = .ok (.ref h.length) (h ++ [.lst (told r S i k)]) := by
  have tr := told_refs r hS hi k
  have c1 := c_LishandV K n (h := h ++ [.lst (zl (emp 0 S))]) (d := .int i) (wf_app w (emps_flat S)) (by simp [D.refs]) (by rw [tot_app, tot_flat (emps_flat S)]; simp [D.refs]; omega)
  have hh : hnd (.int i) = true := by rcases hi with rfl | rfl <;> rfl
  rw [hh] at c1
  rw [run_L_due]
  refine nw_of w (by omega) tr (rest := [.lst (zl (emp 0 S)), .lst (told r S i k)]) (j := 1) rfl (by simp [tot, O.refs, tr]) ?_
  generalize callM (run K (n + 1)) = Γ at *
  have cm := comp_free (h := h) (step := stepC (evF Γ gg b_L_due_1) (ev Γ gg b_L_due_0) (.n 6) [some (posD r S), some (.int i), some (.int k), none, some (.tup (zl r)), some (.tup S), none] [6]) S 0 (fun j d hj => by
    have hd := hS d (List.mem_of_getElem? hj)
    have lt := (List.getElem?_eq_some_iff.mp hj).1
    have at' : L2.atI S ((0 + j : Nat) : Int) = some d := by rw [Nat.zero_add, atI_lt rfl lt]; exact hj
    rw [Nat.zero_add] at at' ⊢
    generalize posD r S = P at *
    rcases hd with rfl | rfl | rfl <;> simp [stepC, wipeD, b_L_due_0, b_L_due_1, nox, at'])
  have rk : rngOk (S.length : Int) = true := rngOk_of (by omega) (by omega)
  have le : (zl (emp 0 S)).length < 16777216 := by have := emp_le S 0; simp; omega
  have in2 : inD (h ++ [.lst (zl (emp 0 S))]) (.int (k : Int)) (.ref h.length) = some true := by
    rw [in_ints_lst (l := emp 0 S) (by simp [lstOf]), decide_eq_true ((mem_emp S 0 k).mpr ⟨k, by simp, hk⟩)]
  have hcl : k < S.length := (List.getElem?_eq_some_iff.mp hk).1
  have s1 := fun h => sl_to (h := h) S k
  have s2 := fun h => sl_from (h := h) S k
  have a0 := fun h => ad_tup (h := h) (a := zl r) (b := [.int i]) (by simp; omega)
  have a1 := fun h => ad_tup (h := h) (a := S.take k) (b := [.int i]) (by simp; omega)
  have a2 := fun h => ad_tup (h := h) (a := S.take k ++ [.int i]) (b := S.drop (k + 1)) (by simp; omega)
  rw [setCut S k _ hcl] at a2
  rw [zl_snoc] at a0
  have i0 : upto (0 : Int) S.length = upto ((0 : Nat) : Int) S.length := rfl
  rw [← i0] at cm
  clear i0 tr
  simp only [posD, told] at *
  generalize S.set k (.int i) = S' at *
  generalize S.take k ++ [.int i] = S3 at *
  generalize S.take k = S1 at *
  generalize S.drop (k + 1) = S2 at *
  generalize zl (r ++ [i]) = r2 at *
  generalize zl r = r1 at *
  generalize zl (emp 0 S) = em at *
  simp [b_L_due, rk, compR, cm, le, c1, in2, s1, s2, a0, a1, a2, -upto_zl, -add_tup]
/-! the calls -/
theorem c3_pre {h : Hm} (r : List Int) {S : List D} (hS : ∀ d ∈ S, isItem d) {x c : D} (sx : Sm h x) (sc : Sm h c) (as : List D) (has : D.refsL as = []) (ht : tot h ≤ 50000) : (∀ n ∈ D.refsL (posD r S :: x :: c :: as), n < h.length) ∧ (D.refsL (posD r S :: x :: c :: as)).length + tot h < 90000 := by
  have er := refs3 r hS x c as
  rw [has, List.append_nil] at er
  have fx := sx.few
  have fc := sc.few
  rw [er]
  refine ⟨fun n hn => ?_, by rw [List.length_append]; omega⟩
  rcases List.mem_append.mp hn with hn | hn
  · exact sx.rf n hn
  · exact sc.rf n hn
theorem c3_see {h h' : Hm} {g : Nat → Nat} (r : List Int) {S : List D} (hS : ∀ d ∈ S, isItem d) {x c : D} (sx : Sm h x) (sc : Sm h c) (as : List D) (has : D.refsL as = []) (s : Sees h (posD r S :: x :: c :: as) g h') : D.mapL g (posD r S :: x :: c :: as) = posD r S :: x.map g :: c.map g :: as ∧ Sm h' (x.map g) ∧ Sm h' (c.map g) := by
  have rf := s.rf
  have e : D.mapL g (posD r S :: x :: c :: as) = posD r S :: x.map g :: c.map g :: as := by
    rw [D.mapL, pos_map g r hS, D.mapL, D.mapL, mapL_norefs _ _ has]
  rw [e, refs3 r hS (x.map g) (c.map g) as, has, List.append_nil] at rf
  exact ⟨e, smM sx fun n hn => rf n (List.mem_append_left _ hn), smM sc fun n hn => rf n (List.mem_append_right _ hn)⟩
theorem c_due_no (K n : Nat) {h : Hm} (w : Wf h) (ht : tot h ≤ 50000) (r : List Int) {S : List D} (hS : ∀ d ∈ S, isItem d) (hl : S.length ≤ 100) {x c : D} (sx : Sm h x) (sc : Sm h c) (no : ¬ okT S x c) :
    callM (run K (n + 2)) i_L_due [posD r S, x, c] h = .ok (.ref h.length) (h ++ [.lst unft]) := by
  obtain ⟨p1, p2⟩ := c3_pre r hS sx sc [] rfl ht
  refine callM_lookN w p1 p2 (by simp [D.refsL, D.refs]) fun g h' s => ?_
  obtain ⟨e, s1, s2⟩ := c3_see r hS sx sc [] rfl s
  have := s.tt
  rw [e]; exact r_due_no K n s.wf (by omega) r hS hl s1 s2 (okT_map g no)
theorem c_due_yes (K n : Nat) {h : Hm} (w : Wf h) (ht : tot h ≤ 50000) (r : List Int) {S : List D} (hS : ∀ d ∈ S, isItem d) (hl : S.length ≤ 100) (hr : r.length ≤ 100) {i : Int} (hi : i = 0 ∨ i = 1) {k : Nat} (hk : S[k]? = some .non) :
    callM (run K (n + 2)) i_L_due [posD r S, .int i, .int k] h = .ok (.ref h.length) (h ++ [.lst (told r S i k)]) := by
  have si : ∀ (h : Hm) (z : Int), Sm h (.int z) := fun h z => ⟨rfl, by simp [D.refs], by simp [D.refs]⟩
  obtain ⟨p1, p2⟩ := c3_pre r hS (si h i) (si h k) [] rfl ht
  refine callM_lookN w p1 p2 (told_refs r hS hi k) fun g h' s => ?_
  obtain ⟨e, s1, s2⟩ := c3_see r hS (si h i) (si h k) [] rfl s
  have := s.tt
  rw [e]; exact r_due_yes K n s.wf (by omega) r hS hl hr hi hk
theorem c_heard_no (K n : Nat) {h : Hm} (w : Wf h) (ht : tot h ≤ 50000) (r : List Int) {S : List D} (hS : ∀ d ∈ S, isItem d) (hl : S.length ≤ 100) {x c : D} (sx : Sm h x) (sc : Sm h c) (no : ¬ okT S x c) (b : Bool) :
    callM (run K (n + 4)) i_L_heard [posD r S, x, c, .bl b] h = .ok (.ref h.length) (h ++ [.lst unft]) := by
  have hb : D.refsL [D.bl b] = [] := by simp [D.refsL, D.refs]
  obtain ⟨p1, p2⟩ := c3_pre r hS sx sc [.bl b] hb ht
  refine callM_lookN w p1 p2 (by simp [D.refsL, D.refs]) fun g h' s => ?_
  obtain ⟨e, s1, s2⟩ := c3_see r hS sx sc [.bl b] hb s
  have := s.tt
  rw [e]; exact r_heard_no K n s.wf (by omega) r hS hl s1 s2 (okT_map g no) b
theorem c_heard_yes (K n : Nat) {h : Hm} (w : Wf h) (ht : tot h ≤ 50000) (r : List Int) {S : List D} (hS : ∀ d ∈ S, isItem d) (hl : S.length ≤ 100) (hr : r.length ≤ 100) {i : Int} (hi : i = 0 ∨ i = 1) {k : Nat} (hk : S[k]? = some .non) (b : Bool) :
    callM (run K (n + 4)) i_L_heard [posD r S, .int i, .int k, .bl b] h = .ok (.ref h.length) (h ++ [.lst (told r S i k)]) := by
  have hb : D.refsL [D.bl b] = [] := by simp [D.refsL, D.refs]
  have si : ∀ (h : Hm) (z : Int), Sm h (.int z) := fun h z => ⟨rfl, by simp [D.refs], by simp [D.refs]⟩
  obtain ⟨p1, p2⟩ := c3_pre r hS (si h i) (si h k) [.bl b] hb ht
  refine callM_lookN w p1 p2 (told_refs r hS hi k) fun g h' s => ?_
  obtain ⟨e, s1, s2⟩ := c3_see r hS (si h i) (si h k) [.bl b] hb s
  have := s.tt
  rw [e]; exact r_heard_yes K n s.wf (by omega) r hS hl hr hi hk b
end Mi

set_option Elab.async false
set_option linter.all false
set_option maxRecDepth 100000
/-! a taking is told as is due -/
namespace Mi
open PySem
theorem toPyL_map' : ∀ ds : List D, toPyL ds = ds.map toPy
  | [] => rfl
  | d :: ds => by simp [toPyL, toPyL_map' ds]
theorem repr_refP {h : Hm} {n : Nat} {L : List D} {ps : List PyData} (e : h[n]? = some (.lst L)) (al : allSome (pyOf 39 h) L = some ps) (q : ∀ p ∈ ps, Pq 100 4 p) (hl : ps.length ≤ 10) : biD h .repr [.ref n] = some (.str (PyData.shown (.list ps))) := by
  refine reprQ (p := .list ps) ?_ ((Pq.lst (k := 100) (l := 4) (n := 10) q hl).mono (by omega) (by omega))
  show pyOf (39 + 1) h (.ref n) = _
  rw [pyOf, e]
  simp only []
  rw [al]; rfl
theorem repr_ref {h : Hm} {n : Nat} {L : List D} (e : h[n]? = some (.lst L)) (t : ∀ d ∈ L, Rk 100 4 d) (hl : L.length ≤ 10) : biD h .repr [.ref n] = some (.str (PyData.shown (.list (toPyL L)))) :=
  repr_refP e (py_tdL h 39 L (tdL_all fun d hd => (t d hd).t) (lvlL_all 39 fun d hd => Nat.le_trans (t d hd).l (by omega))) (fun p hp => by
    rw [toPyL_map'] at hp
    obtain ⟨d, hd, rfl⟩ := List.mem_map.mp hp
    exact Pq.of (t d hd)) (by rw [toPyL_map']; simpa using hl)
theorem repr_unft {h : Hm} {n : Nat} (e : h[n]? = some (.lst unft)) : biD h .repr [.ref n] = some (.str (PyData.shown (.list [.str "unfit", .bool true]))) :=
  repr_refP e (by simp [allSome, pyOf]) (fun p hp => by
    simp only [List.mem_cons, List.not_mem_nil, or_false] at hp
    rcases hp with rfl | rfl
    · exact (Pq.of (rk_str "unfit" (by decide) (by decide) (SO.of _).ok)).mono (by omega) (by omega)
    · exact (Pq.bl true).mono (by omega) (by omega)) (by simp)
theorem pos_rk {r : List Int} {S : List D} (hS : ∀ d ∈ S, isItem d) (hr : ∀ x ∈ r, x = 0 ∨ x = 1) (lS : S.length ≤ 10) (lr : r.length ≤ 11) : Rk 100 4 (posD r S) := by
  have h1 : Rk 11 1 (.tup (zl r)) := (Rk.tup (k := 0) (l := 0) (n := 11) (fun d hd => by
    obtain ⟨i, hi, rfl⟩ := (zl_mem r d).mp hd
    exact Rk.int (bt_s (by rcases hr i hi with rfl | rfl <;> omega))) (by simpa using lr))
  have h2 : Rk 11 1 (.tup S) := (Rk.tup (k := 0) (l := 0) (n := 11) (fun d hd => it_rk (hS d hd)) (by omega))
  exact (Rk.tup (k := 11) (l := 1) (n := 2) (fun d hd => by
    simp only [List.mem_cons, List.not_mem_nil, or_false] at hd
    rcases hd with rfl | rfl
    · exact h1
    · exact h2) (by simp)).mono (by omega) (by omega)
theorem told_rk {r : List Int} {S : List D} (hS : ∀ d ∈ S, isItem d) (hr : ∀ x ∈ r, x = 0 ∨ x = 1) (lS : S.length ≤ 10) (lr : r.length ≤ 10) {i : Int} (hi : i = 0 ∨ i = 1) (k : Nat) : ∀ d ∈ told r S i k, Rk 100 4 d := fun d hd => by
  simp only [List.mem_cons, List.not_mem_nil, or_false] at hd
  rcases hd with rfl | rfl
  · exact (rk_str "told" (by decide) (by decide) (SO.of _).ok).mono (by omega) (by omega)
  · refine pos_rk (it_set hS k hi) (fun x hx => ?_) (by simpa using lS) (by simp; omega)
    rcases List.mem_append.mp hx with hx | hx
    · exact hr x hx
    · simp at hx; subst hx; exact hi
theorem app1 (h : Hm) (a : O) (n : Hm) : (h ++ [a] ++ n)[h.length]? = some a := by
  rw [List.append_assoc, app_at0]; rfl
theorem app2 (h : Hm) (a b : O) : (h ++ [a] ++ [b])[(h ++ [a]).length]? = some b := by
  rw [app_at0]; rfl
theorem right_end {K : Nat} {h : Hm} (w : Wf h) {Γ : Gm} {ρ : Env} {rest : Hm} (q : exs Γ gg (xs0 K) b_L_is_right ρ h = .rt (.bl true) (h ++ rest)) : gcR h.length (outR (exs Γ gg (xs0 K) b_L_is_right ρ h)) = .ok (.bl true) h := by
  rw [q]; exact gc_same1 w (v := .bl true) rfl
theorem r_right_no (K n : Nat) {h : Hm} (w : Wf h) (ht : tot h ≤ 50000) (r : List Int) {S : List D} (hS : ∀ d ∈ S, isItem d) (hl : S.length ≤ 100) {x c : D} (sx : Sm h x) (sc : Sm h c) (no : ¬ okT S x c) (b : Bool) :
    run K (n + 5) i_L_is_right [posD r S, x, c, .bl b] h = .ok (.bl true) h := by
  have e1 := c_due_no K (n + 2) w ht r hS hl sx sc no
  have w1 : Wf (h ++ [.lst unft]) := wf_app w unft_flat
  have e2 := c_heard_no K n w1 (by rw [tot_app, tot_flat unft_flat]; omega) r hS hl (sm_app sx _) (sm_app sc _) no b
  have r1 := repr_unft (app1 h (.lst unft) [.lst unft])
  have r2 := repr_unft (app2 h (.lst unft) (.lst unft))
  have ix0 : ixD (h ++ [.lst unft] ++ [.lst unft]) (.ref h.length) (.int 0) = some (.str "unfit") := by
    have := app1 h (.lst unft) [.lst unft]
    simp [ixD, this]
    exact (atI_lt (j := 0) rfl (by simp)).trans rfl
  have ox := fun h => own_st (h := h) sx.st
  have oc := fun h => own_st (h := h) sc.st
  have op : ∀ h, own (posD r S) h = .ok (posD r S) h := fun h => rfl
  have es : ∀ h, eqD h (.str "unfit") (.str "unfit") = some true := fun h => by
    show some (("unfit" : Str) == "unfit") = _
    simp
  rw [run_L_is_right]
  refine right_end w (rest := [.lst unft, .lst unft]) ?_
  rw [show h ++ [.lst unft, .lst unft] = h ++ [.lst unft] ++ [.lst unft] by simp]
  generalize h ++ [.lst unft] ++ [.lst unft] = H2 at *
  generalize (h ++ [O.lst unft]).length = q at *
  generalize h ++ [O.lst unft] = H1 at *
  generalize h.length = p at *
  generalize callM (run K (n + 4)) = Γ at *
  generalize posD r S = P at *
  generalize PyData.shown (.list [.str "unfit", .bool true]) = tx at *
  simp [b_L_is_right, e1, e2, r1, r2, ix0, ox, oc, op, es]
theorem r_right_yes (K n : Nat) {h : Hm} (w : Wf h) (ht : tot h ≤ 50000) {m : Nat} {r : List Int} {S : List D} (pk : PosOk m r S) (hm : m ≤ 10) {i : Int} (hi : i = 0 ∨ i = 1) {k : Nat} (hk : S[k]? = some .non) (b : Bool) :
    run K (n + 5) i_L_is_right [posD r S, .int i, .int k, .bl b] h = .ok (.bl true) h := by
  have hS := pk.it
  have lS := pk.len
  have lr := pk.rlen
  have tf : ∀ o ∈ ([.lst (told r S i k)] : Hm), o.refs = [] := fun o ho => by simp only [List.mem_singleton] at ho; subst ho; exact told_refs r hS hi k
  have e1 := c_due_yes K (n + 2) w ht r hS (by omega) (by omega) hi hk
  have w1 : Wf (h ++ [.lst (told r S i k)]) := wf_app w tf
  have e2 := c_heard_yes K n w1 (by rw [tot_app, tot_flat tf]; omega) r hS (by omega) (by omega) hi hk b
  have tk := told_rk (r := r) hS pk.row (by omega) (by omega) hi k
  have r1 := repr_ref (app1 h (.lst (told r S i k)) [.lst (told r S i k)]) tk (by simp)
  have r2 := repr_ref (app2 h (.lst (told r S i k)) (.lst (told r S i k))) tk (by simp)
  have ix0 : ixD (h ++ [.lst (told r S i k)] ++ [.lst (told r S i k)]) (.ref h.length) (.int 0) = some (.str "told") := by
    have := app1 h (.lst (told r S i k)) [.lst (told r S i k)]
    simp [ixD, this]
    exact (atI_lt (j := 0) rfl (by simp)).trans rfl
  have ix1 : ixD (h ++ [.lst (told r S i k)] ++ [.lst (told r S i k)]) (.ref h.length) (.int 1) = some (posD (r ++ [i]) (S.set k (.int i))) := by
    have := app1 h (.lst (told r S i k)) [.lst (told r S i k)]
    simp [ixD, this]
    exact (atI_lt (j := 1) rfl (by simp)).trans rfl
  have ix2 : ∀ h, ixD h (posD r S) (.int 1) = some (.tup S) := fun h => rfl
  have pe := c_perr K n (pk.take hk hi) (by omega) (h ++ [.lst (told r S i k)] ++ [.lst (told r S i k)])
  rw [← lS] at pe
  have op : ∀ h, own (posD r S) h = .ok (posD r S) h := fun h => rfl
  have op2 : ∀ h, own (posD (r ++ [i]) (S.set k (.int i))) h = .ok (posD (r ++ [i]) (S.set k (.int i))) h := fun h => rfl
  have es : ∀ h, eqD h (.str "told") (.str "unfit") = some false := fun h => by
    show some (("told" : Str) == "unfit") = _
    decide
  rw [run_L_is_right]
  refine right_end w (rest := [.lst (told r S i k), .lst (told r S i k)]) ?_
  rw [show h ++ [.lst (told r S i k), .lst (told r S i k)] = h ++ [.lst (told r S i k)] ++ [.lst (told r S i k)] by simp]
  clear tf tk w1
  generalize PyData.shown (.list (toPyL (told r S i k))) = tx at *
  generalize h ++ [.lst (told r S i k)] ++ [.lst (told r S i k)] = H2 at *
  generalize (h ++ [O.lst (told r S i k)]).length = q at *
  generalize h ++ [O.lst (told r S i k)] = H1 at *
  generalize h.length = p at *
  generalize callM (run K (n + 4)) = Γ at *
  generalize posD (r ++ [i]) (S.set k (.int i)) = P2 at *
  generalize posD r S = P at *
  have ix1' : ixR H2[p]? (.int 1) = some P2 := by simpa using ix1
  have ix0' : ixR H2[p]? (.int 0) = some (.str "told") := by simpa using ix0
  simp [b_L_is_right, e1, e2, r1, r2, ix0', ix1', ix2, op, op2, es, pe]
theorem c_right (K n : Nat) {h : Hm} (w : Wf h) (ht : tot h ≤ 50000) {m : Nat} {r : List Int} {S : List D} (pk : PosOk m r S) (hm : m ≤ 10) {x c : D} (sx : Sm h x) (sc : Sm h c) (b : Bool) :
    callM (run K (n + 5)) i_L_is_right [posD r S, x, c, .bl b] h = .ok (.bl true) h := by
  have hS := pk.it
  have lS := pk.len
  have hb : D.refsL [D.bl b] = [] := by simp [D.refsL, D.refs]
  obtain ⟨p1, p2⟩ := c3_pre r hS sx sc [.bl b] hb ht
  refine callM_look w p1 p2 rfl fun g h' w' hr ht' => ?_
  have e : D.mapL g [posD r S, x, c, .bl b] = [posD r S, x.map g, c.map g, .bl b] := by
    rw [D.mapL, pos_map g r hS, D.mapL, D.mapL, mapL_norefs _ _ hb]
  rw [e, refs3 r hS (x.map g) (c.map g) _, hb, List.append_nil] at hr
  have s1 := smM sx fun n hn => hr n (List.mem_append_left _ hn)
  have s2 := smM sc fun n hn => hr n (List.mem_append_right _ hn)
  rw [e]
  by_cases q : okT S x c
  · obtain ⟨h1, k, rfl, h3⟩ := q
    obtain ⟨i, rfl, hi⟩ : ∃ i, x = .int i ∧ (i = 0 ∨ i = 1) := by
      cases x with
      | int i => exact ⟨i, rfl, by simp [hnd] at h1; omega⟩
      | _ => simp [hnd] at h1
    simp only [D.map]
    exact r_right_yes K n w' (by omega) pk hm hi h3 b
  · exact r_right_no K n w' (by omega) r hS (by omega) s1 s2 (okT_map g q) b
end Mi

set_option Elab.async false
set_option linter.all false
set_option maxRecDepth 100000
/-! the jar: what was there stays what it was -/
namespace Mi
open PySem
theorem it_oldJ {f cs f' cs' : List Int} {s c s' c' : Int} {rest more : Hm} (H : HB 3 [] (jkH f cs s c ++ rest)) {d : D} (i : It 3 [] (jkH f cs s c ++ rest) d) : It 3 [] (jkH f' cs' s' c' ++ (rest ++ more)) d :=
  i.ext H fun k o hk _ e => by
    have hl : k < (jkH f' cs' s' c' ++ rest).length := by
      have := (List.getElem?_eq_some_iff.mp e).1
      simpa using this
    rw [← List.append_assoc, List.getElem?_append_left hl, jk_high (f' := f) (cs' := cs) (s' := s) (c' := c) hk]; exact e
theorem It.sm {B : Nat} {X : List Nat} {h : Hm} {d : D} (i : It B X h d) : Sm h d := ⟨i.st, fun n hn => (i.inn n hn).2.1, by have := i.few; omega⟩
theorem sm_flat {h : Hm} {d : D} (h1 : d.st = true) (h2 : d.refs = []) : Sm h d := ⟨h1, by simp [h2], by simp [h2]⟩
/-- a list of small items, one of them of whatever kind -/
theorem hb_lst {f cs : List Int} {s c : Int} {rest : Hm} (H : HB 3 [] (jkH f cs s c ++ rest)) {L : List D} (hL : ∀ n ∈ D.refsL L, 3 ≤ n ∧ n < (jkH f cs s c ++ rest).length) : HB 3 [] (jkH f cs s c ++ (rest ++ [.lst L])) := by
  rw [← List.append_assoc]
  refine H.app fun o ho n hn => ?_
  simp only [List.mem_singleton] at ho
  subst ho
  have := hL n hn
  exact ⟨this.1, by rw [List.length_append]; omega, by simp⟩
theorem tot_lst (rest : Hm) (L : List D) : tot (rest ++ [.lst L]) = tot rest + (D.refsL L).length := by rw [tot_app, tot_one]
end Mi

set_option Elab.async false
set_option linter.all false
set_option maxRecDepth 100000
/-! the law's own boards -/
namespace Mi
open PySem
/-- a call that reads two flat objects and makes a new one -/
theorem callM_mk2 {Γ : Gm} {f a b : Nat} {args : List D} {h new : Hm} {o p : O} {v : D} (hr : D.refsL args = [a, b]) (ea : h[a]? = some o) (eb : h[b]? = some p) (ho : o.refs = []) (hp : p.refs = []) (ne : a ≠ b) (hn : ∀ q ∈ new, q.refs = []) (g : Γ f (D.mapL (ixOf [a, b]) args) [o, p] = .ok v (o :: p :: new)) :
    callM Γ f args h = .ok (v.map (bk [a, b] h.length)) (h ++ new) := by
  unfold callM
  have hs : subH h [a, b] = [o, p] := by simp [subH, List.getD_eq_getElem?_getD, ea, eb, map_flat _ ho, map_flat _ hp]
  simp only [hr, reach_flat2 ea eb ho hp ne, closed_flat2 ea eb ho hp ne, gd_t, hs, g]
  congr 1
  have hnew : new.map (O.map (bk [a, b] h.length)) = new := by
    have : new.map (O.map (bk [a, b] h.length)) = new.map id := List.map_congr_left fun q hq => map_flat _ (hn q hq)
    rw [this]; simp
  unfold putH
  simp only [List.length_cons, List.length_nil, Nat.zero_add, List.take_succ_cons, List.take_zero, List.map_cons, List.map_nil, List.drop_succ_cons, List.drop_zero, setAll, map_flat _ ho, map_flat _ hp, hnew]
  rw [set_same ea, set_same eb]
def lstep (F : List (List Int)) (some_ : List Int) : List (List Int) := F.flatMap fun b => some_.map fun x => b ++ [x]
theorem lstep_len (F : List (List Int)) (l : List Int) : (lstep F l).length = F.length * l.length := by
  unfold lstep
  rw [List.length_flatMap]
  simp only [List.length_map]
  induction F with
  | nil => simp
  | cons a r ih => rw [List.map_cons, List.sum_cons, ih, List.length_cons, Nat.succ_mul]; omega
theorem fstep_l (F : List (List Int)) (d : D) : fstep F d = lstep F (optsD d) := rfl
theorem r_longer (K n : Nat) (F : List (List Int)) (l : List Int) (hF : F.length ≤ 2000) (hl : l.length ≤ 10) (hb : ∀ b ∈ F, b.length ≤ 100) :
    run K (n + 1) i_L_longer [.ref 0, .ref 1] [.lst (F.map tZ), .lst (zl l)] = .ok (.ref 2) [.lst (F.map tZ), .lst (zl l), .lst ((lstep F l).map tZ)] := by
  obtain ⟨ρ', h', e, F1, F2, o3, o4, eF, e2, rfl, rfl⟩ := for_rule (step := forS (exs (callM (run K n)) gg (xs0 K) b_L_longer_1) (.n 3)) (src := some (0, .lst (F.map tZ)))
    (fun ds ρ h => ∃ (F1 F2 : List (List Int)) (o3 o4 : Option D), F = F1 ++ F2 ∧ ds = F2.map tZ ∧ ρ = [some (.ref 0), some (.ref 1), some (.ref 2), o3, o4] ∧ h = [.lst (F.map tZ), .lst (zl l), .lst ((lstep F1 l).map tZ)]) (by
    rintro x ds ρ h ⟨F1, F2, o3, o4, eF, e2, rfl, rfl⟩
    cases F2 with
    | nil => cases e2
    | cons b F2 =>
      simp only [List.map_cons, List.cons.injEq] at e2
      obtain ⟨rfl, rfl⟩ := e2
      have lb : b.length ≤ 100 := hb b (by rw [eF]; simp)
      have l1 : F1.length ≤ 2000 := by rw [eF] at hF; simp at hF; omega
      have l2 : (lstep F1 l).length ≤ 20000 := by rw [lstep_len]; exact Nat.mul_le_mul l1 hl
      have e3 : lstep (F1 ++ [b]) l = lstep F1 l ++ l.map fun x => b ++ [x] := by
        unfold lstep; rw [List.flatMap_append]; congr 1; simp
      have cm := comp_map (step := stepC (evF (callM (run K n)) gg .nil) (ev (callM (run K n)) gg b_L_longer_0) (.n 4) [some (.ref 0), some (.ref 1), some (.ref 2), some (tZ b), o4] [4]) (src := some (1, .lst (zl l))) (h := [.lst (F.map tZ), .lst (zl l), .lst ((lstep F1 l).map tZ)]) D.int (fun x => some (tZ (b ++ [x]))) (by rw [srcOk_so]; simp) l (fun x hx => by
        have a0 := ad_tup (h := [.lst (F.map tZ), .lst (zl l), .lst ((lstep F1 l).map tZ)]) (a := zl b) (b := [.int x]) (by simp; omega)
        rw [zl_snoc] at a0
        have a0 : binD [.lst (F.map tZ), .lst (zl l), .lst ((lstep F1 l).map tZ)] .Add (tZ b) (.tup [.int x]) = some (tZ (b ++ [x])) := a0
        have ow : ∀ h, own (tZ (b ++ [x])) h = .ok (tZ (b ++ [x])) h := fun h => rfl
        generalize tZ (b ++ [x]) = B2 at *
        generalize (lstep F1 l).map tZ = X at *
        generalize F.map tZ = Y at *
        generalize tZ b = B1 at *
        simp [stepC, wipeD, b_L_longer_0, nox, a0, ow, -add_tup])
      have e4 : (l.filterMap fun x => some (tZ (b ++ [x]))) = (l.map fun x => b ++ [x]).map tZ := by
        rw [List.filterMap_eq_map']; simp
      rw [e4, ← zl_def] at cm
      refine ⟨[some (.ref 0), some (.ref 1), some (.ref 2), some (tZ b), o4], [.lst (F.map tZ), .lst (zl l), .lst ((lstep (F1 ++ [b]) l).map tZ)], .inl ?_, ?_, F1 ++ [b], F2, some (tZ b), o4, by simp [eF], rfl, rfl, rfl⟩
      · have lX : ((l.map fun x => b ++ [x]).map tZ).length ≤ 10 := by simpa using hl
        have lY : ((lstep F1 l).map tZ).length ≤ 20000 := by simpa using l2
        rw [e3, List.map_append]
        generalize hX : (l.map fun x => b ++ [x]).map tZ = X at *
        generalize hY : (lstep F1 l).map tZ = Y at *
        have lX' : X.length < 16777216 := by omega
        have lXY : Y.length + X.length ≤ 16777216 := by omega
        generalize F.map tZ = FF at *
        simp [forS, b_L_longer_1, compR, cm, lX', lXY]
      · rw [srcOk_so]; simp) (F.map tZ) [some (.ref 0), some (.ref 1), some (.ref 2), none, none] [.lst (F.map tZ), .lst (zl l), .lst []] ⟨[], F, none, none, rfl, rfl, rfl, rfl⟩
  have : F2 = [] := by cases F2 with
    | nil => rfl
    | cons a b => cases e2
  subst this
  rw [List.append_nil] at eF
  subst eF
  have gc : gcR 2 (.ok (.ref 2) [.lst (F.map tZ), .lst (zl l), .lst ((lstep F l).map tZ)]) = .ok (.ref 2) [.lst (F.map tZ), .lst (zl l), .lst ((lstep F l).map tZ)] := by
    have r1 := tZs_refs F
    have r2 := tZs_refs (lstep F l)
    have hr : gcH 2 [.lst (F.map tZ), .lst (zl l), .lst ((lstep F l).map tZ)] [2] = [0, 1, 2] := by
      show reach (99998 + 1 + 1) _ _ _ = _
      simp [nums, reach, O.refs, r1, r2]
    unfold gcR
    simp only [D.refs, hr]
    simp [closedB, nums, O.refs, r1, r2, subH, O.map, D.map, ixOf, mapL_norefs _ _ r1, mapL_norefs _ _ r2]
  rw [run_L_longer]
  generalize callM (run K n) = Γ at *
  generalize F.map tZ = X at *
  generalize (lstep F l).map tZ = Y at *
  simp [b_L_longer, forR, e]
  exact gc
theorem c_longer (K n : Nat) {F : List (List Int)} {l : List Int} (hF : F.length ≤ 2000) (hl : l.length ≤ 10) (hb : ∀ b ∈ F, b.length ≤ 100) {h : Hm} {a b : Nat} (ne : a ≠ b) (ha : h[a]? = some (.lst (F.map tZ))) (hb' : h[b]? = some (.lst (zl l))) :
    callM (run K (n + 1)) i_L_longer [.ref a, .ref b] h = .ok (.ref h.length) (h ++ [.lst ((lstep F l).map tZ)]) := by
  have := callM_mk2 (Γ := run K (n + 1)) (f := i_L_longer) (args := [.ref a, .ref b]) (h := h) (new := [.lst ((lstep F l).map tZ)]) (v := .ref 2) rfl ha hb' (by simp only [O.refs]; exact tZs_refs F) (by simp [O.refs]) ne (by simp only [List.mem_cons, List.not_mem_nil, or_false, forall_eq, O.refs]; exact tZs_refs _) (by
    have e0 : D.mapL (ixOf [a, b]) [.ref a, .ref b] = [.ref 0, .ref 1] := by
      simp [D.mapL, D.map, ixOf, Ne.symm ne]
    rw [e0]
    exact r_longer K n F l hF hl hb)
  rw [this]
  congr 1
theorem r_boards (K n : Nat) {S : List D} (hS : ∀ d ∈ S, isItem d) (hl : S.length ≤ 10) : run K (n + 2) i_L_boards [.tup S] [] = .ok (.ref 0) [.lst ((fils S).map tZ)] := by
  obtain ⟨ρ', h', e, A, k, o2, o3, eA, rfl, hh, hk⟩ := for_rule (step := forS (exs (callM (run K (n + 1))) gg (xs0 K) b_L_boards_0) (.n 2)) (src := none)
    (fun ds ρ h => ∃ (A : List D) (k : Nat) (o2 o3 : Option D), S = A ++ ds ∧ ρ = [some (.tup S), some (.ref k), o2, o3] ∧ k < h.length ∧ h[k]? = some (.lst ((fils A).map tZ))) (by
    rintro d ds ρ h ⟨A, k, o2, o3, eA, rfl, hh, hk⟩
    have hA : ∀ d ∈ A, isItem d := fun x hx => hS x (by rw [eA]; exact List.mem_append_left _ hx)
    have hd : isItem d := hS d (by rw [eA]; simp)
    have lA : A.length ≤ 10 := by rw [eA] at hl; simp at hl; omega
    have ho : (optsD d).length ≤ 10 := by rcases hd with rfl | rfl | rfl <;> simp
    have cl := c_longer K n (F := fils A) (l := optsD d) (by have := fils_le A hA lA; omega) ho (fun b hb => by rw [(fils_mem hA hb).1]; omega) (h := h ++ [.lst (zl (optsD d))]) (a := k) (b := h.length) (by omega) (by rw [List.getElem?_append_left hh, hk]) (by simp)
    rw [← fstep_l, ← fils_snoc] at cl
    refine ⟨[some (.tup S), some (.ref (h.length + 1)), some d, some (.ref h.length)], h ++ [.lst (zl (optsD d))] ++ [.lst ((fils (A ++ [d])).map tZ)], .inl ?_, rfl, A ++ [d], h.length + 1, some d, some (.ref h.length), by simp [eA], rfl, by simp, by simp [List.getElem?_append_right]⟩
    generalize callM (run K (n + 1)) = Γ at *
    generalize D.tup S = SD at *
    generalize (fils (A ++ [d])).map tZ = FG at *
    rcases hd with rfl | rfl | rfl
    · simp [zl] at cl
      simp [forS, b_L_boards_0, cl, zl]
    · simp [zl] at cl
      simp [forS, b_L_boards_0, cl, zl]
    · simp [zl] at cl
      simp [forS, b_L_boards_0, cl, zl]) S [some (.tup S), some (.ref 0), none, none] [.lst [.tup []]] ⟨[], 0, none, none, rfl, rfl, by simp, rfl⟩
  rw [List.append_nil] at eA
  subst eA
  have r1 := tZs_refs (fils S)
  have hr : gcH 0 h' [k] = [k] := by
    show reach (99998 + 1 + 1) _ _ _ = _
    simp [nums, reach, hk, O.refs, r1]
  have gc : gcR 0 (.ok (.ref k) h') = .ok (.ref 0) [.lst ((fils S).map tZ)] := by
    unfold gcR
    simp only [D.refs, hr]
    simp [closedB, nums, hk, O.refs, r1, subH, List.getD_eq_getElem?_getD, O.map, D.map, ixOf, mapL_norefs _ _ r1]
  rw [run_L_boards]
  generalize callM (run K (n + 1)) = Γ at *
  generalize (fils S).map tZ = FF at *
  simp [b_L_boards, forR, e]
  exact gc
theorem c_boards (K n : Nat) {S : List D} (hS : ∀ d ∈ S, isItem d) (hl : S.length ≤ 10) (h : Hm) : callM (run K (n + 2)) i_L_boards [.tup S] h = .ok (.ref h.length) (h ++ [.lst ((fils S).map tZ)]) := by
  have := callM_make (Γ := run K (n + 2)) (f := i_L_boards) (args := [.tup S]) (h := h) (by simp [D.refsL, D.refs, it_refs hS]) (r_boards K n hS hl)
  rw [this]
  simp [D.map, O.map, mapL_norefs _ _ (tZs_refs _)]
end Mi

set_option Elab.async false
set_option linter.all false
set_option maxRecDepth 100000
/-! the walk of fillings -/
namespace Mi
open PySem
theorem fil_inner (Γ : Gm) (K : Nat) (SD : D) (k : Nat) (d : D) (hd : isItem d) (F : List (List Int)) (hF : F.length ≤ 1024) (hb : ∀ b ∈ F, b.length ≤ 10) (H : Hm) (hk : H[k]? = some (.lst (F.map tZ))) (o4 o5 : Option D) :
    ∃ o4' o5' : Option D, forL (forS (exs Γ gg (xs0 K) b_fillings_1) (.n 4)) (some (k, .lst (F.map tZ))) (F.map tZ) [some SD, some (.ref k), some d, some (.ref H.length), o4, o5] (H ++ [.lst []]) =
      .nx [some SD, some (.ref k), some d, some (.ref H.length), o4', o5'] (H ++ [.lst ((fstep F d).map tZ)]) := by
  have hkl : k < H.length := (List.getElem?_eq_some_iff.mp hk).1
  obtain ⟨ρ', h', e, F1, F2, o4', o5', eF, e2, rfl, rfl⟩ := for_rule (step := forS (exs Γ gg (xs0 K) b_fillings_1) (.n 4)) (src := some (k, .lst (F.map tZ)))
    (fun ds ρ h => ∃ (F1 F2 : List (List Int)) (o4 o5 : Option D), F = F1 ++ F2 ∧ ds = F2.map tZ ∧ ρ = [some SD, some (.ref k), some d, some (.ref H.length), o4, o5] ∧ h = H ++ [.lst ((fstep F1 d).map tZ)]) (by
    rintro x ds ρ h ⟨F1, F2, o4, o5, eF, e2, rfl, rfl⟩
    cases F2 with
    | nil => cases e2
    | cons b F2 =>
      simp only [List.map_cons, List.cons.injEq] at e2
      obtain ⟨rfl, rfl⟩ := e2
      have lb : b.length ≤ 10 := hb b (by rw [eF]; simp)
      have l1 : F1.length ≤ 1024 := by rw [eF] at hF; simp at hF; omega
      have l2 := fstep_le F1 d hd
      have e3 : fstep (F1 ++ [b]) d = fstep F1 d ++ (optsD d).map fun x => b ++ [x] := by
        rw [fstep_app]; congr 1; simp [fstep]
      have ho : (optsD d).length ≤ 2 := by rcases hd with rfl | rfl | rfl <;> simp
      have cm := comp_map (step := stepC (evF Γ gg .nil) (ev Γ gg b_fillings_0) (.n 5) [some SD, some (.ref k), some d, some (.ref H.length), some (tZ b), o5] [5]) (src := none) (h := H ++ [.lst ((fstep F1 d).map tZ)]) D.int (fun x => some (tZ (b ++ [x]))) rfl (optsD d) (fun x hx => by
        have a0 := ad_tup (h := H ++ [.lst ((fstep F1 d).map tZ)]) (a := zl b) (b := [.int x]) (by simp; omega)
        rw [zl_snoc] at a0
        have a0 : binD (H ++ [.lst ((fstep F1 d).map tZ)]) .Add (tZ b) (.tup [.int x]) = some (tZ (b ++ [x])) := a0
        have ow : ∀ h, own (tZ (b ++ [x])) h = .ok (tZ (b ++ [x])) h := fun h => rfl
        generalize tZ (b ++ [x]) = B2 at *
        generalize (fstep F1 d).map tZ = X at *
        generalize tZ b = B1 at *
        simp [stepC, wipeD, b_fillings_0, nox, a0, ow, -add_tup])
      have e4 : ((optsD d).filterMap fun x => some (tZ (b ++ [x]))) = ((optsD d).map fun x => b ++ [x]).map tZ := by
        rw [List.filterMap_eq_map']; simp
      rw [e4] at cm
      refine ⟨[some SD, some (.ref k), some d, some (.ref H.length), some (tZ b), o5], H ++ [.lst ((fstep (F1 ++ [b]) d).map tZ)], .inl ?_, ?_, F1 ++ [b], F2, some (tZ b), o5, by simp [eF], rfl, rfl, rfl⟩
      · have lX : (((optsD d).map fun x => b ++ [x]).map tZ).length ≤ 2 := by simpa using ho
        have lY : ((fstep F1 d).map tZ).length ≤ 2048 := by simp; omega
        rw [e3, List.map_append]
        generalize hX : ((optsD d).map fun x => b ++ [x]).map tZ = X at *
        generalize hY : (fstep F1 d).map tZ = Y at *
        have lX' : X.length < 16777216 := by omega
        have lXY : Y.length + X.length ≤ 16777216 := by omega
        generalize F.map tZ = FF at *
        rcases hd with rfl | rfl | rfl <;> simp only [opts_non, opts_int, List.map_cons, List.map_nil] at cm <;> simp [forS, b_fillings_1, compR, cm, lX', lXY]
      · rw [srcOk_so, List.getElem?_append_left hkl, hk]; simp) (F.map tZ) [some SD, some (.ref k), some d, some (.ref H.length), o4, o5] (H ++ [.lst []]) ⟨[], F, o4, o5, rfl, rfl, rfl, rfl⟩
  have : F2 = [] := by cases F2 with
    | nil => rfl
    | cons a b => cases e2
  subst this
  rw [List.append_nil] at eF
  subst eF
  exact ⟨o4', o5', e⟩
theorem r_fillings (K n : Nat) {S : List D} (hS : ∀ d ∈ S, isItem d) (hl : S.length ≤ 10) : run K (n + 1) i_fillings [.tup S] [] = .ok (.tup ((fils S).map tZ)) [] := by
  obtain ⟨ρ', h', e, A, k, o2, o3, o4, o5, eA, rfl, hh, hk⟩ := for_rule (step := forS (exs (callM (run K n)) gg (xs0 K) b_fillings_2) (.n 2)) (src := none)
    (fun ds ρ h => ∃ (A : List D) (k : Nat) (o2 o3 o4 o5 : Option D), S = A ++ ds ∧ ρ = [some (.tup S), some (.ref k), o2, o3, o4, o5] ∧ h.length = k + 1 ∧ h[k]? = some (.lst ((fils A).map tZ))) (by
    rintro d ds ρ h ⟨A, k, o2, o3, o4, o5, eA, rfl, hh, hk⟩
    have hA : ∀ d ∈ A, isItem d := fun x hx => hS x (by rw [eA]; exact List.mem_append_left _ hx)
    have lA : A.length ≤ 10 := by rw [eA] at hl; simp at hl; omega
    obtain ⟨o4', o5', e⟩ := fil_inner (callM (run K n)) K (.tup S) k d (hS d (by rw [eA]; simp)) (fils A) (fils_le A hA lA) (fun b hb => by rw [(fils_mem hA hb).1]; exact lA) h hk o4 o5
    refine ⟨[some (.tup S), some (.ref (k + 1)), some d, some (.ref (k + 1)), o4', o5'], h ++ [.lst ((fstep (fils A) d).map tZ)], .inl ?_, rfl, A ++ [d], k + 1, some d, some (.ref (k + 1)), o4', o5', by simp [eA], rfl, by simp [hh], by rw [fils_snoc, ← hh]; simp⟩
    have kl : k < h.length := by omega
    have sq : seqOf (h ++ [.lst []]) (.ref k) = some ((fils A).map tZ) := by simp [List.getElem?_append_left kl, hk]
    have sr : srcOf (h ++ [.lst []]) (.ref k) = some (k, .lst ((fils A).map tZ)) := by simp [List.getElem?_append_left kl, hk]
    rw [hh] at e
    generalize (fils A).map tZ = FF at *
    generalize (fstep (fils A) d).map tZ = FG at *
    generalize callM (run K n) = Γ at *
    generalize D.tup S = SD at *
    simp only [forS, asgT_n, List.length_cons, List.length_nil, b_fillings_2, exs_cons, ex_asg, ev_lst, evs_nil, bnd_ok, bns_ok, own_lv, hh, ex_for, evI_of, ev_v, exs_nil]
    simp [hh, sq, sr, forR, e, -seqOf_ref, -srcOf_ref]) S [some (.tup S), some (.ref 0), none, none, none, none] [.lst [.tup []]] ⟨[], 0, none, none, none, none, rfl, rfl, rfl, rfl⟩
  rw [List.append_nil] at eA
  subst eA
  have gc := fun h => gcR_pure (v := .tup ((fils S).map tZ)) (h := h) (by simp only [D.refs]; exact tZs_refs _)
  rw [run_fillings]
  generalize (fils S).map tZ = FF at *
  simp [b_fillings, forR, e, hk]
  exact gc _
theorem c_fillings (K n : Nat) {S : List D} (hS : ∀ d ∈ S, isItem d) (hl : S.length ≤ 10) (h : Hm) : callM (run K (n + 1)) i_fillings [.tup S] h = .ok (.tup ((fils S).map tZ)) h :=
  callM_pure (by simp [D.refsL, D.refs, it_refs hS]) (by simp only [D.refs]; exact tZs_refs _) (r_fillings K n hS hl)
end Mi

set_option Elab.async false
set_option linter.all false
set_option maxRecDepth 100000
/-! long texts of short things -/
namespace Mi
open PySem
structure P8 (k l : Nat) (p : PyData) : Prop where
  s1 : p.showable = true
  s2 : p.leavesShort 8 = true
  b : p.bulk ≤ k
  d : p.depth ≤ l
theorem P8.all {k l : Nat} : ∀ {ps : List PyData}, (∀ p ∈ ps, P8 k l p) → PyData.showableAll ps = true ∧ PyData.leavesShortAll 8 ps = true ∧ PyData.bulkAll ps ≤ (k + 1) * ps.length ∧ PyData.depthAll ps ≤ l
  | [], _ => by simp [PyData.showableAll, PyData.leavesShortAll, PyData.bulkAll, PyData.depthAll]
  | p :: ps, h => by
    obtain ⟨h1, h2, h3, h5⟩ := P8.all fun x hx => h x (List.mem_cons_of_mem _ hx)
    have g := h p List.mem_cons_self
    refine ⟨by simp [PyData.showableAll, g.s1, h1], by simp [PyData.leavesShortAll, g.s2, h2], ?_, by simp only [PyData.depthAll]; have := g.d; omega⟩
    simp only [PyData.bulkAll, List.length_cons, Nat.mul_succ]
    have := g.b
    omega
theorem P8.tup {k l n : Nat} {ps : List PyData} (h : ∀ p ∈ ps, P8 k l p) (hn : ps.length ≤ n) : P8 ((k + 1) * n) (l + 1) (.tuple ps) := by
  obtain ⟨h1, h2, h3, h5⟩ := P8.all h
  exact ⟨by simp only [PyData.showable]; exact h1, by simp only [PyData.leavesShort]; exact h2, by simp only [PyData.bulk]; exact Nat.le_trans h3 (Nat.mul_le_mul_left _ hn), by simp only [PyData.depth]; omega⟩
theorem P8.lst {k l n : Nat} {ps : List PyData} (h : ∀ p ∈ ps, P8 k l p) (hn : ps.length ≤ n) : P8 ((k + 1) * n) (l + 1) (.list ps) := by
  obtain ⟨h1, h2, h3, h5⟩ := P8.all h
  exact ⟨by simp only [PyData.showable]; exact h1, by simp only [PyData.leavesShort]; exact h2, by simp only [PyData.bulk]; exact Nat.le_trans h3 (Nat.mul_le_mul_left _ hn), by simp only [PyData.depth]; omega⟩
theorem P8.hand {i : Int} (h : 0 ≤ i ∧ i ≤ 1) : P8 0 0 (.int i) := by
  have : i = 0 ∨ i = 1 := by omega
  rcases this with rfl | rfl
  · exact ⟨by simp [PyData.showable], by simp only [PyData.leavesShort]; decide, by simp [PyData.bulk], by simp [PyData.depth]⟩
  · exact ⟨by simp [PyData.showable]; decide, by simp only [PyData.leavesShort]; decide, by simp [PyData.bulk], by simp [PyData.depth]⟩
theorem repr8 {h : Hm} {d : D} {p : PyData} (e : pyOf deepN h d = some p) {k : Nat} (q : P8 k 60 p) (hk : k ≤ 1000000) : biD h .repr [d] = some (.str p.shown) := by
  have hl := PyData.shown_fits_bulk (by decide) (by decide) q.s2 (Nat.le_trans q.b (Nat.le_trans hk (by decide)))
  have hd := q.d
  show reprOf h d = _
  unfold reprOf
  rw [e]
  simp only []
  split
  · rfl
  · rw [if_pos ⟨q.s1, by omega, hl⟩]
theorem toPyL8 : ∀ ds : List D, toPyL ds = ds.map toPy
  | [] => rfl
  | d :: ds => by simp [toPyL, toPyL8 ds]
theorem repr_bits (h : Hm) {F : List (List Int)} (hb : ∀ b ∈ F, b.length ≤ 10 ∧ ∀ x ∈ b, 0 ≤ x ∧ x ≤ 1) (hF : F.length ≤ 1024) : biD h .repr [.tup (F.map tZ)] = some (.str (PyData.shown (toPy (.tup (F.map tZ))))) := by
  have t : ∀ d ∈ F.map tZ, td d = true ∧ lvl d ≤ 1 := fun d hd => by
    obtain ⟨b, _, rfl⟩ := List.mem_map.mp hd
    refine ⟨by simp [tZ, td], ?_⟩
    simp only [tZ, lvl]
    have := lvlL_all 0 (ds := zl b) (fun x hx => by
      obtain ⟨i, _, rfl⟩ := (zl_mem b x).mp hx
      simp [lvl])
    omega
  have td0 : td (.tup (F.map tZ)) = true := by simp only [td]; exact tdL_all fun d hd => (t d hd).1
  have lv0 : lvl (.tup (F.map tZ)) ≤ 40 := by
    simp only [lvl]
    have := lvlL_all 1 (ds := F.map tZ) (fun d hd => (t d hd).2)
    omega
  have e := py_td h 40 (.tup (F.map tZ)) td0 lv0
  refine repr8 (k := 11264) e ?_ (by omega)
  simp only [toPy]
  refine (fun (q : P8 11264 2 _) => ⟨q.s1, q.s2, q.b, Nat.le_trans q.d (by omega)⟩ : P8 11264 2 (.tuple (toPyL (F.map tZ))) → P8 11264 60 (.tuple (toPyL (F.map tZ)))) ?_
  refine P8.tup (k := 10) (l := 1) (n := 1024) (fun p hp => ?_) (by rw [toPyL8]; simpa using hF)
  rw [toPyL8] at hp
  obtain ⟨d, hd, rfl⟩ := List.mem_map.mp hp
  obtain ⟨b, hb', rfl⟩ := List.mem_map.mp hd
  simp only [tZ, toPy]
  refine P8.tup (k := 0) (l := 0) (n := 10) (fun p hp => ?_) (by rw [toPyL_ints]; simpa using (hb b hb').1)
  rw [toPyL_ints] at hp
  obtain ⟨i, hi, rfl⟩ := List.mem_map.mp hp
  exact P8.hand ((hb b hb').2 i hi)
end Mi

set_option Elab.async false
set_option linter.all false
set_option maxRecDepth 100000
/-! cells taken and fillings: the law -/
namespace Mi
open PySem
theorem r_putin (K n : Nat) (j : Nat) (hj : j ≤ 10) {x : Int} (hx : x = 0 ∨ x = 1) : ∃ r S, PosOk 10 r S ∧ run K (n + 1) i_L_put_in [.tup [], .tup (List.replicate 10 .non), .int j, .int x] [] = .ok (posD r S) [] := by
  have p0 := rep_ok 10
  by_cases q : 10 ≤ j
  · refine ⟨[], _, p0, ?_⟩
    have gc := fun h => gcR_pure (v := posD [] (List.replicate 10 .non)) (h := h) (posD_refs [] p0.it)
    have l : (List.replicate 10 D.non).length = 10 := by simp
    have ge : (10 : Int) ≤ (j : Int) := by omega
    rw [run_L_put_in]
    simp only [posD, zl_nil] at *
    generalize callM (run K n) = Γ at *
    generalize List.replicate 10 D.non = S at *
    simp [b_L_put_in, l, ge]
    exact gc _
  · have hc : (List.replicate 10 D.non)[j]? = some .non := by rw [List.getElem?_replicate, if_pos (by omega)]
    have pk := p0.take hc hx
    refine ⟨_, _, pk, ?_⟩
    have gc := fun h => gcR_pure (v := posD ([] ++ [x]) ((List.replicate 10 D.non).set j (.int x))) (h := h) (posD_refs _ pk.it)
    have l : (List.replicate 10 D.non).length = 10 := by simp
    have ge : ¬ (10 : Int) ≤ (j : Int) := by omega
    have s1 := fun h => sl_to (h := h) (List.replicate 10 D.non) j
    have s2 := fun h => sl_from (h := h) (List.replicate 10 D.non) j
    have a1 := fun h => ad_tup (h := h) (a := (List.replicate 10 D.non).take j) (b := [.int x]) (by simp; omega)
    have a2 := fun h => ad_tup (h := h) (a := (List.replicate 10 D.non).take j ++ [.int x]) (b := (List.replicate 10 D.non).drop (j + 1)) (by simp; omega)
    have a0 := fun h => ad_tup (h := h) (a := []) (b := [.int x]) (by simp)
    rw [setCut _ j _ (by simp; omega)] at a2
    rw [run_L_put_in]
    simp only [posD, List.nil_append, zl_cons, zl_nil] at *
    generalize callM (run K n) = Γ at *
    generalize (List.replicate 10 D.non).set j (.int x) = S' at *
    generalize (List.replicate 10 D.non).take j ++ [.int x] = S3 at *
    generalize (List.replicate 10 D.non).take j = S1 at *
    generalize (List.replicate 10 D.non).drop (j + 1) = S2 at *
    generalize List.replicate 10 D.non = S at *
    simp [b_L_put_in, l, ge, s1, s2, a0, a1, a2, -add_tup]
    exact gc _
theorem c_putin (K n : Nat) (j : Nat) (hj : j ≤ 10) {x : Int} (hx : x = 0 ∨ x = 1) : ∃ r S, PosOk 10 r S ∧ ∀ h, callM (run K (n + 1)) i_L_put_in [.tup [], .tup (List.replicate 10 .non), .int j, .int x] h = .ok (posD r S) h := by
  obtain ⟨r, S, pk, e⟩ := r_putin K n j hj hx
  exact ⟨r, S, pk, fun h => callM_pure (by simp [D.refsL, D.refs, it_refs (rep_ok 10).it]) (posD_refs r pk.it) e⟩
/-- what the law calls -/
structure Cal (Γ : Gm) : Prop where
  draw : ∀ {f cs : List Int} {s c : Int} {rest : Hm} (many : Int), 1 ≤ many → many ≤ 20 → f.length ≤ 100 → 1 ≤ cs.length → 0 ≤ c → c ≤ 700000 →
    ∃ r f' c', Γ i_L_draw2 [.ref 0, .int many] (jkO s c :: .lst (f.map .int) :: .lst (cs.map .int) :: rest) = .ok (.int r) (jkO s c' :: .lst (List.map D.int f') :: .lst (cs.map .int) :: rest) ∧ f'.length ≤ 100 ∧ 0 ≤ r ∧ r < many ∧ 0 ≤ c' ∧ c' ≤ c + 1
  pos : ∀ {f cs : List Int} {s c : Int} {rest : Hm} (m : Nat), m ≤ 100 → f.length ≤ 100 → 1 ≤ cs.length → 0 ≤ c → c ≤ 700000 →
    ∃ r S f' c', Γ i_L_position [.ref 0, .int m] (jkO s c :: .lst (f.map .int) :: .lst (cs.map .int) :: rest) = .ok (posD r S) (jkO s c' :: .lst (List.map D.int f') :: .lst (cs.map .int) :: rest) ∧ PosOk m r S ∧ f'.length ≤ 100 ∧ 0 ≤ c' ∧ c' ≤ c + 300
  odd : ∀ {f cs : List Int} {s c : Int} {rest : Hm}, HB 3 [] (jkH f cs s c ++ rest) → tot rest ≤ 80000 → f.length ≤ 100 → 1 ≤ cs.length → 0 ≤ c → c ≤ 700000 →
    ∃ (x : D) (new : Hm) (f' : List Int) (c' : Int), Γ i_L_odd [.ref 0] (jkH f cs s c ++ rest) = .ok x (jkH f' cs s c' ++ (rest ++ new)) ∧ It 3 [] (jkH f' cs s c' ++ (rest ++ new)) x ∧ HB 3 [] (jkH f' cs s c' ++ (rest ++ new)) ∧ tot new ≤ 4 ∧ f'.length ≤ 100 ∧ 0 ≤ c' ∧ c' ≤ c + 1
  pick : ∀ {f cs : List Int} {s c : Int} {rest : Hm}, HB 3 [] (jkH f cs s c ++ rest) → ∀ {p : Nat} {ds : List D}, rest[p]? = some (.lst ds) → (∀ d ∈ ds, d.st = true) → 0 < ds.length → ds.length ≤ 1000 → f.length ≤ 100 → 1 ≤ cs.length → 0 ≤ c → c ≤ 700000 → tot rest ≤ 80000 →
    ∃ (x : D) (f' : List Int) (c' : Int), Γ i_L_pick2 [.ref 0, .ref (p + 3)] (jkH f cs s c ++ rest) = .ok x (jkH f' cs s c' ++ rest) ∧ x ∈ ds ∧ f'.length ≤ 100 ∧ 0 ≤ c' ∧ c' ≤ c + 1
  right : ∀ {h : Hm}, Wf h → tot h ≤ 50000 → ∀ {m : Nat} {r : List Int} {S : List D}, PosOk m r S → m ≤ 10 → ∀ {x c : D}, Sm h x → Sm h c → ∀ b : Bool, Γ i_L_is_right [posD r S, x, c, .bl b] h = .ok (.bl true) h
  emp_ : ∀ {S : List D}, (∀ d ∈ S, isItem d) → S.length ≤ 1000 → ∀ h : Hm, Γ i_empty_cells [.tup S] h = .ok (.tup (zl (emp 0 S))) h
  fil : ∀ {S : List D}, (∀ d ∈ S, isItem d) → S.length ≤ 10 → ∀ h : Hm, Γ i_fillings [.tup S] h = .ok (.tup ((fils S).map tZ)) h
  brd : ∀ {S : List D}, (∀ d ∈ S, isItem d) → S.length ≤ 10 → ∀ h : Hm, Γ i_L_boards [.tup S] h = .ok (.ref h.length) (h ++ [.lst ((fils S).map tZ)])
  lng : ∀ {F : List (List Int)} {l : List Int}, F.length ≤ 2000 → l.length ≤ 10 → (∀ b ∈ F, b.length ≤ 100) → ∀ {h : Hm} {a b : Nat}, a ≠ b → h[a]? = some (.lst (F.map tZ)) → h[b]? = some (.lst (zl l)) →
    Γ i_L_longer [.ref a, .ref b] h = .ok (.ref h.length) (h ++ [.lst ((lstep F l).map tZ)])
  put : ∀ j : Nat, j ≤ 10 → ∀ {x : Int}, x = 0 ∨ x = 1 → ∃ r S, PosOk 10 r S ∧ ∀ h, Γ i_L_put_in [.tup [], .tup (List.replicate 10 .non), .int j, .int x] h = .ok (posD r S) h
theorem cal (K : Nat) (hK : 1001 ≤ K) : Cal (callM (run K 39)) where
  draw many m1 m2 h3 h4 h5 h6 := c_jdraw K 38 (by omega) ((show Bt 20 many by unfold Bt; omega).mono (by omega)) h3 h4 h5 (by omega)
  pos m h1 h2 h3 h4 h5 := c_position K 36 hK m h1 h2 h3 h4 (by omega)
  odd H ht h1 h2 h3 h4 := by
    obtain ⟨x, new, f', c', e, i, _, H', t, r⟩ := c_odd K 36 H (by simp) ht h1 h2 h3 (by omega)
    exact ⟨x, new, f', c', e, i, H', t, r⟩
  pick H _ _ hp hs l0 l1 h1 h2 h3 h4 ht := c_pickV K 37 H (by simp) (by simp) hp hs l0 l1 h1 h2 h3 (by omega) ht
  right w ht _ _ _ pk hm _ _ sx sc b := c_right K 34 w ht pk hm sx sc b
  emp_ hS hl h := c_empty K 38 hS hl h
  fil hS hl h := c_fillings K 38 hS hl h
  brd hS hl h := c_boards K 37 hS hl h
  lng hF hl hb _ _ _ ne ha hb' := c_longer K 38 hF hl hb ne ha hb'
  put j hj _ hx := c_putin K 38 j hj hx
theorem step6 {Γ : Gm} (G : Cal Γ) (K : Nat) {cs : List Int} {s : Int} (hc : 1 ≤ cs.length) {m : Nat} {r : List Int} {S : List D} (pk : PosOk m r S) (m2 : m ≤ 10) {f : List Int} {c : Int} {rest : Hm} (H : HB 3 [] (jkH f cs s c ++ rest)) (ht : tot rest ≤ 40000) (hf : f.length ≤ 100) (c0 : 0 ≤ c) (c1 : c ≤ 600000)
    {tx : Str} (rp : ∀ h, biD h .repr [posD r S] = some (.str tx)) (j t : Int) (a0 a6 a9 o7 o10 o11 o12 o13 : Option D) :
    ∃ (f' : List Int) (c' : Int) (rest' : Hm) (p11 p12 : Option D), forS (exs Γ gg (xs0 K) b_Llaw_3) (.n 7) (.int j) [a0, some (.ref 0), some (.int t), some (.int m), some (posD r S), some (.tup (zl (emp 0 S))), a6, o7, some (.str tx), a9, o10, o11, o12, o13] (jkH f cs s c ++ rest) =
      .nx [a0, some (.ref 0), some (.int t), some (.int m), some (posD r S), some (.tup (zl (emp 0 S))), a6, some (.int j), some (.str tx), a9, o10, p11, p12, o13] (jkH f' cs s c' ++ rest') ∧ HB 3 [] (jkH f' cs s c' ++ rest') ∧ tot rest' ≤ tot rest + 10 ∧ f'.length ≤ 100 ∧ 0 ≤ c' ∧ c' ≤ c + 4 := by
  have lS := pk.len
  obtain ⟨y1, n1, f1, d1, e1, i1, H1, t1, hf1, d10, d11⟩ := G.odd H (by omega) hf hc c0 (by omega)
  obtain ⟨Q1, hQ1⟩ : ∃ R, R = rest ++ n1 := ⟨_, rfl⟩
  have tq1 : tot Q1 ≤ tot rest + 4 := by rw [hQ1, tot_app]; omega
  rw [← hQ1] at e1 i1 H1
  obtain ⟨L1, hL1⟩ : ∃ L : List D, L = [.int 0, .int 1, y1, .bl true, .bl false] := ⟨_, rfl⟩
  have rl1 : D.refsL L1 = y1.refs := by rw [hL1]; simp [D.refsL, D.refs]
  have H1' : HB 3 [] (jkH f1 cs s d1 ++ (Q1 ++ [.lst L1])) := hb_lst H1 fun n hn => by
    rw [rl1] at hn
    exact ⟨(i1.inn n hn).1, (i1.inn n hn).2.1⟩
  have tq1' : tot (Q1 ++ [.lst L1]) ≤ tot rest + 5 := by rw [tot_lst, rl1]; have := i1.few; omega
  have i1a : ∀ {f' : List Int} {c' : Int} {more : Hm}, It 3 [] (jkH f' cs s c' ++ (Q1 ++ more)) y1 := fun {f' c' more} => it_oldJ H1 i1
  obtain ⟨x, f2, d2, e2, hx, hf2, d20, d21⟩ := G.pick H1' (p := Q1.length) (ds := L1) (by rw [app_at0]; rfl) (fun d hd => by
    rw [hL1] at hd
    simp only [List.mem_cons, List.not_mem_nil, or_false] at hd
    rcases hd with rfl | rfl | rfl | rfl | rfl
    · rfl
    · rfl
    · exact i1.st
    · rfl
    · rfl) (by rw [hL1]; simp) (by rw [hL1]; simp) hf1 hc d10 (by omega) (by omega)
  obtain ⟨y2, n2, f3, d3, e3, i2, H3, t3, hf3, d30, d31⟩ := G.odd (H1'.jar (f' := f2) (cs' := cs) (s' := s) (c' := d2)) (by omega) hf2 hc d20 (by omega)
  obtain ⟨Q2, hQ2⟩ : ∃ R, R = Q1 ++ [.lst L1] ++ n2 := ⟨_, rfl⟩
  have tq2 : tot Q2 ≤ tot rest + 9 := by rw [hQ2, tot_app]; omega
  rw [← hQ2] at e3 i2 H3
  have i1b : ∀ {f' : List Int} {c' : Int} {more : Hm}, It 3 [] (jkH f' cs s c' ++ (Q2 ++ more)) y1 := fun {f' c' more} => by
    rw [hQ2, List.append_assoc, List.append_assoc]; exact i1a
  have i2b : ∀ {f' : List Int} {c' : Int} {more : Hm}, It 3 [] (jkH f' cs s c' ++ (Q2 ++ more)) y2 := fun {f' c' more} => it_oldJ H3 i2
  obtain ⟨L2, hL2⟩ : ∃ L : List D, L = [.int m, .int (-1), y2, .bl true, .tup [.int 0], .str "0"] ++ zl (emp 0 S) := ⟨_, rfl⟩
  have rl2 : D.refsL L2 = y2.refs := by rw [hL2]; simp [D.refsL, D.refs]
  have H3' : HB 3 [] (jkH f3 cs s d3 ++ (Q2 ++ [.lst L2])) := hb_lst H3 fun n hn => by
    rw [rl2] at hn
    exact ⟨(i2.inn n hn).1, (i2.inn n hn).2.1⟩
  have tq2' : tot (Q2 ++ [.lst L2]) ≤ tot rest + 10 := by rw [tot_lst, rl2]; have := i2.few; omega
  have le := emp_le S 0
  obtain ⟨z, f4, d4, e4, hz, hf4, d40, d41⟩ := G.pick H3' (p := Q2.length) (ds := L2) (by rw [app_at0]; rfl) (fun d hd => by
    rw [hL2] at hd
    rcases List.mem_append.mp hd with hd | hd
    · simp only [List.mem_cons, List.not_mem_nil, or_false] at hd
      rcases hd with rfl | rfl | rfl | rfl | rfl | rfl
      · rfl
      · rfl
      · exact i2.st
      · rfl
      · rfl
      · rfl
    · obtain ⟨i, _, rfl⟩ := (zl_mem _ d).mp hd; rfl) (by rw [hL2]; simp) (by rw [hL2]; simp; omega) hf3 hc d30 (by omega) (by omega)
  have sx : Sm (jkH f4 cs s d4 ++ (Q2 ++ [.lst L2])) x := by
    rw [hL1] at hx
    simp only [List.mem_cons, List.not_mem_nil, or_false] at hx
    rcases hx with rfl | rfl | rfl | rfl | rfl
    · exact sm_flat rfl rfl
    · exact sm_flat rfl rfl
    · exact (i1b (f' := f4) (c' := d4) (more := [.lst L2])).sm
    · exact sm_flat rfl rfl
    · exact sm_flat rfl rfl
  have sz : Sm (jkH f4 cs s d4 ++ (Q2 ++ [.lst L2])) z := by
    rw [hL2] at hz
    rcases List.mem_append.mp hz with hz | hz
    · simp only [List.mem_cons, List.not_mem_nil, or_false] at hz
      rcases hz with rfl | rfl | rfl | rfl | rfl | rfl
      · exact sm_flat rfl rfl
      · exact sm_flat rfl rfl
      · exact (i2b (f' := f4) (c' := d4) (more := [.lst L2])).sm
      · exact sm_flat rfl rfl
      · exact sm_flat rfl (by simp [D.refs, D.refsL])
      · exact sm_flat rfl rfl
    · obtain ⟨i, _, rfl⟩ := (zl_mem _ z).mp hz
      exact sm_flat rfl rfl
  have H4 := H3'.jar (f' := f4) (cs' := cs) (s' := s) (c' := d4)
  have e5 := G.right H4.wf (by rw [tot_jar]; omega) pk m2 sx sz (decide (j = t))
  refine ⟨f4, d4, Q2 ++ [.lst L2], some x, some z, ?_, H4, tq2', hf4, d40, by omega⟩
  have oy1 := fun h => own_st (h := h) i1.st
  have oy2 := fun h => own_st (h := h) i2.st
  have ox := fun h => own_st (h := h) sx.st
  have oz := fun h => own_st (h := h) sz.st
  have op : ∀ h, own (posD r S) h = .ok (posD r S) h := fun h => rfl
  have lz : ∀ h, biD h .list [.tup (zl (emp 0 S))] = some (.lv (zl (emp 0 S))) := fun h => rfl
  have ad : ∀ h, binD h .Add (.lv [.int m, .int (-1), y2, .bl true, .tup [.int 0], .str "0"]) (.lv (zl (emp 0 S))) = some (.lv L2) := fun h => by
    rw [hL2]
    have lq : ([.int m, .int (-1), y2, .bl true, .tup [.int 0], .str "0"] ++ zl (emp 0 S) : List D).length ≤ 16777216 := by simp; omega
    simp [binD, addL, wlsOf]
    omega
  clear H H1 H1' H3 H3' H4 i1 i1a i1b i2 i2b sx sz hx hz pk
  subst hL1
  simp only [jkH, List.cons_append, List.nil_append] at e1 e2 e3 e4 e5 ⊢
  generalize posD r S = P at *
  generalize zl (emp 0 S) = em at *
  generalize hM : (m : Int) = M at *
  have ec : (decide (j = t)) = (j == t) := by by_cases q : j = t <;> simp [q]
  by_cases q : j = t
  · subst q
    simp at e5
    simp [forS, b_Llaw_3, e1, e2, e3, e4, e5, oy1, oy2, ox, oz, op, lz, ad, rp]
  · simp [q] at e5
    simp [forS, b_Llaw_3, e1, e2, e3, e4, e5, oy1, oy2, ox, oz, op, lz, ad, rp, q]
theorem loop9 {Γ : Gm} (G : Cal Γ) (K : Nat) {h : Hm} (w : Wf h) (ht : tot h ≤ 50000) {m : Nat} {r : List Int} {S : List D} (pk : PosOk m r S) (m2 : m ≤ 10) {p : Nat} {vs : List (List Int)} (hp : h[p]? = some (.lst (vs.map tZ))) (h2 : ∀ v ∈ vs, v.length = 2) (a0 a1 a2 a3 a5 a6 a7 a8 a9 o10 o11 o12 a13 : Option D) :
    ∃ p10 p11 p12, forL (forS (exs Γ gg (xs0 K) b_Llaw_2) (.t (.cons (.n 10) (.cons (.t (.cons (.n 11) (.cons (.n 12) .nil))) .nil)))) (some (p, .lst (vs.map tZ))) (pairs 0 (vs.map tZ)) [a0, a1, a2, a3, some (posD r S), a5, a6, a7, a8, a9, o10, o11, o12, a13] h =
      .nx [a0, a1, a2, a3, some (posD r S), a5, a6, a7, a8, a9, p10, p11, p12, a13] h := by
  obtain ⟨ρ', h', e, n, us, p10, p11, p12, eu, _, rfl, rfl⟩ := for_rule (step := forS (exs Γ gg (xs0 K) b_Llaw_2) (.t (.cons (.n 10) (.cons (.t (.cons (.n 11) (.cons (.n 12) .nil))) .nil)))) (src := some (p, .lst (vs.map tZ)))
    (fun ds ρ h' => ∃ (n : Nat) (us : List (List Int)) (p10 p11 p12 : Option D), ds = pairs n (us.map tZ) ∧ (∀ v ∈ us, v.length = 2) ∧ ρ = [a0, a1, a2, a3, some (posD r S), a5, a6, a7, a8, a9, p10, p11, p12, a13] ∧ h' = h) (by
    rintro d ds ρ h' ⟨n, us, p10, p11, p12, eu, hu, rfl, rfl⟩
    cases us with
    | nil => cases eu
    | cons u us =>
      rw [List.map_cons, pairs, List.cons.injEq] at eu
      obtain ⟨rfl, rfl⟩ := eu
      have lu := hu u List.mem_cons_self
      obtain ⟨x, z, rfl⟩ : ∃ x z, u = [x, z] := by
        match u, lu with
        | [x, z], _ => exact ⟨x, z, rfl⟩
      have e5 := G.right w ht pk m2 (x := .int x) (c := .int z) (sm_flat rfl rfl) (sm_flat rfl rfl) (decide ((n : Int) % 3 = 1))
      have op : ∀ h, own (posD r S) h = .ok (posD r S) h := fun h => rfl
      refine ⟨[a0, a1, a2, a3, some (posD r S), a5, a6, a7, a8, a9, some (.int n), some (.int x), some (.int z), a13], h', .inl ?_, by rw [srcOk_so, hp]; simp, n + 1, us, _, _, _, rfl, fun v hv => hu v (List.mem_cons_of_mem _ hv), rfl, rfl⟩
      generalize posD r S = P at *
      by_cases q : (n : Int) % 3 = 1
      · simp [q] at e5
        simp [forS, b_Llaw_2, e5, op, q, zl_cons]
      · simp [q] at e5
        simp [forS, b_Llaw_2, e5, op, q, zl_cons]) (pairs 0 (vs.map tZ)) [a0, a1, a2, a3, some (posD r S), a5, a6, a7, a8, a9, o10, o11, o12, a13] h ⟨0, vs, o10, o11, o12, rfl, h2, rfl, rfl⟩
  exact ⟨p10, p11, p12, e⟩
theorem many_at (x : Int) (x0 : 0 ≤ x) (x1 : x < 4) (V : Int) (hV : V = 10 ∨ V = 5) (k : Nat) (hk : k < 5) : ∃ m : Nat, m ≤ 10 ∧ L2.atI [D.int 1, .int 2, .int 4, .int (3 + x), .int V] (k : Int) = some (.int m) := by
  match k, hk with
  | 0, _ => exact ⟨1, by omega, rfl⟩
  | 1, _ => exact ⟨2, by omega, rfl⟩
  | 2, _ => exact ⟨4, by omega, rfl⟩
  | 3, _ =>
    refine ⟨(3 + x).toNat, by omega, ?_⟩
    rw [show (((3 + x).toNat : Nat) : Int) = 3 + x by omega]
    rfl
  | 4, _ =>
    refine ⟨V.toNat, by omega, ?_⟩
    rw [show ((V.toNat : Nat) : Int) = V by omega]
    rfl
theorem mul_non10 (h : Hm) : binD h .Mult (.tup [.non]) (.int 10) = some (.tup (List.replicate 10 .non)) := by
  have hk : repOk 1 10 = true := by
    unfold repOk
    simp only [Bool.and_eq_true, decide_eq_true_eq]
    exact ⟨by omega, by rw [size_le]; omega⟩
  show (if repOk 1 10 = true then some (D.tup (reps [.non] (10 : Int).toNat)) else none) = _
  rw [if_pos hk, repsOne]; rfl
theorem partA {Γ : Gm} (G : Cal Γ) (K : Nat) {cs : List Int} {s : Int} (hc : 1 ≤ cs.length) {f : List Int} {c : Int} {rest : Hm} (hf : f.length ≤ 100) (c0 : 0 ≤ c) (c1 : c ≤ 500000) (k : Nat) (hk : k < 5) (a0 o3 o4 o5 o6 o7 o8 o9 o10 o11 o12 o13 : Option D) :
    ∃ (m : Nat) (r : List Int) (S : List D) (f' : List Int) (c' : Int), exs Γ gg (xs0 K) (takeS 3 b_Llaw_4) [a0, some (.ref 0), some (.int k), o3, o4, o5, o6, o7, o8, o9, o10, o11, o12, o13] (jkH f cs s c ++ rest) =
      .nx [a0, some (.ref 0), some (.int k), some (.int m), some (posD r S), o5, o6, o7, o8, o9, o10, o11, o12, o13] (jkH f' cs s c' ++ rest) ∧ PosOk m r S ∧ m ≤ 10 ∧ f'.length ≤ 100 ∧ 0 ≤ c' ∧ c' ≤ c + 310 := by
  obtain ⟨x1, f1, d1, e1, hf1, x10, x11, d10, d11⟩ := G.draw (f := f) (cs := cs) (s := s) (c := c) (rest := rest) 4 (by omega) (by omega) hf hc c0 (by omega)
  obtain ⟨x2, f2, d2, e2, hf2, x20, x21, d20, d21⟩ := G.draw (f := f1) (cs := cs) (s := s) (c := d1) (rest := rest) 3 (by omega) (by omega) hf1 hc d10 (by omega)
  obtain ⟨V, hV, eV⟩ : ∃ V : Int, (V = 10 ∨ V = 5) ∧ V = if x2 = 0 then 10 else 5 := ⟨_, by split <;> simp, rfl⟩
  obtain ⟨m, m10, em⟩ := many_at x1 x10 x11 V hV k hk
  obtain ⟨r, S, f3, d3, e3, pk, hf3, d30, d31⟩ := G.pos (f := f2) (cs := cs) (s := s) (c := d2) (rest := rest) m (by omega) hf2 hc d20 (by omega)
  obtain ⟨x4, f4, d4, e4, hf4, x40, x41, d40, d41⟩ := G.draw (f := f3) (cs := cs) (s := s) (c := d3) (rest := rest) 2 (by omega) (by omega) hf3 hc d30 (by omega)
  obtain ⟨x5, f5, d5, e5, hf5, x50, x51, d50, d51⟩ := G.draw (f := f4) (cs := cs) (s := s) (c := d4) (rest := rest) 11 (by omega) (by omega) hf4 hc d40 (by omega)
  obtain ⟨x6, f6, d6, e6, hf6, x60, x61, d60, d61⟩ := G.draw (f := f5) (cs := cs) (s := s) (c := d5) (rest := rest) 2 (by omega) (by omega) hf5 hc d50 (by omega)
  obtain ⟨j5, rfl⟩ : ∃ j : Nat, x5 = (j : Int) := ⟨x5.toNat, by omega⟩
  obtain ⟨r7, S7, pk7, e7⟩ := G.put j5 (by omega) (x := x6) (by omega)
  have e7' := e7 (jkO s d6 :: .lst (f6.map .int) :: .lst (cs.map .int) :: rest)
  have op : ∀ h, own (posD r S) h = .ok (posD r S) h := fun h => rfl
  have op7 : ∀ h, own (posD r7 S7) h = .ok (posD r7 S7) h := fun h => rfl
  have mu := mul_non10
  have e10 : ((10 : Nat) : Int) = 10 := rfl
  simp only [jkH, List.cons_append, List.nil_append] at e1 e2 e4 e5 e6 ⊢
  by_cases qm : m = 10
  · subst qm
    by_cases q4 : x4 = 0
    · refine ⟨10, r7, S7, f6, d6, ?_, pk7, by omega, hf6, d60, by omega⟩
      generalize posD r7 S7 = P7 at *
      generalize posD r S = P at *
      generalize List.replicate 10 D.non = T10 at *
      rw [e10] at em e3 ⊢
      by_cases q2 : x2 = 0
      · rw [if_pos q2] at eV
        subst eV
        simp [takeS, b_Llaw_4, e1, e2, em, e3, op, op7, e4, e5, e6, e7', mu, q2, q4]
      · rw [if_neg q2] at eV
        subst eV
        simp [takeS, b_Llaw_4, e1, e2, em, e3, op, op7, e4, e5, e6, e7', mu, q2, q4]
    · refine ⟨10, r, S, f4, d4, ?_, pk, by omega, hf4, d40, by omega⟩
      generalize posD r S = P at *
      rw [e10] at em e3 ⊢
      by_cases q2 : x2 = 0
      · rw [if_pos q2] at eV
        subst eV
        simp [takeS, b_Llaw_4, e1, e2, em, e3, op, e4, q2, q4]
      · rw [if_neg q2] at eV
        subst eV
        simp [takeS, b_Llaw_4, e1, e2, em, e3, op, e4, q2, q4]
  · have qm' : ¬ (m : Int) = 10 := by omega
    refine ⟨m, r, S, f3, d3, ?_, pk, m10, hf3, d30, by omega⟩
    generalize posD r S = P at *
    generalize (m : Int) = M at *
    by_cases q2 : x2 = 0
    · rw [if_pos q2] at eV
      subst eV
      simp [takeS, b_Llaw_4, e1, e2, em, e3, op, qm', q2]
    · rw [if_neg q2] at eV
      subst eV
      simp [takeS, b_Llaw_4, e1, e2, em, e3, op, qm', q2]
theorem repr_pos (h : Hm) {r : List Int} {S : List D} (rk : Rk 100 4 (posD r S)) : biD h .repr [posD r S] = some (.str (PyData.shown (toPy (posD r S)))) := rk.repr (by omega) (by omega)
theorem repr_two (h : Hm) {S : List D} (lS : S.length ≤ 10) : biD h .repr [.lv [.tup (zl (emp 0 S)), .tup (zl (emp 0 S))]] = some (.str (PyData.shown (.list [.tuple ((emp 0 S).map .int), .tuple ((emp 0 S).map .int)]))) := by
  have le := emp_le S 0
  refine reprQ (p := .list [.tuple ((emp 0 S).map .int), .tuple ((emp 0 S).map .int)]) ?_ ((Pq.lst (k := 100) (l := 4) (n := 2) (fun p hp => ?_) (by simp)).mono (by omega) (by omega))
  · have e := py_td h 39 (.tup (zl (emp 0 S))) (by simp [td]) (by
      simp only [lvl]
      have := lvlL_all 0 (ds := zl (emp 0 S)) (fun x hx => by
        obtain ⟨i, _, rfl⟩ := (zl_mem _ x).mp hx
        simp [lvl])
      omega)
    have e2 : toPy (.tup (zl (emp 0 S))) = .tuple ((emp 0 S).map .int) := by simp only [toPy]; rw [toPyL_ints]
    rw [e2] at e
    show pyOf (39 + 1) h (.lv _) = _
    rw [pyOf]
    simp only [allSome, e]; rfl
  · simp only [List.mem_cons, List.not_mem_nil, or_false, or_self] at hp
    subst hp
    refine (Pq.tup (k := 0) (l := 0) (n := 10) (fun p hp => ?_) (by simp; omega)).mono (by omega) (by omega)
    obtain ⟨i, hi, rfl⟩ := List.mem_map.mp hp
    obtain ⟨j, rfl, hj⟩ := (mem_emp S 0 i).mp hi
    have := (List.getElem?_eq_some_iff.mp hj).1
    exact Pq.int (bt_s (by omega))
theorem partB {Γ : Gm} (G : Cal Γ) (K : Nat) {m : Nat} {r : List Int} {S : List D} (pk : PosOk m r S) (m2 : m ≤ 10) {h : Hm} (k : Int) (a0 o5 o6 o7 o8 o9 o10 o11 o12 o13 : Option D) :
    exs Γ gg (xs0 K) (takeS 5 (dropS 3 b_Llaw_4)) [a0, some (.ref 0), some (.int k), some (.int m), some (posD r S), o5, o6, o7, o8, o9, o10, o11, o12, o13] h =
      .nx [a0, some (.ref 0), some (.int k), some (.int m), some (posD r S), some (.tup (zl (emp 0 S))), some (.tup ((fils S).map tZ)), o7, some (.str (PyData.shown (toPy (posD r S)))), some (.tup S), o10, o11, o12, o13] (h ++ [.lst ((fils S).map tZ)]) := by
  have lS := pk.len
  have lr := pk.rlen
  have hS := pk.it
  have rk := pos_rk hS pk.row (by omega) (by omega)
  have rp := fun h => repr_pos h rk
  have r2 := fun h => repr_two h (S := S) (by omega)
  have rf := fun h => repr_bits h (F := fils S) (fun b hb => ⟨by rw [(fils_mem hS hb).1]; omega, (fils_mem hS hb).2.1⟩) (fils_le S hS (by omega))
  have e1 := G.emp_ hS (by omega)
  have e2 := G.fil hS (by omega)
  have e3 := G.brd hS (by omega) h
  have ix : ∀ h, ixD h (posD r S) (.int 1) = some (.tup S) := fun h => rfl
  have oS : ∀ h, own (.tup S) h = .ok (.tup S) h := fun h => rfl
  have cm := comp_emp (h := h) (step := stepC (evF Γ gg b_Llaw_1) (ev Γ gg b_Llaw_0) (.t (.cons (.n 12) (.cons (.n 13) .nil))) [a0, some (.ref 0), some (.int k), some (.int m), some (posD r S), o5, o6, o7, some (.str (PyData.shown (toPy (posD r S)))), some (.tup S), o10, o11, o12, o13] [12, 13]) S 0 (fun j d hd => by
    generalize (.str (PyData.shown (toPy (posD r S))) : D) = TX at *
    generalize posD r S = P at *
    rcases hS d hd with rfl | rfl | rfl <;> simp [stepC, wipeD, b_Llaw_0, b_Llaw_1, nox])
  have hle : (zl (emp 0 S)).length < 16777216 := by have := emp_le S 0; simp; omega
  have tp : biD (h ++ [.lst ((fils S).map tZ)]) .tuple [.ref h.length] = some (.tup ((fils S).map tZ)) := tuple_ref (by simp)
  clear rk
  generalize PyData.shown (toPy (D.tup ((fils S).map tZ))) = TF at *
  generalize (fils S).map tZ = FF at *
  generalize PyData.shown (toPy (posD r S)) = TX at *
  generalize posD r S = P at *
  generalize PyData.shown (.list [.tuple ((emp 0 S).map .int), .tuple ((emp 0 S).map .int)]) = T2 at *
  generalize zl (emp 0 S) = em at *
  simp only [takeS, dropS, b_Llaw_4]
  by_cases q : k = 2
  · subst q
    simp [rp, r2, rf, e1, e2, e3, ix, oS, compR, cm, hle, tp]
  · simp [rp, r2, rf, e1, e2, e3, ix, oS, compR, cm, hle, tp, q]
theorem partC {Γ : Gm} (G : Cal Γ) (K : Nat) {cs : List Int} {s : Int} (hc : 1 ≤ cs.length) {m : Nat} {r : List Int} {S : List D} (pk : PosOk m r S) (m2 : m ≤ 10) {f : List Int} {c : Int} {rest : Hm} (H : HB 3 [] (jkH f cs s c ++ rest)) (ht : tot rest ≤ 30000) (hf : f.length ≤ 100) (c0 : 0 ≤ c) (c1 : c ≤ 500000)
    {tx : Str} (rp : ∀ h, biD h .repr [posD r S] = some (.str tx)) (t : Int) (a0 a6 a9 o7 o10 o11 o12 o13 : Option D) :
    ∃ (f' : List Int) (c' : Int) (rest' : Hm) (p7 p10 p11 p12 : Option D), exs Γ gg (xs0 K) (dropS 5 (dropS 3 b_Llaw_4)) [a0, some (.ref 0), some (.int t), some (.int m), some (posD r S), some (.tup (zl (emp 0 S))), a6, o7, some (.str tx), a9, o10, o11, o12, o13] (jkH f cs s c ++ rest) =
      .nx [a0, some (.ref 0), some (.int t), some (.int m), some (posD r S), some (.tup (zl (emp 0 S))), a6, p7, some (.str tx), a9, p10, p11, p12, o13] (jkH f' cs s c' ++ rest') ∧ HB 3 [] (jkH f' cs s c' ++ rest') ∧ tot rest' ≤ tot rest + 60 ∧ f'.length ≤ 100 ∧ 0 ≤ c' ∧ c' ≤ c + 24 := by
  obtain ⟨A, hA⟩ : ∃ A : List D, A = [.tup [.int 0], .tup [.int 1]] := ⟨_, rfl⟩
  obtain ⟨B, hB⟩ : ∃ B : List D, B = zl (rgZ m) := ⟨_, rfl⟩
  obtain ⟨C, hC⟩ : ∃ C : List D, C = (lstep [[0], [1]] (rgZ m)).map tZ := ⟨_, rfl⟩
  have rA : D.refsL A = [] := by rw [hA]; simp [D.refsL, D.refs]
  have rB : D.refsL B = [] := by rw [hB]; simp
  have rC : D.refsL C = [] := by rw [hC]; exact tZs_refs _
  have H1 := hb_lst H (L := A) (by rw [rA]; simp)
  have H2 := hb_lst H1 (L := B) (by rw [rB]; simp)
  have H3 := hb_lst H2 (L := C) (by rw [rC]; simp)
  have t3 : tot (rest ++ [.lst A] ++ [.lst B] ++ [.lst C]) = tot rest := by rw [tot_lst, tot_lst, tot_lst, rA, rB, rC]; rfl
  have e3 := G.lng (F := [[0], [1]]) (l := rgZ m) (by simp) (by rw [rgZ_len]; exact m2) (fun b hb => by simp at hb; rcases hb with rfl | rfl <;> simp) (h := jkO s c :: .lst (f.map .int) :: .lst (cs.map .int) :: (rest ++ [.lst A, .lst B])) (a := rest.length + 3) (b := rest.length + 4) (by omega) (by
    have : [[(0 : Int)], [1]].map tZ = A := by rw [hA]; rfl
    rw [this]; simp) (by rw [← hB]; simp)
  rw [← hC] at e3
  have l3 : (jkO s c :: .lst (f.map .int) :: .lst (cs.map .int) :: (rest ++ [.lst A, .lst B]) : Hm).length = rest.length + 5 := by simp
  rw [l3] at e3
  have e3' : Γ i_L_longer [.ref (rest.length + 3), .ref (rest.length + 4)] (jkO s c :: .lst (f.map .int) :: .lst (cs.map .int) :: (rest ++ [.lst A, .lst B])) = .ok (.ref (rest.length + 5)) (jkO s c :: .lst (f.map .int) :: .lst (cs.map .int) :: (rest ++ [.lst A, .lst B, .lst C])) := by
    rw [e3]; simp
  clear e3
  have hap : rest ++ [.lst A] ++ [.lst B] ++ [.lst C] = rest ++ [.lst A, .lst B, .lst C] := by simp
  rw [hap] at H3 t3
  obtain ⟨R, hR⟩ : ∃ R, R = rest ++ [.lst A, .lst B, .lst C] := ⟨_, rfl⟩
  have at5 : (jkH f cs s c ++ R)[rest.length + 5]? = some (.lst C) := by rw [hR]; simp
  rw [← hR] at H3 t3 e3'
  obtain ⟨q10, q11, q12, e9⟩ := loop9 G K H3.wf (by rw [tot_jar]; omega) pk m2 (p := rest.length + 5) (vs := lstep [[0], [1]] (rgZ m)) (by rw [at5, hC]) (fun v hv => by
    unfold lstep at hv
    obtain ⟨b, hb, hv⟩ := List.mem_flatMap.mp hv
    obtain ⟨x, _, rfl⟩ := List.mem_map.mp hv
    simp at hb
    rcases hb with rfl | rfl <;> rfl) a0 (some (.ref 0)) (some (.int t)) (some (.int m)) (some (.tup (zl (emp 0 S)))) a6 o7 (some (.str tx)) a9 o10 o11 o12 o13
  rw [← hC] at e9
  obtain ⟨ρ2, h2, e10, f6, d6, R6, p7, p11, p12, rfl, rfl, H6, t6, hf6, d60, d61⟩ := range_rule (step := forS (exs Γ gg (xs0 K) b_Llaw_3) (.n 7))
    (fun j ρ h => ∃ (f' : List Int) (c' : Int) (rest' : Hm) (p7 p11 p12 : Option D), ρ = [a0, some (.ref 0), some (.int t), some (.int m), some (posD r S), some (.tup (zl (emp 0 S))), a6, p7, some (.str tx), a9, q10, p11, p12, o13] ∧ h = jkH f' cs s c' ++ rest' ∧ HB 3 [] (jkH f' cs s c' ++ rest') ∧ tot rest' ≤ tot rest + 10 * j ∧ f'.length ≤ 100 ∧ 0 ≤ c' ∧ c' ≤ c + 4 * j) 0 6 (by
    rintro j ρ h hj ⟨f', c', rest', p7, p11, p12, rfl, rfl, H', t', hf', c0', c1'⟩
    obtain ⟨f7, c7, r7, z11, z12, e7, H7, t7, hf7, c70, c71⟩ := step6 G K hc pk m2 H' (by omega) hf' c0' (by omega) rp (0 + (j : Int)) t a0 a6 a9 p7 q10 p11 p12 o13
    exact ⟨_, _, .inl e7, f7, c7, r7, _, z11, z12, rfl, rfl, H7, by omega, hf7, c70, by push_cast; omega⟩) [a0, some (.ref 0), some (.int t), some (.int m), some (posD r S), some (.tup (zl (emp 0 S))), a6, o7, some (.str tx), a9, q10, q11, q12, o13] (jkH f cs s c ++ R) ⟨f, c, R, o7, q11, q12, rfl, rfl, H3, by omega, hf, c0, by simp⟩
  refine ⟨f6, d6, R6, p7, q10, p11, p12, ?_, H6, by omega, hf6, d60, by omega⟩
  have lg := lrangeZ m (by omega)
  rw [← hB] at lg
  have r6 : rngOk (6 : Int) = true := rngOk_of (by omega) (by omega)
  have t6' : (6 : Int).toNat = 6 := rfl
  have at5' : R[rest.length + 2]? = some (.lst C) := by rw [hR]; simp
  clear H H1 H2 H3 H6 rA rB rC pk hB hC l3 t3 t6
  subst hA
  have e9' := (show forR (forS (exs Γ gg (xs0 K) b_Llaw_2) (.t (.cons (.n 10) (.cons (.t (.cons (.n 11) (.cons (.n 12) .nil))) .nil)))) (pairs 0 C, some (rest.length + 5, O.lst C)) _ _ = _ from e9)
  simp only [jkH, List.cons_append, List.nil_append] at e9' e10 at5 ⊢
  generalize posD r S = P at *
  generalize zl (emp 0 S) = em at *
  simp only [dropS, b_Llaw_4]
  simp [lg, e3', at5', e9', e10, r6, t6', -upto_zl]
theorem turn {Γ : Gm} (G : Cal Γ) (K : Nat) {cs : List Int} {s : Int} (hc : 1 ≤ cs.length) {f : List Int} {c : Int} {rest : Hm} (H : HB 3 [] (jkH f cs s c ++ rest)) (ht : tot rest ≤ 20000) (hf : f.length ≤ 100) (c0 : 0 ≤ c) (c1 : c ≤ 400000) (k : Nat) (hk : k < 5) (a0 o2 o3 o4 o5 o6 o7 o8 o9 o10 o11 o12 o13 : Option D) :
    ∃ (f' : List Int) (c' : Int) (rest' : Hm) (p2 p3 p4 p5 p6 p7 p8 p9 p10 p11 p12 p13 : Option D), forS (exs Γ gg (xs0 K) b_Llaw_4) (.n 2) (.int (0 + k)) [a0, some (.ref 0), o2, o3, o4, o5, o6, o7, o8, o9, o10, o11, o12, o13] (jkH f cs s c ++ rest) =
      .nx [a0, some (.ref 0), p2, p3, p4, p5, p6, p7, p8, p9, p10, p11, p12, p13] (jkH f' cs s c' ++ rest') ∧ HB 3 [] (jkH f' cs s c' ++ rest') ∧ tot rest' ≤ tot rest + 60 ∧ f'.length ≤ 100 ∧ 0 ≤ c' ∧ c' ≤ c + 400 := by
  obtain ⟨m, r, S, f1, d1, eA, pk, m2, hf1, d10, d11⟩ := partA G K hc (f := f) (c := c) (rest := rest) (s := s) hf c0 (by omega) k hk a0 o3 o4 o5 o6 o7 o8 o9 o10 o11 o12 o13
  have eB := partB G K pk m2 (h := jkH f1 cs s d1 ++ rest) k a0 o5 o6 o7 o8 o9 o10 o11 o12 o13
  have lS := pk.len
  have lr := pk.rlen
  have rk := pos_rk pk.it pk.row (by omega) (by omega)
  have rp := fun h => repr_pos h rk
  have HB1 := hb_lst (H.jar (f' := f1) (cs' := cs) (s' := s) (c' := d1)) (L := (fils S).map tZ) (by rw [tZs_refs]; simp)
  have tt : tot (rest ++ [.lst ((fils S).map tZ)]) = tot rest := by rw [tot_lst, tZs_refs]; rfl
  rw [List.append_assoc] at eB
  obtain ⟨f2, d2, R2, p7, p10, p11, p12, eC, H2, t2, hf2, d20, d21⟩ := partC G K hc pk m2 HB1 (by omega) hf1 d10 (by omega) rp k a0 (some (.tup ((fils S).map tZ))) (some (.tup S)) o7 o10 o11 o12 o13
  refine ⟨f2, d2, R2, some (.int k), some (.int m), some (posD r S), some (.tup (zl (emp 0 S))), some (.tup ((fils S).map tZ)), p7, some (.str (PyData.shown (toPy (posD r S)))), some (.tup S), p10, p11, p12, o13, ?_, H2, by omega, hf2, d20, by omega⟩
  · have e0 : ∀ h, forS (exs Γ gg (xs0 K) b_Llaw_4) (.n 2) (.int (0 + k)) [a0, some (.ref 0), o2, o3, o4, o5, o6, o7, o8, o9, o10, o11, o12, o13] h = exs Γ gg (xs0 K) b_Llaw_4 [a0, some (.ref 0), some (.int k), o3, o4, o5, o6, o7, o8, o9, o10, o11, o12, o13] h := fun h => by
      rw [Int.zero_add]; rfl
    rw [e0, exs_split _ _ _ 3, eA, sq_nx, exs_split _ _ _ 5, eB, sq_nx]
    exact eC
theorem w_law (K : Nat) (hK : 1001 ≤ K) (ns : List Int) : ∃ h, run K 40 i_Llaw [.fl (ns.map D.int)] [] = .ok (.bl true) h := by
  obtain ⟨f, cs, s, e1, hf, hc⟩ := r_jar K 38 ns
  have c1 := callM_new (Γ := run K 39) (f := i_L_jar) (args := [.fl (ns.map .int)]) (by simp [D.refsL, D.refs, ints_refs]) e1
  have G := cal K hK
  have ou : ∀ h, own (.fl (ns.map .int)) h = .ok (.fl (ns.map .int)) h := fun h => rfl
  generalize hFl : D.fl (ns.map D.int) = Fl at *
  have HJ : HB 3 [] (jkH f cs s 0 ++ []) := ⟨by simp, fun i o hi e n hn => jk_refs f cs s 0 i o (jk_low hi e) n hn, fun i o hi _ e n hn => by
    have := (List.getElem?_eq_some_iff.mp e).1
    simp at this; omega, fun i o e n hn => by
    have := jk_refs f cs s 0 i o (by simpa using e) n hn
    simpa using this⟩
  obtain ⟨ρ', h', e, f', c', rest', p2, p3, p4, p5, p6, p7, p8, p9, p10, p11, p12, p13, rfl, rfl, _⟩ := range_rule (step := forS (exs (callM (run K 39)) gg (xs0 K) b_Llaw_4) (.n 2))
    (fun k ρ h => ∃ (f' : List Int) (c' : Int) (rest' : Hm) (p2 p3 p4 p5 p6 p7 p8 p9 p10 p11 p12 p13 : Option D), ρ = [some Fl, some (.ref 0), p2, p3, p4, p5, p6, p7, p8, p9, p10, p11, p12, p13] ∧ h = jkH f' cs s c' ++ rest' ∧ HB 3 [] (jkH f' cs s c' ++ rest') ∧ tot rest' ≤ 60 * k ∧ f'.length ≤ 100 ∧ 0 ≤ c' ∧ c' ≤ 400 * k) 0 5 (by
    rintro k ρ h hk ⟨f', c', rest', p2, p3, p4, p5, p6, p7, p8, p9, p10, p11, p12, p13, rfl, rfl, H', t', hf', c0, c1⟩
    obtain ⟨f2, c2, r2, q2, q3, q4, q5, q6, q7, q8, q9, q10, q11, q12, q13, e2, H2, t2, hf2, c20, c21⟩ := turn G K hc H' (by omega) hf' c0 (by omega) k hk (some Fl) p2 p3 p4 p5 p6 p7 p8 p9 p10 p11 p12 p13
    exact ⟨_, _, .inl e2, f2, c2, r2, q2, q3, q4, q5, q6, q7, q8, q9, q10, q11, q12, q13, rfl, rfl, H2, by omega, hf2, c20, by push_cast; omega⟩) [some Fl, some (.ref 0), none, none, none, none, none, none, none, none, none, none, none, none] (jkH f cs s 0 ++ []) ⟨f, 0, [], none, none, none, none, none, none, none, none, none, none, none, none, rfl, rfl, HJ, by simp [tot], hf, by omega, by simp⟩
  suffices q : ∃ h3, exs (callM (run K 39)) gg (xs0 K) b_Llaw [some Fl, none, none, none, none, none, none, none, none, none, none, none, none, none] [] = .rt (.bl true) h3 by
    obtain ⟨h3, q⟩ := q
    exact ⟨[], (run_Llaw K 39 _).trans ((congrArg (fun r => gcR 0 (outR r)) q).trans (gcR_bl true h3))⟩
  have r6 : rngOk (5 : Int) = true := rngOk_of (by omega) (by omega)
  have t6 : (5 : Int).toNat = 5 := rfl
  generalize callM (run K 39) = Γ at *
  rw [List.append_nil] at e
  exact ⟨_, by simp [b_Llaw, ou, c1, r6, t6, e, -upto_zl]; rfl⟩
theorem law_true (K : Nat) (hK : Big K) (ns : List Int) (hl : ns.length ≤ 63) : ∃ h, callF gg (xs0 K) tab 40 i_Llaw [.fl (ns.map D.int)] [] = .ok (.bl true) h := by
  suffices ∃ h, run K 40 i_Llaw [.fl (ns.map D.int)] [] = .ok (.bl true) h from this
  exact w_law K (Nat.le_trans (by decide +kernel) hK) ns
end Mi

set_option Elab.async false
set_option linter.all false
set_option maxRecDepth 100000
open PySem PySem.W PyProof.Rows
set_option maxHeartbeats 0 in
theorem PySem.Challenge.cw_drawnturns_k02_whole_cells_taken_and_fil_holds : PySem.Challenge.rw_drawnturns_k02_whole_cells_taken_and_fil.Holds := by
  w_on; o_law; k_head; (case hw => w_witness2)
  k_fill
  obtain ⟨Kw, hKw⟩ := Mi.big_ex
  refine Mi.walk_ofE Mi.exsL (l := PySem.Challenge.rw_drawnturns_k02_whole_cells_taken_and_fil) (n := 63) (k := 40) (x := "law") (y := "script") (i := 20) (T := Mi.tb) (G := Mi.gg) (tab := Mi.tab) (Xs0 := Mi.xs0 Kw) rfl (by decide) rfl ⟨rfl, by decide, by decide⟩ (fun w h Y => PySem.W.kIn_of Y) rfl rfl ?F (Mi.law_true Kw hKw)
  case F =>
    intro w mg h KX G
    refine' Mi.prog_mk Kw KX G ?a0 ?l0 ?c0 ?k0 ?a1 ?l1 ?c1 ?k1 ?a2 ?l2 ?c2 ?k2 ?a3 ?l3 ?c3 ?k3 ?a4 ?l4 ?c4 ?k4 ?a5 ?l5 ?c5 ?k5 ?a6 ?l6 ?c6 ?k6 ?a7 ?l7 ?c7 ?k7 ?a8 ?l8 ?c8 ?k8 ?a9 ?l9 ?c9 ?k9 ?a10 ?l10 ?c10 ?k10 ?a11 ?l11 ?c11 ?k11 ?a12 ?l12 ?c12 ?k12 ?a13 ?l13 ?c13 ?k13 ?a14 ?l14 ?c14 ?k14 ?a15 ?l15 ?c15 ?k15 ?a16 ?l16 ?c16 ?k16 ?a17 ?l17 ?c17 ?k17 ?a18 ?l18 ?c18 ?k18 ?a19 ?l19 ?c19 ?k19 ?a20 ?l20 ?c20 ?k20 ?z0 ?z1 ?z2 ?z3 ?z4 ?z5 ?z6 ?z7 ?z8 ?z9   ?xa0 ?xo0 ?xr0 ?xb0 ?xe0 ?xt0 ?xk0 ?xi0 ?xu0 ?xl0 ?xd0 ?xj0 ?xv0 ?xf0 ?xw0 ?xm0 ?xp0 ?xy0 ?xz0 ?xg0 ?xx0_0 ?ya0 ?yg0 ?yh0 ?yd0 ?yc0 ?yn0 ?yt0 ?ym0 ?yk0_0
    (case a0 => k_is); (case l0 => k_is); (case c0 => k_is); (case k0 => k_is); (case a1 => k_is); (case l1 => k_is); (case c1 => k_is); (case k1 => k_is); (case a2 => k_is); (case l2 => k_is); (case c2 => k_is); (case k2 => k_is); (case a3 => k_is); (case l3 => k_is); (case c3 => k_is); (case k3 => k_is); (case a4 => k_is); (case l4 => k_is); (case c4 => k_is); (case k4 => k_is); (case a5 => k_is); (case l5 => k_is); (case c5 => k_is); (case k5 => k_is); (case a6 => k_is); (case l6 => k_is); (case c6 => k_is); (case k6 => k_is); (case a7 => k_is); (case l7 => k_is); (case c7 => k_is); (case k7 => k_is); (case a8 => k_is); (case l8 => k_is); (case c8 => k_is); (case k8 => k_is); (case a9 => k_is); (case l9 => k_is); (case c9 => k_is); (case k9 => k_is); (case a10 => k_is); (case l10 => k_is); (case c10 => k_is); (case k10 => k_is); (case a11 => k_is); (case l11 => k_is); (case c11 => k_is); (case k11 => k_is); (case a12 => k_is); (case l12 => k_is); (case c12 => k_is); (case k12 => k_is); (case a13 => k_is); (case l13 => k_is); (case c13 => k_is); (case k13 => k_is); (case a14 => k_is); (case l14 => k_is); (case c14 => k_is); (case k14 => k_is); (case a15 => k_is); (case l15 => k_is); (case c15 => k_is); (case k15 => k_is); (case a16 => k_is); (case l16 => k_is); (case c16 => k_is); (case k16 => k_is); (case a17 => k_is); (case l17 => k_is); (case c17 => k_is); (case k17 => k_is); (case a18 => k_is); (case l18 => k_is); (case c18 => k_is); (case k18 => k_is); (case a19 => k_is); (case l19 => k_is); (case c19 => k_is); (case k19 => k_is); (case a20 => k_is); (case l20 => k_is); (case c20 => k_is); (case k20 => k_is)
    (case z0 => k_is); (case z1 => k_is); (case z2 => k_is); (case z3 => k_is); (case z4 => k_is); (case z5 => k_is); (case z6 => k_is); (case z7 => k_is); (case z8 => k_is); (case z9 => k_is)
    (case xa0 => k_is); (case xo0 => k_is); (case xr0 => decide +kernel); (case xb0 => k_is); (case xe0 => k_is); (case xt0 => k_is); (case xk0 => k_is); (case xi0 => k_is); (case xu0 => k_is); (case xl0 => k_is); (case xd0 => k_is); (case xj0 => k_is); (case xv0 => rfl); (case xf0 => decide +kernel); (case xw0 => k_is); (case xm0 => k_is); (case xp0 => kernel_rfl); (case xy0 => k_is); (case xz0 => k_is); (case xg0 => k_is); (case xx0_0 => kernel_rfl); (case ya0 => k_is); (case yg0 => (first | k_is | kernel_rfl)); (case yh0 => (first | k_is | kernel_rfl)); (case yd0 => (first | k_is | kernel_rfl)); (case yc0 => (first | k_is | kernel_rfl)); (case yn0 => (first | k_is | kernel_rfl)); (case yt0 => (first | k_is | kernel_rfl)); (case ym0 => (first | k_is | kernel_rfl)); (case yk0_0 => (first | k_is | kernel_rfl))
