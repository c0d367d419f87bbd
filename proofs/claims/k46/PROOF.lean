import PyProof.Rows.All
import Wide.All
import OpenK.AllK
import Wide.FinOn
import HandS.ForMost
import HandS.ForExc
import HandS.Walk
import HandS.Zip
import HandS.Wide
import HandS.AnyAll
import HandS.DictComp
import HandS.TupMul
import PyProof.NeKinds
import HandS.Deep
import HandS.More
import HandS.TupAny
import HandS.IsInst
import HandS.Style
import HandS.SortInts
import KE.GoesMore
import KE.GoesEnum
import KE.GoesZip
import HandS.RevRange
import HandS.ExcInit
import HandS.ExcField
import HandS.ExcIs
import KE.KExcSuper
import KE.KExcIs
import HandS.WordsDict
import HandS.Conv
import HandS.Nested
import PyProof.ListNew
import KE.KDictZip
import HandS.Iter
import HandS.Strs
import HandS.SetFor
import HandS.TupSets
import HandS.Small
import HandS.TryOnly
import HandS.Ends
import PyProof.ReprLen
import PyProof.Rows.StrJoinMade
import PySem.Challenge.RW_tornreads_k46_whole_fewest_lots
set_option Elab.async false
set_option linter.all false
set_option maxRecDepth 100000
/-! Pb: a small interpreter for the part of Python that the laws use, and its soundness. Part 1: the interpreter. -/
namespace PB
open PySem L2
open scoped Classical
noncomputable section
abbrev P := PyData
/-- a value: immutable data, or a place of the store -/
inductive D where
  | p (d : P)
  | ref (l : Nat)
/-- what stands at a place of the store -/
inductive O where
  | lst (xs : List D)
  | dct (w : Bool) (kvs : List (Key × D))
  | tup (ds : List D)
abbrev Sto := List O
abbrev Env := List (Option D)
/-- how a step ends -/
inductive R (α : Type) where
  | ok (a : α) (st : Sto)
  | err (c : Str) (v : Option P) (st : Sto)
  | bad
def R.bind {α β : Type} (r : R α) (f : α → Sto → R β) : R β := match r with
  | .ok a st => f a st
  | .err c v st => .err c v st
  | .bad => .bad
def M (α : Type) := Sto → R α
instance : Monad M where
  pure a := fun st => .ok a st
  bind m f := fun st => (m st).bind f
section
variable {α β : Type}
@[simp] theorem bind_ok (a : α) (st : Sto) (f : α → Sto → R β) : R.bind (.ok a st) f = f a st := Eq.trans rfl rfl
@[simp] theorem bind_err (c : Str) (v : Option P) (st : Sto) (f : α → Sto → R β) : R.bind (.err c v st) f = .err c v st := rfl
@[simp] theorem bind_bad (f : α → Sto → R β) : R.bind .bad f = .bad := rfl
@[simp] theorem m_bind (m : M α) (f : α → M β) (st : Sto) : (m >>= f) st = R.bind (m st) f := rfl
@[simp] theorem m_pure (a : α) (st : Sto) : (pure a : M α) st = .ok a st := rfl
@[simp] theorem m_map (f : α → β) (m : M α) (st : Sto) : (f <$> m) st = R.bind (m st) (fun a st => .ok (f a) st) := rfl
end
def stop {α : Type} : M α := fun _ => .bad
@[simp] theorem stop_st {α : Type} (st : Sto) : (stop : M α) st = .bad := rfl
def need {α : Type} (o : Option α) : M α := fun st => match o with
  | some a => .ok a st
  | none => .bad
@[simp] theorem need_some {α : Type} (a : α) (st : Sto) : need (some a) st = .ok a st := Eq.trans rfl rfl
@[simp] theorem need_none {α : Type} (st : Sto) : need (none : Option α) st = .bad := rfl
/-- an error here has no rule -/
def R.ne {α : Type} (r : R α) : R α := match r with
  | .ok a st => .ok a st
  | _ => .bad
@[simp] theorem ne_ok {α : Type} (a : α) (st : Sto) : (R.ok a st).ne = .ok a st := Eq.trans rfl rfl
@[simp] theorem ne_bad {α : Type} : (R.bad : R α).ne = .bad := rfl
def noErr {α : Type} (m : M α) : M α := fun st => (m st).ne
def allP : List D → Option (List P)
  | [] => some []
  | .p d :: r => (allP r).map (d :: ·)
  | .ref _ :: _ => none
@[simp] theorem allP_nil : allP [] = some [] := rfl
@[simp] theorem allP_p (d : P) (r : List D) : allP (.p d :: r) = (allP r).map (d :: ·) := rfl
@[simp] theorem allP_ref (l : Nat) (r : List D) : allP (.ref l :: r) = none := rfl
@[simp] theorem allP_map (ds : List P) : allP (ds.map D.p) = some ds := by
  induction ds with
  | nil => rfl
  | cons d r ih => simp [ih]
theorem allP_some : ∀ {xs : List D} {ds : List P}, allP xs = some ds → xs = ds.map D.p
  | [], _, h => by cases h; rfl
  | .p d :: r, ds, h => by
    rw [allP_p] at h
    cases e : allP r with
    | none => rw [e] at h; cases h
    | some es => rw [e] at h; cases h; rw [allP_some e]; rfl
  | .ref _ :: _, _, h => by cases h
def keyP : Key → P
  | .inl i => .int i
  | .inr x => .str x
/-- a value as data, as it stands now -/
def view (st : Sto) : D → Option P
  | .p d => some d
  | .ref l => match st[l]? with
    | some (.lst xs) => (allP xs).map .list
    | some (.dct _ kvs) => (allP (kvs.map Prod.snd)).map fun ds => .dict ((kvs.map fun kv => keyP kv.1).zip ds)
    | some (.tup _) => none
    | none => none
def vw (d : D) : M P := fun st => match view st d with
  | some q => .ok q st
  | none => .bad
@[simp] theorem vw_p (d : P) (st : Sto) : vw (.p d) st = .ok d st := rfl
def vws : List D → M (List P)
  | [] => pure []
  | d :: r => do let q ← vw d; let qs ← vws r; pure (q :: qs)
@[simp] theorem vws_nil : vws [] = pure [] := rfl
@[simp] theorem vws_cons (d : D) (r : List D) (st : Sto) : vws (d :: r) st = (vw d st).bind fun q st => (vws r st).bind fun qs st => .ok (q :: qs) st := rfl
/-! ### operators on data -/
def binP : Operator → P → P → Option P
  | .Add, .int i, .int j => some (.int (i + j))
  | .Add, .str x, .str y => if x.length + y.length ≤ sizeLine then some (.str (x ++ y)) else none
  | .Add, .tuple xs, .tuple ys => if xs.length + ys.length ≤ sizeLine then some (.tuple (xs ++ ys)) else none
  | .Add, .list xs, .list ys => if xs.length + ys.length ≤ sizeLine then some (.list (xs ++ ys)) else none
  | .Sub, .int i, .int j => some (.int (i - j))
  | .Mult, .int i, .int j => if CMul i j ∨ CMulW i j then some (.int (i * j)) else none
  | .Mult, .tuple xs, .int k => if xs ≠ [] ∧ 2 ≤ k ∧ k ≤ 1000 ∧ xs.length ≤ 1000 then some (.tuple (List.replicate k.toNat xs).flatten) else if -(2 ^ 63) ≤ k ∧ k < 2 ^ 63 ∧ (xs = [] ∨ k = 1) then some (.tuple xs) else if -(2 ^ 63) ≤ k ∧ k ≤ 0 ∧ xs ≠ [] then some (.tuple []) else none
  | .Mult, .list xs, .int k => if 0 ≤ k ∧ k < 2 ^ 63 ∧ xs.length * k.toNat ≤ sizeLine then some (.list (List.replicate k.toNat xs).flatten) else none
  | .FloorDiv, .int i, .int j => if CDiv i j ∨ CDivW i j then some (.int (i / j)) else none
  | .Mod, .int i, .int j => if 0 < j then some (.int (i % j)) else none
  | .Pow, .int i, .int j => if CPow i j then some (.int (i ^ j.toNat)) else none
  | .Add, .bool b, .int j => some (.int ((if b then 1 else 0) + j))
  | .Sub, .bool b, .int j => some (.int ((if b then 1 else 0) - j))
  | _, _, _ => none
def shaped (d : P) : Bool := SeqAt.shaped d
def isN : P → Bool
  | .none => true
  | _ => false
def keyOf : P → Option Key
  | .int i => some (.inl i)
  | .str x => some (.inr x)
  | _ => none
/-- what a dict that is data has at a key -/
def dlookP (k : Key) : List (P × P) → Option P
  | [] => none
  | (q, d) :: r => if keyOf q = some k then some d else dlookP k r
def cmpP : CmpOp → P → P → Option Bool
  | .Eq, .str x, .str y => some (decide (x = y))
  | .NotEq, .str x, .str y => some (!decide (x = y))
  | .Eq, .tuple xs, .tuple [] => some xs.isEmpty
  | .NotEq, .tuple xs, .tuple [] => some (!xs.isEmpty)
  | .Eq, .list xs, .list [] => some xs.isEmpty
  | .NotEq, .list xs, .list [] => some (!xs.isEmpty)
  | .Eq, a, b => if shaped a = true ∧ shaped b = true then some (PyData.eqv a b) else none
  | .NotEq, a, b => if shaped a = true ∧ shaped b = true then some (!PyData.eqv a b) else none
  | .Lt, .int i, .int j => some (decide (i < j))
  | .LtE, .int i, .int j => some (decide (i ≤ j))
  | .Gt, .int i, .int j => some (decide (j < i))
  | .GtE, .int i, .int j => some (decide (j ≤ i))
  | .Is, a, .none => some (isN a)
  | .IsNot, a, .none => some (!isN a)
  | .In, a, .list ds => if shaped a = true ∧ shaped (.list ds) = true then some (ds.any fun z => PyData.eqv z a) else none
  | .NotIn, a, .list ds => if shaped a = true ∧ shaped (.list ds) = true then some (!ds.any fun z => PyData.eqv z a) else none
  | .In, a, .tuple ds => if shaped a = true ∧ shaped (.tuple ds) = true then some (ds.any fun z => PyData.eqv z a) else none
  | .NotIn, a, .tuple ds => if shaped a = true ∧ shaped (.tuple ds) = true then some (!ds.any fun z => PyData.eqv z a) else none
  | .In, a, .dict kvs => (keyOf a).map fun k => (dlookP k kvs).isSome
  | .NotIn, a, .dict kvs => (keyOf a).map fun k => !(dlookP k kvs).isSome
  | _, _, _ => none
def asB : P → Option Bool
  | .bool b => some b
  | _ => none
def idxP : P → P → Option P
  | .list xs, .int i => atI xs i
  | .tuple xs, .int i => atI xs i
  | .str z, .int i => if z.length ≤ sizeLine then (atI z.cps.toList i).map fun c => .str ⟨#[c]⟩ else none
  | .dict kvs, i => (keyOf i).bind fun k => dlookP k kvs
  | _, _ => none
/-- whether a tuple and a dict have the same ints at some places -/
def allEqT (xs : List P) (kvs : List (P × P)) : List P → Option Bool
  | [] => some true
  | .int k :: r => match atI xs k, dlookP (.inl k) kvs with
    | some (.int i), some (.int j) => (allEqT xs kvs r).map fun b => decide (i = j) && b
    | _, _ => none
  | _ :: _ => none
def allEqP : P → P → P → Option Bool
  | .tuple xs, .dict kvs, .tuple ps => allEqT xs kvs ps
  | _, _, _ => none
def cutP {α : Type} (xs : List α) (lo hi : Option Int) : List α := (xs.drop (HT.sIx xs.length 0 lo)).take (HT.sIx xs.length xs.length hi - HT.sIx xs.length 0 lo)
def slcP : P → Option Int → Option Int → Option P
  | .list xs, lo, hi => some (.list (cutP xs lo hi))
  | .tuple xs, lo, hi => some (.tuple (cutP xs lo hi))
  | _, _, _ => none
/-- xs[-2::-1] -/
def rev2P : P → Option P
  | .list xs => some (.list xs.dropLast.reverse)
  | _ => none
def revP : P → Option P
  | .list xs => some (.list xs.reverse)
  | .tuple xs => some (.tuple xs.reverse)
  | _ => none
/-- the ints of some data -/
def intsP : List P → Option (List Int)
  | [] => some []
  | .int i :: r => (intsP r).map (i :: ·)
  | _ :: _ => none
@[simp] theorem intsP_map (ns : List Int) : intsP (ns.map PyData.int) = some ns := by
  induction ns with
  | nil => rfl
  | cons n r ih => simp [intsP, ih]
/-- the bools of some data -/
def boolsP : List P → Option (List Bool)
  | [] => some []
  | .bool i :: r => (boolsP r).map (i :: ·)
  | _ :: _ => none
@[simp] theorem boolsP_map (ns : List Bool) : boolsP (ns.map PyData.bool) = some ns := by
  induction ns with
  | nil => rfl
  | cons n r ih => simp [boolsP, ih]
/-- ints in order -/
def insI (a : Int) : List Int → List Int
  | [] => [a]
  | b :: r => if a ≤ b then a :: b :: r else b :: insI a r
def isort : List Int → List Int
  | [] => []
  | a :: r => insI a (isort r)
theorem insI_perm (a : Int) : ∀ r : List Int, (insI a r).Perm (a :: r)
  | [] => .refl _
  | b :: r => by
    unfold insI
    split
    · exact .refl _
    · exact ((insI_perm a r).cons b).trans (.swap a b r)
theorem isort_perm : ∀ r : List Int, (isort r).Perm r
  | [] => .refl _
  | a :: r => (insI_perm a (isort r)).trans ((isort_perm r).cons a)
theorem insI_le (a : Int) : ∀ {r : List Int}, r.Pairwise (· ≤ ·) → (insI a r).Pairwise (· ≤ ·)
  | [], _ => by simp [insI]
  | b :: r, h => by
    have hb := List.pairwise_cons.mp h
    unfold insI
    split
    · rename_i hab
      refine List.pairwise_cons.mpr ⟨fun y hy => ?_, h⟩
      rcases List.mem_cons.mp hy with rfl | hy
      · exact hab
      · exact Int.le_trans hab (hb.1 y hy)
    · rename_i hab
      refine List.pairwise_cons.mpr ⟨fun y hy => ?_, insI_le a hb.2⟩
      rcases List.mem_cons.mp ((insI_perm a r).mem_iff.mp hy) with rfl | hy
      · omega
      · exact hb.1 y hy
theorem isort_le : ∀ r : List Int, (isort r).Pairwise (· ≤ ·)
  | [] => .nil
  | a :: r => insI_le a (isort_le r)
/-- ints in order, each once -/
def insU (a : Int) : List Int → List Int
  | [] => [a]
  | b :: r => if a < b then a :: b :: r else if a = b then b :: r else b :: insU a r
def usort : List Int → List Int
  | [] => []
  | a :: r => insU a (usort r)
theorem mem_insU {a k : Int} : ∀ {r : List Int}, k ∈ insU a r ↔ k = a ∨ k ∈ r
  | [] => by simp [insU]
  | b :: r => by
    unfold insU
    split
    · simp
    · split
      · rename_i h; subst h; simp
      · simp only [List.mem_cons, mem_insU (r := r)]
        constructor
        · rintro (h | h | h)
          · exact .inr (.inl h)
          · exact .inl h
          · exact .inr (.inr h)
        · rintro (h | h | h)
          · exact .inr (.inl h)
          · exact .inl h
          · exact .inr (.inr h)
theorem mem_usort {k : Int} : ∀ {r : List Int}, k ∈ usort r ↔ k ∈ r
  | [] => Iff.rfl
  | a :: r => by
    show k ∈ insU a (usort r) ↔ _
    rw [mem_insU, mem_usort (r := r), List.mem_cons]
theorem insU_rise {a : Int} : ∀ {r : List Int}, r.Pairwise (· < ·) → (insU a r).Pairwise (· < ·)
  | [], _ => by simp [insU]
  | b :: r, h => by
    have hb := List.pairwise_cons.mp h
    unfold insU
    split
    · rename_i hab
      refine List.pairwise_cons.mpr ⟨fun y hy => ?_, h⟩
      rcases List.mem_cons.mp hy with rfl | hy
      · exact hab
      · exact Int.lt_trans hab (hb.1 y hy)
    · split
      · exact h
      · refine List.pairwise_cons.mpr ⟨fun y hy => ?_, insU_rise hb.2⟩
        rcases mem_insU.mp hy with rfl | hy
        · omega
        · exact hb.1 y hy
theorem usort_rise : ∀ r : List Int, (usort r).Pairwise (· < ·)
  | [] => .nil
  | _ :: r => insU_rise (usort_rise r)
/-- tuples of ints in order, each once -/
def codeT : List Int → Int
  | [] => 0
  | d :: r => d * 64 ^ r.length + codeT r
def insT (a : List Int) : List (List Int) → List (List Int)
  | [] => [a]
  | b :: r => if codeT a < codeT b then a :: b :: r else if a = b then b :: r else b :: insT a r
def usortT : List (List Int) → List (List Int)
  | [] => []
  | a :: r => insT a (usortT r)
theorem mem_insT {a k : List Int} : ∀ {r : List (List Int)}, k ∈ insT a r ↔ k = a ∨ k ∈ r
  | [] => by simp [insT]
  | b :: r => by
    unfold insT
    split
    · simp
    · split
      · rename_i h; subst h; simp
      · simp only [List.mem_cons, mem_insT (r := r)]
        constructor
        · rintro (h | h | h)
          · exact .inr (.inl h)
          · exact .inl h
          · exact .inr (.inr h)
        · rintro (h | h | h)
          · exact .inr (.inl h)
          · exact .inl h
          · exact .inr (.inr h)
theorem mem_usortT {k : List Int} : ∀ {r : List (List Int)}, k ∈ usortT r ↔ k ∈ r
  | [] => Iff.rfl
  | a :: r => by
    show k ∈ insT a (usortT r) ↔ _
    rw [mem_insT, mem_usortT (r := r), List.mem_cons]
/-- tuples that can be put in order: of one length, of small numbers -/
def okTs (ks : List (List Int)) : Bool := ks.length < 64 && ks.all fun k => k.length == (ks.headD []).length && 1 ≤ k.length && k.all fun i => 0 ≤ i && i < 64
def tupsP : List P → Option (List (List Int))
  | [] => some []
  | .tuple xs :: r => (intsP xs).bind fun ns => (tupsP r).map (ns :: ·)
  | _ :: _ => none
/-- the least, the greatest of some ints -/
def minL : List Int → Option Int
  | [] => none
  | [a] => some a
  | a :: b :: r => (minL (b :: r)).map fun m => if m < a then m else a
def maxL : List Int → Option Int
  | [] => none
  | [a] => some a
  | a :: b :: r => (maxL (b :: r)).map fun m => if a < m then m else a
theorem minL_is : ∀ {ns : List Int} {m : Int}, minL ns = some m → m ∈ ns ∧ ∀ y ∈ ns, m ≤ y
  | [], m, h => by cases h
  | [a], m, h => by cases h; simp
  | a :: b :: r, m, h => by
    unfold minL at h
    cases e : minL (b :: r) with
    | none => rw [e] at h; cases h
    | some k =>
      rw [e] at h
      obtain ⟨h1, h2⟩ := minL_is e
      cases h
      refine ⟨?_, fun y hy => ?_⟩
      · dsimp only
        split
        · exact List.mem_cons_of_mem _ h1
        · simp
      · dsimp only
        rcases List.mem_cons.mp hy with rfl | hy
        · split <;> omega
        · have := h2 y hy
          split <;> omega
theorem maxL_is : ∀ {ns : List Int} {m : Int}, maxL ns = some m → m ∈ ns ∧ ∀ y ∈ ns, y ≤ m
  | [], m, h => by cases h
  | [a], m, h => by cases h; simp
  | a :: b :: r, m, h => by
    unfold maxL at h
    cases e : maxL (b :: r) with
    | none => rw [e] at h; cases h
    | some k =>
      rw [e] at h
      obtain ⟨h1, h2⟩ := maxL_is e
      cases h
      refine ⟨?_, fun y hy => ?_⟩
      · dsimp only
        split
        · exact List.mem_cons_of_mem _ h1
        · simp
      · dsimp only
        rcases List.mem_cons.mp hy with rfl | hy
        · split <;> omega
        · have := h2 y hy
          split <;> omega
def seqP : P → Option (List P)
  | .list xs => some xs
  | .tuple xs => some xs
  | _ => none
def tyP : P → String
  | .none => "NoneType"
  | .bool _ => "bool"
  | .int _ => "int"
  | .str _ => "str"
  | .list _ => "list"
  | .tuple _ => "tuple"
  | .dict _ => "dict"
def isTy (a b : String) : Bool := a == b || (a == "bool" && b == "int")
def isiP (t : String) (d : P) : Bool := isTy (tyP d) t
/-- built-in functions and types, called on data -/
def bifP (f : String) (as : List P) : Option P := match as with
  | [a] =>
    if f = "len" then (match a with
      | .list xs => some (.int xs.length)
      | .tuple xs => some (.int xs.length)
      | .str z => if z.length ≤ sizeLine then some (.int z.length) else none
      | _ => none)
    else if f = "tuple" then (seqP a).map .tuple
    else if f = "list" then (seqP a).map .list
    else if f = "int" then (match a with
      | .int i => some (.int i)
      | .bool b => some (.int (if b then 1 else 0))
      | _ => none)
    else if f = "abs" then (match a with
      | .int i => some (.int (if i < 0 then -i else i))
      | _ => none)
    else if f = "sum" then (match a with
      | .list xs => (intsP xs).map fun ns => .int ns.sum
      | _ => none)
    else if f = "repr" then (if a.showable = true ∧ a.shown.length ≤ sizeLine ∧ a.depth ≤ 64 then some (.str a.shown) else none)
    else if f = "str" then (match a with
      | .int i => if i.natAbs.log2 < 1920 then some (.str (toString i)) else none
      | _ => none)
    else if f = "sorted" then (match a with
      | .list xs => (intsP xs).map fun ns => .list ((isort ns).map .int)
      | .tuple xs => (intsP xs).map fun ns => .list ((isort ns).map .int)
      | _ => none)
    else if f = "all" then (match a with
      | .list xs => (boolsP xs).map fun bs => .bool (bs.all id)
      | _ => none)
    else if f = "any" then (match a with
      | .list xs => (boolsP xs).map fun bs => .bool (bs.any id)
      | _ => none)
    else if f = "min" then (match a with
      | .list xs => (intsP xs).bind fun ns => (minL ns).map .int
      | _ => none)
    else if f = "max" then (match a with
      | .list xs => (intsP xs).bind fun ns => (maxL ns).map .int
      | _ => none)
    else none
  | [a, b] =>
    if f = "min" then (match a, b with
      | .int i, .int j => some (.int (if j < i then j else i))
      | _, _ => none)
    else if f = "max" then (match a, b with
      | .int i, .int j => some (.int (if j > i then j else i))
      | _, _ => none)
    else none
  | _ => none
/-! ### the language -/
inductive Tg where
  | one (i : Nat)
  | tup (l : List Tg)
/-- what is walked: a thing itself, range(..), enumerate(..), zip(..), reversed(range(..)), enumerate(zip(.., ..)) -/
inductive SK where
  | it
  | rng
  | enum
  | zip
  | rev
  | enumz
  | zip3
  | keys
  deriving DecidableEq
inductive Ex where
  | var (i : Nat)
  | glob (x : String) (d : P)
  | cst (d : P)
  | bin (op : Operator) (a b : Ex)
  | neg (a : Ex)
  | not (a : Ex)
  | and (l : List Ex)
  | or (l : List Ex)
  | ife (c a b : Ex)
  | cmp (op : CmpOp) (a b : Ex)
  | cmp2 (o1 o2 : CmpOp) (a b c : Ex)
  | cmp3 (o1 o2 o3 : CmpOp) (a b c d : Ex)
  | tup (l : List Ex)
  | lst (l : List Ex)
  | new (e : Ex)
  | lstH (l : List Ex)
  | tupH (l : List Ex)
  | dct (ks : List Key) (vs : List Ex)
  | dctH (ks : List Key) (vs : List Ex)
  | idx (a i : Ex)
  | slc (a : Ex) (lo hi : Option Ex)
  | rev (a : Ex)
  | call (f : String) (args : List Ex)
  | callK (f : String) (args : List Ex) (ks : List String) (kargs : List Ex) (π : List Nat)
  | bif (f : String) (args : List Ex)
  | isi (a : Ex) (t : String)
  | mth (m : String) (a : Ex) (args : List Ex)
  | comp (tg : Tg) (k : SK) (src : List Ex) (cond : List Ex) (elt : Ex)
  | listOf (k : SK) (src : List Ex)
  | listZ (src : List Ex)
  | dictP (e : Ex)
  | dictZ (src : List Ex)
  | rev2 (a : Ex)
  | compH (tg : Tg) (k : SK) (src : List Ex) (cond : List Ex) (elt : Ex)
  | getD (d k x : Ex)
  | lenH (a : Ex)
  | tupOf (k : SK) (src : List Ex)
  | allEq (a b i : Nat) (src : Ex)
  | dcomp (tg : Tg) (k : SK) (src : List Ex) (key val : Ex)
  | sset (e : Ex)
  | lock (i : Nat) (e : Ex)
/-- what an except suite gives back -/
inductive Sx where
  | cst (d : P)
  | fld
  | isi (c : String)
  | lst (l : List Sx)
  | ife (t a b : Sx)
inductive St where
  | set (tg : Tg) (e : Ex)
  | par (ts : List Nat) (es : List Ex)
  | seti (o i e : Ex)
  | expr (e : Ex)
  | ret (e : Ex)
  | retN
  | ite (c : Ex) (a b : List St)
  | for (tg : Tg) (k : SK) (src : List Ex) (body : List St)
  | while (n : Nat) (c : Ex) (body : List St)
  | brk
  | cont
  | pass
  | hole
  | raise (c : String) (a : List Ex)
  | tryR (body : List St) (c : String) (nm : Option Nat) (sx : Sx)
  | lockS (i : Nat) (s : St)
/-- the functions that may be called: what each does, how many parameters it has; the ways in which they are called by keywords -/
structure Cfg where
  T : String → Option (List D → M D)
  ar : String → Nat
  kw : List (String × Nat × List String × List Nat)
  /-- exception classes of the text, and whether they have an __init__ of their own -/
  xs : List (String × Bool) := []
  gx : Bool := false
/-- an exception class of the text -/
def Cfg.hasX (c : Cfg) (k : Str) : Bool := c.xs.any fun q => decide (Str.ofString q.1 = k)
/-- an exception of class c is one of class d -/
def isX (c : Str) (d : String) : Bool := decide (c = Str.ofString d) || d == "TornError"
mutual
def sxE (c : Str) (v : Option P) : Sx → Option P
  | .cst d => some d
  | .fld => v
  | .isi d => some (.bool (isX c d))
  | .lst l => (sxL c v l).map .list
  | .ife t a b => match sxE c v t with
    | some (.bool true) => sxE c v a
    | some (.bool false) => sxE c v b
    | _ => none
def sxL (c : Str) (v : Option P) : List Sx → Option (List P)
  | [] => some []
  | x :: r => match sxE c v x, sxL c v r with
    | some d, some ds => some (d :: ds)
    | _, _ => none
end
/-- some places of a list -/
def pick {α : Type} (π : List Nat) (xs : List α) : List α := π.filterMap fun i => xs[i]?
/-! ### steps of the store -/
def alloc (o : O) : M D := fun st => .ok (.ref st.length) (st ++ [o])
@[simp] theorem alloc_st (o : O) (st : Sto) : alloc o st = .ok (.ref st.length) (st ++ [o]) := rfl
/-- a new list becomes a place of the store -/
def newM : D → M D
  | .p (.list ds) => alloc (.lst (ds.map .p))
  | _ => stop
def negM : D → M D
  | .p (.int i) => pure (.p (.int (-i)))
  | _ => stop
def intM : D → M Int
  | .p (.int i) => pure i
  | _ => stop
def getO (l : Nat) : M O := fun st => match st[l]? with
  | some o => .ok o st
  | none => .bad
def putO (l : Nat) (o : O) : M Unit := fun st => .ok () (st.set l o)
@[simp] theorem putO_st (l : Nat) (o : O) (st : Sto) : putO l o st = .ok () (st.set l o) := rfl
def lookK (k : Key) : List (Key × D) → Option D
  | [] => none
  | (k', d) :: r => if k' = k then some d else lookK k r
def putK (k : Key) (d : D) (kvs : List (Key × D)) : List (Key × D) :=
  if (kvs.any fun kv => decide (kv.1 = k)) = true then kvs.map (fun kv => if kv.1 = k then (kv.1, d) else kv) else kvs ++ [(k, d)]
def idxO (o : O) (i : P) : M D := match o with
  | .lst xs => match i with
    | .int k => need (atI xs k)
    | _ => stop
  | .dct _ kvs => do
    let k ← need (keyOf i)
    need (lookK k kvs)
  | .tup _ => stop
def idxD (o : D) (i : P) : M D := match o with
  | .p d => (.p <$> need (idxP d i))
  | .ref l => do
    let x ← getO l
    idxO x i
/-- o[i], o by itself or as data -/
def idxM (o i : D) : M D := do
  let i ← vw i
  idxD o i
def setO (l : Nat) (o : O) (i : P) (v : P) : M Unit := match o with
  | .lst xs => match i with
    | .int k => do
      let j ← need (ixN xs.length k)
      putO l (.lst (xs.set j (.p v)))
    | _ => stop
  | .dct true kvs => do
    let k ← need (keyOf i)
    if kvs.length < sizeLine then putO l (.dct true (putK k (.p v) kvs)) else stop
  | .dct false _ => stop
  | .tup _ => stop
def setD : D → P → D → M Unit
  | .ref l, i, .p v => do
    let x ← getO l
    setO l x i v
  | _, _, _ => stop
/-- o[i] = v -/
def setM (o i v : D) : M Unit := do
  let i ← vw i
  setD o i v
/-- methods of lists that stand in the store -/
def mthL (m : String) (l : Nat) (xs : List D) (as : List P) : M D := match as with
  | [] =>
    if m = "pop" then (match xs.getLast? with
      | some d => do putO l (.lst xs.dropLast); pure d
      | none => stop)
    else stop
  | [a] =>
    if m = "append" then (if xs.length < sizeLine then (do putO l (.lst (xs ++ [.p a])); pure (.p .none)) else stop)
    else if m = "pop" then (match a with
      | .int i => if -(2 ^ 63) ≤ i ∧ i < 2 ^ 63 then (do
          let k ← need (ixN xs.length i)
          let d ← need xs[k]?
          putO l (.lst (xs.eraseIdx k))
          pure d) else stop
      | _ => stop)
    else if m = "extend" then (match a with
      | .list ds => if xs.length + ds.length ≤ sizeLine then (do putO l (.lst (xs ++ ds.map .p)); pure (.p .none)) else stop
      | _ => stop)
    else stop
  | [a, b] =>
    if m = "insert" then (match a with
      | .int i => if 0 ≤ i ∧ i < 2 ^ 63 ∧ xs.length < sizeLine then (do putO l (.lst (xs.take i.toNat ++ [.p b] ++ xs.drop i.toNat)); pure (.p .none)) else stop
      | _ => stop)
    else stop
  | _ => stop
/-- methods of data -/
def mthP (m : String) (d : P) (as : List P) : Option P := none
def isLst : O → Bool
  | .lst _ => true
  | .dct _ _ => false
  | .tup _ => false
/-- a method's receiver: data, or a list of the store -/
def kindM (x : D) : M Unit := match x with
  | .p _ => stop
  | .ref l => do
    let o ← getO l
    if isLst o = true then pure () else stop
def mthO (m : String) (l : Nat) (o : O) (as : List P) : M D := match o with
  | .lst xs => mthL m l xs as
  | .dct _ _ => stop
  | .tup _ => stop
def mthM (m : String) (o : D) (as : List P) : M D := match o with
  | .p d => (.p <$> need (mthP m d as))
  | .ref l => do
    let x ← getO l
    mthO m l x as
/-! ### dict(pairs), d.get(k, x) -/
def pairsP : List P → Option (List (Key × P))
  | [] => some []
  | .tuple [k, v] :: r => (keyOf k).bind fun kk => (pairsP r).map fun t => (kk, v) :: t
  | _ :: _ => none
def listPairs : P → Option (List (Key × P))
  | .list ds => pairsP ds
  | _ => none
def mergeD : List (Key × D) → List (Key × P) → List (Key × D)
  | acc, [] => acc
  | acc, kv :: r => mergeD (PB.putK kv.1 (.p kv.2) acc) r
/-- dict(pairs) -/
def dictP (ps : List (Key × P)) : Option P := (allP ((mergeD [] ps).map Prod.snd)).map fun ds => .dict (((mergeD [] ps).map fun kv => keyP kv.1).zip ds)
/-- d.get(k, x) of a dict -/
def getP (d k x : P) : Option P := match d with
  | .dict kvs => (keyOf k).map fun k => (dlookP k kvs).getD x
  | _ => none
def isDictP : P → Bool
  | .dict _ => true
  | _ => false
/-- d.get(k, x), d a dict of the store or data: what d is -/
def dctOk (d : D) : M Unit := match d with
  | .p q => if isDictP q = true then pure () else stop
  | .ref l => do
    let o ← getO l
    match o with
    | .dct _ _ => pure ()
    | _ => stop
def getDM (d : D) (k x : P) : M D := match d with
  | .p q => (.p <$> need (getP q k x))
  | .ref l => do
    let o ← getO l
    match o with
    | .dct _ kvs => (do
      let kk ← need (keyOf k)
      pure ((lookK kk kvs).getD (.p x)))
    | _ => stop
/-! ### targets -/
mutual
def asgP : Tg → P → Env → Option Env
  | .one i, d, env => if i < env.length then some (env.set i (some (.p d))) else none
  | .tup l, .tuple ds, env => asgPs l ds env
  | .tup _, _, _ => none
def asgPs : List Tg → List P → Env → Option Env
  | [], [], env => some env
  | t :: ts, d :: ds, env => (asgP t d env).bind fun e => asgPs ts ds e
  | _, _, _ => none
end
def asgD (t : Tg) (d : D) (env : Env) : Option Env := match t, d with
  | .one i, d => if i < env.length then some (env.set i (some d)) else none
  | t, .p d => asgP t d env
  | _, _ => none
/-- the slots of a target -/
def Tg.slots : Tg → List Nat
  | .one i => [i]
  | .tup l => slotsL l
where slotsL : List Tg → List Nat
  | [] => []
  | t :: ts => t.slots ++ slotsL ts
def setAll : List Nat → List D → Env → Option Env
  | [], [], env => some env
  | i :: is, d :: ds, env => if i < env.length then setAll is ds (env.set i (some d)) else none
  | _, _, _ => none
/-! ### what a loop walks -/
def rangeD (lo : Int) (n : Nat) : List P := (List.range n).map fun (k : Nat) => .int (lo + k)
def rangeDn (hi : Int) (n : Nat) : List P := (List.range n).map fun (k : Nat) => .int (hi + k * (-1))
/-- by a step below -1 -/
def rangeSt (hi c : Int) (n : Nat) : List P := (List.range n).map fun (k : Nat) => .int (hi + k * c)
def rszN (i j c : Int) : Nat := if i > j then ((i - j - 1) / (-c)).toNat + 1 else 0
def rangeP (as : List P) : Option (List P) := match as with
  | [.int j] => if -(2 ^ 62) ≤ j ∧ j < 2 ^ 62 then some (rangeD 0 j.toNat) else none
  | [.int i, .int j] => if (-(2 ^ 62) ≤ i ∧ i < 2 ^ 62) ∧ -(2 ^ 62) ≤ j ∧ j < 2 ^ 62 then some (rangeD i (j - i).toNat) else none
  | [.int i, .int j, .int c] => if c = -1 ∧ (-(2 ^ 62) ≤ i ∧ i < 2 ^ 62) ∧ -(2 ^ 62) ≤ j ∧ j < 2 ^ 62 then some (rangeDn i (i - j).toNat) else if (c < -1 ∧ -1000000 < c) ∧ (-(2 ^ 62) ≤ i ∧ i < 2 ^ 62) ∧ -(2 ^ 62) ≤ j ∧ j < 2 ^ 62 then some (rangeSt i c (rszN i j c)) else none
  | _ => none
def itemsP : P → Option (List P)
  | .list xs => some xs
  | .tuple xs => some xs
  | _ => none
def enumP (xs : List P) : List P := xs.mapIdx fun i x => .tuple [.int i, x]
def zipP (xs ys : List P) : List P := List.zipWith (fun x y => .tuple [x, y]) xs ys
def zipP3 (xs ys zs : List P) : List P := (xs.zip (ys.zip zs)).map fun q => .tuple [q.1, q.2.1, q.2.2]
def srcP : SK → List P → Option (List P)
  | .it, [d] => itemsP d
  | .rng, ds => rangeP ds
  | .enum, [d] => (itemsP d).map enumP
  | .zip, [a, b] => (itemsP a).bind fun xs => (itemsP b).map fun ys => zipP xs ys
  | .zip3, [a, b, c] => (itemsP a).bind fun xs => (itemsP b).bind fun ys => (itemsP c).map fun zs => zipP3 xs ys zs
  | .enumz, [a, b] => (itemsP a).bind fun xs => (itemsP b).map fun ys => enumP (zipP xs ys)
  | .keys, [.dict kvs] => some (kvs.map Prod.fst)
  | .rev, [.int j] => if -(2 ^ 62) ≤ j ∧ j < 2 ^ 62 then some (rangeDn ((j.toNat : Int) - 1) j.toNat) else none
  | _, _ => none
/-- what is walked stands as it stood -/
def stays (st0 : Sto) : List D → Sto → Prop
  | [], _ => True
  | .p _ :: r, st => stays st0 r st
  | .ref l :: r, st => st[l]? = st0[l]? ∧ stays st0 r st
/-- the items of what is walked -/
def lockedB (st : Sto) : List D → Bool
  | [.ref l] => match st[l]? with
    | some (.dct false _) => true
    | _ => false
  | _ => false
def srcK : SK → Sto → List D → List P → Option (List P)
  | .keys, st, ds, qs => if lockedB st ds = true then srcP .keys qs else none
  | k, _, _, qs => srcP k qs
def srcM (k : SK) (ds : List D) : M (List P × (Sto → Prop)) := fun st => (vws ds st).bind fun qs st => match srcK k st ds qs with
  | some xs => .ok (xs, stays st ds) st
  | none => .bad
/-- len of anything, of a list of places too -/
def lenM (d : D) : M D := fun st => match d with
  | .p q => (need (bifP "len" [q]) st).bind fun r st => .ok (.p r) st
  | .ref l => match st[l]? with
    | some (.lst xs) => .ok (.p (.int xs.length)) st
    | some (.dct _ kvs) => .ok (.p (.int kvs.length)) st
    | _ => .bad
/-! ### loops -/
/-- a comprehension's turns: what each gives, if anything -/
def compL (g : Sto → Prop) (f : P → M (Option P)) : List P → M (List P)
  | [] => fun st => if g st then .ok [] st else .bad
  | d :: r => fun st => if g st then (f d st).bind fun o st => (compL g f r st).bind fun rest st => .ok (match o with
      | some y => y :: rest
      | none => rest) st else .bad
/-- a comprehension whose items may be places -/
def compLH (g : Sto → Prop) (f : P → M (Option D)) : List P → M (List D)
  | [] => fun st => if g st then .ok [] st else .bad
  | d :: r => fun st => if g st then (f d st).bind fun o st => (compLH g f r st).bind fun rest st => .ok (match o with
      | some y => y :: rest
      | none => rest) st else .bad
/-- a dict of the store may be written again -/
def unlock {α : Type} (l : Nat) (v : α) (st : Sto) : R α := match st[l]? with
  | some (.dct false kvs) => .ok v (st.set l (.dct true kvs))
  | _ => .bad
/-- sorted(set(..)) of some ints -/
def ssetP : P → Option (List P)
  | .tuple ds => (intsP ds).bind fun ns => if ns.length < 64 then some ((usort ns).map .int) else none
  | .list ds => match intsP ds with
    | some ns => if ns.length < 64 then some ((usort ns).map .int) else none
    | none => (tupsP ds).bind fun ks => if okTs ks = true then some ((usortT ks).map fun k => .tuple (k.map .int)) else none
  | _ => none
/-- a dict comprehension's turns -/
def dcompL (g : Sto → Prop) (f : P → M (Key × P)) : List P → List (Key × D) → M (List (Key × D))
  | [], acc => fun st => if g st then .ok acc st else .bad
  | d :: r, acc => fun st => if g st ∧ acc.length < sizeLine then (f d st).bind fun q st => dcompL g f r (putK q.1 (.p q.2) acc) st else .bad
inductive Fl where
  | nx
  | rt (d : D)
  | bk
  | ct
/-- a for's turns -/
def forL (g : Sto → Prop) (f : P → Env → M (Fl × Env)) : List P → Env → M (Fl × Env)
  | [], env => fun st => if g st then .ok (.nx, env) st else .bad
  | d :: r, env => fun st => if g st then (f d env st).bind fun q st => match q with
    | (.nx, env') => forL g f r env' st
    | (.ct, env') => forL g f r env' st
    | (.bk, env') => .ok (.nx, env') st
    | (.rt v, env') => .ok (.rt v, env') st else .bad
/-- a while's turns, at most n -/
def whileL (c : Env → M Bool) (f : Env → M (Fl × Env)) : Nat → Env → M (Fl × Env)
  | 0, _ => stop
  | n + 1, env => do
    let b ← c env
    if b = true then (do
      let q ← f env
      match q with
      | (.nx, env') => whileL c f n env'
      | (.ct, env') => whileL c f n env'
      | (.bk, env') => pure (.nx, env')
      | (.rt v, env') => pure (.rt v, env')) else pure (.nx, env)
def wipeE (env : Env) : List Nat → Env
  | [] => env
  | v :: vs => (wipeE env vs).set v none
def asBM (d : D) : M Bool := do let q ← vw d; need (asB q)
def onlyP : D → M P
  | .p d => pure d
  | .ref _ => stop
@[simp] theorem onlyP_p (d : P) (st : Sto) : onlyP (.p d) st = .ok d st := rfl
def onlyPs : List D → M (List P)
  | [] => pure []
  | d :: r => do let q ← onlyP d; let qs ← onlyPs r; pure (q :: qs)
@[simp] theorem onlyPs_nil : onlyPs [] = pure [] := rfl
@[simp] theorem onlyPs_cons (d : D) (r : List D) (st : Sto) : onlyPs (d :: r) st = (onlyP d st).bind fun q st => (onlyPs r st).bind fun qs st => .ok (q :: qs) st := rfl
def line (n : Nat) : M Unit := if n ≤ sizeLine then pure () else stop
mutual
def evE (c : Cfg) : Ex → Env → M D
  | .var i, env => need (env[i]?.join)
  | .glob _ d, _ => pure (.p d)
  | .cst d, _ => pure (.p d)
  | .bin op a b, env => do
    let x ← evE c a env
    let y ← evE c b env
    let x ← vw x
    let y ← vw y
    .p <$> need (binP op x y)
  | .neg a, env => do
    let x ← evE c a env
    negM x
  | .not a, env => do
    let x ← evE c a env
    let b ← asBM x
    pure (.p (.bool (!b)))
  | .and l, env => evAnd c l env
  | .or l, env => evOr c l env
  | .ife t a b, env => do
    let x ← evE c t env
    let k ← asBM x
    if k = true then evE c a env else evE c b env
  | .cmp op a b, env => do
    let x ← evE c a env
    let y ← evE c b env
    let x ← vw x
    let y ← vw y
    (fun b => .p (.bool b)) <$> need (cmpP op x y)
  | .cmp2 o1 o2 a b d, env => do
    let x ← evE c a env
    let y ← evE c b env
    let x ← vw x
    let y ← onlyP y
    let k ← need (cmpP o1 x y)
    if k = true then (do
      let z ← evE c d env
      let z ← vw z
      (fun b => .p (.bool b)) <$> need (cmpP o2 y z)) else pure (.p (.bool false))
  | .cmp3 o1 o2 o3 a b d e, env => do
    let x ← evE c a env
    let y ← evE c b env
    let x ← vw x
    let y ← onlyP y
    let k ← need (cmpP o1 x y)
    if k = true then (do
      let z ← evE c d env
      let z ← onlyP z
      let k2 ← need (cmpP o2 y z)
      if k2 = true then (do
        let u ← evE c e env
        let u ← vw u
        (fun b => .p (.bool b)) <$> need (cmpP o3 z u)) else pure (.p (.bool false))) else pure (.p (.bool false))
  | .tup l, env => do
    let ds ← evL c l env
    let ds ← onlyPs ds
    line ds.length
    pure (.p (.tuple ds))
  | .lst l, env => do
    let ds ← evL c l env
    let ds ← onlyPs ds
    line ds.length
    pure (.p (.list ds))
  | .new e, env => do
    let x ← evE c e env
    newM x
  | .lstH l, env => do
    let ds ← evL c l env
    line ds.length
    alloc (.lst ds)
  | .tupH l, env => do
    let ds ← evL c l env
    line ds.length
    alloc (.tup ds)
  | .dct ks vs, env => do
    let ds ← noErr (evL c vs env)
    let ds ← onlyPs ds
    if ks.Nodup ∧ ks.length = ds.length ∧ ks.length ≤ 15 then pure (.p (.dict ((ks.map keyP).zip ds))) else stop
  | .dctH ks vs, env => do
    let ds ← noErr (evL c vs env)
    if ks.Nodup ∧ ks.length = ds.length ∧ ks.length ≤ 15 then alloc (.dct true (ks.zip ds)) else stop
  | .idx a i, env => do
    let x ← evE c a env
    let y ← evE c i env
    idxM x y
  | .slc a lo hi, env => do
    let x ← evE c a env
    let l ← evO c lo env
    let h ← evO c hi env
    let x ← vw x
    .p <$> need (slcP x l h)
  | .rev a, env => do
    let x ← evE c a env
    let x ← vw x
    .p <$> need (revP x)
  | .call f args, env => do
    let m ← need (c.T f)
    let ds ← evL c args env
    m ds
  | .callK f args ks kargs π, env => do
    let m ← need (c.T f)
    let ds ← evL c args env
    let es ← evL c kargs env
    m (ds ++ pick π es)
  | .bif f args, env => do
    let ds ← evL c args env
    let ds ← vws ds
    .p <$> need (bifP f ds)
  | .lenH a, env => do
    let x ← evE c a env
    lenM x
  | .isi a t, env => do
    let x ← evE c a env
    let x ← vw x
    pure (.p (.bool (isiP t x)))
  | .mth m a args, env => do
    let x ← evE c a env
    kindM x
    let ds ← evL c args env
    let ds ← onlyPs ds
    mthM m x ds
  | .comp tg k src cond elt, env => do
    let xs ← evL c src env
    let items ← srcM k xs
    let env0 := wipeE env tg.slots
    let ys ← noErr (compL items.2 (fun d => do
      let e1 ← need (asgP tg d env0)
      let k ← evAll c cond e1
      if k = true then (do
        let y ← evE c elt e1
        let y ← onlyP y
        pure (some y)) else pure none) items.1)
    line ys.length
    pure (.p (.list ys))
  | .listOf k src, env => do
    let xs ← evL c src env
    let items ← srcM k xs
    if k = .rng ∧ items.1.length ≤ 16777216 then pure (.p (.list items.1)) else stop
  | .listZ src, env => do
    let xs ← evL c src env
    let items ← srcM .zip xs
    if items.1.length ≤ 16777216 then pure (.p (.list items.1)) else stop
  | .dictP e, env => do
    let x ← evE c e env
    let d ← onlyP x
    let r ← need ((listPairs d).bind PB.dictP)
    pure (.p r)
  | .dictZ src, env => do
    let xs ← evL c src env
    let items ← srcM .zip xs
    let r ← need ((pairsP items.1).bind PB.dictP)
    if items.1.length ≤ 16777216 then pure (.p r) else stop
  | .rev2 a, env => do
    let x ← evE c a env
    let x ← vw x
    .p <$> need (rev2P x)
  | .compH tg k src cond elt, env => do
    let xs ← evL c src env
    let items ← srcM k xs
    let env0 := wipeE env tg.slots
    let ys ← noErr (compLH items.2 (fun d => do
      let e1 ← need (asgP tg d env0)
      let k ← evAll c cond e1
      if k = true then (do
        let y ← evE c elt e1
        pure (some y)) else pure none) items.1)
    line ys.length
    alloc (.lst ys)
  | .getD d k x, env => do
    let d ← evE c d env
    dctOk d
    let k ← evE c k env
    let k ← onlyP k
    let x ← evE c x env
    let x ← onlyP x
    getDM d k x
  | .tupOf k src, env => do
    let xs ← evL c src env
    let items ← srcM k xs
    if k = .rng ∧ items.1.length ≤ 16777216 then pure (.p (.tuple items.1)) else stop
  | .allEq a b _ src, env => do
    let s ← evE c src env
    let x ← need (env[a]?.join)
    let y ← need (env[b]?.join)
    let s ← vw s
    let x ← onlyP x
    let y ← onlyP y
    (fun b => .p (.bool b)) <$> need (allEqP x y s)
  | .dcomp tg k src key val, env => do
    let xs ← evL c src env
    let items ← srcM k xs
    let env0 := wipeE env tg.slots
    let kvs ← noErr (dcompL items.2 (fun d => do
      let e1 ← need (asgP tg d env0)
      let x ← evE c key e1
      let x ← onlyP x
      let kk ← need (keyOf x)
      let y ← evE c val e1
      let y ← onlyP y
      pure (kk, y)) items.1 [])
    let ds ← need (allP (kvs.map Prod.snd))
    pure (.p (.dict ((kvs.map fun kv => keyP kv.1).zip ds)))
  | .sset e, env => do
    let x ← evE c e env
    let q ← vw x
    let ns ← need (ssetP q)
    pure (.p (.list ns))
  | .lock i e, env => fun st => match env[i]?.join with
    | some (.ref l) => (match st[l]? with
      | some (.dct true kvs) => ((evE c e env (st.set l (.dct false kvs))).ne).bind fun v st' => unlock l v st'
      | _ => .bad)
    | _ => .bad
def evL (c : Cfg) : List Ex → Env → M (List D)
  | [], _ => pure []
  | e :: r, env => do
    let x ← evE c e env
    let xs ← evL c r env
    pure (x :: xs)
def evO (c : Cfg) : Option Ex → Env → M (Option Int)
  | none, _ => pure none
  | some e, env => do
    let x ← evE c e env
    some <$> intM x
def evAnd (c : Cfg) : List Ex → Env → M D
  | [], _ => stop
  | [e], env => evE c e env
  | e :: e' :: r, env => do
    let x ← evE c e env
    let k ← asBM x
    if k = true then evAnd c (e' :: r) env else pure (.p (.bool false))
def evOr (c : Cfg) : List Ex → Env → M D
  | [], _ => stop
  | [e], env => evE c e env
  | e :: e' :: r, env => do
    let x ← evE c e env
    let k ← asBM x
    if k = true then pure (.p (.bool true)) else evOr c (e' :: r) env
/-- a comprehension's tests: none or one -/
def evAll (c : Cfg) : List Ex → Env → M Bool
  | [], _ => pure true
  | e :: r, env => do
    let x ← evE c e env
    let k ← asBM x
    if k = true then evAll c r env else pure false
end
mutual
def evS (c : Cfg) : St → Env → M (Fl × Env)
  | .set tg e, env => do
    let x ← evE c e env
    let env' ← need (asgD tg x env)
    pure (.nx, env')
  | .par ts es, env => do
    let xs ← evL c es env
    let env' ← need (setAll ts xs env)
    pure (.nx, env')
  | .seti o i e, env => do
    let v ← evE c e env
    let x ← evE c o env
    let k ← evE c i env
    setM x k v
    pure (.nx, env)
  | .expr e, env => do
    let _ ← evE c e env
    pure (.nx, env)
  | .ret e, env => do
    let x ← evE c e env
    pure (.rt x, env)
  | .retN, env => pure (.rt (.p .none), env)
  | .ite t a b, env => do
    let x ← evE c t env
    let k ← asBM x
    if k = true then evSs c a env else evSs c b env
  | .for tg k src body, env => do
    let xs ← evL c src env
    let items ← srcM k xs
    forL items.2 (fun d env => do
      let e1 ← need (asgP tg d env)
      evSs c body e1) items.1 env
  | .while n t body, env => whileL (fun env => do
      let x ← evE c t env
      asBM x) (fun env => evSs c body env) n env
  | .brk, env => pure (.bk, env)
  | .cont, env => pure (.ct, env)
  | .pass, env => pure (.nx, env)
  | .hole, env => stop
  | .raise x a, env => do
    let ds ← evL c a env
    let ds ← onlyPs ds
    fun st => match ds with
      | [] => if a.isEmpty = true ∧ c.xs.contains (x, false) = true then .err (Str.ofString x) none st else .bad
      | [d] => if c.xs.contains (x, true) = true then .err (Str.ofString x) (some d) st else .bad
      | _ => .bad
  | .tryR body x _ sx, env => fun st => match evSs c body env st with
    | .err k v st' => if c.hasX k = true then (if isX k x = true then (match sxE k v sx with
      | some q => .ok (.rt (.p q), List.replicate env.length none) st'
      | none => .bad) else .err k v st') else .bad
    | r => r
  | .lockS i s, env => fun st => match env[i]?.join with
    | some (.ref l) => (match st[l]? with
      | some (.dct true kvs) => ((evS c s env (st.set l (.dct false kvs))).ne).bind fun v st' => unlock l v st'
      | _ => .bad)
    | _ => .bad
def evSs (c : Cfg) : List St → Env → M (Fl × Env)
  | [], env => pure (.nx, env)
  | s :: r, env => do
    let q ← evS c s env
    match q with
    | (.nx, env') => evSs c r env'
    | (f, env') => pure (f, env')
end
/-- what a function hands back, seen as data: all that it made, to some depth -/
def frzL (f : D → Option P) : List D → Option (List P)
  | [] => some []
  | d :: r => (f d).bind fun q => (frzL f r).map fun t => q :: t
def frzD : Nat → Nat → Sto → D → Option P
  | 0, _, _, d => match d with
    | .p q => some q
    | .ref _ => none
  | k + 1, n, st, d => match d with
    | .p q => some q
    | .ref l => if l < n then none else match st[l]? with
      | some (.lst ds) => (frzL (frzD k n st) ds).map .list
      | some (.tup ds) => (frzL (frzD k n st) ds).map .tuple
      | some (.dct _ kvs) => (frzL (frzD k n st) (kvs.map Prod.snd)).map fun ds => .dict ((kvs.map fun kv => keyP kv.1).zip ds)
      | none => none
/-- a function's result: what it made is dropped, what it made becomes data (frz), or all is kept -/
def leave (frz : Bool) (n : Nat) (d : D) (st : Sto) : R D := match d with
  | .p q => .ok (.p q) (st.take n)
  | .ref l => if l < n then .ok (.ref l) (st.take n)
    else if frz = true then (match frzD 4 n st (.ref l) with
      | some q => .ok (.p q) (st.take n)
      | none => .bad)
    else .ok (.ref l) st
def runF (c : Cfg) (slots : Nat) (frz : Bool) (body : List St) (ds : List D) : M D := fun st =>
  (evSs c body (ds.map some ++ List.replicate (slots - ds.length) none) st).bind fun q st' => match q.1 with
    | .rt d => leave frz st.length d st'
    | .nx => leave frz st.length (.p .none) st'
    | _ => .bad
end
end PB
set_option maxRecDepth 100000
/-! Pb, part 2: what a value of the interpreter stands for in the abstract heap. -/
namespace PB
open PySem PySem.Spec PyProof.Rows L2
/-- the places of the store, and what is reserved (a list that grows) -/
structure Pl where
  l : List Addr
  z : List Addr
instance : Membership Addr Pl := ⟨fun p a => a ∈ p.l ∨ a ∈ p.z⟩
theorem Pl.mem_iff {a : Addr} {ρ : Pl} : a ∈ ρ ↔ a ∈ ρ.l ∨ a ∈ ρ.z := Iff.rfl
def Pl.add (ρ : Pl) (p : Addr) : Pl := ⟨ρ.l ++ [p], ρ.z⟩
def Pl.cut (ρ : Pl) (n : Nat) : Pl := ⟨ρ.l.take n, ρ.z⟩
/-- a list that nobody writes: no place of the store stands at it -/
def KL (K : PySem.W.Frag) (a : Addr) (xs : List V) : Prop := ∃ (its : List Value) (n : Nat), K.lookup a = some { cls := .type "list", data := .seq its.toArray n } ∧ Vals xs its ∧ xs.length ≤ sizeLine
def LsV (K : PySem.W.Frag) (H : Hp) (a : Addr) (xs : List V) : Prop := Rd H a (.lst xs) ∨ KL K a xs
def LsA (K : PySem.W.Frag) (H : Hp) (ρ : Pl) (a : Addr) (xs : List V) : Prop := (Rd H a (.lst xs) ∧ a ∉ ρ) ∨ KL K a xs
def TpA (K : PySem.W.Frag) (H : Hp) (ρ : Pl) (a : Addr) (xs : List V) : Prop := (Rd H a (.tup xs) ∧ a ∉ ρ) ∨ ∀ H', SqT K H' a xs
mutual
inductive RP (K : PySem.W.Frag) (H : Hp) (ρ : Pl) : V → P → Prop
  | non : RP K H ρ .non .none
  | bl (b : Bool) : RP K H ρ (.bl b) (.bool b)
  | int (i : Int) : RP K H ρ (.int i) (.int i)
  | str (x : Str) : RP K H ρ (.str x) (.str x)
  | lst {a : Addr} {xs : List V} {ds : List P} : LsA K H ρ a xs → RPs K H ρ xs ds → RP K H ρ (.ref a) (.list ds)
  | tup {a : Addr} {xs : List V} {ds : List P} : TpA K H ρ a xs → RPs K H ρ xs ds → RP K H ρ (.ref a) (.tuple ds)
  | dct {a : Addr} {kvs : List (Key × V)} {ds : List (P × P)} : Rd H a (.dK kvs) → a ∉ ρ → RPk K H ρ kvs ds → RP K H ρ (.ref a) (.dict ds)
inductive RPs (K : PySem.W.Frag) (H : Hp) (ρ : Pl) : List V → List P → Prop
  | nil : RPs K H ρ [] []
  | cons {v : V} {vs : List V} {d : P} {ds : List P} : RP K H ρ v d → RPs K H ρ vs ds → RPs K H ρ (v :: vs) (d :: ds)
inductive RPk (K : PySem.W.Frag) (H : Hp) (ρ : Pl) : List (Key × V) → List (P × P) → Prop
  | nil : RPk K H ρ [] []
  | cons {k : Key} {v : V} {vs : List (Key × V)} {d : P} {ds : List (P × P)} : RP K H ρ v d → RPk K H ρ vs ds → RPk K H ρ ((k, v) :: vs) ((keyP k, d) :: ds)
end
/-- the functions whose generator expressions are walked, and the tables of their code objects -/
def gnx : List Str := ["ahead_from"]
def tabsK (K : PySem.W.Frag) : List Addr := (gnx.filterMap fun x => PySem.W.tabIn K x).map (·.2)
/-- a table of code objects -/
def TabG (H : Hp) (P : Addr) : Prop := ∃ ps : Array Value, H P = some (.tbl ps) ∧ TriplesOk ps.toList
theorem TabG.same {H H' : Hp} {P : Addr} (h : TabG H P) (s : Same H H') : TabG H' P := let ⟨ps, e, t⟩ := h; ⟨ps, s _ _ e, t⟩
/-- what may become of the heap: places are only added, what is no place stays; tables may grow -/
structure Ext0 (ρ : Pl) (H : Hp) (ρ' : Pl) (H' : Hp) : Prop where
  grow : ∃ new nz, ρ'.l = ρ.l ++ new ∧ ρ'.z = nz ++ ρ.z ∧ (∀ a ∈ new, H a = none) ∧ ∀ a ∈ nz, H a = none
  keep : ∀ a o, H a = some o → a ∉ ρ.l → (∀ ps, o ≠ .tbl ps) → H' a = some o
  there : ∀ a, H' a = none → H a = none
  tbl : ∀ a, TabG H a → a ∉ ρ.l → TabG H' a
/-- .. and what is locked stays so -/
structure Ext (ρ : Pl) (H : Hp) (ρ' : Pl) (H' : Hp) : Prop extends Ext0 ρ H ρ' H' where
  frz : ∀ a o u, H a = some (.frz o u) → H' a = some (.frz o u)
section
variable {K : PySem.W.Frag} {ρ ρ' ρ'' : Pl} {H H' H'' : Hp} {a : Addr}
theorem grow_self : ∃ new nz, ρ.l = ρ.l ++ new ∧ ρ.z = nz ++ ρ.z ∧ (∀ a ∈ new, H a = none) ∧ ∀ a ∈ nz, H a = none := ⟨[], [], by simp, rfl, fun a h => (by cases h), fun a h => (by cases h)⟩
theorem Ext.refl : Ext ρ H ρ H := ⟨⟨grow_self, fun _ _ h _ _ => h, fun _ h => h, fun _ h _ => h⟩, fun _ _ _ h => h⟩
theorem Ext0.outL (e : Ext0 ρ H ρ' H') {o : HO} (h : H a = some o) (n : a ∉ ρ.l) : a ∉ ρ'.l := by
  obtain ⟨new, nz, h1, h2, hn, hz⟩ := e.grow
  rw [h1]
  intro q
  rcases List.mem_append.mp q with q | q
  · exact n q
  · rw [hn a q] at h; cases h
theorem Ext0.out (e : Ext0 ρ H ρ' H') {o : HO} (h : H a = some o) (n : a ∉ ρ) : a ∉ ρ' := by
  intro q
  rcases q with q | q
  · exact e.outL h (fun z => n (.inl z)) q
  · obtain ⟨new, nz, h1, h2, hn, hz⟩ := e.grow
    rw [h2] at q
    rcases List.mem_append.mp q with q | q
    · rw [hz a q] at h; cases h
    · exact n (.inr q)
theorem Ext.trans (e : Ext ρ H ρ' H') (f : Ext ρ' H' ρ'' H'') : Ext ρ H ρ'' H'' := by
  refine ⟨⟨?_, fun a o h n t => f.keep a o (e.keep a o h n t) (e.outL h n) t, fun a h => e.there a (f.there a h), fun a h n => f.tbl a (e.tbl a h n) (let ⟨_, q, _⟩ := h; e.outL q n)⟩, fun a o u h => f.frz a o u (e.frz a o u h)⟩
  obtain ⟨n1, z1, e1, f1, h1, g1⟩ := e.grow
  obtain ⟨n2, z2, e2, f2, h2, g2⟩ := f.grow
  refine ⟨n1 ++ n2, z2 ++ z1, by rw [e2, e1, List.append_assoc], by rw [f2, f1, List.append_assoc], fun a q => ?_, fun a q => ?_⟩
  · rcases List.mem_append.mp q with q | q
    · exact h1 a q
    · exact e.there a (h2 a q)
  · rcases List.mem_append.mp q with q | q
    · exact e.there a (g2 a q)
    · exact g1 a q
theorem Ext.same (h : Same H H') : Ext ρ H ρ H' := ⟨⟨grow_self, fun _ _ q _ _ => h _ _ q, fun _ q => h.free q, fun _ q _ => q.same h⟩, fun _ _ _ q => h _ _ q⟩
theorem Ext0.get (e : Ext0 ρ H ρ' H') {l : Nat} (h : ρ.l[l]? = some a) : ρ'.l[l]? = some a := by
  obtain ⟨new, nz, h1, _⟩ := e.grow
  rw [h1]
  rw [List.getElem?_append_left (List.getElem?_eq_some_iff.mp h).1]
  exact h
theorem same_new {p : Addr} {o : HO} (h : H p = none) : Same H (upd H p o) := fun b x e => by
  rw [upd_ne (ne_of_none e h)]; exact e
theorem Ext0.rd {u : HO} (e : Ext0 ρ H ρ' H') (h : Rd H a u) (n : a ∉ ρ) (t : ∀ ps, u ≠ .tbl ps := by intro _ z; cases z) : Rd H' a u ∧ a ∉ ρ' := by
  rcases h with h | ⟨o, h⟩
  · exact ⟨.inl (e.keep _ _ h (fun z => n (.inl z)) t), e.out h n⟩
  · exact ⟨.inr ⟨o, e.keep _ _ h (fun z => n (.inl z)) fun _ z => (by cases z)⟩, e.out h n⟩
theorem LsA.ext0 {xs : List V} (h : LsA K H ρ a xs) (e : Ext0 ρ H ρ' H') : LsA K H' ρ' a xs := by
  rcases h with ⟨h, n⟩ | h
  · exact .inl (e.rd h n)
  · exact .inr h
theorem TpA.ext0 {xs : List V} (h : TpA K H ρ a xs) (e : Ext0 ρ H ρ' H') : TpA K H' ρ' a xs := by
  rcases h with ⟨h, n⟩ | h
  · exact .inl (e.rd h n)
  · exact .inr h
theorem LsV.sq {xs : List V} (h : LsV K H a xs) : SqL K H a xs := by
  rcases h with h | ⟨its, n, h1, h2, h3⟩
  · exact .inl h
  · refine .inr ⟨_, its.toArray, n, h1, rfl, rfl, rfl, ?_, by simpa using h2⟩
    rw [List.size_toArray, ← h2.length]
    exact h3
theorem LsA.lsv {xs : List V} (h : LsA K H ρ a xs) : LsV K H a xs := by
  rcases h with ⟨h, _⟩ | h
  · exact .inl h
  · exact .inr h
theorem LsA.sq {xs : List V} (h : LsA K H ρ a xs) : SqL K H a xs := h.lsv.sq
theorem TpA.sq {xs : List V} (h : TpA K H ρ a xs) : SqT K H a xs := by
  rcases h with ⟨h, _⟩ | h
  · exact .inl h
  · exact h H
mutual
theorem RP.ext0 (e : Ext0 ρ H ρ' H') : ∀ {d : P} {x : V}, RP K H ρ x d → RP K H' ρ' x d
  | .none, _, .non => .non
  | .bool b, _, .bl _ => .bl b
  | .int i, _, .int _ => .int i
  | .str x, _, .str _ => .str x
  | .list ds, _, .lst h q => .lst (h.ext0 e) (RPs.ext0 e q)
  | .tuple ds, _, .tup h q => .tup (h.ext0 e) (RPs.ext0 e q)
  | .dict ds, _, .dct h n q => .dct (e.rd h n).1 (e.rd h n).2 (RPk.ext0 e q)
theorem RPs.ext0 (e : Ext0 ρ H ρ' H') : ∀ {ds : List P} {xs : List V}, RPs K H ρ xs ds → RPs K H' ρ' xs ds
  | [], _, .nil => .nil
  | _ :: _, _, .cons h q => .cons (RP.ext0 e h) (RPs.ext0 e q)
theorem RPk.ext0 (e : Ext0 ρ H ρ' H') : ∀ {ds : List (P × P)} {xs : List (Key × V)}, RPk K H ρ xs ds → RPk K H' ρ' xs ds
  | [], _, .nil => .nil
  | _ :: _, _, .cons h q => .cons (RP.ext0 e h) (RPk.ext0 e q)
end
theorem LsA.ext {xs : List V} (h : LsA K H ρ a xs) (e : Ext ρ H ρ' H') : LsA K H' ρ' a xs := h.ext0 e.toExt0
theorem TpA.ext {xs : List V} (h : TpA K H ρ a xs) (e : Ext ρ H ρ' H') : TpA K H' ρ' a xs := h.ext0 e.toExt0
theorem RP.ext (e : Ext ρ H ρ' H') {d : P} {x : V} (h : RP K H ρ x d) : RP K H' ρ' x d := h.ext0 e.toExt0
theorem RPs.ext (e : Ext ρ H ρ' H') {ds : List P} {xs : List V} (h : RPs K H ρ xs ds) : RPs K H' ρ' xs ds := h.ext0 e.toExt0
theorem RPk.ext (e : Ext ρ H ρ' H') {ds : List (P × P)} {xs : List (Key × V)} (h : RPk K H ρ xs ds) : RPk K H' ρ' xs ds := h.ext0 e.toExt0
/-- fewer places -/
theorem LsA.less {xs : List V} (h : LsA K H ρ a xs) (s : ∀ b ∈ ρ', b ∈ ρ) : LsA K H ρ' a xs := by
  rcases h with ⟨h, n⟩ | h
  · exact .inl ⟨h, fun q => n (s _ q)⟩
  · exact .inr h
theorem TpA.less {xs : List V} (h : TpA K H ρ a xs) (s : ∀ b ∈ ρ', b ∈ ρ) : TpA K H ρ' a xs := by
  rcases h with ⟨h, n⟩ | h
  · exact .inl ⟨h, fun q => n (s _ q)⟩
  · exact .inr h
mutual
theorem RP.less (s : ∀ b ∈ ρ', b ∈ ρ) : ∀ {d : P} {x : V}, RP K H ρ x d → RP K H ρ' x d
  | .none, _, .non => .non
  | .bool b, _, .bl _ => .bl b
  | .int i, _, .int _ => .int i
  | .str x, _, .str _ => .str x
  | .list ds, _, .lst h q => .lst (h.less s) (RPs.less s q)
  | .tuple ds, _, .tup h q => .tup (h.less s) (RPs.less s q)
  | .dict ds, _, .dct h n q => .dct h (fun z => n (s _ z)) (RPk.less s q)
theorem RPs.less (s : ∀ b ∈ ρ', b ∈ ρ) : ∀ {ds : List P} {xs : List V}, RPs K H ρ xs ds → RPs K H ρ' xs ds
  | [], _, .nil => .nil
  | _ :: _, _, .cons h q => .cons (RP.less s h) (RPs.less s q)
theorem RPk.less (s : ∀ b ∈ ρ', b ∈ ρ) : ∀ {ds : List (P × P)} {xs : List (Key × V)}, RPk K H ρ xs ds → RPk K H ρ' xs ds
  | [], _, .nil => .nil
  | _ :: _, _, .cons h q => .cons (RP.less s h) (RPk.less s q)
end
theorem RPs.length : ∀ {xs : List V} {ds : List P}, RPs K H ρ xs ds → xs.length = ds.length
  | _, _, .nil => rfl
  | _, _, .cons _ q => by simp [RPs.length q]
theorem RPs.get : ∀ {xs : List V} {ds : List P} {i : Nat} {d : P}, RPs K H ρ xs ds → ds[i]? = some d → ∃ x, xs[i]? = some x ∧ RP K H ρ x d
  | _, _, _, _, .nil, e => by simp at e
  | _, _, 0, _, .cons h _, e => by simp at e; subst e; exact ⟨_, rfl, h⟩
  | _, _, i + 1, _, .cons _ q, e => by
    obtain ⟨x, h1, h2⟩ := RPs.get (i := i) q (by simpa using e)
    exact ⟨x, by simpa using h1, h2⟩
theorem RPs.append : ∀ {xs ys : List V} {ds es : List P}, RPs K H ρ xs ds → RPs K H ρ ys es → RPs K H ρ (xs ++ ys) (ds ++ es)
  | _, _, _, _, .nil, q => q
  | _, _, _, _, .cons h r, q => .cons h (RPs.append r q)
theorem RPs.take : ∀ {xs : List V} {ds : List P} (n : Nat), RPs K H ρ xs ds → RPs K H ρ (xs.take n) (ds.take n)
  | _, _, 0, _ => .nil
  | _, _, _ + 1, .nil => .nil
  | _, _, n + 1, .cons h q => .cons h (RPs.take n q)
theorem RPs.drop : ∀ {xs : List V} {ds : List P} (n : Nat), RPs K H ρ xs ds → RPs K H ρ (xs.drop n) (ds.drop n)
  | _, _, 0, q => q
  | _, _, _ + 1, .nil => .nil
  | _, _, n + 1, .cons _ q => RPs.drop n q
theorem RPs.reverse {xs : List V} {ds : List P} (h : RPs K H ρ xs ds) : RPs K H ρ xs.reverse ds.reverse := by
  have : ∀ {ys : List V} {es : List P}, RPs K H ρ ys es → RPs K H ρ ys.reverse es.reverse := by
    intro ys es q
    induction ys generalizing es with
    | nil => cases q; exact .nil
    | cons y ys ih =>
      cases q with
      | cons a b =>
        rw [List.reverse_cons, List.reverse_cons]
        exact (ih b).append (.cons a .nil)
  exact this h
theorem RPs.rep {xs : List V} {ds : List P} (h : RPs K H ρ xs ds) : ∀ k : Nat, RPs K H ρ (List.replicate k xs).flatten (List.replicate k ds).flatten
  | 0 => .nil
  | k + 1 => by
    rw [List.replicate_succ, List.replicate_succ, List.flatten_cons, List.flatten_cons]
    exact h.append (RPs.rep h k)
theorem RPs.ints : ∀ {xs : List V} {ns : List Int}, RPs K H ρ xs (ns.map PyData.int) → xs = ns.map V.int
  | _, [], h => by cases h; rfl
  | _, n :: ns, h => by
    cases h with
    | cons a b => cases a; rw [RPs.ints b]; rfl
theorem RPs.of_ints : ∀ ns : List Int, RPs K H ρ (ns.map V.int) (ns.map PyData.int)
  | [] => .nil
  | n :: ns => .cons (.int n) (RPs.of_ints ns)
end
/-- a value of any kind -/
inductive RD (K : PySem.W.Frag) (H : Hp) (ρ : Pl) : V → D → Prop
  | p {x : V} {d : P} : RP K H ρ x d → RD K H ρ x (.p d)
  | ref {a : Addr} {l : Nat} : ρ.l[l]? = some a → RD K H ρ (.ref a) (.ref l)
inductive RDs (K : PySem.W.Frag) (H : Hp) (ρ : Pl) : List V → List D → Prop
  | nil : RDs K H ρ [] []
  | cons {v : V} {vs : List V} {d : D} {ds : List D} : RD K H ρ v d → RDs K H ρ vs ds → RDs K H ρ (v :: vs) (d :: ds)
inductive RDk (K : PySem.W.Frag) (H : Hp) (ρ : Pl) : List (Key × V) → List (Key × D) → Prop
  | nil : RDk K H ρ [] []
  | cons {k : Key} {v : V} {vs : List (Key × V)} {d : D} {ds : List (Key × D)} : RD K H ρ v d → RDk K H ρ vs ds → RDk K H ρ ((k, v) :: vs) ((k, d) :: ds)
def D.below (n : Nat) : D → Prop
  | .p _ => True
  | .ref l => l < n
def O.below (n : Nat) : O → Prop
  | .lst xs => ∀ d ∈ xs, d.below n
  | .dct _ kvs => ∀ kv ∈ kvs, kv.2.below n
  | .tup xs => ∀ d ∈ xs, d.below n
/-- a dict of the store, to be written or locked -/
def DK (w : Bool) (H : Hp) (a : Addr) (vs : List (Key × V)) : Prop := match w with
  | true => H a = some (.dK vs)
  | false => ∃ o, H a = some (.frz o (.dK vs))
theorem DK.rd {w : Bool} {H : Hp} {a : Addr} {vs : List (Key × V)} (h : DK w H a vs) : Rd H a (.dK vs) := by
  cases w with
  | true => exact .inl h
  | false => exact .inr h
theorem DK.to {w : Bool} {H H' : Hp} {a : Addr} {vs : List (Key × V)} (h : DK w H a vs) (k : ∀ u, H a = some u → H' a = some u) : DK w H' a vs := by
  cases w with
  | true => exact k _ h
  | false => obtain ⟨o, h⟩ := h; exact ⟨o, k _ h⟩
theorem DK.some {w : Bool} {H : Hp} {a : Addr} {vs : List (Key × V)} (h : DK w H a vs) : ∃ u, H a = .some u ∧ (∀ φ, u ≠ .ext φ) := by
  cases w with
  | true => exact ⟨_, h, fun φ z => by cases z⟩
  | false => obtain ⟨o, h⟩ := h; exact ⟨_, h, fun φ z => by cases z⟩
def RO (K : PySem.W.Frag) (H : Hp) (ρ : Pl) (a : Addr) : O → Prop
  | .lst ds => ∃ xs, H a = some (.lst xs) ∧ RDs K H ρ xs ds
  | .dct w kvs => ∃ vs, DK w H a vs ∧ RDk K H ρ vs kvs
  | .tup ds => ∃ xs, H a = some (.tup xs) ∧ RDs K H ρ xs ds
/-- the store -/
structure RS (K : PySem.W.Frag) (H : Hp) (ρ : Pl) (st : Sto) : Prop where
  len : ρ.l.length = st.length
  nd : ρ.l.Nodup
  dj : ∀ a ∈ ρ.l, a ∉ ρ.z
  zt : ∀ a ∈ ρ.z, ∃ o, H a = some o
  sysm : ∃ φ, H sysModules = some (.ext φ)
  tab : ∀ P ∈ tabsK K, TabG H P ∧ P ∉ ρ
  ob : ∀ (i : Nat) (a : Addr) (o : O), ρ.l[i]? = some a → st[i]? = some o → RO K H ρ a o ∧ o.below i
/-- the slots -/
structure RE (K : PySem.W.Frag) (H : Hp) (ρ : Pl) (env : Env) (σ : List (Option V)) : Prop where
  len : env.length = σ.length
  sl : ∀ (i : Nat) (d : D), env[i]? = some (some d) → ∃ x, σ[i]? = some (some x) ∧ RD K H ρ x d
section
variable {K : PySem.W.Frag} {ρ ρ' : Pl} {H H' : Hp} {a : Addr} {st : Sto} {env : Env} {σ : List (Option V)}
theorem RD.ext0 {x : V} {d : D} (h : RD K H ρ x d) (e : Ext0 ρ H ρ' H') : RD K H' ρ' x d := by
  cases h with
  | p h => exact .p (h.ext0 e)
  | ref h => exact .ref (e.get h)
theorem RDs.ext0 (e : Ext0 ρ H ρ' H') : ∀ {xs : List V} {ds : List D}, RDs K H ρ xs ds → RDs K H' ρ' xs ds
  | _, _, .nil => .nil
  | _, _, .cons h q => .cons (h.ext0 e) (RDs.ext0 e q)
theorem RDk.ext0 (e : Ext0 ρ H ρ' H') : ∀ {xs : List (Key × V)} {ds : List (Key × D)}, RDk K H ρ xs ds → RDk K H' ρ' xs ds
  | _, _, .nil => .nil
  | _, _, .cons h q => .cons (h.ext0 e) (RDk.ext0 e q)
theorem RD.ext {x : V} {d : D} (h : RD K H ρ x d) (e : Ext ρ H ρ' H') : RD K H' ρ' x d := h.ext0 e.toExt0
theorem RDs.ext (e : Ext ρ H ρ' H') {xs : List V} {ds : List D} (h : RDs K H ρ xs ds) : RDs K H' ρ' xs ds := h.ext0 e.toExt0
theorem RDk.ext (e : Ext ρ H ρ' H') {xs : List (Key × V)} {ds : List (Key × D)} (h : RDk K H ρ xs ds) : RDk K H' ρ' xs ds := h.ext0 e.toExt0
theorem RE.ext0 (h : RE K H ρ env σ) (e : Ext0 ρ H ρ' H') : RE K H' ρ' env σ := ⟨h.len, fun i d q => let ⟨x, h1, h2⟩ := h.sl i d q; ⟨x, h1, h2.ext0 e⟩⟩
theorem RE.ext (h : RE K H ρ env σ) (e : Ext ρ H ρ' H') : RE K H' ρ' env σ := h.ext0 e.toExt0
theorem RDs.length : ∀ {xs : List V} {ds : List D}, RDs K H ρ xs ds → xs.length = ds.length
  | _, _, .nil => rfl
  | _, _, .cons _ q => by simp [RDs.length q]
theorem RDs.get : ∀ {xs : List V} {ds : List D} {i : Nat} {d : D}, RDs K H ρ xs ds → ds[i]? = some d → ∃ x, xs[i]? = some x ∧ RD K H ρ x d
  | _, _, _, _, .nil, e => by simp at e
  | _, _, 0, _, .cons h _, e => by simp at e; subst e; exact ⟨_, rfl, h⟩
  | _, _, i + 1, _, .cons _ q, e => by
    obtain ⟨x, h1, h2⟩ := RDs.get (i := i) q (by simpa using e)
    exact ⟨x, by simpa using h1, h2⟩
theorem RDs.append : ∀ {xs ys : List V} {ds es : List D}, RDs K H ρ xs ds → RDs K H ρ ys es → RDs K H ρ (xs ++ ys) (ds ++ es)
  | _, _, _, _, .nil, q => q
  | _, _, _, _, .cons h r, q => .cons h (RDs.append r q)
theorem RDs.dropLast : ∀ {xs : List V} {ds : List D}, RDs K H ρ xs ds → RDs K H ρ xs.dropLast ds.dropLast
  | _, _, .nil => .nil
  | _, _, .cons h .nil => .nil
  | _, _, .cons h (.cons h2 q) => .cons h (RDs.dropLast (.cons h2 q))
theorem RDs.eraseIdx : ∀ {xs : List V} {ds : List D} (i : Nat), RDs K H ρ xs ds → RDs K H ρ (xs.eraseIdx i) (ds.eraseIdx i)
  | _, _, _, .nil => .nil
  | _, _, 0, .cons _ q => q
  | _, _, i + 1, .cons h q => .cons h (RDs.eraseIdx i q)
theorem RDs.set {x : V} {d : D} (r : RD K H ρ x d) : ∀ {xs : List V} {ds : List D} (i : Nat), RDs K H ρ xs ds → RDs K H ρ (xs.set i x) (ds.set i d)
  | _, _, _, .nil => .nil
  | _, _, 0, .cons _ q => .cons r q
  | _, _, i + 1, .cons h q => .cons h (RDs.set r i q)
theorem RDs.ofP : ∀ {xs : List V} {ds : List P}, RPs K H ρ xs ds → RDs K H ρ xs (ds.map D.p)
  | _, _, .nil => .nil
  | _, _, .cons h q => .cons (.p h) (RDs.ofP q)
theorem RDs.toP : ∀ {ds : List P} {xs : List V}, RDs K H ρ xs (ds.map D.p) → RPs K H ρ xs ds
  | [], _, h => by cases h; exact .nil
  | d :: ds, _, h => by
    cases h with
    | cons a b => cases a with
      | p a => exact .cons a (RDs.toP b)
theorem RS.there (h : RS K H ρ st) (q : a ∈ ρ) : ∃ o, H a = some o := by
  rcases q with q | q
  · obtain ⟨i, hi, e⟩ := List.getElem_of_mem q
    have e1 : ρ.l[i]? = some a := by rw [List.getElem?_eq_getElem hi, e]
    have hs : i < st.length := by rw [← h.len]; exact hi
    obtain ⟨r, _⟩ := h.ob i a st[i] e1 (List.getElem?_eq_getElem hs)
    cases o : st[i] with
    | lst ds => rw [o] at r; obtain ⟨xs, r, _⟩ := r; exact ⟨_, r⟩
    | dct w ds => rw [o] at r; obtain ⟨xs, r, _⟩ := r; obtain ⟨u, r, _⟩ := r.some; exact ⟨_, r⟩
    | tup ds => rw [o] at r; obtain ⟨xs, r, _⟩ := r; exact ⟨_, r⟩
  · exact h.zt a q
theorem RS.sysN (h : RS K H ρ st) : sysModules ∉ ρ.l := fun q => by
  obtain ⟨φ, e⟩ := h.sysm
  obtain ⟨i, hi, e0⟩ := List.getElem_of_mem q
  have e1 : ρ.l[i]? = some sysModules := by rw [List.getElem?_eq_getElem hi, e0]
  have hs : i < st.length := by rw [← h.len]; exact hi
  obtain ⟨r, _⟩ := h.ob i sysModules st[i] e1 (List.getElem?_eq_getElem hs)
  cases o : st[i] with
  | lst ds => rw [o] at r; obtain ⟨xs, r, _⟩ := r; rw [e] at r; cases r
  | dct w ds => rw [o] at r; obtain ⟨xs, r, _⟩ := r; obtain ⟨u, r, z⟩ := r.some; rw [e] at r; cases r; exact z _ rfl
  | tup ds => rw [o] at r; obtain ⟨xs, r, _⟩ := r; rw [e] at r; cases r
theorem RS.fresh (h : RS K H ρ st) (n : H a = none) : a ∉ ρ := fun q => by
  obtain ⟨o, e⟩ := h.there q
  rw [n] at e; cases e
theorem RO.ext0 {o : O} (h : RO K H ρ a o) (e : Ext0 ρ H ρ' H') (k : ∀ u, H a = some u → H' a = some u) : RO K H' ρ' a o := by
  cases o with
  | lst ds => obtain ⟨xs, h1, h2⟩ := h; exact ⟨xs, k _ h1, h2.ext0 e⟩
  | dct w ds => obtain ⟨xs, h1, h2⟩ := h; exact ⟨xs, h1.to k, h2.ext0 e⟩
  | tup ds => obtain ⟨xs, h1, h2⟩ := h; exact ⟨xs, k _ h1, h2.ext0 e⟩
theorem RO.ext {o : O} (h : RO K H ρ a o) (e : Ext ρ H ρ' H') (k : ∀ u, H a = some u → H' a = some u) : RO K H' ρ' a o := h.ext0 e.toExt0 k
/-- all that was tracked stays -/
theorem RS.same (h : RS K H ρ st) (s : Same H H') : RS K H' ρ st := ⟨h.len, h.nd, h.dj, fun a q => let ⟨o, e⟩ := h.zt a q; ⟨o, s _ _ e⟩, let ⟨φ, q⟩ := h.sysm; ⟨φ, s _ _ q⟩, fun P q => ⟨(h.tab P q).1.same s, (h.tab P q).2⟩, fun i a o h1 h2 => let ⟨r, b⟩ := h.ob i a o h1 h2; ⟨r.ext (Ext.same s) fun u q => s _ _ q, b⟩⟩
theorem O.below_mono {o : O} {m n : Nat} (h : o.below m) (l : m ≤ n) : o.below n := by
  have one : ∀ d : D, d.below m → d.below n := by
    intro d q
    cases d with
    | p _ => trivial
    | ref k => exact Nat.lt_of_lt_of_le q l
  cases o with
  | lst ds => exact fun d hd => one d (h d hd)
  | dct w ds => exact fun d hd => one d.2 (h d hd)
  | tup ds => exact fun d hd => one d (h d hd)
theorem RDs.belows (hl : ρ.l.length ≤ st.length) : ∀ {xs : List V} {ds : List D}, RDs K H ρ xs ds → ∀ d ∈ ds, d.below st.length
  | _, _, .nil => fun d h => by cases h
  | _, _, .cons h q => fun d hd => by
    rcases List.mem_cons.mp hd with e | hd
    · subst e
      cases h with
      | p _ => trivial
      | ref e => exact Nat.lt_of_lt_of_le (List.getElem?_eq_some_iff.mp e).1 hl
    · exact RDs.belows hl q d hd
theorem ext_add {p : Addr} {u : HO} (n : H p = none) : Ext ρ H (ρ.add p) (upd H p u) := ⟨⟨⟨[p], [], rfl, rfl, fun a q => (by rw [List.mem_singleton.mp q]; exact n), fun a q => (by cases q)⟩, fun a o q _ _ => same_new n _ _ q, fun a q => (same_new n).free q, fun a q _ => q.same (same_new n)⟩, fun a o v q => same_new n _ _ q⟩
theorem TabG.ne {p : Addr} (h : TabG H a) (n : H p = none) : a ≠ p := fun e => by
  obtain ⟨_, q, _⟩ := h
  rw [e, n] at q; cases q
/-- a new place -/
theorem RS.add {p : Addr} {o : O} {u : HO} (h : RS K H ρ st) (n : H p = none) (r : RO K (upd H p u) (ρ.add p) p o) (b : o.below st.length) : RS K (upd H p u) (ρ.add p) (st ++ [o]) := by
  have hp := h.fresh n
  have e : Ext ρ H (ρ.add p) (upd H p u) := ext_add n
  refine ⟨by simp [Pl.add, h.len], ?_, ?_, fun a q => let ⟨o, e⟩ := h.zt a q; ⟨o, same_new n _ _ e⟩, let ⟨φ, q⟩ := h.sysm; ⟨φ, same_new n _ _ q⟩, fun P q => ⟨(h.tab P q).1.same (same_new n), fun z => ?_⟩, fun i a o' h1 h2 => ?_⟩
  rotate_left 2
  · rcases z with z | z
    · rcases List.mem_append.mp z with z | z
      · exact (h.tab P q).2 (.inl z)
      · exact (h.tab P q).1.ne n (List.mem_singleton.mp z)
    · exact (h.tab P q).2 (.inr z)
  rotate_left
  · show (ρ.l ++ [p]).Nodup
    rw [List.nodup_append]
    exact ⟨h.nd, by simp, fun a ha b hb => by rw [List.mem_singleton.mp hb]; rintro rfl; exact hp (.inl ha)⟩
  · intro a ha
    rcases List.mem_append.mp ha with ha | ha
    · exact h.dj a ha
    · rw [List.mem_singleton.mp ha]
      exact fun z => hp (.inr z)
  · have h1 : (ρ.l ++ [p])[i]? = some a := h1
    by_cases hi : i < ρ.l.length
    · rw [List.getElem?_append_left hi] at h1
      rw [List.getElem?_append_left (by rw [← h.len]; exact hi)] at h2
      obtain ⟨r', b'⟩ := h.ob i a o' h1 h2
      exact ⟨r'.ext e fun w q => same_new n _ _ q, b'⟩
    · have e1 : i = ρ.l.length := by
        have := (List.getElem?_eq_some_iff.mp h1).1
        simp at this; omega
      subst e1
      rw [List.getElem?_append_right (Nat.le_refl _), Nat.sub_self] at h1
      rw [h.len, List.getElem?_append_right (Nat.le_refl _), Nat.sub_self] at h2
      cases h1; cases h2
      rw [h.len]
      exact ⟨r, b⟩
/-- a place is written -/
theorem ext0_put {p : Addr} {u w : HO} (m : p ∈ ρ.l) (n : H p = some w) : Ext0 ρ H ρ (upd H p u) :=
  ⟨grow_self, fun a o q z _ => by
    rw [upd_ne (show a ≠ p from fun e => z (e ▸ m))]; exact q, fun a q => by
    by_cases e : a = p
    · subst e; rw [upd_same] at q; cases q
    · rw [upd_ne e] at q; exact q, fun a ⟨ps, q, t⟩ z => ⟨ps, by rw [upd_ne (show a ≠ p from fun e => z (e ▸ m))]; exact q, t⟩⟩
theorem ext_put {p : Addr} {u w : HO} (m : p ∈ ρ.l) (n : H p = some w) (hw : ∀ o v, w ≠ .frz o v := by intro _ _ z; cases z) : Ext ρ H ρ (upd H p u) :=
  ⟨ext0_put m n, fun a o v q => by
    rw [upd_ne (show a ≠ p from fun e => by subst e; rw [n] at q; exact hw _ _ (Option.some.inj q))]; exact q⟩
theorem RS.put {p : Addr} {o : O} {u w : HO} {l : Nat} (h : RS K H ρ st) (hl : ρ.l[l]? = some p) (n : H p = some w) (r : RO K (upd H p u) ρ p o) (b : o.below l) : RS K (upd H p u) ρ (st.set l o) := by
  have m : p ∈ ρ.l := List.mem_of_getElem? hl
  have hll := (List.getElem?_eq_some_iff.mp hl).1
  refine ⟨by simp [h.len], h.nd, h.dj, fun a q => ?_, let ⟨φ, q⟩ := h.sysm; ⟨φ, (ext0_put m n).keep _ _ q h.sysN fun _ z => (by cases z)⟩, fun P q => ⟨(ext0_put m n).tbl P (h.tab P q).1 fun z => (h.tab P q).2 (.inl z), (h.tab P q).2⟩, fun i a o' h1 h2 => ?_⟩
  · obtain ⟨o, e⟩ := h.zt a q
    by_cases ea : a = p
    · subst ea; exact ⟨_, upd_same⟩
    · exact ⟨o, by rw [upd_ne ea]; exact e⟩
  by_cases hi : i = l
  · subst hi
    rw [hl] at h1; cases h1
    rw [List.getElem?_set_self (by rw [← h.len]; exact hll)] at h2
    cases h2
    exact ⟨r, b⟩
  · rw [List.getElem?_set_ne (Ne.symm hi)] at h2
    obtain ⟨r', b'⟩ := h.ob i a o' h1 h2
    have ne : a ≠ p := by
      rintro rfl
      obtain ⟨hi', e1⟩ := List.getElem?_eq_some_iff.mp h1
      obtain ⟨_, e2⟩ := List.getElem?_eq_some_iff.mp hl
      exact hi ((List.getElem_inj h.nd).mp (e1.trans e2.symm))
    exact ⟨r'.ext0 (ext0_put m n) fun w q => by rw [upd_ne ne]; exact q, b'⟩
/-- the last places are dropped -/
theorem Pl.cut_sub {n : Nat} : ∀ b ∈ ρ.cut n, b ∈ ρ := fun b h => h.elim (fun z => .inl (List.mem_of_mem_take z)) .inr
theorem RDs.cut {n : Nat} : ∀ {xs : List V} {ds : List D}, RDs K H ρ xs ds → (∀ d ∈ ds, d.below n) → RDs K H (ρ.cut n) xs ds
  | _, _, .nil, _ => .nil
  | _, _, .cons h q, b => .cons (by
      cases h with
      | p h => exact .p (h.less Pl.cut_sub)
      | ref h => exact .ref (by show (ρ.l.take n)[_]? = _; rw [List.getElem?_take_of_lt (b _ List.mem_cons_self)]; exact h)) (RDs.cut q fun d hd => b d (List.mem_cons_of_mem _ hd))
theorem RDk.cut {n : Nat} : ∀ {xs : List (Key × V)} {ds : List (Key × D)}, RDk K H ρ xs ds → (∀ d ∈ ds, d.2.below n) → RDk K H (ρ.cut n) xs ds
  | _, _, .nil, _ => .nil
  | _, _, .cons h q, b => .cons (by
      cases h with
      | p h => exact .p (h.less Pl.cut_sub)
      | ref h => exact .ref (by show (ρ.l.take n)[_]? = _; rw [List.getElem?_take_of_lt (b _ List.mem_cons_self)]; exact h)) (RDk.cut q fun d hd => b d (List.mem_cons_of_mem _ hd))
theorem RS.cut (h : RS K H ρ st) (n : Nat) : RS K H (ρ.cut n) (st.take n) := by
  refine ⟨by simp [Pl.cut, h.len], h.nd.sublist (List.take_sublist _ _), fun a ha => h.dj a (List.mem_of_mem_take ha), h.zt, h.sysm, fun P q => ⟨(h.tab P q).1, fun z => (h.tab P q).2 (Pl.cut_sub P z)⟩, fun i a o h1 h2 => ?_⟩
  have h1 : (ρ.l.take n)[i]? = some a := h1
  have hi : i < n := by
    have := (List.getElem?_eq_some_iff.mp h1).1
    simp at this; omega
  rw [List.getElem?_take_of_lt hi] at h1 h2
  obtain ⟨r, b⟩ := h.ob i a o h1 h2
  refine ⟨?_, b⟩
  cases o with
  | lst ds => obtain ⟨xs, r1, r2⟩ := r; exact ⟨xs, r1, r2.cut fun d hd => O.below_mono b (Nat.le_of_lt hi) d hd⟩
  | dct w ds => obtain ⟨xs, r1, r2⟩ := r; exact ⟨xs, r1, r2.cut fun d hd => O.below_mono b (Nat.le_of_lt hi) d hd⟩
  | tup ds => obtain ⟨xs, r1, r2⟩ := r; exact ⟨xs, r1, r2.cut fun d hd => O.below_mono b (Nat.le_of_lt hi) d hd⟩
/-! ### a reserved list is begun, grows, comes to an end -/
def Pl.res (ρ : Pl) (p : Addr) : Pl := ⟨ρ.l, p :: ρ.z⟩
theorem ext_res {p : Addr} {u : HO} (n : H p = none) : Ext ρ H (ρ.res p) (upd H p u) := ⟨⟨⟨[], [p], by simp [Pl.res], rfl, fun a q => (by cases q), fun a q => (by rw [List.mem_singleton.mp q]; exact n)⟩, fun a o q _ _ => same_new n _ _ q, fun a q => (same_new n).free q, fun a q _ => q.same (same_new n)⟩, fun a o v q => same_new n _ _ q⟩
/-- two heaps that differ at p alone -/
def But (p : Addr) (H H' : Hp) : Prop := ∀ b, b ≠ p → H' b = H b
theorem But.rd {p : Addr} {u : HO} (b : But p H H') (n : a ≠ p) (h : Rd H a u) : Rd H' a u := by
  rcases h with h | ⟨o, h⟩
  · exact .inl ((b a n).trans h)
  · exact .inr ⟨o, (b a n).trans h⟩
/-- what is data or a place behind ρ, p apart -/
structure Chg (p : Addr) (ρ : Pl) (H : Hp) (ρ' : Pl) (H' : Hp) : Prop where
  but : But p H H'
  l : ρ'.l = ρ.l
  np : p ∉ ρ.l
  sub : ∀ b ∈ ρ', b = p ∨ b ∈ ρ
  ap : ∀ a, (∃ u, Rd H a u) → a ∉ ρ → a ≠ p
theorem Chg.out {p : Addr} {u : HO} (c : Chg p ρ H ρ' H') (h : Rd H a u) (n : a ∉ ρ) : Rd H' a u ∧ a ∉ ρ' := by
  have ne := c.ap a ⟨u, h⟩ n
  exact ⟨c.but.rd ne h, fun z => (c.sub a z).elim ne n⟩
mutual
theorem RP.chg {p : Addr} (c : Chg p ρ H ρ' H') : ∀ {d : P} {x : V}, RP K H ρ x d → RP K H' ρ' x d
  | .none, _, .non => .non
  | .bool b, _, .bl _ => .bl b
  | .int i, _, .int _ => .int i
  | .str x, _, .str _ => .str x
  | .list ds, _, .lst h q => .lst (h.elim (fun z => .inl (c.out z.1 z.2)) .inr) (RPs.chg c q)
  | .tuple ds, _, .tup h q => .tup (h.elim (fun z => .inl (c.out z.1 z.2)) .inr) (RPs.chg c q)
  | .dict ds, _, .dct h n q => .dct (c.out h n).1 (c.out h n).2 (RPk.chg c q)
theorem RPs.chg {p : Addr} (c : Chg p ρ H ρ' H') : ∀ {ds : List P} {xs : List V}, RPs K H ρ xs ds → RPs K H' ρ' xs ds
  | [], _, .nil => .nil
  | _ :: _, _, .cons h q => .cons (RP.chg c h) (RPs.chg c q)
theorem RPk.chg {p : Addr} (c : Chg p ρ H ρ' H') : ∀ {ds : List (P × P)} {xs : List (Key × V)}, RPk K H ρ xs ds → RPk K H' ρ' xs ds
  | [], _, .nil => .nil
  | _ :: _, _, .cons h q => .cons (RP.chg c h) (RPk.chg c q)
end
theorem RD.chg {p : Addr} (c : Chg p ρ H ρ' H') {x : V} {d : D} (h : RD K H ρ x d) : RD K H' ρ' x d := by
  cases h with
  | p h => exact .p (h.chg c)
  | ref h => exact .ref (by rw [c.l]; exact h)
theorem RDs.chg {p : Addr} (c : Chg p ρ H ρ' H') : ∀ {xs : List V} {ds : List D}, RDs K H ρ xs ds → RDs K H' ρ' xs ds
  | _, _, .nil => .nil
  | _, _, .cons h q => .cons (h.chg c) (RDs.chg c q)
theorem RDk.chg {p : Addr} (c : Chg p ρ H ρ' H') : ∀ {xs : List (Key × V)} {ds : List (Key × D)}, RDk K H ρ xs ds → RDk K H' ρ' xs ds
  | _, _, .nil => .nil
  | _, _, .cons h q => .cons (h.chg c) (RDk.chg c q)
theorem RE.chg {p : Addr} (c : Chg p ρ H ρ' H') (h : RE K H ρ env σ) : RE K H' ρ' env σ := ⟨h.len, fun i d q => let ⟨x, h1, h2⟩ := h.sl i d q; ⟨x, h1, h2.chg c⟩⟩
theorem RS.chg {p : Addr} (c : Chg p ρ H ρ' H') (h : RS K H ρ st) (hz : ∀ a ∈ ρ'.z, (∃ o, H' a = some o) ∧ (a ∈ ρ.z ∨ a = p)) (hs : sysModules ≠ p) (ht : ∀ P ∈ tabsK K, P ≠ p) : RS K H' ρ' st := by
  refine ⟨by rw [c.l]; exact h.len, by rw [c.l]; exact h.nd, fun a ha q => ?_, fun a q => (hz a q).1, let ⟨φ, q⟩ := h.sysm; ⟨φ, (c.but _ hs).trans q⟩, fun P q => ⟨let ⟨ps, e, t⟩ := (h.tab P q).1; ⟨ps, (c.but _ (ht P q)).trans e, t⟩, fun z => ((c.sub P z).elim (ht P q) (h.tab P q).2)⟩, fun i a o h1 h2 => ?_⟩
  · rw [c.l] at ha
    rcases (hz a q).2 with z | z
    · exact h.dj a ha z
    · exact c.np (z ▸ ha)
  rw [c.l] at h1
  obtain ⟨r, b⟩ := h.ob i a o h1 h2
  have ne : a ≠ p := fun e => c.np (e ▸ List.mem_of_getElem? h1)
  refine ⟨?_, b⟩
  cases o with
  | lst ds => obtain ⟨xs, r1, r2⟩ := r; exact ⟨xs, (c.but _ ne).trans r1, r2.chg c⟩
  | dct w ds => obtain ⟨xs, r1, r2⟩ := r; exact ⟨xs, r1.to fun u z => (c.but _ ne).trans z, r2.chg c⟩
  | tup ds => obtain ⟨xs, r1, r2⟩ := r; exact ⟨xs, (c.but _ ne).trans r1, r2.chg c⟩
end
/-! ### what is seen of a value now -/
inductive RV (K : PySem.W.Frag) (H : Hp) (ρ : Pl) : V → P → Prop
  | non : RV K H ρ .non .none
  | bl (b : Bool) : RV K H ρ (.bl b) (.bool b)
  | int (i : Int) : RV K H ρ (.int i) (.int i)
  | str (x : Str) : RV K H ρ (.str x) (.str x)
  | lst {a : Addr} {xs : List V} {ds : List P} : LsV K H a xs → RPs K H ρ xs ds → RV K H ρ (.ref a) (.list ds)
  | tup {a : Addr} {xs : List V} {ds : List P} : TpA K H ρ a xs → RPs K H ρ xs ds → RV K H ρ (.ref a) (.tuple ds)
  | dct {a : Addr} {kvs : List (Key × V)} {ds : List (P × P)} : Rd H a (.dK kvs) → RPk K H ρ kvs ds → RV K H ρ (.ref a) (.dict ds)
inductive RVs (K : PySem.W.Frag) (H : Hp) (ρ : Pl) : List V → List P → Prop
  | nil : RVs K H ρ [] []
  | cons {v : V} {vs : List V} {d : P} {ds : List P} : RV K H ρ v d → RVs K H ρ vs ds → RVs K H ρ (v :: vs) (d :: ds)
section
variable {K : PySem.W.Frag} {ρ ρ' : Pl} {H H' : Hp} {a : Addr} {st : Sto}
theorem RP.rv {x : V} {d : P} (h : RP K H ρ x d) : RV K H ρ x d := by
  cases h with
  | non => exact .non
  | bl b => exact .bl b
  | int i => exact .int i
  | str x => exact .str x
  | lst h q => exact .lst h.lsv q
  | tup h q => exact .tup h q
  | dct h n q => exact .dct h q
theorem RDk.toP : ∀ {kvs : List (Key × D)} {xs : List (Key × V)} {ds : List P}, RDk K H ρ xs kvs → allP (kvs.map Prod.snd) = some ds → RPk K H ρ xs ((kvs.map fun kv => keyP kv.1).zip ds)
  | [], _, _, .nil, e => by cases e; exact .nil
  | (k, d) :: r, _, ds, .cons h q, e => by
    cases d with
    | ref l => cases e
    | p d =>
      have e' : (allP (r.map Prod.snd)).map (d :: ·) = some ds := e
      cases z : allP (r.map Prod.snd) with
      | none => rw [z] at e'; cases e'
      | some es =>
        rw [z] at e'; cases e'
        cases h with
        | p h => exact .cons h (RDk.toP q z)
theorem RD.view {x : V} {d : D} {q : P} (h : RD K H ρ x d) (s : RS K H ρ st) (e : view st d = some q) : RV K H ρ x q := by
  cases h with
  | p h => cases e; exact h.rv
  | @ref a l h =>
    simp only [PB.view] at e
    cases o : st[l]? with
    | none => rw [o] at e; cases e
    | some o' =>
      rw [o] at e
      obtain ⟨r, _⟩ := s.ob l a o' h o
      cases o' with
      | tup xs => cases e
      | lst xs =>
        obtain ⟨vs, r1, r2⟩ := r
        cases z : allP xs with
        | none => simp [z] at e
        | some ds =>
          simp [z] at e
          subst e
          rw [allP_some z] at r2
          exact .lst (.inl (.inl r1)) r2.toP
      | dct w xs =>
        obtain ⟨vs, r1, r2⟩ := r
        cases z : allP (xs.map Prod.snd) with
        | none => simp [z] at e
        | some ds =>
          simp [z] at e
          subst e
          exact .dct r1.rd (r2.toP z)
end
end PB
set_option maxRecDepth 100000
/-! Pb, part 3: operators and built-ins by values. -/
namespace PB
open PySem PySem.Spec PyProof.Rows L2
section
variable {K : PySem.W.Frag} {ρ ρ' : Pl} {H H' : Hp} {a : Addr} {st : Sto}
mutual
theorem RP.dp : ∀ {d : P} {x : V}, d.canLay0 = true → RP K H ρ x d → Dp K H x d
  | .none, _, _, .non => .non
  | .bool b, _, _, .bl _ => .bl b
  | .int i, _, _, .int _ => .int i
  | .str x, _, _, .str _ => .str x
  | .list ds, _, c, .lst h q => .lst h.sq (RPs.dp (by simpa [PyData.canLay0] using c) q)
  | .tuple ds, _, c, .tup h q => .tup h.sq (RPs.dp (by simpa [PyData.canLay0] using c) q)
  | .dict _, _, c, _ => by simp [PyData.canLay0] at c
theorem RPs.dp : ∀ {ds : List P} {xs : List V}, PyData.canLayAll0 ds = true → RPs K H ρ xs ds → DpAll K H xs ds
  | [], _, _, .nil => .nil
  | d :: ds, _, c, .cons h q => by
    have c' : d.canLay0 = true ∧ PyData.canLayAll0 ds = true := by simpa [PyData.canLayAll0] using c
    exact .cons (RP.dp c'.1 h) (RPs.dp c'.2 q)
end
theorem RV.dp {d : P} {x : V} (c : d.canLay0 = true) (h : RV K H ρ x d) : Dp K H x d := by
  cases h with
  | non => exact .non
  | bl b => exact .bl b
  | int i => exact .int i
  | str x => exact .str x
  | lst h q => exact .lst h.sq (RPs.dp (by simpa [PyData.canLay0] using c) q)
  | tup h q => exact .tup h.sq (RPs.dp (by simpa [PyData.canLay0] using c) q)
  | dct h q => simp [PyData.canLay0] at c
theorem lay_of {d : P} (h : shaped d = true) : d.canLay0 = true := SeqAt.canLay_of_shaped h
end
/-! ### reading for repr -/
section
variable {X : Cx} {pins : List (Addr × Obj)} {σ : List (Option V)} {H : Hp} {s : Shared} {ρ : Pl} {st : Sto}
theorem list_at (I : Inv X pins σ H s) {a : Addr} {xs : List V} (h : LsV X.K H a xs) : xs.length ≤ sizeLine ∧ ∃ (ws : List Value) (m : Nat), Vals xs ws ∧ s.heap.get? a = some { cls := .type "list", data := .seq ws.toArray m } := by
  rcases h with h | ⟨ws, m, h1, h2, h3⟩
  · obtain ⟨z, ws, m, r, e⟩ := h.ok I.hok
    exact ⟨z, ws, m, r, e⟩
  · exact ⟨h3, ws, m, h2, I.kIn a _ h1⟩
theorem list_sys (I : Inv X pins σ H s) (S : RS X.K H ρ st) {a : Addr} {xs : List V} (h : LsV X.K H a xs) : a ≠ sysModules := by
  rintro rfl
  obtain ⟨φ, q⟩ := S.sysm
  rcases h with (h | ⟨o, h⟩) | ⟨ws, m, h1, h2, h3⟩
  · rw [q] at h; cases h
  · rw [q] at h; cases h
  · have b := I.ok.mod.kin _ _ h1
    rw [(I.bs _ _ b).2] at q; cases q
theorem key_reads {h : Heap} {prog : Program} {w : World} : ∀ {es : List DictEntry} {vs : List (Key × Value)} {kvs : List (Key × V)} {ds : List (P × P)}, PySem.Pairs (mixKind prog w) es vs → KV kvs vs → RPk X.K H ρ kvs ds →
    ReadsAll h (es.map fun e => e.key) (ds.map fun d => d.1) [] ∧ ∃ us, Vals (kvs.map Prod.snd) us ∧ es.map (fun e => e.val) = us
  | _, _, _, _, .nil, .nil, .nil => ⟨.nil, [], .nil, rfl⟩
  | e :: es, kv :: vs, (k, v) :: kvs, (_, d) :: ds, .cons hk hv r, .cons ⟨e1, e2⟩ q, .cons p pr => by
    obtain ⟨r1, us, r2, r3⟩ := key_reads (h := h) r q pr
    refine ⟨?_, kv.2 :: us, .cons e2 r2, by simp [hv, r3]⟩
    have hk' : keyIs kv.1 e.key = true := hk
    have e1' : k = kv.1 := e1
    subst e1'
    rcases keyIs_shape hk' with ⟨i, t, h1, h2⟩ | ⟨x, t, h1, h2⟩
    · have z := ReadsAll.cons (h := h) (Reads.int i t) r1
      rw [List.map_cons, List.map_cons, h2, h1]
      exact z
    · have z := ReadsAll.cons (h := h) (Reads.str x t) r1
      rw [List.map_cons, List.map_cons, h2, h1]
      exact z
mutual
theorem RP.reads (I : Inv X pins σ H s) (S : RS X.K H ρ st) : ∀ (d : P) (x : V) (u : Value), RP X.K H ρ x d → RelV x u → ∃ as, Reads s.heap u d as ∧ sysModules ∉ as
  | .none, _, _, .non, r => by cases r; exact ⟨_, .none, by simp⟩
  | .bool b, _, _, .bl _, r => by cases r; exact ⟨_, .bool b, by simp⟩
  | .int i, _, _, .int _, r => by obtain ⟨t, rfl⟩ := r; exact ⟨_, .int i t, by simp⟩
  | .str z, _, _, .str _, r => by obtain ⟨t, rfl⟩ := r; exact ⟨_, .str z t, by simp⟩
  | .list ds, _, _, .lst h q, r => by
    cases r
    obtain ⟨_, ws, m, r1, e⟩ := list_at I h.lsv
    obtain ⟨as, r2, n⟩ := RPs.reads I S ds _ ws q r1
    exact ⟨_, .list e rfl rfl (by simpa using r2), by simp [n, (list_sys I S h.lsv).symm]⟩
  | .tuple ds, _, _, .tup h q, r => by
    cases r
    obtain ⟨ws, r1, ⟨o, ho, hc, m, hd⟩, _⟩ := I.tuple h.sq
    obtain ⟨as, r2, n⟩ := RPs.reads I S ds _ ws q r1
    exact ⟨_, .tuple ho hc hd (by simpa using r2), n⟩
  | .dict ds, _, _, .dct (a := a) (kvs := kvs) h n q, r => by
    cases r
    obtain ⟨_, ne, vs, kv, o, es, ep, ho, ex, hd, _, pr, _⟩ := h.ok I.hok
    obtain ⟨k1, us, k2, k3⟩ := key_reads (h := s.heap) pr kv q
    obtain ⟨bs, k4, n2⟩ := RPk.reads I S ds kvs us q k2
    refine ⟨_, .dict ho ex.1 hd k1 (by rw [k3]; exact k4), ?_⟩
    have : sysModules ≠ a := fun z => by rw [← z] at ne; simp at ne
    simp [this, n2]
theorem RPs.reads (I : Inv X pins σ H s) (S : RS X.K H ρ st) : ∀ (ds : List P) (xs : List V) (us : List Value), RPs X.K H ρ xs ds → Vals xs us → ∃ as, ReadsAll s.heap us ds as ∧ sysModules ∉ as
  | [], _, _, .nil, .nil => ⟨_, .nil, by simp⟩
  | d :: ds, _, _, .cons h q, .cons r t => by
    obtain ⟨as, h1, n1⟩ := RP.reads I S d _ _ h r
    obtain ⟨bs, h2, n2⟩ := RPs.reads I S ds _ _ q t
    exact ⟨_, .cons h1 h2, by simp [n1, n2]⟩
theorem RPk.reads (I : Inv X pins σ H s) (S : RS X.K H ρ st) : ∀ (ds : List (P × P)) (kvs : List (Key × V)) (us : List Value), RPk X.K H ρ kvs ds → Vals (kvs.map Prod.snd) us → ∃ as, ReadsAll s.heap us (ds.map fun d => d.2) as ∧ sysModules ∉ as
  | [], _, _, .nil, .nil => ⟨_, .nil, by simp⟩
  | (_, d) :: ds, _, _, .cons h q, .cons r t => by
    obtain ⟨as, h1, n1⟩ := RP.reads I S d _ _ h r
    obtain ⟨bs, h2, n2⟩ := RPk.reads I S ds _ _ q t
    exact ⟨_, .cons h1 h2, by simp [n1, n2]⟩
end
theorem RV.reads (I : Inv X pins σ H s) (S : RS X.K H ρ st) {d : P} {x : V} {u : Value} (h : RV X.K H ρ x d) (r : RelV x u) : ∃ as, Reads s.heap u d as ∧ sysModules ∉ as := by
  cases h with
  | non => exact RP.reads I S _ _ _ .non r
  | bl b => exact RP.reads I S _ _ _ (.bl b) r
  | int i => exact RP.reads I S _ _ _ (.int i) r
  | str x => exact RP.reads I S _ _ _ (.str x) r
  | tup h q => exact RP.reads I S _ _ _ (.tup h q) r
  | lst h q =>
    cases r
    obtain ⟨_, ws, m, r1, e⟩ := list_at I h
    obtain ⟨as, r2, n⟩ := RPs.reads I S _ _ ws q r1
    exact ⟨_, .list e rfl rfl (by simpa using r2), by simp [n, (list_sys I S h).symm]⟩
  | @dct a kvs ds h q =>
    cases r
    obtain ⟨_, ne, vs, kv, o, es, ep, ho, ex, hd, _, pr, _⟩ := h.ok I.hok
    obtain ⟨k1, us, k2, k3⟩ := key_reads (h := s.heap) pr kv q
    obtain ⟨bs, k4, n2⟩ := RPk.reads I S ds kvs us q k2
    refine ⟨_, .dict ho ex.1 hd k1 (by rw [k3]; exact k4), ?_⟩
    have : sysModules ≠ a := fun z => by rw [← z] at ne; simp at ne
    simp [this, n2]
end
/-! ### what an operation on data must give -/
/-- a new list comes at a new place; all else by its relation -/
def FP (K : PySem.W.Frag) (H : Hp) (ρ : Pl) (r : P) (Q : VK) : Prop := ∀ H1, Same H H1 → match r with
  | .list ds => ∀ xs p, RPs K H1 ρ xs ds → H1 p = none → Q (.ref p) (upd H1 p (.lst xs))
  | r => ∀ z, RP K H1 ρ z r → Q z H1
/-- an operation on data: the values seen, the answer -/
def OnP (X : Cx) (f : List P → Option P) : List V → Hp → VK → Prop := fun vs H Q => ∃ (ρ : Pl) (st : Sto) (ds : List P) (r : P), RS X.K H ρ st ∧ RVs X.K H ρ vs ds ∧ f ds = some r ∧ FP X.K H ρ r Q
def f2 (g : P → P → Option P) : List P → Option P
  | [a, b] => g a b
  | _ => none
def rBin (X : Cx) (op : Operator) : R2 := fun x y H Q => OnP X (f2 (binP op)) [x, y] H Q
def rCmp (X : Cx) (op : CmpOp) : R2 := fun x y H Q => OnP X (f2 fun a b => (cmpP op a b).map .bool) [x, y] H Q
section
variable {X : Cx} {pins : List (Addr × Obj)} {σ : List (Option V)} {H H1 : Hp} {s : Shared} {ρ : Pl} {st : Sto} {Q : VK}
theorem FP.int {i : Int} (q : FP X.K H ρ (.int i) Q) : Q (.int i) H := q H (Same.refl H) (.int i) (.int i)
theorem FP.bl {i : Bool} (q : FP X.K H ρ (.bool i) Q) : Q (.bl i) H := q H (Same.refl H) (.bl i) (.bl i)
theorem FP.str {i : Str} (q : FP X.K H ρ (.str i) Q) : Q (.str i) H := q H (Same.refl H) (.str i) (.str i)
theorem FP.non (q : FP X.K H ρ .none Q) : Q .non H := q H (Same.refl H) .non .non
theorem FP.lst {ds : List P} {xs : List V} (q : FP X.K H ρ (.list ds) Q) (r : RPs X.K H ρ xs ds) {p : Addr} (n : H p = none) : Q (.ref p) (upd H p (.lst xs)) := q H (Same.refl H) xs p r n
theorem FP.old {ds : List P} {x : V} (q : FP X.K H ρ (.tuple ds) Q) (r : RP X.K H ρ x (.tuple ds)) : Q x H := q H (Same.refl H) x r
theorem FP.tup {ds : List P} {xs : List V} (q : FP X.K H ρ (.tuple ds) Q) (S : RS X.K H ρ st) (r : RPs X.K H ρ xs ds) {p : Addr} (n : H p = none) : Q (.ref p) (upd H p (.tup xs)) :=
  q _ (same_new n) (.ref p) (.tup (.inl ⟨.inl upd_same, S.fresh n⟩) (r.ext (Ext.same (same_new n))))
theorem RVs.one {x : V} {ds : List P} (h : RVs X.K H ρ [x] ds) : ∃ a, ds = [a] ∧ RV X.K H ρ x a := by
  cases h with
  | cons a b => cases b; exact ⟨_, rfl, a⟩
theorem RVs.two {x y : V} {ds : List P} (h : RVs X.K H ρ [x, y] ds) : ∃ a b, ds = [a, b] ∧ RV X.K H ρ x a ∧ RV X.K H ρ y b := by
  cases h with
  | cons a b => cases b with
    | cons b c => cases c; exact ⟨_, _, rfl, a, b⟩
theorem new_list {ws : List Value} {xs : List V} {t : Nat} (I : Inv X pins σ H s) (hv : Vals xs ws) (hz : xs.length ≤ sizeLine) :
    Inv X pins σ (upd H s.heap.objs.size (.lst xs)) { s with heap := s.heap.push { cls := .type "list", data := .seq ws.toArray }, toks := t } := Inv.lnew I hv hz
theorem size_new (I : Inv X pins σ H s) : H s.heap.objs.size = none := Inv.fresh I
theorem cat_any : OpR X (binaryOp .Add) (fun x y H Q => ∃ a b xs ys, x = .ref a ∧ y = .ref b ∧ LsV X.K H a xs ∧ LsV X.K H b ys ∧ xs.length + ys.length ≤ sizeLine ∧ ∀ p, H p = none → Q (.ref p) (upd H p (.lst (xs ++ ys)))) := by
  intro pins s σ H x y v u Q I rx ry h
  obtain ⟨a, b, xs, ys, rfl, rfl, ha, hb, hz, q⟩ := h
  cases rx
  cases ry
  obtain ⟨_, ws, m, r1, e1⟩ := list_at I ha
  obtain ⟨_, ws2, m2, r2, e2⟩ := list_at I hb
  have l1 := r1.length
  have l2 := r2.length
  refine PySem.P.add_list e1 e2 ?_ (by simp only [List.size_toArray]; omega)
  rw [show ws.toArray ++ ws2.toArray = (ws ++ ws2).toArray from by simp]
  exact ⟨.ref _, _, new_list (t := s.toks) I (r1.append r2) (by simp only [List.length_append]; omega), rfl, q _ (size_new I)⟩
theorem rep_flat (ws : List Value) (k : Nat) : List.foldl (fun x1 x2 => x1 ++ x2) #[] (List.replicate (if ws.toArray.isEmpty = true then 0 else k) ws.toArray) = (List.replicate k ws).flatten.toArray := by
  have g : ∀ (m : Nat) (acc : List Value), List.foldl (fun x1 x2 => x1 ++ x2) acc.toArray (List.replicate m ws.toArray) = (acc ++ (List.replicate m ws).flatten).toArray := by
    intro m
    induction m with
    | zero => intro acc; simp
    | succ m ih =>
      intro acc
      rw [List.replicate_succ, List.foldl_cons, show acc.toArray ++ ws.toArray = (acc ++ ws).toArray from by simp, ih, List.replicate_succ, List.flatten_cons, List.append_assoc]
  cases ws with
  | nil => simp
  | cons w r =>
    have := g k []
    simpa using this
theorem rep_any : OpR X (binaryOp .Mult) (fun x y H Q => ∃ a k xs, x = .ref a ∧ y = .int k ∧ LsV X.K H a xs ∧ 0 ≤ k ∧ k < 2 ^ 63 ∧ xs.length * k.toNat ≤ sizeLine ∧
    ∀ p, H p = none → Q (.ref p) (upd H p (.lst (List.replicate k.toNat xs).flatten))) := by
  intro pins s σ H x y v u Q I rx ry h
  obtain ⟨a, k, xs, rfl, rfl, ha, k0, k1, hz, q⟩ := h
  cases rx
  obtain ⟨t, rfl⟩ := ry
  obtain ⟨_, ws, m, r, e⟩ := list_at I ha
  have hl : ws.toArray.size * k.toNat ≤ sizeLine := by simpa [← r.length] using hz
  have c1 : ¬ ws.toArray.size * k.toNat > (2 ^ 63 - 1) / 8 := by
    have : (sizeLine : Nat) ≤ (2 ^ 63 - 1) / 8 := by decide
    omega
  have c2 : ¬ (!Builtin.List.listFitsIndex k) = true := by
    rw [fitsIndex_both (by omega) k1]; simp
  have c3 : ¬ Builtin.List.listTooLong (ws.toArray.size * k.toNat) = true := by
    rw [notLongL hl]; simp
  refine wpAny_binaryOp_repeat_ref (T := "list") (U := "int") (by decide) ⟨_, e, rfl⟩ (fun s2 => typeIs_int s2 k t) noFill_list_mul F.fills_int_mul F.slot_int_rmul repeat_list F.slot_int_index.lookup ?_
  refine call_meets F.slot_int_rmul (typeIs_int s k t) F.entry_int_rmul (F.args_int_rmul_2 _ _) (int___rmul___int_list k t a ws.toArray m) ⟨e, rfl, ⟨_, e, rfl⟩, ?_⟩
  refine call_meets F.slot_list_mul ⟨_, e, rfl⟩ F.entry_list_mul (F.args_list_mul_2 _ _) (AutoListH.list___mul___list_int_3 a ws.toArray m k t c2 c1 c3) ⟨e, ?_⟩
  rw [rep_flat]
  refine ⟨.ref _, _, new_list (t := s.toks) I (r.rep k.toNat) ?_, rfl, q _ (size_new I)⟩
  rw [PyProof.Rows.lm_len_rep_flat, Nat.mul_comm]
  exact hz
end
end PB
set_option maxRecDepth 100000
set_option maxHeartbeats 4000000
/-! Pb, part 3t: a tuple taken once; a tuple beside the empty one. -/
namespace PB
open PySem PySem.Spec PyProof.Rows L2
theorem tup_once (p : Addr) (ws : Array Value) (m : Nat) (di : Option Addr) (slo : Array (Option Value)) (k : Int) (tk : Tok)
    (h0 : (decide (k < -(2 ^ 63)) || decide (k ≥ 2 ^ 63)) = false) (h1 : (ws.isEmpty || k == 1) = true) :
    Meets (Builtin.«tuple.__mul__» ⟨[.ref p, .int k tk], []⟩) (fun _ R s =>
      s.heap.get? p = some { cls := .type "tuple", dict := di, data := .seq ws m, slots := slo } ∧ R (.ok (.ret (.ref p))) s) :=
  .of_wp fun prog w A R s z => by
    obtain ⟨hp, g, d, tks, os⟩ := s
    obtain ⟨hl, z⟩ := z
    have f1 := AutoSeq1.idx_int
    wp_walk using wpAny_loadPart' hl
    repeat (first
      | (refine wpAny_ite_false (decide_eq_false (by rw [h0]; exact Bool.false_ne_true)) ?_
         wp_walk using wpAny_loadPart' hl)
      | (refine wpAny_ite_true (decide_eq_true (by rw [h1])) ?_
         wp_walk using wpAny_loadPart' hl))
    exact ⟨_, rfl, z⟩
theorem tup_zero (p : Addr) (ws : Array Value) (m : Nat) (di : Option Addr) (slo : Array (Option Value)) (k : Int) (tk : Tok)
    (h0 : (decide (k < -(2 ^ 63)) || decide (k ≥ 2 ^ 63)) = false) (h1 : (ws.isEmpty || k == 1) = false) (h2 : (decide (k ≤ 0) || ws.isEmpty) = true) :
    Meets (Builtin.«tuple.__mul__» ⟨[.ref p, .int k tk], []⟩) (fun _ R s =>
      s.heap.get? p = some { cls := .type "tuple", dict := di, data := .seq ws m, slots := slo } ∧
      R (.ok (.ret (Value.ref s.heap.objs.size))) { s with heap := s.heap.push { cls := Value.type "tuple", data := Data.seq #[] }, toks := s.toks }) :=
  .of_wp fun prog w A R s z => by
    obtain ⟨hp, g, d, tks, os⟩ := s
    obtain ⟨hl, z⟩ := z
    have f1 := AutoSeq1.idx_int
    wp_walk using wpAny_loadPart' hl
    repeat (first
      | (refine wpAny_ite_false (decide_eq_false (by rw [h0]; exact Bool.false_ne_true)) ?_; wp_walk using wpAny_loadPart' hl)
      | (refine wpAny_ite_false (decide_eq_false (by rw [h1]; exact Bool.false_ne_true)) ?_; wp_walk using wpAny_loadPart' hl)
      | (refine wpAny_ite_true (decide_eq_true (by rw [h2])) ?_; wp_walk using wpAny_loadPart' hl))
    exact ⟨_, rfl, z⟩
section
variable {X : Cx}
def rZero (K : PySem.W.Frag) : R2 := fun x y H Q => ∃ l k xs, x = .ref l ∧ y = .int k ∧ SqT K H l xs ∧ -(2 ^ 63) ≤ k ∧ k ≤ 0 ∧ xs ≠ [] ∧ ∀ p, H p = none → Q (.ref p) (upd H p (.tup []))
theorem op_zero : OpR X (binaryOp .Mult) (rZero X.K) := by
  intro pins s σ H x y v u Q I rx ry h
  obtain ⟨l, k, xs, rfl, rfl, hT, b0, b1, hk, q⟩ := h
  cases rx
  obtain ⟨t, rfl⟩ := ry
  obtain ⟨its, r, ⟨⟨kl, di, da, slo⟩, ho, hc, m, hd⟩, _⟩ := I.tuple hT
  simp only at hc hd
  subst hc hd
  have a0 : (decide (k < -(2 ^ 63)) || decide (k ≥ 2 ^ 63)) = false := by
    rw [decide_eq_false (show ¬ k < -(2 ^ 63) by omega), decide_eq_false (show ¬ k ≥ 2 ^ 63 by omega)]
    rfl
  have a1 : (its.toArray.isEmpty || k == 1) = false := by
    have : its ≠ [] := fun e => hk (by
      rw [e] at r
      exact List.eq_nil_of_length_eq_zero r.length)
    have h1 : (k == 1) = false := by simp; omega
    rw [h1, Bool.or_false]
    cases its with
    | nil => exact absurd rfl this
    | cons a b => simp
  have a2 : (decide (k ≤ 0) || its.toArray.isEmpty) = true := by rw [decide_eq_true b1]; rfl
  refine wpAny_binaryOp_repeat_ref (T := "tuple") (U := "int") (by decide) ⟨_, ho, rfl⟩ (fun s2 => typeIs_int s2 k t) noFill_tuple_mul F.fills_int_mul F.slot_int_rmul repeat_tuple F.slot_int_index.lookup
    (call_meets F.slot_int_rmul (typeIs_int s k t) F.entry_int_rmul (F.args_int_rmul_2 _ _) (int_rmul_tuple k t l its.toArray m di slo)
      ⟨ho, rfl, ⟨_, ho, rfl⟩, call_meets F.slot_tuple_mul ⟨_, ho, rfl⟩ F.entry_tuple_mul (F.args_tuple_mul_2 _ _) (tup_zero l its.toArray m di slo k t a0 a1 a2) ⟨ho, ?_⟩⟩)
  refine ⟨.ref s.heap.objs.size, _, I.laid (t' := s.toks) (o := .tup []) (fun b ob q => Heap.get?_push_of_some _ q) (Nat.le_refl _) ?_, rfl, q _ (I.hok.fresh (Nat.le_refl _))⟩
  exact ⟨by simp, [], r.rep 0, IsTup.new _ _⟩
def rOnce (K : PySem.W.Frag) : R2 := fun x y H Q => ∃ l k xs, x = .ref l ∧ y = .int k ∧ SqT K H l xs ∧ -(2 ^ 63) ≤ k ∧ k < 2 ^ 63 ∧ (xs = [] ∨ k = 1) ∧ Q (.ref l) H
theorem op_once : OpR X (binaryOp .Mult) (rOnce X.K) := by
  intro pins s σ H x y v u Q I rx ry h
  obtain ⟨l, k, xs, rfl, rfl, hT, b0, b1, hk, q⟩ := h
  cases rx
  obtain ⟨t, rfl⟩ := ry
  obtain ⟨its, r, ⟨⟨kl, di, da, slo⟩, ho, hc, m, hd⟩, _⟩ := I.tuple hT
  simp only at hc hd
  subst hc hd
  have a0 : (decide (k < -(2 ^ 63)) || decide (k ≥ 2 ^ 63)) = false := by
    rw [decide_eq_false (show ¬ k < -(2 ^ 63) by omega), decide_eq_false (show ¬ k ≥ 2 ^ 63 by omega)]
    rfl
  have a1 : (its.toArray.isEmpty || k == 1) = true := by
    rcases hk with rfl | rfl
    · have : its = [] := List.eq_nil_of_length_eq_zero r.length.symm
      rw [this]
      rfl
    · simp
  refine wpAny_binaryOp_repeat_ref (T := "tuple") (U := "int") (by decide) ⟨_, ho, rfl⟩ (fun s2 => typeIs_int s2 k t) noFill_tuple_mul F.fills_int_mul F.slot_int_rmul repeat_tuple F.slot_int_index.lookup
    (call_meets F.slot_int_rmul (typeIs_int s k t) F.entry_int_rmul (F.args_int_rmul_2 _ _) (int_rmul_tuple k t l its.toArray m di slo)
      ⟨ho, rfl, ⟨_, ho, rfl⟩, call_meets F.slot_tuple_mul ⟨_, ho, rfl⟩ F.entry_tuple_mul (F.args_tuple_mul_2 _ _) (tup_once l its.toArray m di slo k t a0 a1) ⟨ho, ?_⟩⟩)
  exact ⟨.ref l, H, I, rfl, q⟩
def rEmp (g : Bool → Bool) (K : PySem.W.Frag) : R2 := fun x y H Q => ∃ l k xs, x = .ref l ∧ y = .ref k ∧ SqT K H l xs ∧ SqT K H k [] ∧ Q (.bl (g xs.isEmpty)) H
theorem op_eq_emp (hu : X.A.units < cLine) : OpR X (compareOp .Eq) (rEmp (fun b => b) X.K) := by
  intro pins s σ H x y v u Q I rx ry h
  obtain ⟨l, k, xs, rfl, rfl, h1, h2, q⟩ := h
  cases rx
  cases ry
  obtain ⟨i1, r1, t1, _⟩ := I.tuple h1
  obtain ⟨i2, r2, t2, _⟩ := I.tuple h2
  have e2 : i2 = [] := List.eq_nil_of_length_eq_zero r2.length.symm
  subst e2
  refine SeqAt.eq_tupleAt (e := fun _ => true) t1 t2 hu (fun j _ hj => absurd hj (by simp)) ?_
  have e1 : xs.isEmpty = i1.isEmpty := by
    have := r1.length
    cases xs <;> cases i1 <;> simp at this ⊢
  rw [e1] at q
  refine ⟨.bl i1.isEmpty, H, I, ?_, q⟩
  cases i1 <;> simp <;> rfl
theorem op_ne_emp (hu : X.A.units < cLine) : OpR X (compareOp .NotEq) (rEmp (fun b => !b) X.K) := by
  intro pins s σ H x y v u Q I rx ry h
  obtain ⟨l, k, xs, rfl, rfl, h1, h2, q⟩ := h
  cases rx
  cases ry
  obtain ⟨i1, r1, t1, _⟩ := I.tuple h1
  obtain ⟨i2, r2, t2, _⟩ := I.tuple h2
  have e2 : i2 = [] := List.eq_nil_of_length_eq_zero r2.length.symm
  subst e2
  refine SeqAt.RcNeAt.tuples (e := fun _ => true) t1 t2 hu (fun j _ hj => absurd hj (by simp)) _ _ _ _ ?_
  have e1 : xs.isEmpty = i1.isEmpty := by
    have := r1.length
    cases xs <;> cases i1 <;> simp at this ⊢
  rw [e1] at q
  refine ⟨.bl (!i1.isEmpty), H, I, ?_, q⟩
  cases i1 <;> simp <;> rfl
end
end PB
set_option maxRecDepth 100000
/-! Pb, part 3e: a list beside the empty one; an item in a tuple. -/
namespace PB
open PySem PySem.Spec PyProof.Rows L2
variable {X : Cx}
def rEmpL (g : Bool → Bool) (K : PySem.W.Frag) : R2 := fun x y H Q => ∃ l k xs, x = .ref l ∧ y = .ref k ∧ SqL K H l xs ∧ SqL K H k [] ∧ Q (.bl (g xs.isEmpty)) H
theorem op_eq_empL (hu : X.A.units < cLine) : OpR X (compareOp .Eq) (rEmpL (fun b => b) X.K) := by
  intro pins s σ H x y v u Q I rx ry h
  obtain ⟨l, k, xs, rfl, rfl, h1, h2, q⟩ := h
  cases rx
  cases ry
  obtain ⟨i1, r1, t1, _⟩ := I.list h1
  obtain ⟨i2, r2, t2, _⟩ := I.list h2
  have e2 : i2 = [] := List.eq_nil_of_length_eq_zero r2.length.symm
  subst e2
  have e1 : xs.isEmpty = i1.isEmpty := by
    have := r1.length
    cases xs <;> cases i1 <;> simp at this ⊢
  rw [e1] at q
  cases i1 with
  | nil =>
    refine SeqAt.eq_listAt (e := fun _ => true) t1.isList t2.isList rfl hu (fun j _ hj => absurd hj (by simp)) ?_
    exact ⟨.bl true, H, I, rfl, q⟩
  | cons y ys =>
    refine SeqAt.eq_list_lengthsAt t1.isList t2.isList (by simp) hu ?_
    exact ⟨.bl false, H, I, rfl, q⟩
theorem op_ne_empL (hu : X.A.units < cLine) : OpR X (compareOp .NotEq) (rEmpL (fun b => !b) X.K) := by
  intro pins s σ H x y v u Q I rx ry h
  obtain ⟨l, k, xs, rfl, rfl, h1, h2, q⟩ := h
  cases rx
  cases ry
  obtain ⟨i1, r1, t1, _⟩ := I.list h1
  obtain ⟨i2, r2, t2, _⟩ := I.list h2
  have e2 : i2 = [] := List.eq_nil_of_length_eq_zero r2.length.symm
  subst e2
  have e1 : xs.isEmpty = i1.isEmpty := by
    have := r1.length
    cases xs <;> cases i1 <;> simp at this ⊢
  rw [e1] at q
  cases i1 with
  | nil =>
    refine SeqAt.RcNeAt.lists (e := fun _ => true) t1.isList t2.isList rfl hu (fun j _ hj => absurd hj (by simp)) _ _ _ _ ?_
    exact ⟨.bl false, H, I, rfl, q⟩
  | cons y ys =>
    refine SeqAt.RcNeAt.lists_lengths t1.isList t2.isList (by simp) hu _ _ _ _ ?_
    exact ⟨.bl true, H, I, rfl, q⟩
def rInT (K : PySem.W.Frag) : R2 := fun x y H Q => ∃ d ds, Dp K H x d ∧ Dp K H y (.tuple ds) ∧ SeqAt.shaped d = true ∧ SeqAt.shaped (.tuple ds) = true ∧ Q (.bl (ds.any fun z => z.eqv d)) H
def rNotInT (K : PySem.W.Frag) : R2 := fun x y H Q => ∃ d ds, Dp K H x d ∧ Dp K H y (.tuple ds) ∧ SeqAt.shaped d = true ∧ SeqAt.shaped (.tuple ds) = true ∧ Q (.bl (!ds.any fun z => z.eqv d)) H
theorem op_inT (hu : X.A.units + 65 < cLine) : OpR X (compareOp .In) (rInT X.K) := by
  intro pins s σ H x y v u Q I rx ry h
  obtain ⟨d, ds, hd, he, sd, se, q⟩ := h
  obtain ⟨as, r1⟩ := Dp.reads I d x v hd rx
  obtain ⟨bs, r2⟩ := Dp.reads I (.tuple ds) y u he ry
  exact SeqAt.in_tuple_reads r2 r1 (SeqAt.canLay_of_shaped se) (SeqAt.canLay_of_shaped sd) (room_in_shaped sd hu) ⟨.bl (ds.any fun y => y.eqv d), H, I, rfl, q⟩
theorem op_notInT (hu : X.A.units + 65 < cLine) : OpR X (compareOp .NotIn) (rNotInT X.K) := by
  intro pins s σ H x y v u Q I rx ry h
  obtain ⟨d, ds, hd, he, sd, se, q⟩ := h
  obtain ⟨as, r1⟩ := Dp.reads I d x v hd rx
  obtain ⟨bs, r2⟩ := Dp.reads I (.tuple ds) y u he ry
  exact SeqAt.notIn_tuple_reads r2 r1 (SeqAt.canLay_of_shaped se) (SeqAt.canLay_of_shaped sd) (room_in_shaped sd hu) ⟨.bl (!ds.any fun y => y.eqv d), H, I, rfl, q⟩
theorem op_add_bi : OpR X (binaryOp .Add) fun x y H Q => ∃ k i, x = V.bl k ∧ y = V.int i ∧ Q (V.int ((if k = true then 1 else 0) + i)) H := by
  intro pins s σ H x y v u Q I rx ry h
  obtain ⟨k, i, rfl, rfl, q⟩ := h
  cases rx
  obtain ⟨t, rfl⟩ := ry
  exact IntBool.add_bool_int ⟨V.int ((if k = true then 1 else 0) + i), H, I.tok (s.toks + 1), ⟨s.toks, rfl⟩, q⟩
theorem op_sub_bi : OpR X (binaryOp .Sub) fun x y H Q => ∃ k i, x = V.bl k ∧ y = V.int i ∧ Q (V.int ((if k = true then 1 else 0) - i)) H := by
  intro pins s σ H x y v u Q I rx ry h
  obtain ⟨k, i, rfl, rfl, q⟩ := h
  cases rx
  obtain ⟨t, rfl⟩ := ry
  exact IntBool.sub_bool_int ⟨V.int ((if k = true then 1 else 0) - i), H, I.tok (s.toks + 1), ⟨s.toks, rfl⟩, q⟩
end PB
set_option maxRecDepth 100000
set_option maxHeartbeats 1000000
/-! Pb, part 4: the operators' rules. -/
namespace PB
open PySem PySem.Spec PyProof.Rows L2
section
variable {X : Cx}
theorem onp2 {g : P → P → Option P} {x y : V} {H : Hp} {Q : VK} (h : OnP X (f2 g) [x, y] H Q) : ∃ ρ st a b r, RS X.K H ρ st ∧ RV X.K H ρ x a ∧ RV X.K H ρ y b ∧ g a b = some r ∧ FP X.K H ρ r Q := by
  obtain ⟨ρ, st, ds, r, S, rv, e, q⟩ := h
  obtain ⟨a, b, rfl, ha, hb⟩ := rv.two
  exact ⟨ρ, st, a, b, r, S, ha, hb, e, q⟩
theorem bin_ok (op : Operator) : OpR X (binaryOp op) (rBin X op) := by
  intro pins s σ H x y v u Q I rx ry h
  obtain ⟨ρ, st, a, b, r, S, ha, hb, e, q⟩ := onp2 h
  unfold binP at e
  split at e
  · cases ha; cases hb; cases e
    exact op_add pins s σ H _ _ v u Q I rx ry ⟨_, _, rfl, rfl, q.int⟩
  · split at e
    · rename_i hl
      cases ha; cases hb; cases e
      exact op_add_str pins s σ H _ _ v u Q I rx ry ⟨_, _, rfl, rfl, hl, q.str⟩
    · cases e
  · split at e
    · rename_i hl
      cases e
      cases ha with
      | tup h1 r1 =>
        cases hb with
        | tup h2 r2 =>
          have l1 := r1.length
          have l2 := r2.length
          refine op_catA pins s σ H _ _ v u Q I rx ry ⟨_, _, _, _, rfl, rfl, h1.sq, h2.sq, by omega, fun z => ?_, fun _ z => ?_, fun _ _ p n => ?_⟩
          · subst z
            cases r1
            exact q.old (.tup h2 r2)
          · subst z
            cases r2
            rw [List.append_nil] at q
            exact q.old (.tup h1 r1)
          · exact q.tup S (r1.append r2) n
    · cases e
  · split at e
    · rename_i hl
      cases e
      cases ha with
      | lst h1 r1 =>
        cases hb with
        | lst h2 r2 =>
          have l1 := r1.length
          have l2 := r2.length
          exact cat_any pins s σ H _ _ v u Q I rx ry ⟨_, _, _, _, rfl, rfl, h1, h2, by omega, fun p n => q.lst (r1.append r2) n⟩
    · cases e
  · cases ha; cases hb; cases e
    exact op_sub pins s σ H _ _ v u Q I rx ry ⟨_, _, rfl, rfl, q.int⟩
  · split at e
    · rename_i hl
      cases ha; cases hb; cases e
      rcases hl with hl | hl
      · exact op_mul pins s σ H _ _ v u Q I rx ry ⟨_, _, rfl, rfl, hl, q.int⟩
      · exact op_mulW pins s σ H _ _ v u Q I rx ry ⟨_, _, rfl, rfl, hl, q.int⟩
    · cases e
  · split at e
    · rename_i hl
      cases e
      cases ha with
      | tup h1 r1 =>
        cases hb
        have l1 := r1.length
        refine op_repT pins s σ H _ _ v u Q I rx ry ⟨_, _, _, rfl, rfl, h1.sq, fun z => hl.1 ?_, hl.2.1, hl.2.2.1, by omega, fun p n => q.tup S (r1.rep _) n⟩
        subst z
        cases r1
        rfl
    · split at e
      · rename_i hl
        cases e
        cases ha with
        | tup h1 r1 =>
          cases hb
          refine op_once pins s σ H _ _ v u Q I rx ry ⟨_, _, _, rfl, rfl, h1.sq, hl.1, hl.2.1, ?_, q.old (.tup h1 r1)⟩
          rcases hl.2.2 with hl | hl
          · subst hl
            cases r1
            exact .inl rfl
          · exact .inr hl
      · split at e
        · rename_i hl
          cases e
          cases ha with
          | tup h1 r1 =>
            cases hb
            refine op_zero pins s σ H _ _ v u Q I rx ry ⟨_, _, _, rfl, rfl, h1.sq, hl.1, hl.2.1, fun z => hl.2.2 ?_, fun p n => q.tup S (r1.rep 0) n⟩
            subst z
            cases r1
            rfl
        · cases e
  · split at e
    · rename_i hl
      cases e
      cases ha with
      | lst h1 r1 =>
        cases hb
        have l1 := r1.length
        exact rep_any pins s σ H _ _ v u Q I rx ry ⟨_, _, _, rfl, rfl, h1, hl.1, hl.2.1, by rw [l1]; exact hl.2.2, fun p n => q.lst (r1.rep _) n⟩
    · cases e
  · split at e
    · rename_i hl
      cases ha; cases hb; cases e
      rcases hl with hl | hl
      · exact op_fdiv pins s σ H _ _ v u Q I rx ry ⟨_, _, rfl, rfl, hl, q.int⟩
      · exact op_fdivW pins s σ H _ _ v u Q I rx ry ⟨_, _, rfl, rfl, hl, q.int⟩
    · cases e
  · split at e
    · rename_i hl
      cases ha; cases hb; cases e
      exact op_mod pins s σ H _ _ v u Q I rx ry ⟨_, _, rfl, rfl, hl, q.int⟩
    · cases e
  · split at e
    · rename_i hl
      cases ha; cases hb; cases e
      exact op_pow pins s σ H _ _ v u Q I rx ry ⟨_, _, rfl, rfl, hl, q.int⟩
    · cases e
  · cases ha; cases hb; cases e
    exact op_add_bi pins s σ H _ _ v u Q I rx ry ⟨_, _, rfl, rfl, q.int⟩
  · cases ha; cases hb; cases e
    exact op_sub_bi pins s σ H _ _ v u Q I rx ry ⟨_, _, rfl, rfl, q.int⟩
  · cases e
theorem opt_bool {o : Option Bool} {r : P} (h : o.map PyData.bool = some r) : ∃ b, o = some b ∧ r = .bool b := by
  cases o with
  | none => cases h
  | some b => cases h; exact ⟨b, rfl, rfl⟩
theorem isN_rv {K : PySem.W.Frag} {H : Hp} {ρ : Pl} {x : V} {a : P} (h : RV K H ρ x a) : decide (x = V.non) = isN a := by
  cases h <;> simp [isN]
theorem rps_empty {K : PySem.W.Frag} {H : Hp} {ρ : Pl} {a : List V} {b : List P} (h : RPs K H ρ a b) : a.isEmpty = b.isEmpty := by
  cases h <;> rfl
theorem keyP_of (k : Key) : keyOf (keyP k) = some k := by cases k <;> rfl
theorem keyP_inj {k j : Key} : keyOf (keyP j) = some k ↔ j = k := by rw [keyP_of]; simp
theorem RPk.dlook {K : PySem.W.Frag} {H : Hp} {ρ : Pl} {k : Key} : ∀ {vs : List (Key × V)} {ds : List (P × P)}, RPk K H ρ vs ds → match dlookP k ds with
    | none => valV vs k = none
    | some d => ∃ x, valV vs k = some x ∧ RP K H ρ x d
  | _, _, .nil => rfl
  | _, _, .cons (k := j) (v := v) (vs := vs) (d := d) (ds := ds) h q => by
    unfold dlookP
    by_cases e : keyOf (keyP j) = some k
    · rw [if_pos e]
      exact ⟨v, valV_pos (p := (j, v)) (keyP_inj.mp e), h⟩
    · rw [if_neg e]
      have ih := RPk.dlook (k := k) q
      have ne : ¬ j = k := fun z => e (keyP_inj.mpr z)
      cases z : dlookP k ds with
      | none => rw [z] at ih; exact (valV_neg (p := (j, v)) ne).trans ih
      | some d =>
        rw [z] at ih
        obtain ⟨x, h1, h2⟩ := ih
        exact ⟨x, (valV_neg (p := (j, v)) ne).trans h1, h2⟩
theorem RPk.isSome {K : PySem.W.Frag} {H : Hp} {ρ : Pl} {k : Key} {vs : List (Key × V)} {ds : List (P × P)} (h : RPk K H ρ vs ds) : (valV vs k).isSome = (dlookP k ds).isSome := by
  have z := RPk.dlook (k := k) h
  cases e : dlookP k ds with
  | none => rw [e] at z; rw [z]; rfl
  | some d => rw [e] at z; obtain ⟨x, h1, _⟩ := z; rw [h1]; rfl
theorem key_rv {K : PySem.W.Frag} {H : Hp} {ρ : Pl} {y : V} {i : P} {k : Key} (h : RV K H ρ y i) (e : keyOf i = some k) : y = kV k := by
  cases h <;> first | (cases e; rfl) | cases e
theorem cmp_ok (op : CmpOp) (hu : X.A.units + 65 < cLine) : OpR X (compareOp op) (rCmp X op) := by
  intro pins s σ H x y v u Q I rx ry h
  obtain ⟨ρ, st, a, b, r, S, ha, hb, e, q⟩ := onp2 h
  obtain ⟨c, e, rfl⟩ := opt_bool e
  unfold cmpP at e
  split at e
  · cases ha; cases hb; cases e
    rename_i x y
    exact op_eq pins s σ H _ _ v u Q I rx ry ⟨rfl, by
      have z := q.bl
      have e2 : decide (V.str x = V.str y) = decide (x = y) := by simp
      rw [e2]
      exact z⟩
  · cases ha; cases hb; cases e
    rename_i x y
    exact op_ne pins s σ H _ _ v u Q I rx ry ⟨rfl, by
      have z := q.bl
      have e2 : decide (V.str x = V.str y) = decide (x = y) := by simp
      rw [e2]
      exact z⟩
  · cases e
    cases ha with
    | tup h1 r1 =>
      cases hb with
      | tup h2 r2 =>
        cases r2
        refine op_eq_emp (by omega) pins s σ H _ _ v u Q I rx ry ⟨_, _, _, rfl, rfl, h1.sq, h2.sq, ?_⟩
        have z := q.bl
        rw [rps_empty r1]
        exact z
  · cases e
    cases ha with
    | tup h1 r1 =>
      cases hb with
      | tup h2 r2 =>
        cases r2
        refine op_ne_emp (by omega) pins s σ H _ _ v u Q I rx ry ⟨_, _, _, rfl, rfl, h1.sq, h2.sq, ?_⟩
        have z := q.bl
        rw [rps_empty r1]
        exact z
  · cases e
    cases ha with
    | lst h1 r1 =>
      cases hb with
      | lst h2 r2 =>
        cases r2
        refine op_eq_empL (by omega) pins s σ H _ _ v u Q I rx ry ⟨_, _, _, rfl, rfl, h1.sq, h2.sq, ?_⟩
        have z := q.bl
        rw [rps_empty r1]
        exact z
  · cases e
    cases ha with
    | lst h1 r1 =>
      cases hb with
      | lst h2 r2 =>
        cases r2
        refine op_ne_empL (by omega) pins s σ H _ _ v u Q I rx ry ⟨_, _, _, rfl, rfl, h1.sq, h2.sq, ?_⟩
        have z := q.bl
        rw [rps_empty r1]
        exact z
  · split at e
    · rename_i hl
      cases e
      exact op_eqD (by omega) pins s σ H _ _ v u Q I rx ry ⟨_, _, ha.dp (lay_of hl.1), hb.dp (lay_of hl.2), hl.1, hl.2, q.bl⟩
    · cases e
  · split at e
    · rename_i hl
      cases e
      exact op_neD (by omega) pins s σ H _ _ v u Q I rx ry ⟨_, _, ha.dp (lay_of hl.1), hb.dp (lay_of hl.2), hl.1, hl.2, q.bl⟩
    · cases e
  · cases ha; cases hb; cases e
    exact op_lt pins s σ H _ _ v u Q I rx ry ⟨_, _, rfl, rfl, q.bl⟩
  · cases ha; cases hb; cases e
    exact op_le pins s σ H _ _ v u Q I rx ry ⟨_, _, rfl, rfl, q.bl⟩
  · cases ha; cases hb; cases e
    exact op_gt pins s σ H _ _ v u Q I rx ry ⟨_, _, rfl, rfl, q.bl⟩
  · cases ha; cases hb; cases e
    exact op_ge pins s σ H _ _ v u Q I rx ry ⟨_, _, rfl, rfl, q.bl⟩
  · have ez := isN_rv ha
    cases hb; cases e
    exact op_isN pins s σ H _ _ v u Q I rx ry ⟨rfl, by rw [ez]; exact q.bl⟩
  · have ez := isN_rv ha
    cases hb; cases e
    exact op_notN pins s σ H _ _ v u Q I rx ry ⟨rfl, by rw [ez]; exact q.bl⟩
  · split at e
    · rename_i hl
      cases e
      exact op_inD hu pins s σ H _ _ v u Q I rx ry ⟨_, _, ha.dp (lay_of hl.1), hb.dp (lay_of hl.2), hl.1, hl.2, q.bl⟩
    · cases e
  · split at e
    · rename_i hl
      cases e
      exact op_notInD hu pins s σ H _ _ v u Q I rx ry ⟨_, _, ha.dp (lay_of hl.1), hb.dp (lay_of hl.2), hl.1, hl.2, q.bl⟩
    · cases e
  · split at e
    · rename_i hl
      cases e
      exact op_inT hu pins s σ H _ _ v u Q I rx ry ⟨_, _, ha.dp (lay_of hl.1), hb.dp (lay_of hl.2), hl.1, hl.2, q.bl⟩
    · cases e
  · split at e
    · rename_i hl
      cases e
      exact op_notInT hu pins s σ H _ _ v u Q I rx ry ⟨_, _, ha.dp (lay_of hl.1), hb.dp (lay_of hl.2), hl.1, hl.2, q.bl⟩
    · cases e
  · rename_i kvs
    cases ek : keyOf a with
    | none => rw [ek] at e; cases e
    | some k =>
      rw [ek] at e
      cases e
      have ea := key_rv ha ek
      subst ea
      cases hb with
      | @dct p vs _ h1 r1 =>
        cases ry
        refine d_in (by omega) I (.inl ⟨vs, k, h1, rfl, rfl⟩) rx fun s3 I3 => ⟨.bl _, H, I3, rfl, ?_⟩
        rw [r1.isSome]
        exact q.bl
  · rename_i kvs
    cases ek : keyOf a with
    | none => rw [ek] at e; cases e
    | some k =>
      rw [ek] at e
      cases e
      have ea := key_rv ha ek
      subst ea
      cases hb with
      | @dct p vs _ h1 r1 =>
        cases ry
        refine d_notIn (by omega) I (.inl ⟨vs, k, h1, rfl, rfl⟩) rx fun s3 I3 => ⟨.bl _, H, I3, rfl, ?_⟩
        rw [r1.isSome]
        exact q.bl
  · cases e
end
end PB
set_option maxRecDepth 100000
set_option maxHeartbeats 1000000
/-! Pb, part 4t: sorted of a tuple of ints. -/
namespace PB
open PySem PyProof.Rows Srt SrtO
section
variable {prog : Program} {w : World} {A : Around} {E : Value → Shared → Prop} {s : Shared}
/-- what is gathered of a tuple: a new list stands behind -/
theorem collect_tupS {l : Addr} {vs : List Value} {Q : List Value → Shared → Prop} (hl : IsTup s.heap l vs.toArray) (hz : vs.length ≤ sizeLine)
    (h : Q vs { s with heap := (s.heap.push (seqObj "list" #[] 0)).update s.heap.objs.size (Obj.mapSeq (· ++ vs.toArray)) }) :
    wpAny (model prog w) A (collect (.ref l)) Q E s := by
  obtain ⟨o, ho, hc, n, hd⟩ := id hl
  have ho' : (s.heap.push (seqObj "list" #[] 0)).get? l = some o := Heap.get?_push_of_some _ ho
  have hnew : (s.heap.push (seqObj "list" #[] 0)).get? s.heap.objs.size = some (seqObj "list" #[] 0) := Heap.get?_push_size _ rfl
  unfold collect
  refine wpAny_bind (wpAny_runValue (codeAny_builtin entry_proto_collect' ?_))
  show wpAny _ _ (do again (.builtin "list.__iadd__" ⟨[← newList [], .ref l], []⟩)) _ _ s
  refine wpAny_bind (wpAny_newList (wpAny_pure ⟨Code.quiet_builtin _ (by decide +kernel), codeAny_builtin entry_list_iadd' ?_⟩))
  show wpAny _ _ (Builtin.List.listExtendWith (.ref s.heap.objs.size) (.ref l) (.ref s.heap.objs.size)) _ _ { s with heap := s.heap.push (seqObj "list" #[] 0) }
  unfold Builtin.List.listExtendWith
  refine wpAny_bind (wpAny_typeOf (T := "tuple") ⟨o, ho', hc⟩ ?_)
  have ht : (Value.type "tuple" == Value.type "tuple") = true := rfl
  rw [if_pos (by rw [ht]; simp)]
  refine wpAny_bind (listItems_at ho' hd ?_)
  refine wpAny_bind (listItems_at (xs := #[]) (n := 0) hnew rfl ?_)
  rw [if_neg (by simp)]
  refine wpAny_bind (listUpdate_at (xs := #[]) (n := 0) hnew rfl ?_ (Nat.zero_le _) (by show (#[] ++ vs.toArray).size ≤ sizeLine + 1; simp only [Array.size_append, List.size_toArray, List.length_nil]; omega))
  refine wpAny_pure ?_
  show wpAny (model prog w) A (do
      let o ← load s.heap.objs.size
      match o.data with
      | .seq xs _ => pure xs.toList
      | _ => unsupported "internal:collect") Q E { s with heap := (s.heap.push (seqObj "list" #[] 0)).update s.heap.objs.size (Obj.mapSeq (· ++ vs.toArray)) }
  refine wpAny_bind (wpAny_load (get?_update_seq hnew _) ?_)
  show wpAny _ _ (pure ((#[] : Array Value) ++ vs.toArray).toList) Q E _
  rw [show ((#[] : Array Value) ++ vs.toArray).toList = vs by simp]
  exact wpAny_pure h
theorem sorted_tupS {l : Addr} {vs : List Value} {ns : List Int} {Q : Value → Shared → Prop} (hl : IsTup s.heap l vs.toArray) (hI : IntsAre vs ns) (hz : vs.length ≤ sizeLine)
    (h : ∀ out : List Value, Srtd ltIv out → Stb ltIv out vs → Q (.ref (s.heap.objs.size + 1)) { s with heap := sortedAll s.heap vs out.toArray }) :
    wpAny (model prog w) A (call (.builtin "sorted") [.ref l]) Q E s := by
  refine Calls.call_function_entry kind_sorted plain_sorted entry_sorted (args_sorted1 _) ?_
  unfold Builtin.«sorted»
  refine wpAny_bind (m := checkCount "sorted" 1 1 _) (wpAny_pure ?_)
  refine wpAny_bind (collect_tupS hl hz ?_)
  refine wpAny_bind (wpAny_newList ?_ hz)
  have hsz : ((s.heap.push (seqObj "list" #[] 0)).update s.heap.objs.size (Obj.mapSeq (· ++ vs.toArray))).objs.size = s.heap.objs.size + 1 := by
    rw [Heap.size_update, size_push']
  have hoL : (((s.heap.push (seqObj "list" #[] 0)).update s.heap.objs.size (Obj.mapSeq (· ++ vs.toArray))).push (seqObj "list" vs.toArray 0)).get? (s.heap.objs.size + 1) = some (seqObj "list" vs.toArray 0) := by
    rw [← hsz]
    exact Heap.get?_push_size _ rfl
  show wpAny _ _ _ _ _ { s with heap := ((s.heap.push (seqObj "list" #[] 0)).update s.heap.objs.size (Obj.mapSeq (· ++ vs.toArray))).push (seqObj "list" vs.toArray 0) }
  rw [hsz]
  refine wpAny_bind (wpAny_holding (wpAny_call_entry slot_list_sort ⟨_, hoL, rfl⟩ entry_list_sort (list_sort_ord swo_int hoL hz (fun h2 => ints_sortable hI h2) fun out hs hb => ⟨_, rfl, ?_⟩) (args_list_sort _)))
  exact wpAny_pure ⟨_, rfl, h out hs hb⟩
end
end PB
namespace PB
open PySem PySem.Spec PyProof.Rows L2
variable {X : Cx}
/-- sorted of a tuple of ints, any number of them -/
def rSortedTu (K : PySem.W.Frag) : List V → Hp → VK → Prop := fun vs H Q => ∃ (a : Addr) (ns : List Int), vs = [V.ref a] ∧ SqT K H a (ns.map V.int) ∧
  ∀ (ns' : List Int) (p : Addr), ns'.Perm ns → ns'.Pairwise (· ≤ ·) → H p = none → Q (.ref p) (upd H p (.lst (ns'.map V.int)))
theorem cr_sortedTu : CallR X (.builtin "sorted") (rSortedTu X.K) := by
  intro pins s σ H vs us Q I r h
  obtain ⟨a, ns, rfl, hs, q⟩ := h
  obtain ⟨its, rv, hl, hz⟩ := I.tuple hs
  rw [Vals.ref1 r]
  refine sorted_tupS hl rv.ints (by rw [← rv.length]; exact hz) fun out h1 h2 => ?_
  obtain ⟨k1, k2, k3⟩ := SrtO.ints_out rv.ints h1 h2
  obtain ⟨ep, he'⟩ := PyProof.Rows.sortedAll_at s.heap its out.toArray
  have hlen : ((out.map SrtO.iv).map V.int).length ≤ sizeLine := by
    rw [List.length_map, k2.length_eq]
    rw [List.length_map] at hz
    exact hz
  exact ⟨.ref _, upd H (s.heap.objs.size + 1) (.lst ((out.map SrtO.iv).map V.int)), I.laid (t' := s.toks) (fun _ _ => PyProof.Rows.sortedAll_old) (Nat.le_succ _) ⟨hlen, out, ep, vals_of_ints k1, he'⟩, rfl, q _ _ k2 k3 (I.hok.fresh (Nat.le_succ _))⟩
end PB
set_option maxRecDepth 100000
set_option maxHeartbeats 1000000
/-! Pb, part 5: built-in functions and types, called on data. -/
namespace PB
open PySem PySem.Spec PyProof.Rows L2
def tyNames : List String := ["int", "bool", "str", "list", "tuple", "dict"]
theorem kit_all : ((("NoneType" :: tyNames).all fun a => tyNames.all fun b => decide (kitB a b = some (isTy a b)))) = true := by decide +kernel
theorem boot_ty : (tyNames.all fun b => decide (bootBuiltins (Str.ofString b) = some (.type b))) = true := by decide +kernel
theorem tyP_mem (d : P) : tyP d ∈ "NoneType" :: tyNames := by cases d <;> simp [tyP, tyNames]
theorem kit_is {d : P} {b : String} (hb : b ∈ tyNames) : kitB (tyP d) b = some (isTy (tyP d) b) := by
  have h := List.all_eq_true.mp kit_all _ (tyP_mem d)
  exact of_decide_eq_true (List.all_eq_true.mp h _ hb)
section
variable {X : Cx} {pins : List (Addr × Obj)} {σ : List (Option V)} {H : Hp} {s : Shared} {ρ : Pl} {st : Sto}
theorem ty_of (I : Inv X pins σ H s) {x : V} {d : P} (h : RV X.K H ρ x d) : TyX X.K H x (.type (tyP d)) := by
  cases h with
  | non => exact .base .non
  | bl b => exact .base (.bl b)
  | int i => exact .base (.int i)
  | str z => exact .base (.str z)
  | lst h q =>
    rcases h with (h | ⟨o, h⟩) | ⟨ws, m, h, _⟩
    · exact .base (.lst h)
    · exact .base (.frz h)
    · exact .kList h rfl
  | tup h q =>
    rcases h.sq with (h | ⟨o, h⟩) | ⟨o, its, n, h, c, _⟩
    · exact .base (.tup h)
    · exact .fTuple h
    · exact .kTuple h c
  | dct h q =>
    rcases h with h | ⟨o, h⟩
    · exact .base (.dK h)
    · exact .fDict h
theorem isi_ok {b : String} (hb : b ∈ tyNames) : CallR X (.builtin "isinstance") (fun xs H Q => ∃ x d ρ st, xs = [x, .ty b] ∧ RS X.K H ρ st ∧ RV X.K H ρ x d ∧ Q (.bl (isiP b d)) H) := by
  intro pins s σ H xs us Q I r h
  obtain ⟨x, d, ρ, st, rfl, S, rx, q⟩ := h
  exact call_isi pins s σ H _ us Q I r ⟨x, .ty b, .type (tyP d), .type b, _, rfl, .ty b, ty_of I rx, kit_ty (kit_is hb), q⟩
end
section
variable {X : Cx}
theorem seq_len {x : V} {H : Hp} {ρ : Pl} {a : P} {n : Int} (h : RV X.K H ρ x a) (e : bifP "len" [a] = some (.int n)) : ∃ m : Nat, n = m ∧ LenV X.K x H m := by
  cases h with
  | lst h q => cases e; exact ⟨_, rfl, .inl ⟨_, h.sq, q.length.symm⟩⟩
  | tup h q => cases e; exact ⟨_, rfl, .inr ⟨_, h.sq, q.length.symm⟩⟩
  | str z =>
    have e' : (if z.length ≤ sizeLine then some (PyData.int z.length) else none) = some (.int n) := e
    split at e'
    · cases e'; exact ⟨_, rfl, by assumption, rfl⟩
    · cases e'
  | _ => cases e
def bifNames : List String := ["len", "tuple", "list", "int", "abs", "sum", "repr", "str", "min", "max", "sorted", "all", "any"]
/-- what a call of the name asks and gives -/
def BifOk (X : Cx) (f : String) : Prop := ((∃ id, bootBuiltins (Str.ofString f) = some (.builtin id) ∧ CallR X (.builtin id) (OnP X (bifP f))) ∨ ∃ T, bootBuiltins (Str.ofString f) = some (.type T) ∧ CallR X (.type T) (OnP X (bifP f)))
theorem bif_len : BifOk X "len" := by
  refine .inl ⟨"len", by decide +kernel, fun pins s σ H xs us Q I r h => ?_⟩
  obtain ⟨ρ, st, ds, d, S, rv, e, q⟩ := h
  have one : ∃ x a, xs = [x] ∧ ds = [a] := by
    cases rv with
    | nil => cases e
    | cons h1 t =>
      cases t with
      | nil => exact ⟨_, _, rfl, rfl⟩
      | cons h2 t =>
        cases t with
        | nil => cases e
        | cons _ _ => cases e
  obtain ⟨x, a, rfl, rfl⟩ := one
  obtain ⟨a', e', ra⟩ := rv.one
  cases e'
  have hd : ∃ n, d = .int n := by
    cases a <;> first | cases e; exact ⟨_, rfl⟩ | (have e2 : (if _ then _ else _) = some d := e; split at e2 <;> cases e2; exact ⟨_, rfl⟩) | cases e
  obtain ⟨n, rfl⟩ := hd
  obtain ⟨m, rfl, hl⟩ := seq_len ra e
  exact call_len pins s σ H _ us Q I r ⟨x, m, rfl, hl, q.int⟩
theorem one_of {f : String} {xs : List V} {H : Hp} {ρ : Pl} {ds : List P} {d : P} (rv : RVs X.K H ρ xs ds) (e : bifP f ds = some d) (h2 : ∀ a b, bifP f [a, b] = none) : ∃ x a, xs = [x] ∧ ds = [a] ∧ RV X.K H ρ x a := by
  cases rv with
  | nil => cases e
  | cons h1 t =>
    cases t with
    | nil => exact ⟨_, _, rfl, rfl, h1⟩
    | cons h2' t =>
      cases t with
      | nil => rw [h2] at e; cases e
      | cons _ _ => cases e
theorem bif_tuple : BifOk X "tuple" := by
  refine .inr ⟨"tuple", by decide +kernel, fun pins s σ H xs us Q I r h => ?_⟩
  obtain ⟨ρ, st, ds, d, S, rv, e, q⟩ := h
  obtain ⟨x, a, rfl, rfl, ra⟩ := one_of rv e fun _ _ => rfl
  have e' : (seqP a).map PyData.tuple = some d := e
  cases ra with
  | lst h t => cases e'; exact call_tuple_of pins s σ H _ us Q I r ⟨_, _, rfl, .inl ⟨h.sq, fun p n => q.tup S t n⟩⟩
  | tup h t => cases e'; exact call_tuple_of pins s σ H _ us Q I r ⟨_, _, rfl, .inr ⟨h.sq, q.old (.tup h t)⟩⟩
  | _ => cases e'
theorem bif_list : BifOk X "list" := by
  refine .inr ⟨"list", by decide +kernel, fun pins s σ H xs us Q I r h => ?_⟩
  obtain ⟨ρ, st, ds, d, S, rv, e, q⟩ := h
  obtain ⟨x, a, rfl, rfl, ra⟩ := one_of rv e fun _ _ => rfl
  have e' : (seqP a).map PyData.list = some d := e
  cases ra with
  | lst h t => cases e'; exact call_list_of pins s σ H _ us Q I r ⟨_, _, rfl, .inl h.sq, fun p n => q.lst t n⟩
  | tup h t => cases e'; exact call_list_of pins s σ H _ us Q I r ⟨_, _, rfl, .inr h.sq, fun p n => q.lst t n⟩
  | _ => cases e'
theorem bif_int : BifOk X "int" := by
  refine .inr ⟨"int", by decide +kernel, fun pins s σ H xs us Q I r h => ?_⟩
  obtain ⟨ρ, st, ds, d, S, rv, e, q⟩ := h
  obtain ⟨x, a, rfl, rfl, ra⟩ := one_of rv e fun _ _ => rfl
  cases ra with
  | int i => cases e; exact call_int1 pins s σ H _ us Q I r (.inl ⟨_, rfl, q.int⟩)
  | bl b => cases e; exact call_int1 pins s σ H _ us Q I r (.inr ⟨_, rfl, q.int⟩)
  | _ => cases e
theorem bif_abs : BifOk X "abs" := by
  refine .inl ⟨"abs", by decide +kernel, fun pins s σ H xs us Q I r h => ?_⟩
  obtain ⟨ρ, st, ds, d, S, rv, e, q⟩ := h
  obtain ⟨x, a, rfl, rfl, ra⟩ := one_of rv e fun _ _ => rfl
  cases ra with
  | int i => cases e; exact call_abs pins s σ H _ us Q I r ⟨_, rfl, q.int⟩
  | _ => cases e
theorem intsP_some : ∀ {ds : List P} {ns : List Int}, intsP ds = some ns → ds = ns.map PyData.int
  | [], _, h => by cases h; rfl
  | d :: ds, ns, h => by
    cases d with
    | int i =>
      have h' : (intsP ds).map (i :: ·) = some ns := h
      cases z : intsP ds with
      | none => rw [z] at h'; cases h'
      | some ms => rw [z] at h'; cases h'; rw [intsP_some z]; rfl
    | _ => cases h
theorem bif_sum (hc : X.calm = true) : BifOk X "sum" := by
  refine .inl ⟨"sum", by decide +kernel, fun pins s σ H xs us Q I r h => ?_⟩
  obtain ⟨ρ, st, ds, d, S, rv, e, q⟩ := h
  obtain ⟨x, a, rfl, rfl, ra⟩ := one_of rv e fun _ _ => rfl
  cases ra with
  | @lst p xs ds h t =>
    have e' : (intsP ds).map (fun ns => PyData.int ns.sum) = some d := e
    cases z : intsP ds with
    | none => rw [z] at e'; cases e'
    | some ns =>
      rw [z] at e'; cases e'
      rw [intsP_some z] at t
      have t' := t.ints
      subst t'
      exact cr_sum hc pins s σ H _ us Q I r ⟨_, _, rfl, h.sq, q.int⟩
  | _ => cases e
theorem bif_str : BifOk X "str" := by
  refine .inr ⟨"str", by decide +kernel, fun pins s σ H xs us Q I r h => ?_⟩
  obtain ⟨ρ, st, ds, d, S, rv, e, q⟩ := h
  obtain ⟨x, a, rfl, rfl, ra⟩ := one_of rv e fun _ _ => rfl
  cases ra with
  | int i =>
    have e' : (if i.natAbs.log2 < 1920 then some (PyData.str (toString i)) else none) = some d := e
    split at e'
    · rename_i hl
      cases e'; exact call_str_int pins s σ H _ us Q I r ⟨_, rfl, hl, q.str⟩
    · cases e'
  | _ => cases e
theorem boolsP_some : ∀ {ds : List P} {ns : List Bool}, boolsP ds = some ns → ds = ns.map PyData.bool
  | [], _, h => by cases h; rfl
  | d :: ds, ns, h => by
    cases d with
    | bool i =>
      have h' : (boolsP ds).map (i :: ·) = some ns := h
      cases z : boolsP ds with
      | none => rw [z] at h'; cases h'
      | some ms => rw [z] at h'; cases h'; rw [boolsP_some z]; rfl
    | _ => cases h
theorem rvs_bools {K : PySem.W.Frag} {H : Hp} {ρ : Pl} : ∀ {xs : List V} {bs : List Bool}, RPs K H ρ xs (bs.map PyData.bool) → xs = bs.map V.bl
  | [], [], _ => rfl
  | x :: xs, [], h => by cases h
  | [], b :: bs, h => by cases h
  | x :: xs, b :: bs, h => by
    cases h with
    | cons h1 t =>
      cases h1
      rw [rvs_bools t]
      rfl
theorem one_or_two {f : String} {xs : List V} {H : Hp} {ρ : Pl} {ds : List P} {d : P} (rv : RVs X.K H ρ xs ds) (e : bifP f ds = some d) : (∃ x a, xs = [x] ∧ ds = [a] ∧ RV X.K H ρ x a) ∨ ∃ x y a b, xs = [x, y] ∧ ds = [a, b] ∧ RV X.K H ρ x a ∧ RV X.K H ρ y b := by
  cases rv with
  | nil => cases e
  | cons h1 t =>
    cases t with
    | nil => exact .inl ⟨_, _, rfl, rfl, h1⟩
    | cons h2' t =>
      cases t with
      | nil => exact .inr ⟨_, _, _, _, rfl, rfl, h1, h2'⟩
      | cons _ _ => cases e
theorem bif_min (hc : X.calm = true) : BifOk X "min" := by
  refine .inl ⟨"min", by decide +kernel, fun pins s σ H xs us Q I r h => ?_⟩
  obtain ⟨ρ, st, ds, d, S, rv, e, q⟩ := h
  rcases one_or_two rv e with ⟨x, a, rfl, rfl, ra⟩ | ⟨x, y, a, b, rfl, rfl, ra, rb⟩
  · cases ra with
    | @lst p xs ds h t =>
      have e' : ((intsP ds).bind fun ns => (minL ns).map PyData.int) = some d := e
      cases z : intsP ds with
      | none => rw [z] at e'; cases e'
      | some ns =>
        rw [z] at e'
        have e' : (minL ns).map PyData.int = some d := e'
        cases w : minL ns with
        | none => rw [w] at e'; cases e'
        | some m =>
          rw [w] at e'; cases e'
          rw [intsP_some z] at t
          have t' := t.ints
          subst t'
          obtain ⟨h1, h2⟩ := minL_is w
          refine cr_min hc pins s σ H _ us Q I r ⟨_, _, rfl, h.sq, List.length_pos_of_mem h1, fun m' g1 g2 => ?_⟩
          have := h2 m' g1
          have := g2 m h1
          have e : m' = m := by omega
          rw [e]
          exact q.int
    | _ => cases e
  · cases ra with
    | int i =>
      cases rb with
      | int j => cases e; exact call_min2 hc pins s σ H _ us Q I r ⟨_, _, rfl, q.int⟩
      | _ => cases e
    | _ => cases e
theorem bif_max (hc : X.calm = true) : BifOk X "max" := by
  refine .inl ⟨"max", by decide +kernel, fun pins s σ H xs us Q I r h => ?_⟩
  obtain ⟨ρ, st, ds, d, S, rv, e, q⟩ := h
  rcases one_or_two rv e with ⟨x, a, rfl, rfl, ra⟩ | ⟨x, y, a, b, rfl, rfl, ra, rb⟩
  · cases ra with
    | @lst p xs ds h t =>
      have e' : ((intsP ds).bind fun ns => (maxL ns).map PyData.int) = some d := e
      cases z : intsP ds with
      | none => rw [z] at e'; cases e'
      | some ns =>
        rw [z] at e'
        have e' : (maxL ns).map PyData.int = some d := e'
        cases w : maxL ns with
        | none => rw [w] at e'; cases e'
        | some m =>
          rw [w] at e'; cases e'
          rw [intsP_some z] at t
          have t' := t.ints
          subst t'
          obtain ⟨h1, h2⟩ := maxL_is w
          refine cr_max hc pins s σ H _ us Q I r ⟨_, _, rfl, h.sq, List.length_pos_of_mem h1, fun m' g1 g2 => ?_⟩
          have := h2 m' g1
          have := g2 m h1
          have e : m' = m := by omega
          rw [e]
          exact q.int
    | _ => cases e
  · cases ra with
    | int i =>
      cases rb with
      | int j => cases e; exact call_max2 hc pins s σ H _ us Q I r ⟨_, _, rfl, q.int⟩
      | _ => cases e
    | _ => cases e
theorem rvs_ints_map {K : PySem.W.Frag} {H : Hp} {ρ : Pl} : ∀ ns : List Int, RPs K H ρ (ns.map V.int) (ns.map PyData.int)
  | [] => .nil
  | n :: r => .cons (.int n) (rvs_ints_map r)
theorem bif_sorted : BifOk X "sorted" := by
  refine .inl ⟨"sorted", by decide +kernel, fun pins s σ H xs us Q I r h => ?_⟩
  obtain ⟨ρ, st, ds, d, S, rv, e, q⟩ := h
  obtain ⟨x, a, rfl, rfl, ra⟩ := one_of rv e fun _ _ => rfl
  cases ra with
  | @lst p xs ds h t =>
    have e' : (intsP ds).map (fun ns => PyData.list ((isort ns).map .int)) = some d := e
    cases z : intsP ds with
    | none => rw [z] at e'; cases e'
    | some ns =>
      rw [z] at e'; cases e'
      rw [intsP_some z] at t
      have t' := t.ints
      subst t'
      refine cr_sortedI pins s σ H _ us Q I r ⟨_, _, rfl, h.sq, fun ns' p hp hs hn => ?_⟩
      have e : ns' = isort ns := (hp.trans (isort_perm ns).symm).eq_of_pairwise (fun x y _ _ h1 h2 => Int.le_antisymm h1 h2) hs (isort_le ns)
      rw [e]
      exact q.lst (rvs_ints_map _) hn
  | @tup p xs ds h t =>
    have e' : (intsP ds).map (fun ns => PyData.list ((isort ns).map .int)) = some d := e
    cases z : intsP ds with
    | none => rw [z] at e'; cases e'
    | some ns =>
      rw [z] at e'; cases e'
      rw [intsP_some z] at t
      have t' := t.ints
      subst t'
      refine cr_sortedTu pins s σ H _ us Q I r ⟨_, _, rfl, h.sq, fun ns' p hp hs hn => ?_⟩
      have e : ns' = isort ns := (hp.trans (isort_perm ns).symm).eq_of_pairwise (fun x y _ _ h1 h2 => Int.le_antisymm h1 h2) hs (isort_le ns)
      rw [e]
      exact q.lst (rvs_ints_map _) hn
  | _ => cases e
theorem bif_all (hc : X.calm = true) : BifOk X "all" := by
  refine .inl ⟨"all", by decide +kernel, fun pins s σ H xs us Q I r h => ?_⟩
  obtain ⟨ρ, st, ds, d, S, rv, e, q⟩ := h
  obtain ⟨x, a, rfl, rfl, ra⟩ := one_of rv e fun _ _ => rfl
  cases ra with
  | @lst p xs ds h t =>
    have e' : (boolsP ds).map (fun bs => PyData.bool (bs.all id)) = some d := e
    cases z : boolsP ds with
    | none => rw [z] at e'; cases e'
    | some ns =>
      rw [z] at e'; cases e'
      rw [boolsP_some z] at t
      have t' := rvs_bools t
      subst t'
      exact cr_all hc pins s σ H _ us Q I r ⟨_, _, rfl, h.sq, q.bl⟩
  | _ => cases e
theorem bif_any (hc : X.calm = true) : BifOk X "any" := by
  refine .inl ⟨"any", by decide +kernel, fun pins s σ H xs us Q I r h => ?_⟩
  obtain ⟨ρ, st, ds, d, S, rv, e, q⟩ := h
  obtain ⟨x, a, rfl, rfl, ra⟩ := one_of rv e fun _ _ => rfl
  cases ra with
  | @lst p xs ds h t =>
    have e' : (boolsP ds).map (fun bs => PyData.bool (bs.any id)) = some d := e
    cases z : boolsP ds with
    | none => rw [z] at e'; cases e'
    | some ns =>
      rw [z] at e'; cases e'
      rw [boolsP_some z] at t
      have t' := rvs_bools t
      subst t'
      exact cr_any hc pins s σ H _ us Q I r ⟨_, _, rfl, h.sq, q.bl⟩
  | _ => cases e
theorem bif_repr (hg : X.A.guards = some []) (hu : X.A.units + 128 < cLine) : BifOk X "repr" := by
  refine .inl ⟨"repr", by decide +kernel, fun pins s σ H xs us Q I r h => ?_⟩
  obtain ⟨ρ, st, ds, d, S, rv, e, q⟩ := h
  obtain ⟨x, a, rfl, rfl, ra⟩ := one_of rv e fun _ _ => rfl
  have e' : (if a.showable = true ∧ a.shown.length ≤ sizeLine ∧ a.depth ≤ 64 then some (PyData.str a.shown) else none) = some d := e
  split at e'
  · rename_i hl
    cases e'
    obtain ⟨h1, h2, h3⟩ := hl
    cases r with
    | cons rx rt =>
      cases rt
      have fin : ∀ (h' : Heap) (u : Tok) (tk : Nat), (∀ b o, s.heap.get? b = some o → h'.get? b = some o) → EP X pins σ Q (.str a.shown u) { s with heap := h', toks := tk } := fun h' u tk hk =>
        ⟨.str a.shown, H, I.kept (t' := tk) hk, ⟨_, rfl⟩, q.str⟩
      obtain ⟨as, rd, ns⟩ := ra.reads I S rx
      cases rd with
      | none => exact PySem.P.repr_of_none (by have := fin s.heap s.toks (s.toks + 1) (fun _ _ z => z); simpa only [PyData.shown] using this)
      | bool b => exact PySem.P.repr_of_bool (by have := fin s.heap s.toks (s.toks + 1) (fun _ _ z => z); simpa only [PyData.shown] using this)
      | int i t => exact PySem.P.repr_of_int (by simpa only [PyData.showable, decide_eq_true_eq] using h1) (by have := fin s.heap s.toks (s.toks + 1) (fun _ _ z => z); simpa only [PyData.shown] using this)
      | str z t => exact PySem.P.repr_of_str (by have := fin s.heap s.toks (s.toks + 1) (fun _ _ z => z); simpa only [PyData.shown] using this) (by simpa only [PyData.shown] using h2)
      | list a1 a2 a3 a4 => exact repr_of_reads' (.list a1 a2 a3 a4) h1 (fun _ => ns) hg (by omega) (fun _ _ z => z) fin h2
      | tuple a1 a2 a3 a4 => exact repr_of_reads' (.tuple a1 a2 a3 a4) h1 (fun _ => ns) hg (by omega) (fun _ _ z => z) fin h2
      | dict a1 a2 a3 a4 a5 => exact repr_of_reads' (.dict a1 a2 a3 a4 a5) h1 (fun _ => ns) hg (by omega) (fun _ _ z => z) fin h2
  · cases e'
theorem bif_ok {f : String} (hf : f ∈ bifNames) (hc : X.calm = true) (hg : X.A.guards = some []) (hu : X.A.units + 128 < cLine) : BifOk X f := by
  have h : f = "len" ∨ f = "tuple" ∨ f = "list" ∨ f = "int" ∨ f = "abs" ∨ f = "sum" ∨ f = "repr" ∨ f = "str" ∨ f = "min" ∨ f = "max" ∨ f = "sorted" ∨ f = "all" ∨ f = "any" := by simpa [bifNames] using hf
  rcases h with rfl | rfl | rfl | rfl | rfl | rfl | rfl | rfl | rfl | rfl | rfl | rfl | rfl
  · exact bif_len
  · exact bif_tuple
  · exact bif_list
  · exact bif_int
  · exact bif_abs
  · exact bif_sum hc
  · exact bif_repr hg hu
  · exact bif_str
  · exact bif_min hc
  · exact bif_max hc
  · exact bif_sorted
  · exact bif_all hc
  · exact bif_any hc
end
end PB
set_option maxRecDepth 100000
set_option maxHeartbeats 1000000
/-! Pb, part 6: how the interpreter's steps are lifted; what loops walk. -/
namespace PB
open PySem PySem.Spec PyProof.Rows L2
abbrev EE := Str → Option P → Sto → Prop
def R.holds {α : Type} (r : R α) (Q : α → Sto → Prop) (E : EE) : Prop := match r with
  | .ok a st => Q a st
  | .err c v st => E c v st
  | .bad => False
section
variable {α β : Type} {r : R α} {f : α → Sto → R β} {Q Q' : α → Sto → Prop} {E E' : EE}
theorem holds_bind {Q : β → Sto → Prop} : (r.bind f).holds Q E ↔ r.holds (fun a st => (f a st).holds Q E) E := by cases r <;> exact Iff.rfl
theorem holds_mono (h : r.holds Q E) (q : ∀ a st, Q a st → Q' a st) (e : ∀ c v st, E c v st → E' c v st) : r.holds Q' E' := by
  cases r with
  | ok a st => exact q a st h
  | err c v st => exact e c v st h
  | bad => exact h
end
/-- the exceptions that X's surroundings take -/
def Xw (X : Cx) : XK := fun cls d H => Takes X (fun cls' d' _ H' => cls' = cls ∧ d' = d ∧ H' = H)
theorem takes_Xw (X : Cx) : Takes X (fun cls d _ H => Xw X cls d H) := fun u s' ⟨a, B, sI, pins, σ, H, cls, d, e, I, nb, up, sky, na, os, ag, w⟩ =>
  w u s' ⟨a, B, sI, pins, σ, H, cls, d, e, I, nb, up, sky, na, os, ag, rfl, rfl, rfl⟩
theorem Xw.of {X : Cx} {E : XK} (t : Takes X (fun cls d _ H => E cls d H)) {cls : Value} {d : Option Addr} {H : Hp} (h : E cls d H) : Xw X cls d H := t.imp fun c d' _ H' ⟨e1, e2, e3⟩ => by
  subst e1; subst e2; subst e3; exact h
/-- the field of an exception class of the package -/
def fldOf (c : Str) : Str := if c = "TooMany" then "limit" else if c = "BadCounter" then "error" else "place"
/-- an exception of the class c with the value v -/
def IsX (K : PySem.W.Frag) (mg : Str → Option Value) (H : Hp) (ρ : Pl) (c : Str) (v : Option P) (cls : Value) (d : Option Addr) : Prop := ∃ C, mg c = some (.ref C) ∧ cls = .ref C ∧ match v with
  | none => d = none
  | some q => ∃ dd x, d = some dd ∧ H dd = some (.xd [(fldOf c, x)]) ∧ RP K H ρ x q
def ErK (K : PySem.W.Frag) (mg : Str → Option Value) (ρ : Pl) (H : Hp) (E : XK) : EE := fun c v st => ∀ ρ' H' cls d, Ext ρ H ρ' H' → RS K H' ρ' st → IsX K mg H' ρ' c v cls d → E cls d H'
theorem ErK.ext {K : PySem.W.Frag} {mg : Str → Option Value} {E : XK} {ρ ρ' : Pl} {H H' : Hp} {c : Str} {v : Option P} {st : Sto} (e : Ext ρ H ρ' H') (h : ErK K mg ρ H E c v st) : ErK K mg ρ' H' E c v st := fun ρ2 H2 cls d e2 => h ρ2 H2 cls d (e.trans e2)
/-- what is wanted of an error that leaves -/
def Er (X : Cx) (ρ : Pl) (H : Hp) : EE := ErK X.K X.mg ρ H (Xw X)
theorem Er.ext {X : Cx} {ρ ρ' : Pl} {H H' : Hp} {c : Str} {v : Option P} {st : Sto} (e : Ext ρ H ρ' H') (h : Er X ρ H c v st) : Er X ρ' H' c v st := ErK.ext e h
def NoE : EE := fun _ _ _ => False
/-- what is wanted of a value that comes -/
def Post (K : PySem.W.Frag) (ρ : Pl) (H : Hp) (Q : VK) (v : D) (st : Sto) : Prop := ∀ ρ' H' x, Ext ρ H ρ' H' → RS K H' ρ' st → RD K H' ρ' x v → Q x H'
theorem Post.ext {K : PySem.W.Frag} {ρ ρ' : Pl} {H H' : Hp} {Q : VK} {v : D} {st : Sto} (h : Post K ρ H Q v st) (e : Ext ρ H ρ' H') : Post K ρ' H' Q v st := fun ρ2 H2 x e2 => h ρ2 H2 x (e.trans e2)
theorem Post.mono {K : PySem.W.Frag} {ρ : Pl} {H : Hp} {Q Q' : VK} {v : D} {st : Sto} (h : Post K ρ H Q v st) (q : ∀ x H', Q x H' → Q' x H') : Post K ρ H Q' v st := fun ρ2 H2 x e s r => q _ _ (h ρ2 H2 x e s r)
def tM (X : Cx) (m : Env → M D) : TE := fun σ H Q => ∃ ρ env st, RE X.K H ρ env σ ∧ RS X.K H ρ st ∧ (m env st).holds (Post X.K ρ H Q) (Er X ρ H)
/-- .. where nothing may be raised -/
def tMF (K : PySem.W.Frag) (m : Env → M D) : TE := fun σ H Q => ∃ ρ env st, RE K H ρ env σ ∧ RS K H ρ st ∧ (m env st).holds (Post K ρ H Q) NoE
theorem tMF_tM {X : Cx} {m : Env → M D} {σ : List (Option V)} {H : Hp} {Q : VK} (h : tMF X.K m σ H Q) : tM X m σ H Q := by
  obtain ⟨ρ, env, st, h1, h2, h3⟩ := h
  exact ⟨ρ, env, st, h1, h2, holds_mono h3 (fun _ _ z => z) fun _ _ _ z => z.elim⟩
def PostB (K : PySem.W.Frag) (ρ : Pl) (H : Hp) (Q : Bool → Hp → Prop) (b : Bool) (st : Sto) : Prop := ∀ ρ' H', Ext ρ H ρ' H' → RS K H' ρ' st → Q b H'
def tT (X : Cx) (m : Env → M Bool) : TT := fun σ H Q => ∃ ρ env st, RE X.K H ρ env σ ∧ RS X.K H ρ st ∧ (m env st).holds (PostB X.K ρ H Q) (Er X ρ H)
def tTF (K : PySem.W.Frag) (m : Env → M Bool) : TT := fun σ H Q => ∃ ρ env st, RE K H ρ env σ ∧ RS K H ρ st ∧ (m env st).holds (PostB K ρ H Q) NoE
theorem tTF_tT {X : Cx} {m : Env → M Bool} {σ : List (Option V)} {H : Hp} {Q : Bool → Hp → Prop} (h : tTF X.K m σ H Q) : tT X m σ H Q := by
  obtain ⟨ρ, env, st, h1, h2, h3⟩ := h
  exact ⟨ρ, env, st, h1, h2, holds_mono h3 (fun _ _ z => z) fun _ _ _ z => z.elim⟩
def PostL (K : PySem.W.Frag) (ρ : Pl) (H : Hp) (Q : List V → Hp → Prop) (v : List D) (st : Sto) : Prop := ∀ ρ' H' x, Ext ρ H ρ' H' → RS K H' ρ' st → RDs K H' ρ' x v → Q x H'
def tL (X : Cx) (m : Env → M (List D)) : TA := fun σ H Q => ∃ ρ env st, RE X.K H ρ env σ ∧ RS X.K H ρ st ∧ (m env st).holds (PostL X.K ρ H Q) (Er X ρ H)
/-- behind a statement -/
def PostS (K : PySem.W.Frag) (ρ : Pl) (H : Hp) (N : Nat) (Dn : Ends) (q : Fl × Env) (st : Sto) : Prop := ∀ ρ' H' σ', Ext ρ H ρ' H' → RS K H' ρ' st → RE K H' ρ' q.2 σ' → σ'.length = N → match q.1 with
  | .nx => Dn.nx σ' H'
  | .bk => Dn.bk σ' H'
  | .ct => Dn.ct σ' H'
  | .rt d => ∀ x, RD K H' ρ' x d → Dn.rt x H'
def tS (X : Cx) (m : Env → M (Fl × Env)) : TS := fun Dn σ H => ∃ ρ env st, RE X.K H ρ env σ ∧ RS X.K H ρ st ∧ (m env st).holds (PostS X.K ρ H σ.length Dn) (Er X ρ H)
/-- where one stands behind a step -/
structure Now (X : Cx) (ρ0 : Pl) (H0 : Hp) (ρ : Pl) (H : Hp) (env : Env) (σ : List (Option V)) (st : Sto) : Prop where
  ext : Ext ρ0 H0 ρ H
  re : RE X.K H ρ env σ
  rs : RS X.K H ρ st
section
variable {X : Cx} {ρ0 ρ : Pl} {H0 H : Hp} {env : Env} {σ : List (Option V)} {st : Sto} {α : Type}
theorem Now.start (re : RE X.K H ρ env σ) (rs : RS X.K H ρ st) : Now X ρ H ρ H env σ st := ⟨.refl, re, rs⟩
/-- one expression, then the rest -/
theorem step {m : Env → M D} {f : D → Sto → R α} {Qf : α → Sto → Prop} (n : Now X ρ0 H0 ρ H env σ st) (h : ((m env st).bind f).holds Qf (Er X ρ0 H0)) :
    tM X m σ H fun x H1 => ∃ ρ1 st1 v, Now X ρ0 H0 ρ1 H1 env σ st1 ∧ RD X.K H1 ρ1 x v ∧ Ext ρ H ρ1 H1 ∧ (f v st1).holds Qf (Er X ρ0 H0) :=
  ⟨ρ, env, st, n.re, n.rs, holds_mono (holds_bind.mp h) (fun v st1 h1 ρ1 H1 x e S r => ⟨ρ1, st1, v, ⟨n.ext.trans e, n.re.ext e, S⟩, r, e, h1⟩) fun c v st1 h1 => h1.ext n.ext⟩
theorem stepT {m : Env → M Bool} {f : Bool → Sto → R α} {Qf : α → Sto → Prop} (n : Now X ρ0 H0 ρ H env σ st) (h : ((m env st).bind f).holds Qf (Er X ρ0 H0)) :
    tT X m σ H fun b H1 => ∃ ρ1 st1, Now X ρ0 H0 ρ1 H1 env σ st1 ∧ Ext ρ H ρ1 H1 ∧ (f b st1).holds Qf (Er X ρ0 H0) :=
  ⟨ρ, env, st, n.re, n.rs, holds_mono (holds_bind.mp h) (fun v st1 h1 ρ1 H1 e S => ⟨ρ1, st1, ⟨n.ext.trans e, n.re.ext e, S⟩, e, h1⟩) fun c v st1 h1 => h1.ext n.ext⟩
theorem stepL {m : Env → M (List D)} {f : List D → Sto → R α} {Qf : α → Sto → Prop} (n : Now X ρ0 H0 ρ H env σ st) (h : ((m env st).bind f).holds Qf (Er X ρ0 H0)) :
    tL X m σ H fun x H1 => ∃ ρ1 st1 v, Now X ρ0 H0 ρ1 H1 env σ st1 ∧ RDs X.K H1 ρ1 x v ∧ Ext ρ H ρ1 H1 ∧ (f v st1).holds Qf (Er X ρ0 H0) :=
  ⟨ρ, env, st, n.re, n.rs, holds_mono (holds_bind.mp h) (fun v st1 h1 ρ1 H1 x e S r => ⟨ρ1, st1, v, ⟨n.ext.trans e, n.re.ext e, S⟩, r, e, h1⟩) fun c v st1 h1 => h1.ext n.ext⟩
/-- the last expression -/
theorem last {m : Env → M D} {Q : VK} (n : Now X ρ0 H0 ρ H env σ st) (h : (m env st).holds (Post X.K ρ0 H0 Q) (Er X ρ0 H0)) : tM X m σ H Q :=
  ⟨ρ, env, st, n.re, n.rs, holds_mono h (fun v st1 h1 => h1.ext n.ext) fun c v st1 h1 => h1.ext n.ext⟩
theorem tM_mono {m : Env → M D} {Q Q' : VK} (h : tM X m σ H Q) (q : ∀ x H', Q x H' → Q' x H') : tM X m σ H Q' := by
  obtain ⟨ρ, env, st, h1, h2, h3⟩ := h
  exact ⟨ρ, env, st, h1, h2, holds_mono h3 (fun v st1 z => z.mono q) fun _ _ _ z => z⟩
theorem tT_mono {m : Env → M Bool} {Q Q' : Bool → Hp → Prop} (h : tT X m σ H Q) (q : ∀ x H', Q x H' → Q' x H') : tT X m σ H Q' := by
  obtain ⟨ρ, env, st, h1, h2, h3⟩ := h
  exact ⟨ρ, env, st, h1, h2, holds_mono h3 (fun v st1 z ρ1 H1 e S => q _ _ (z ρ1 H1 e S)) fun _ _ _ z => z⟩
theorem tL_mono {m : Env → M (List D)} {Q Q' : List V → Hp → Prop} (h : tL X m σ H Q) (q : ∀ x H', Q x H' → Q' x H') : tL X m σ H Q' := by
  obtain ⟨ρ, env, st, h1, h2, h3⟩ := h
  exact ⟨ρ, env, st, h1, h2, holds_mono h3 (fun v st1 z ρ1 H1 x e S r => q _ _ (z ρ1 H1 x e S r)) fun _ _ _ z => z⟩
/-- a value is seen -/
theorem seen {v : D} {f : P → Sto → R α} {Qf : α → Sto → Prop} {E : EE} (h : ((vw v st).bind f).holds Qf E) : ∃ a, view st v = some a ∧ (f a st).holds Qf E := by
  unfold vw at h
  cases e : view st v with
  | none => rw [e] at h; exact h.elim
  | some a => rw [e] at h; exact ⟨a, rfl, h⟩
theorem needed {o : Option α} {β : Type} {f : α → Sto → R β} {Qf : β → Sto → Prop} {E : EE} (h : ((need o st).bind f).holds Qf E) : ∃ a, o = some a ∧ (f a st).holds Qf E := by
  unfold need at h
  cases o with
  | none => exact h.elim
  | some a => exact ⟨a, rfl, h⟩
/-- an operation's answer is what is wanted -/
theorem FP.of_post {r : P} {Q : VK} (S : RS X.K H ρ st) (h : Post X.K ρ H Q (.p r) st) : FP X.K H ρ r Q := by
  intro H1 s
  have S1 := S.same s
  have go : ∀ z, RP X.K H1 ρ z r → Q z H1 := fun z q => h ρ H1 z (Ext.same s) S1 (.p q)
  cases r with
  | list ds =>
    intro xs p q n
    have s2 := same_new (o := .lst xs) n
    exact h ρ _ (.ref p) (Ext.same (s.trans s2)) (S1.same s2) (.p (.lst (.inl ⟨.inl upd_same, S1.fresh n⟩) (q.ext (Ext.same s2))))
  | _ => exact go
end
end PB
set_option maxRecDepth 100000
set_option maxHeartbeats 2000000
/-! Pb, part 7: enumerate and zip over lists and tuples. -/
namespace PB
open PySem PySem.Spec PyProof.Rows L2
/-- pairs that an iterator of tuples gives: n turns, while G holds; the items by Y -/
def Itw (n : Nat) (G : Hp → Prop) (Y : Nat → Hp → List V → Prop) : It :=
  ⟨fun i H => i < n ∧ G H, fun i H x H' => ∃ T vs, x = .ref T ∧ H T = none ∧ H' = upd H T (.tup vs) ∧ Y i H vs, fun i H => i = n ∧ G H⟩
theorem turn_W {C : Type} {Pg : Program} {w : World} {K : PySem.W.Frag} {elts : List Expr} {kk : Nat} {tpos : Pos} {it : Addr} {own wr : List Addr} {fp : C → List Addr} {n : Nat} {Pt : C → Nat → Array Value → Prop} {St : C → Nat → Heap → Prop} {Mid : C → Nat → Addr → Heap → Prop}
    {G : Hp → Prop} {Y : Nat → Hp → List V → Prop} {Own : Nat → Heap → Prop} {Sr : C → Heap → Prop} {Good : C → Prop}
    (W : ∀ (A : Around) (c : C), A.handled = none → Good c → WalksT Pg w A it (fp c) wr n (Pt c) (St c) (Mid c))
    (to : ∀ c i h, Own i h → Sr c h → St c i h) (fro : ∀ c i h, St c i h → Own i h) (mem : it ∈ own) (sub : ∀ b ∈ wr, b ∈ own)
    (objs : ∀ i h, Own i h → ∀ b ∈ own, ∃ o, h.get? b = some o ∧ ∀ v, o.data ≠ .cell v)
    (keepO : ∀ i h h', Own i h → (∀ b ∈ own, ∀ o, h.get? b = some o → h'.get? b = some o) → Own i h')
    (hsrc : ∀ (X : Cx) pins σ H s, X.prog = Pg → X.w = w → X.K = K → Inv X pins σ H s → G H → ∃ c, Good c ∧ Sr c s.heap ∧ ∀ i vals, i < n → Pt c i vals → ∃ vs, Vals vs vals.toList ∧ Y i H vs ∧ vs.length ≤ sizeLine)
    (self : ∀ (A : Around) i (s : Shared) (Q : Value → Shared → Prop) (E : Value → Shared → Prop), Own i s.heap → Q (.ref it) s → wpAny (model Pg w) A (pyIter (.ref it)) Q E s) :
    Turn Pg w K (.Tuple elts kk tpos) (Itw n G Y) own it Own where
  mem := mem
  obj := objs
  keep := keepO
  item := by
    intro X hP hw hK hc i pins s σ H E I hf st hg
    obtain ⟨hi, g⟩ := hg
    obtain ⟨c, gc, sr, hv⟩ := hsrc X pins σ H s hP hw hK I g
    subst hP hw hK
    refine (W X.A c (I.ok.hd hc) gc).item i s _ _ hi (to c i _ st sr) fun T vals h1 tk hp hT ht hm hk => ?_
    refine ⟨_, rfl, (W X.A c (I.ok.hd hc) gc).go elts kk tpos i T _ _ _ hm fun h2 st2 hk2 => ?_⟩
    obtain ⟨vs, rv, y, hz⟩ := hv i vals hi hp
    have nT := (W X.A c (I.ok.hd hc) gc).apart i T _ hm
    obtain ⟨o, ho, hoc, m, hod⟩ := ht
    have new : ObjOk X.prog X.w (upd H T (.tup vs)) h2 T (.tup vs) := ⟨hz, vals.toList, rv, ⟨o, hk2 T o nT ho, hoc, m, by simpa using hod⟩⟩
    have I1 := I.turnedNew (t' := tk) (fun b o2 hb q => hk2 b o2 hb (hk b o2 hb q)) (fun b hb => hf b (sub b hb)) hT new
    refine ⟨.ref T, _, I1, rfl, ⟨T, vs, rfl, I.hok.fresh hT, rfl, y⟩, fro _ _ _ st2, fun b hb => ?_⟩
    obtain ⟨ob, hob, _⟩ := objs i _ st b hb
    rw [upd_ne (Nat.ne_of_lt (Nat.lt_of_lt_of_le (Heap.lt_size hob) hT))]
    exact (hf b hb).1
  done := by
    intro X hP hw hK hc i pins s σ H E I hf st hg
    obtain ⟨hi, g⟩ := hg
    obtain ⟨c, gc, sr, hv⟩ := hsrc X pins σ H s hP hw hK I g
    subst hP hw hK hi
    exact (W X.A c (I.ok.hd hc) gc).done s _ _ (to c _ _ st sr) fun h1 tk hk => ⟨rfl, I.turnedL (t' := tk) (fun b o hb q => hk b o hb q) fun b hb => hf b (sub b hb)⟩
  self := self
/-! ### lists and tuples alike -/
def isK (k : Bool) (h : Heap) (a : Addr) (its : Array Value) : Prop := if k = true then h.IsList a its else h.IsTuple a its
def itK (k : Bool) (h : Heap) (it a : Addr) (i : Nat) : Prop := if k = true then h.IsListIter it a i else h.IsTupleIter it a i
def objK (k : Bool) (a : Addr) : Obj := if k = true then { cls := .type "list_iterator", data := .fields #[.ref a, .int 0 0] } else { cls := .type "tuple_iterator", data := .fields #[.ref a, .int 0 0] }
def SqX (K : PySem.W.Frag) (k : Bool) (H : Hp) (a : Addr) (xs : List V) : Prop := if k = true then SqL K H a xs else SqT K H a xs
section
variable {k : Bool} {h h' : Heap} {it a : Addr} {i : Nat} {its : Array Value}
theorem isK_lt (q : isK k h a its) : a < h.objs.size := by
  cases k with
  | true => obtain ⟨o, e, _⟩ := (show h.IsList a its from q); exact Heap.lt_size e
  | false => obtain ⟨o, e, _⟩ := (show h.IsTuple a its from q); exact Heap.lt_size e
theorem itK_keep (q : itK k h it a i) (hk : ∀ o, h.get? it = some o → h'.get? it = some o) : itK k h' it a i := by
  cases k with
  | true => exact Heap.IsListIter.at (show h.IsListIter it a i from q) hk
  | false => exact Heap.IsTupleIter.at (show h.IsTupleIter it a i from q) hk
theorem itK_obj (q : itK k h it a i) : ∃ o, h.get? it = some o ∧ ∀ v, o.data ≠ .cell v := by
  cases k with
  | true => obtain ⟨o, e, _, d⟩ := (show h.IsListIter it a i from q); exact ⟨o, e, fun v z => by rw [d] at z; cases z⟩
  | false => obtain ⟨o, e, _, d⟩ := (show h.IsTupleIter it a i from q); exact ⟨o, e, fun v z => by rw [d] at z; cases z⟩
theorem itK_zero (q : h.get? it = some (objK k a)) : itK k h it a 0 := by
  cases k with
  | true => exact ⟨_, q, rfl, rfl⟩
  | false => exact ⟨_, q, rfl, rfl⟩
theorem drawsK {prog : Program} {w : World} {A : Around} (hh : A.handled = none) (hne : a ≠ it) (its : Array Value) :
    Draws prog w A it [it, a] its.size (fun i v => its[i]? = some v) (fun i h => itK k h it a i ∧ isK k h a its) := by
  cases k with
  | true => exact Draws.list hh it a hne its
  | false => exact Draws.tuple hh it a hne its
theorem beginsK : Begins (.ref a) (objK k a) fun h => isK k h a its := by
  cases k with
  | true => exact begins_list a its
  | false => exact begins_tuple a its
theorem sqX_is {X : Cx} {pins : List (Addr × Obj)} {σ : List (Option V)} {H : Hp} {s : Shared} {xs : List V} (I : Inv X pins σ H s) (q : SqX X.K k H a xs) : ∃ ws : List Value, Vals xs ws ∧ isK k s.heap a ws.toArray := by
  cases k with
  | true => obtain ⟨ws, r, p, _⟩ := I.list (show SqL X.K H a xs from q); exact ⟨ws, r, p.isList⟩
  | false => obtain ⟨ws, r, p, _⟩ := I.tuple (show SqT X.K H a xs from q); exact ⟨ws, r, p⟩
end
theorem sqX_inj {X : Cx} {pins : List (Addr × Obj)} {σ : List (Option V)} {H : Hp} {s : Shared} {k : Bool} {a : Addr} {xs ys : List V} (I : Inv X pins σ H s) (q : SqX X.K k H a xs) (r : SqX X.K k H a ys) : xs = ys := by
  cases k with
  | true => exact I.list_inj (show SqL X.K H a xs from q) r
  | false => exact I.tuple_inj (show SqT X.K H a xs from q) r
/-! ### enumerate(v) -/
theorem enum_new1 {v : Value} {o : Obj} {B : Heap → Prop} (b : Begins v o B) :
    Meets (Builtin.«enumerate.__new__» ⟨[.type "enumerate", v], []⟩) (fun _ R s => B s.heap ∧
      R (.ok (.ret (.ref (s.heap.push o).objs.size))) { s with heap := (s.heap.push o).push { cls := .type "enumerate", data := .fields #[.none, .bool false, .ref s.heap.objs.size, rawInt 0, .none, .none] } }) :=
  .of_wp fun prog w A R s q => by
    obtain ⟨hh, gg, dd, tt, oo⟩ := s
    obtain ⟨q1, q2⟩ := q
    have hsub := sub_enumerate
    have go : ∀ {A2 : Around} {E2 : Value → Shared → Prop} {Q2 : Value → Shared → Prop}, Q2 (.ref hh.objs.size) ⟨hh.push o, gg, dd, tt, oo⟩ → wpAny (model prog w) A2 (pyIter v) Q2 E2 ⟨hh, gg, dd, tt, oo⟩ :=
      fun z => b.iter prog w _ _ ⟨hh, gg, dd, tt, oo⟩ _ q1 z
    wp_walk
    refine wpAny_stack_any fun _ => wpAny_pure ?_
    split
    · rename_i c _ _ _ _ _
      cases (c == Value.type "enumerate") <;> (wp_walk using go; exact ⟨_, rfl, q2⟩)
    · wp_walk using go
      exact ⟨_, rfl, q2⟩
theorem enum_call {prog : Program} {w : World} {A : Around} {E : Value → Shared → Prop} {s : Shared} {v : Value} {o : Obj} {B : Heap → Prop} {Q : Value → Shared → Prop} (b : Begins v o B) (hb : B s.heap)
    (q : ∀ h', IsEnum h' (s.heap.objs.size + 1) s.heap.objs.size 0 .none → h'.get? s.heap.objs.size = some o → (∀ c u, s.heap.get? c = some u → h'.get? c = some u) → Q (.ref (s.heap.objs.size + 1)) { s with heap := h' }) :
    wpAny (model prog w) A (call (.type "enumerate") [v]) Q E s := by
  refine callType_new F.called_enumerate (by decide) (F.typeCall_enumerate_1 _) (F.newCall_enumerate_1 _) (fun obj => F.args_object_init_2 obj _) F.entry_enumerate_new (enum_new1 b) ⟨hb, ?_⟩
  have z : (s.heap.push o).objs.size = s.heap.objs.size + 1 := Heap.size_push ..
  have e := Heap.get?_push_size (s.heap.push o) (o := { cls := .type "enumerate", data := .fields #[.none, .bool false, .ref s.heap.objs.size, rawInt 0, .none, .none] }) rfl
  rw [z] at e
  show _ ∧ _
  rw [z]
  exact ⟨⟨_, e, rfl⟩, q _ e (Heap.get?_push_of_some _ (Heap.get?_push_size _ b.free)) fun c u x => Heap.get?_push_of_some _ (Heap.get?_push_of_some _ x)⟩
def ItE (K : PySem.W.Frag) (k : Bool) (a : Addr) (n : Nat) : It := Itw n (fun H => ∃ xs, SqX K k H a xs ∧ xs.length = n) fun i H vs => ∀ xs, SqX K k H a xs → ∃ x, xs[i]? = some x ∧ vs = [.int (i : Nat), x]
theorem turn_E {Pg : Program} {w : World} {K : PySem.W.Frag} {elts : List Expr} {kk : Nat} {tpos : Pos} {k : Bool} {a e it : Addr} {n : Nat} (hei : e ≠ it) (hea : e ≠ a) (hia : a ≠ it) :
    Turn Pg w K (.Tuple elts kk tpos) (ItE K k a n) [e, it] e (fun i h => (∃ old, IsEnum h e it ((i : Nat) : Int) old) ∧ itK k h it a i) := by
  refine turn_W (C := List Value) (fp := fun _ => e :: [it, a]) (Good := fun ws => ws.length = n) (Sr := fun ws h => isK k h a ws.toArray)
    (Pt := fun ws i vals => ∃ t x, ws.toArray[i]? = some x ∧ vals = #[.int ((0 : Int) + (i : Int)) t, x])
    (St := fun ws i h => (∃ old, IsEnum h e it ((0 : Int) + (i : Int)) old) ∧ (itK k h it a i ∧ isK k h a ws.toArray))
    (Mid := fun ws i T h => (∃ x, IsEnumOut h e it ((0 : Int) + (i : Int) + 1) x T) ∧ (itK k h it a (i + 1) ∧ isK k h a ws.toArray) ∧ T ≠ e ∧ T ≠ it) (fun A ws hh g => ?_) (fun ws i h o sr => ?_) (fun ws i h st => ?_) (by simp) (fun b hb => hb) (fun i h o b hb => ?_) (fun i h h' o kp => ?_) (fun X pins σ H s hP hw hK I g => ?_) (fun A i s Q E o q => ?_)
  rotate_left
  · rw [Int.zero_add]; exact ⟨o.1, o.2, sr⟩
  · rw [Int.zero_add] at st; exact ⟨st.1, st.2.1⟩
  · obtain ⟨⟨old, q1⟩, q2⟩ := o
    have e' : b = e ∨ b = it := by simpa using hb
    rcases e' with z | z
    · rw [z]; exact ⟨_, q1, fun v z => nomatch z⟩
    · rw [z]; exact itK_obj q2
  · obtain ⟨⟨old, q1⟩, q2⟩ := o
    exact ⟨⟨old, kp e (by simp) _ q1⟩, itK_keep q2 fun o => kp it (by simp) o⟩
  · subst hK
    obtain ⟨xs, g, hn⟩ := g
    obtain ⟨ws, r, p⟩ := sqX_is I g
    refine ⟨ws, by rw [← r.length]; exact hn, p, fun i vals hi hp => ?_⟩
    obtain ⟨t, u, hu, rfl⟩ := hp
    have hi : i < xs.length := by omega
    have hx : xs[i]? = some xs[i] := List.getElem?_eq_getElem hi
    obtain ⟨u', hu', ru⟩ := r.get hx
    have : u = u' := by
      have hu2 : ws[i]? = some u := by simpa using hu
      rw [hu2] at hu'
      exact Option.some.inj hu'
    subst this
    exact ⟨[.int (i : Nat), xs[i]], .cons ⟨t, by rw [Int.zero_add]⟩ (.cons ru .nil), fun ys hy => by rw [sqX_inj I hy g]; exact ⟨_, hx, rfl⟩, by show 2 ≤ sizeLine; decide⟩
  · obtain ⟨⟨old, q1⟩, q2⟩ := o
    exact wpAny_pyIter_enum q1 q
  · have D := drawsK (prog := Pg) (w := w) (A := A.in1) (k := k) (it := it) (a := a) (show A.in1.handled = none from hh) hia ws.toArray
    have W := WalksT.enumFrom (A := A) 0 D e hei (by simp [hei, hea]) (by simp)
    have l : n = ws.toArray.size := by rw [List.size_toArray]; exact g.symm
    rw [l]
    exact W
/-! ### zip(v1, v2) -/
def ItZ (K : PySem.W.Frag) (k1 k2 : Bool) (a b : Addr) (n1 n2 : Nat) : It := Itw (min n1 n2) (fun H => (∃ xs, SqX K k1 H a xs ∧ xs.length = n1) ∧ ∃ ys, SqX K k2 H b ys ∧ ys.length = n2) fun i H vs => ∀ xs ys, SqX K k1 H a xs → SqX K k2 H b ys → ∃ x y, xs[i]? = some x ∧ ys[i]? = some y ∧ vs = [x, y]
theorem turn_Z {Pg : Program} {w : World} {K : PySem.W.Frag} {elts : List Expr} {kk : Nat} {tpos : Pos} {k1 k2 : Bool} {a b z TI TO i1 i2 : Addr} {n1 n2 : Nat} (S : ZipSep2 z TI TO i1 i2 [i1, a] [i2, b]) (h1 : a ≠ i1) (h2 : b ≠ i2) :
    Turn Pg w K (.Tuple elts kk tpos) (ItZ K k1 k2 a b n1 n2) [z, TI, TO, i1, i2] z (fun i h => IsZip h z TI TO .none ∧ IsTupOf2 h TI (.ref i1) (.ref i2) ∧ (∃ a1 a2, IsTupOf2 h TO a1 a2) ∧ itK k1 h i1 a i ∧ itK k2 h i2 b i) := by
  refine turn_W (C := List Value × List Value) (wr := [z, TO, i1, i2]) (fp := fun _ => z :: TI :: TO :: ([i1, a] ++ [i2, b])) (Good := fun c => c.1.length = n1 ∧ c.2.length = n2) (Sr := fun c h => isK k1 h a c.1.toArray ∧ isK k2 h b c.2.toArray)
    (Pt := fun c i vals => ∃ x1 x2, c.1.toArray[i]? = some x1 ∧ c.2.toArray[i]? = some x2 ∧ vals = #[x1, x2])
    (St := fun c i h => IsZip h z TI TO .none ∧ IsTupOf2 h TI (.ref i1) (.ref i2) ∧ (∃ a1 a2, IsTupOf2 h TO a1 a2) ∧ (itK k1 h i1 a i ∧ isK k1 h a c.1.toArray) ∧ (itK k2 h i2 b i ∧ isK k2 h b c.2.toArray))
    (Mid := fun c i T h => IsZip h z TI TO (rawInt T) ∧ IsTupOf2 h TI (.ref i1) (.ref i2) ∧ (∃ a1 a2, IsTupOf2 h TO a1 a2) ∧ (itK k1 h i1 a (i + 1) ∧ isK k1 h a c.1.toArray) ∧ (itK k2 h i2 b (i + 1) ∧ isK k2 h b c.2.toArray) ∧ T ≠ z ∧ T ≠ TO ∧ T ≠ i1 ∧ T ≠ i2)
    (fun A c hh g => ?_) (fun c i h o sr => ?_) (fun c i h st => ?_) (by simp) (fun b hb => ?_) (fun i h o b hb => ?_) (fun i h h' o kp => ?_) (fun X pins σ H s hP hw hK I g => ?_) (fun A i s Q E o q => ?_)
  rotate_left
  · exact ⟨o.1, o.2.1, o.2.2.1, ⟨o.2.2.2.1, sr.1⟩, ⟨o.2.2.2.2, sr.2⟩⟩
  · exact ⟨st.1, st.2.1, st.2.2.1, st.2.2.2.1.1, st.2.2.2.2.1⟩
  · simp only [List.mem_cons, List.not_mem_nil, or_false] at hb ⊢
    rcases hb with e | e | e | e <;> simp [e]
  · obtain ⟨q1, q2, ⟨a1, a2, q3⟩, q4, q5⟩ := o
    simp only [List.mem_cons, List.not_mem_nil, or_false] at hb
    rcases hb with e | e | e | e | e
    · rw [e]; exact ⟨_, q1, fun v y => nomatch y⟩
    · rw [e]; exact ⟨_, q2, fun v y => nomatch y⟩
    · rw [e]; exact ⟨_, q3, fun v y => nomatch y⟩
    · rw [e]; exact itK_obj q4
    · rw [e]; exact itK_obj q5
  · obtain ⟨q1, q2, ⟨a1, a2, q3⟩, q4, q5⟩ := o
    exact ⟨kp z (by simp) _ q1, kp TI (by simp) _ q2, ⟨a1, a2, kp TO (by simp) _ q3⟩, itK_keep q4 fun o => kp i1 (by simp) o, itK_keep q5 fun o => kp i2 (by simp) o⟩
  · subst hK
    obtain ⟨⟨xs, g1, l1⟩, ys, g2, l2⟩ := g
    obtain ⟨ws, r, p⟩ := sqX_is I g1
    obtain ⟨ws2, r2, p2⟩ := sqX_is I g2
    refine ⟨(ws, ws2), ⟨by rw [← l1, r.length], by rw [← l2, r2.length]⟩, ⟨p, p2⟩, fun i vals hi hp => ?_⟩
    obtain ⟨u, u2, hu, hu2, rfl⟩ := hp
    have hx : xs[i]? = some (xs[i]'(by omega)) := List.getElem?_eq_getElem (by omega)
    have hy : ys[i]? = some (ys[i]'(by omega)) := List.getElem?_eq_getElem (by omega)
    obtain ⟨w1, e1, ru⟩ := r.get hx
    obtain ⟨w2, e2, ru2⟩ := r2.get hy
    have t1 : ws[i]? = some u := by simpa using hu
    have t2 : ws2[i]? = some u2 := by simpa using hu2
    rw [t1] at e1
    rw [t2] at e2
    cases e1
    cases e2
    exact ⟨[xs[i]'(by omega), ys[i]'(by omega)], .cons ru (.cons ru2 .nil), fun us vs hu hv => by rw [sqX_inj I hu g1, sqX_inj I hv g2]; exact ⟨_, _, hx, hy, rfl⟩, by show 2 ≤ sizeLine; decide⟩
  · exact wpAny_pyIter_zip o.1 q
  · have D1 := drawsK (prog := Pg) (w := w) (A := A.in1) (k := k1) (it := i1) (a := a) (show A.in1.handled = none from hh) h1 c.1.toArray
    have D2 := drawsK (prog := Pg) (w := w) (A := A.in1) (k := k2) (it := i2) (a := b) (show A.in1.handled = none from hh) h2 c.2.toArray
    have W := WalksT.zipD2 (A := A) S D1 D2
    have l1 : n1 = c.1.toArray.size := by rw [List.size_toArray]; exact g.1.symm
    have l2 : n2 = c.2.toArray.size := by rw [List.size_toArray]; exact g.2.symm
    rw [l1, l2]
    exact W
end PB
set_option maxRecDepth 100000
set_option maxHeartbeats 2000000
/-! Pb, part 8: what loops and comprehensions walk. -/
namespace PB
open PySem PySem.Spec PyProof.Rows L2
/-- the iterator J gives these items, while g holds of the store -/
structure Src (K : PySem.W.Frag) (J : It) (items : List P) (g : Sto → Prop) (ρ : Pl) (H : Hp) : Prop where
  go : ∀ ρ1 H1 st i, Ext ρ H ρ1 H1 → RS K H1 ρ1 st → g st → i < items.length → J.go i H1
  stop : ∀ ρ1 H1 st, Ext ρ H ρ1 H1 → RS K H1 ρ1 st → g st → J.stop items.length H1
  yld : ∀ ρ1 H1 st i d x H2, Ext ρ H ρ1 H1 → RS K H1 ρ1 st → g st → items[i]? = some d → J.yld i H1 x H2 → Same H1 H2 ∧ RP K H2 ρ1 x d
def PostI (K : PySem.W.Frag) (ρ : Pl) (H : Hp) (Q : It → Hp → Prop) (items : List P × (Sto → Prop)) (st : Sto) : Prop := ∀ ρ' H' J, Ext ρ H ρ' H' → RS K H' ρ' st → Src K J items.1 items.2 ρ' H' → Q J H'
def tI (X : Cx) (m : Env → M (List P × (Sto → Prop))) : TI := fun σ H Q => ∃ ρ env st, RE X.K H ρ env σ ∧ RS X.K H ρ st ∧ (m env st).holds (PostI X.K ρ H Q) (Er X ρ H)
/-- a list or a tuple that can be walked -/
def Wk (K : PySem.W.Frag) (k : Bool) (a : Addr) (items : List P) (g : Sto → Prop) (ρ : Pl) (H : Hp) : Prop := ∀ ρ1 H1 st, Ext ρ H ρ1 H1 → RS K H1 ρ1 st → g st → ∃ xs, SqX K k H1 a xs ∧ RPs K H1 ρ1 xs items
section
variable {K : PySem.W.Frag} {ρ : Pl} {H : Hp} {a b : Addr} {ds es : List P} {g g2 : Sto → Prop} {st : Sto}
theorem wk_of {x : V} {v : D} {d : P} {items : List P} (h : RD K H ρ x v) (S : RS K H ρ st) (e : view st v = some d) (e2 : itemsP d = some items) : ∃ k a, x = .ref a ∧ Wk K k a items (stays st [v]) ρ H := by
  cases h with
  | p h =>
    cases e
    cases h with
    | lst h r => cases e2; exact ⟨true, _, rfl, fun ρ1 H1 st1 e S1 _ => ⟨_, (h.ext e).sq, r.ext e⟩⟩
    | tup h r => cases e2; exact ⟨false, _, rfl, fun ρ1 H1 st1 e S1 _ => ⟨_, (h.ext e).sq, r.ext e⟩⟩
    | _ => cases e2
  | @ref a l h =>
    simp only [PB.view] at e
    cases o : st[l]? with
    | none => rw [o] at e; cases e
    | some o' =>
      rw [o] at e
      cases o' with
      | tup xs => cases e
      | lst xs =>
        cases z : allP xs with
        | none => simp [z] at e
        | some ds =>
          simp [z] at e
          subst e
          cases e2
          refine ⟨true, a, rfl, fun ρ1 H1 st1 e S1 g => ?_⟩
          have g1 : st1[l]? = some (.lst xs) := g.1.trans o
          obtain ⟨⟨vs, r1, r2⟩, _⟩ := S1.ob l a _ (e.get h) g1
          rw [allP_some z] at r2
          exact ⟨vs, SqL.of r1, r2.toP⟩
      | dct w xs =>
        cases z : allP (xs.map Prod.snd) with
        | none => simp [z] at e
        | some ds => simp [z] at e; subst e; cases e2
theorem wk_list {x : V} {v : D} {ds : List P} (h : RD K H ρ x v) (S : RS K H ρ st) (e : view st v = some (.list ds)) : ∃ a, x = .ref a ∧ Wk K true a ds (stays st [v]) ρ H := by
  cases h with
  | p h =>
    cases e
    cases h with
    | lst h r => exact ⟨_, rfl, fun ρ1 H1 st1 e S1 _ => ⟨_, (h.ext e).sq, r.ext e⟩⟩
  | @ref a l h =>
    simp only [PB.view] at e
    cases o : st[l]? with
    | none => rw [o] at e; cases e
    | some o' =>
      rw [o] at e
      cases o' with
      | tup xs => cases e
      | lst xs =>
        cases z : allP xs with
        | none => simp [z] at e
        | some ws =>
          simp [z] at e
          subst e
          refine ⟨a, rfl, fun ρ1 H1 st1 e S1 g => ?_⟩
          obtain ⟨⟨vs, r1, r2⟩, _⟩ := S1.ob l a _ (e.get h) (g.1.trans o)
          rw [allP_some z] at r2
          exact ⟨vs, SqL.of r1, r2.toP⟩
      | dct w xs =>
        cases z : allP (xs.map Prod.snd) with
        | none => simp [z] at e
        | some ws => simp [z] at e
theorem wk_tup {x : V} {v : D} {ds : List P} (h : RD K H ρ x v) (S : RS K H ρ st) (e : view st v = some (.tuple ds)) : ∃ a, x = .ref a ∧ Wk K false a ds (stays st [v]) ρ H := by
  have rv := h.view S e
  cases rv with
  | tup h2 r => exact ⟨_, rfl, fun ρ1 H1 st1 e S1 _ => ⟨_, (h2.ext e).sq, r.ext e⟩⟩
def Itk2 (K : PySem.W.Frag) (k : Bool) (a : Addr) : It := if k = true then Itl K a else Itt K a
theorem src_seq {k : Bool} (h : Wk K k a ds g ρ H) : Src K (Itk2 K k a) ds g ρ H where
  go := fun ρ1 H1 st i e S q hi => by
    obtain ⟨xs, s, r⟩ := h ρ1 H1 st e S q
    have hx : xs[i]? = some (xs[i]'(by rw [r.length]; exact hi)) := List.getElem?_eq_getElem _
    cases k with
    | true => exact ⟨xs, _, s, hx⟩
    | false => exact ⟨xs, _, s, hx⟩
  stop := fun ρ1 H1 st e S q => by
    obtain ⟨xs, s, r⟩ := h ρ1 H1 st e S q
    cases k with
    | true => exact ⟨xs, s, by rw [r.length]; exact Nat.le_refl _⟩
    | false => exact ⟨xs, s, by rw [r.length]; exact Nat.le_refl _⟩
  yld := fun ρ1 H1 st i d x H2 e S q hi y => by
    obtain ⟨xs, s, r⟩ := h ρ1 H1 st e S q
    obtain ⟨x', h1, h2⟩ := r.get hi
    cases k with
    | true =>
      obtain ⟨rfl, y⟩ := y
      have := y xs s
      rw [this] at h1
      cases h1
      exact ⟨Same.refl _, h2⟩
    | false =>
      obtain ⟨rfl, y⟩ := y
      have := y xs s
      rw [this] at h1
      cases h1
      exact ⟨Same.refl _, h2⟩
theorem rangeD_len (lo : Int) (n : Nat) : (rangeD lo n).length = n := by simp [rangeD]
theorem rangeD_get {lo : Int} {n i : Nat} {d : P} (h : (rangeD lo n)[i]? = some d) : i < n ∧ d = .int (lo + i) := by
  have hi : i < n := by
    have := (List.getElem?_eq_some_iff.mp h).1
    rwa [rangeD_len] at this
  refine ⟨hi, ?_⟩
  simp [rangeD, hi] at h
  exact h.symm
theorem src_range (lo : Int) (n : Nat) : Src K (Itr lo n) (rangeD lo n) g ρ H where
  go := fun ρ1 H1 st i e S q hi => by rw [rangeD_len] at hi; exact hi
  stop := fun ρ1 H1 st e S q => by rw [rangeD_len]; exact Nat.le_refl n
  yld := fun ρ1 H1 st i d x H2 e S q hi y => by
    obtain ⟨rfl, rfl⟩ := y
    obtain ⟨_, rfl⟩ := rangeD_get hi
    exact ⟨Same.refl _, .int _⟩
theorem rangeDn_len (lo : Int) (n : Nat) : (rangeDn lo n).length = n := by simp [rangeDn]
theorem rangeDn_get {lo : Int} {n i : Nat} {d : P} (h : (rangeDn lo n)[i]? = some d) : i < n ∧ d = .int (lo + i * (-1)) := by
  have hi : i < n := by
    have := (List.getElem?_eq_some_iff.mp h).1
    rwa [rangeDn_len] at this
  refine ⟨hi, ?_⟩
  unfold rangeDn at h
  rw [List.getElem?_map, List.getElem?_range hi, Option.map_some] at h
  exact (Option.some.inj h).symm
theorem src_rangeDn (lo : Int) (n : Nat) : Src K (Itc lo (-1) n) (rangeDn lo n) g ρ H where
  go := fun ρ1 H1 st i e S q hi => by rw [rangeDn_len] at hi; exact hi
  stop := fun ρ1 H1 st e S q => by rw [rangeDn_len]; exact Nat.le_refl n
  yld := fun ρ1 H1 st i d x H2 e S q hi y => by
    obtain ⟨rfl, rfl⟩ := y
    obtain ⟨_, rfl⟩ := rangeDn_get hi
    exact ⟨Same.refl _, .int _⟩
theorem rangeSt_len (lo c : Int) (n : Nat) : (rangeSt lo c n).length = n := by simp [rangeSt]
theorem rangeSt_get {lo c : Int} {n i : Nat} {d : P} (h : (rangeSt lo c n)[i]? = some d) : i < n ∧ d = .int (lo + i * c) := by
  have hi : i < n := by
    have := (List.getElem?_eq_some_iff.mp h).1
    rwa [rangeSt_len] at this
  refine ⟨hi, ?_⟩
  unfold rangeSt at h
  rw [List.getElem?_map, List.getElem?_range hi, Option.map_some] at h
  exact (Option.some.inj h).symm
theorem src_rangeSt (lo c : Int) (n : Nat) : Src K (Itc lo c n) (rangeSt lo c n) g ρ H where
  go := fun ρ1 H1 st i e S q hi => by rw [rangeSt_len] at hi; exact hi
  stop := fun ρ1 H1 st e S q => by rw [rangeSt_len]; exact Nat.le_refl n
  yld := fun ρ1 H1 st i d x H2 e S q hi y => by
    obtain ⟨rfl, rfl⟩ := y
    obtain ⟨_, rfl⟩ := rangeSt_get hi
    exact ⟨Same.refl _, .int _⟩
theorem rgc_stp {i j c : Int} (hc : c < -1 ∧ -1000000 < c) (ha : -(2 ^ 62) ≤ i) (ha' : i < 2 ^ 62) (hb : -(2 ^ 62) ≤ j) (hb' : j < 2 ^ 62) : RgC i j c (rszN i j c) := by
  have sz : Builtin.Range.rangeSize i j c = (rszN i j c : Int) := by
    unfold Builtin.Range.rangeSize rszN
    rw [if_neg (by omega)]
    split
    · have h0 : 0 ≤ (i - j - 1) / (-c) := Int.ediv_nonneg (by omega) (by omega)
      omega
    · rfl
  have bnd : (rszN i j c : Int) ≤ 2 ^ 63 - 1 := by
    unfold rszN
    split
    · have h0 : 0 ≤ (i - j - 1) / (-c) := Int.ediv_nonneg (by omega) (by omega)
      have h1 : (i - j - 1) / (-c) ≤ (i - j - 1) := Int.ediv_le_self _ (by omega)
      omega
    · decide
  refine ⟨by omega, by omega, ?_, sz⟩
  unfold Builtin.Range.small
  rw [sz]
  simp only [Builtin.Range.rangeFitsLong, Bool.and_eq_true, Bool.or_eq_true, decide_eq_true_eq, beq_iff_eq, show ¬ (c > 0) by omega, if_false]
  refine ⟨⟨⟨⟨by omega, by omega⟩, by omega⟩, by omega⟩, .inr ⟨by omega, by omega⟩⟩
theorem enumP_len (xs : List P) : (enumP xs).length = xs.length := by simp [enumP]
theorem enumP_get {i : Nat} {d : P} (h : (enumP ds)[i]? = some d) : ∃ e, ds[i]? = some e ∧ d = .tuple [.int i, e] := by
  simp [enumP, List.getElem?_mapIdx] at h
  obtain ⟨e, h1, h2⟩ := h
  exact ⟨e, h1, h2.symm⟩
theorem src_E {k : Bool} (h : Wk K k a ds g ρ H) : Src K (ItE K k a ds.length) (enumP ds) g ρ H where
  go := fun ρ1 H1 st i e S q hi => by
    obtain ⟨xs, s, r⟩ := h ρ1 H1 st e S q
    rw [enumP_len] at hi
    exact ⟨hi, xs, s, r.length⟩
  stop := fun ρ1 H1 st e S q => by
    obtain ⟨xs, s, r⟩ := h ρ1 H1 st e S q
    rw [enumP_len]
    exact ⟨rfl, xs, s, r.length⟩
  yld := fun ρ1 H1 st i d x H2 e S q hi y => by
    obtain ⟨T, vs, rfl, n, rfl, y⟩ := y
    obtain ⟨xs, s, r⟩ := h ρ1 H1 st e S q
    obtain ⟨x0, hx, rfl⟩ := y xs s
    obtain ⟨e0, h1, rfl⟩ := enumP_get hi
    obtain ⟨x', h2, h3⟩ := r.get h1
    rw [hx] at h2
    cases h2
    have s2 := same_new (o := .tup [V.int (i : Nat), x0]) n
    exact ⟨s2, .tup (.inl ⟨.inl upd_same, S.fresh n⟩) (.cons (.int _) (.cons (h3.ext (Ext.same s2)) .nil))⟩
theorem zipP_len : (zipP ds es).length = min ds.length es.length := by simp [zipP]
theorem zipP_get {i : Nat} {d : P} (h : (zipP ds es)[i]? = some d) : ∃ x y, ds[i]? = some x ∧ es[i]? = some y ∧ d = .tuple [x, y] := by
  simp [zipP, List.getElem?_zipWith] at h
  split at h
  · cases h
    exact ⟨_, _, by assumption, by assumption, rfl⟩
  · cases h
theorem src_Z {k1 k2 : Bool} (h : Wk K k1 a ds g ρ H) (h2 : Wk K k2 b es g ρ H) : Src K (ItZ K k1 k2 a b ds.length es.length) (zipP ds es) g ρ H where
  go := fun ρ1 H1 st i e S q hi => by
    obtain ⟨xs, s, r⟩ := h ρ1 H1 st e S q
    obtain ⟨ys, s2, r2⟩ := h2 ρ1 H1 st e S q
    rw [zipP_len] at hi
    exact ⟨hi, ⟨xs, s, r.length⟩, ys, s2, r2.length⟩
  stop := fun ρ1 H1 st e S q => by
    obtain ⟨xs, s, r⟩ := h ρ1 H1 st e S q
    obtain ⟨ys, s2, r2⟩ := h2 ρ1 H1 st e S q
    rw [zipP_len]
    exact ⟨rfl, ⟨xs, s, r.length⟩, ys, s2, r2.length⟩
  yld := fun ρ1 H1 st i d x H2 e S q hi y => by
    obtain ⟨T, vs, rfl, n, rfl, y⟩ := y
    obtain ⟨xs, s, r⟩ := h ρ1 H1 st e S q
    obtain ⟨ys, s2, r2⟩ := h2 ρ1 H1 st e S q
    obtain ⟨x0, y0, hx, hy, rfl⟩ := y xs ys s s2
    obtain ⟨d1, d2, g1, g2, rfl⟩ := zipP_get hi
    obtain ⟨x', q1, q2⟩ := r.get g1
    obtain ⟨y', q3, q4⟩ := r2.get g2
    rw [hx] at q1
    rw [hy] at q3
    cases q1
    cases q3
    have s3 := same_new (o := .tup [x0, y0]) n
    exact ⟨s3, .tup (.inl ⟨.inl upd_same, S.fresh n⟩) (.cons (q2.ext (Ext.same s3)) (.cons (q4.ext (Ext.same s3)) .nil))⟩
theorem Wk.mono {k : Bool} (h : Wk K k a ds g ρ H) (q : ∀ st, g2 st → g st) : Wk K k a ds g2 ρ H := fun ρ1 H1 st e S z => h ρ1 H1 st e S (q st z)
end
/-! ### values seen in a row -/
theorem seenL {ds : List D} {st : Sto} {α : Type} {f : List P → Sto → R α} {Qf : α → Sto → Prop} {E : EE} (h : ((vws ds st).bind f).holds Qf E) : ∃ qs, vws ds st = .ok qs st ∧ (f qs st).holds Qf E := by
  induction ds generalizing f with
  | nil => exact ⟨[], rfl, h⟩
  | cons d r ih =>
    rw [vws_cons] at h
    have h' : ((vw d st).bind fun q st => ((vws r st).bind fun qs st => f (q :: qs) st)).holds Qf E := by
      cases e1 : vw d st with
      | bad => rw [e1] at h; exact h
      | err _ _ _ => rw [e1] at h; exact h
      | ok q st1 =>
        rw [e1] at h
        have h : (((vws r st1).bind fun qs st => .ok (q :: qs) st).bind f).holds Qf E := h
        show ((vws r st1).bind fun qs st => f (q :: qs) st).holds Qf E
        cases e2 : vws r st1 with
        | bad => rw [e2] at h; exact h
        | err _ _ _ => rw [e2] at h; exact h
        | ok qs st2 => rw [e2] at h; exact h
    obtain ⟨a, e1, h2⟩ := seen h'
    obtain ⟨qs, e2, h3⟩ := ih h2
    refine ⟨a :: qs, ?_, h3⟩
    rw [vws_cons]
    unfold vw
    rw [e1]
    show ((vws r st).bind fun qs st => R.ok (a :: qs) st) = _
    rw [e2]
    rfl
/-- one value seen behind another -/
inductive Views (st : Sto) : List D → List P → Prop
  | nil : Views st [] []
  | cons {d : D} {r : List D} {q : P} {qs : List P} : view st d = some q → Views st r qs → Views st (d :: r) (q :: qs)
theorem vws_views {st st2 : Sto} : ∀ {ds : List D} {qs : List P}, vws ds st = .ok qs st2 → Views st ds qs := by
  intro ds
  induction ds with
  | nil => intro qs e; have e' : (R.ok [] st : R (List P)) = .ok qs st2 := e; cases e'; exact .nil
  | cons d r ih =>
    intro qs e
    rw [vws_cons] at e
    cases z : view st d with
    | none =>
      have : vw d st = .bad := by unfold vw; rw [z]
      rw [this] at e; cases e
    | some a =>
      have z2 : vw d st = .ok a st := by unfold vw; rw [z]
      rw [z2] at e
      have e : ((vws r st).bind fun qs st => R.ok (a :: qs) st) = .ok qs st2 := e
      cases e2 : vws r st with
      | bad => rw [e2] at e; cases e
      | err _ _ _ => rw [e2] at e; cases e
      | ok rs st3 =>
        rw [e2] at e
        have e : R.ok (a :: rs) st3 = .ok qs st2 := e
        cases e
        exact .cons z (ih e2)
theorem Views.rv {K : PySem.W.Frag} {H : Hp} {ρ : Pl} {st : Sto} (S : RS K H ρ st) : ∀ {ds : List D} {xs : List V} {qs : List P}, RDs K H ρ xs ds → Views st ds qs → RVs K H ρ xs qs
  | _, _, _, .nil, .nil => .nil
  | _, _, _, .cons h t, .cons e q => .cons (h.view S e) (Views.rv S t q)
theorem Views.length {st : Sto} : ∀ {ds : List D} {qs : List P}, Views st ds qs → qs.length = ds.length
  | _, _, .nil => rfl
  | _, _, .cons _ q => by simp [Views.length q]
end PB
set_option maxRecDepth 100000
set_option maxHeartbeats 2000000
/-! Pb, part 7z: enumerate(zip(v1, v2)): the pair that zip hands out is held by the tuple that enumerate made of it. -/
namespace PB
open PySem PySem.Spec PyProof.Rows L2
/-- a zip with what it knows of its tuple -/
abbrev ZipF (h : Heap) (z TI TO : Addr) (v : Value) (f : Bool) : Prop :=
  h.get? z = some { cls := .type "zip", dict := none, data := .fields #[v, .bool f, .bool false, .ref TI, .ref TO], slots := #[] }
def ZipS (h : Heap) (z TI TO : Addr) : Prop := ∃ (v : Value) (f : Bool), ZipF h z TI TO v f ∧ (v = .none ∨ ∃ T : Nat, v = rawInt T)
section
variable {prog : Program} {w : World} {A : Around} {E : Value → Shared → Prop} {s : Shared} {z TI TO i1 i2 : Addr} {fp1 fp2 : List Addr} {n1 n2 i : Nat} {P1 P2 : Nat → Value → Prop} {St1 St2 : Nat → Heap → Prop}
theorem alive_any {a : Addr} {Q : Option Obj → Shared → Prop} (h : Q (s.heap.get? a) s) : wpAny (model prog w) A (loadIfAlive a) Q E s := fun _ _ _ => h
theorem ZipS.lt (hz : ZipS s.heap z TI TO) : z < s.heap.objs.size := by
  obtain ⟨v, f, h, _⟩ := hz
  exact Heap.lt_size h
theorem ZipS.typ (hz : ZipS s.heap z TI TO) : s.TypeIs (.ref z) "zip" := by
  obtain ⟨v, f, h, _⟩ := hz
  exact ⟨_, h, rfl⟩
theorem ZipS.at {h h' : Heap} (hz : ZipS h z TI TO) (k : ∀ o, h.get? z = some o → h'.get? z = some o) : ZipS h' z TI TO := by
  obtain ⟨v, f, e, q⟩ := hz
  exact ⟨v, f, k _ e, q⟩
theorem zipS_free {Q : Bool → Shared → Prop} (hz : ZipS s.heap z TI TO) (h : ∀ b h' v f, ZipF h' z TI TO v f → (v = .none ∨ ∃ T : Nat, v = rawInt T) → Heap.SameBut z s.heap h' → Q b { s with heap := h' }) :
    wpAny (model prog w) A (Builtin.SmallTypes.ownedTupleIsFree (.ref z)) Q E s := by
  obtain ⟨v, f, hz, hv⟩ := hz
  unfold Builtin.SmallTypes.ownedTupleIsFree
  refine wpAny_bind (wpAny_field hz rfl (x := v) rfl ?_)
  rcases hv with rfl | ⟨T, rfl⟩
  · exact wpAny_pure (h true s.heap _ _ hz (.inl rfl) (Heap.SameBut.refl _ _))
  · show wpAny _ _ (loadIfAlive ((T : Int).toNat) >>= _) _ _ _
    rw [Int.toNat_natCast]
    refine wpAny_bind (alive_any ?_)
    cases e : s.heap.get? T with
    | none =>
      simp only [Option.isNone_none, if_true]
      exact wpAny_pure (h true s.heap _ _ hz (.inr ⟨T, rfl⟩) (Heap.SameBut.refl _ _))
    | some o =>
      simp only [Option.isNone_some, Bool.false_eq_true, if_false]
      refine wpAny_bind (wpAny_field hz rfl (x := .bool f) rfl ?_)
      cases f with
      | true =>
        rw [if_neg (show ¬ ((Value.bool true != Value.bool true) = true) from Bool.false_ne_true)]
        exact wpAny_pure (h false s.heap _ _ hz (.inr ⟨T, rfl⟩) (Heap.SameBut.refl _ _))
      | false =>
        rw [if_pos (show (Value.bool false != Value.bool true) = true from rfl)]
        exact wpAny_bind (wpAny_setField_rec hz (by simp) fun h₁ hz₁ hs₁ => wpAny_pure (h false h₁ _ true hz₁ (.inr ⟨T, rfl⟩) hs₁))
/-- zip's state -/
def ZSt (z TI TO i1 i2 : Addr) (St1 St2 : Nat → Heap → Prop) (i : Nat) (h : Heap) : Prop :=
  ZipS h z TI TO ∧ IsTupOf2 h TI (.ref i1) (.ref i2) ∧ (∃ a1 a2, IsTupOf2 h TO a1 a2) ∧ St1 i h ∧ St2 i h
theorem zipS_item {Q : Value → Shared → Prop} (S : ZipSep2 z TI TO i1 i2 fp1 fp2) (D1 : Draws prog w A i1 fp1 n1 P1 St1) (D2 : Draws prog w A i2 fp2 n2 P2 St2)
    (hz : ZSt z TI TO i1 i2 St1 St2 i s.heap) (hlt1 : i < n1) (hlt2 : i < n2)
    (hQ : ∀ x1 x2 h' tk, P1 i x1 → P2 i x2 → ZSt z TI TO i1 i2 St1 St2 (i + 1) h' → IsTupOf2 h' s.heap.objs.size x1 x2 → h'.objs.size = s.heap.objs.size + 1 →
      (∀ c o, c ≠ z → c ≠ TO → c ≠ i1 → c ≠ i2 → s.heap.get? c = some o → h'.get? c = some o) → Q (.ref s.heap.objs.size) { s with heap := h', toks := tk }) :
    wpAny (model prog w) A (Builtin.«zip.__next__» ⟨[.ref z], []⟩) (fun fin s' => ∃ v, fin = .done (.ret v) ∧ Q v s') E s := by
  obtain ⟨hp, g, d, tk0, os⟩ := s
  obtain ⟨⟨v0, f0, hz, hv0⟩, hTI, ⟨a1, a2, hTO⟩, st1, st2⟩ := hz
  show wpAny _ _ (field (.ref z) 2 >>= _) _ _ _
  refine wpAny_bind (wpAny_field hz rfl (x := .bool false) rfl ?_)
  show wpAny _ _ (field (.ref z) 3 >>= _) _ _ _
  refine wpAny_bind (wpAny_field hz rfl (x := .ref TI) rfl ?_)
  refine wpAny_bind (wpAny_seqItems hTI rfl ?_)
  show wpAny _ _ (Builtin.SmallTypes.ownedTupleIsFree (.ref z) >>= _) _ _ _
  refine wpAny_bind (zipS_free ⟨v0, f0, hz, hv0⟩ fun b hq v f hzq hv hsq => ?_)
  replace hsq : Heap.SameBut z hp hq := hsq
  have hTIq : IsTupOf2 hq TI (.ref i1) (.ref i2) := hsq.extBut _ _ S.TIz hTI
  have hTOq : IsTupOf2 hq TO a1 a2 := hsq.extBut _ _ S.TOz hTO
  have q1 := D1.over st1 hsq S.zf1
  have q2 := D2.over st2 hsq S.zf2
  cases b with
  | true =>
    simp only [if_true]
    refine wpAny_bind (wpAny_rule ?_)
    refine wpAny_bind (wpAny_field hzq rfl (x := .ref TO) rfl ?_)
    refine wpAny_bind (wpAny_setField_rec hzq (by simp) fun g0 hz0 hs0 => ?_)
    replace hz0 : ZipF g0 z TI TO .ellipsis f := hz0
    replace hs0 : Heap.SameBut z hq g0 := hs0
    refine wpAny_bind ?_
    simp only [List.zipIdx_cons, List.zipIdx_nil, List.forIn_cons, List.forIn_nil]
    refine wpAny_bind (wpAny_bind (wpAny_onRaise ?_))
    show wpAny _ _ (Builtin.SmallTypes.nextOf (.ref i1) >>= _) _ _ ⟨g0, g, d, tk0, os⟩
    refine wpAny_bind (D1.item i _ _ _ hlt1 (D1.over q1 hs0 S.zf1) fun x1 p1 tk1 hx1 sn1 hp1 => wpAny_pure ?_)
    replace hp1 : Heap.SameBut i1 g0 p1 := hp1
    have hU1 : IsTupOf2 p1 TO a1 a2 := hp1.extBut _ _ S.Ti1 (hs0.extBut _ _ S.TOz hTOq)
    refine wpAny_bind (wpAny_seqItems (s := ⟨p1, g, d, tk1, os⟩) hU1 rfl ?_)
    refine wpAny_bind (updateSeq_IsTupOf2 (s := ⟨p1, g, d, tk1, os⟩) hU1 fun g1 hT1 hs1 => ?_)
    replace hT1 : IsTupOf2 g1 TO x1 a2 := hT1
    replace hs1 : Heap.SameBut TO p1 g1 := hs1
    refine wpAny_bind (wpAny_letGo (wpAny_pure ?_))
    refine wpAny_bind (wpAny_bind (wpAny_onRaise ?_))
    show wpAny _ _ (Builtin.SmallTypes.nextOf (.ref i2) >>= _) _ _ ⟨g1, g, d, tk1, os⟩
    refine wpAny_bind (D2.item i _ _ _ hlt2 (D2.over (D2.over (D2.over q2 hs0 S.zf2) hp1 S.sep1_2) hs1 S.Tf2) fun x2 p2 tk2 hx2 sn2 hp2 => wpAny_pure ?_)
    replace hp2 : Heap.SameBut i2 g1 p2 := hp2
    have hU2 : IsTupOf2 p2 TO x1 a2 := hp2.extBut _ _ S.Ti2 hT1
    refine wpAny_bind (wpAny_seqItems (s := ⟨p2, g, d, tk2, os⟩) hU2 rfl ?_)
    refine wpAny_bind (updateSeq_IsTupOf2 (s := ⟨p2, g, d, tk2, os⟩) hU2 fun g2 hT2 hs2 => ?_)
    replace hT2 : IsTupOf2 g2 TO x1 x2 := hT2
    replace hs2 : Heap.SameBut TO p2 g2 := hs2
    refine wpAny_bind (wpAny_letGo (wpAny_pure (wpAny_pure ?_)))
    refine wpAny_bind (wpAny_seqItems (s := ⟨g2, g, d, tk2, os⟩) hT2 rfl ?_)
    refine wpAny_bind (wpAny_newTuple ?_)
    have hsz : g2.objs.size = hp.objs.size := by rw [hs2.1, hp2.1, hs1.1, hp1.1, hs0.1, hsq.1]
    have hzz : ZipF g2 z TI TO .ellipsis f := (hs2.extBut _ _ S.TOz.symm (hp2.extBut _ _ S.zi2 (hs1.extBut _ _ S.TOz.symm (hp1.extBut _ _ S.zi1 hz0))))
    have hkk : ∀ c o, c ≠ z → c ≠ TO → c ≠ i1 → c ≠ i2 → hp.get? c = some o → g2.get? c = some o := fun c o cz cT c1 c2 e =>
      (hs2.extBut _ _ cT (hp2.extBut _ _ c2 (hs1.extBut _ _ cT (hp1.extBut _ _ c1 (hs0.extBut _ _ cz (hsq.extBut _ _ cz e))))))
    have hj1 : St1 (i + 1) g2 := (D1.over (D1.over (D1.over sn1 hs1 S.Tf1) hp2 S.sep2_1) hs2 S.Tf1)
    have hj2 : St2 (i + 1) g2 := (D2.over sn2 hs2 S.Tf2)
    have hzlt : z < g2.objs.size := Heap.lt_size hzz
    show wpAny _ _ (Builtin.SmallTypes.ownedTupleHandOut (.ref z) (.ref g2.objs.size) >>= _) _ _ ⟨g2.push { cls := .type "tuple", data := .seq #[x1, x2] }, g, d, tk2, os⟩
    refine wpAny_bind ?_
    unfold Builtin.SmallTypes.ownedTupleHandOut
    have hz₆ : ZipF (g2.push { cls := .type "tuple", data := .seq #[x1, x2] }) z TI TO .ellipsis f := Heap.get?_push_of_some _ hzz
    refine wpAny_bind (wpAny_setField_rec hz₆ (by simp) fun h₇ hz₇ hs₇ => ?_)
    replace hz₇ : ZipF h₇ z TI TO (rawInt g2.objs.size) f := hz₇
    refine wpAny_setField_rec hz₇ (by simp) fun h₈ hz₈ hs₈ => ?_
    replace hz₈ : ZipF h₈ z TI TO (rawInt g2.objs.size) false := hz₈
    replace hs₇ : Heap.SameBut z (g2.push { cls := .type "tuple", data := .seq #[x1, x2] }) h₇ := hs₇
    replace hs₈ : Heap.SameBut z h₇ h₈ := hs₈
    have up : ∀ c o, c ≠ z → g2.get? c = some o → h₈.get? c = some o := fun c o c1 e => hs₈.extBut _ _ c1 (hs₇.extBut _ _ c1 (Heap.get?_push_of_some _ e))
    have hT₈ : IsTupOf2 h₈ g2.objs.size x1 x2 := hs₈.extBut _ _ (Nat.ne_of_gt hzlt) (hs₇.extBut _ _ (Nat.ne_of_gt hzlt) (Heap.get?_push_size _ rfl))
    have hz8 : h₈.objs.size = g2.objs.size + 1 := by rw [hs₈.1, hs₇.1, Heap.size_push]
    rw [hsz] at hz₈ hT₈ hz8
    refine wpAny_pure ⟨_, rfl, ?_⟩
    show Q (.ref g2.objs.size) ⟨h₈, g, d, tk2, os⟩
    rw [hsz]
    have hTI8 : IsTupOf2 h₈ TI (.ref i1) (.ref i2) := up _ _ S.TIz (hkk _ _ S.TIz S.TITO S.TIi1 S.TIi2 hTI)
    exact hQ x1 x2 h₈ tk2 hx1 hx2 ⟨⟨_, _, hz₈, .inr ⟨_, rfl⟩⟩, hTI8, ⟨_, _, up _ _ S.TOz hT2⟩, D1.frame _ _ _ hj1 fun b hb o e => up b o (fun q => S.zf1 (q ▸ hb)) e, D2.frame _ _ _ hj2 fun b hb o e => up b o (fun q => S.zf2 (q ▸ hb)) e⟩ hT₈ hz8 fun c o cz cT c1 c2 e => up c o cz (hkk c o cz cT c1 c2 e)
  | false =>
    simp only [Bool.false_eq_true, if_false]
    refine wpAny_bind ?_
    rw [← Array.forIn_toList]
    simp only [List.forIn_cons, List.forIn_nil]
    refine wpAny_bind (wpAny_bind (wpAny_holding ?_))
    show wpAny _ _ (Builtin.SmallTypes.nextOf (.ref i1) >>= _) _ _ ⟨hq, g, d, tk0, os⟩
    refine wpAny_bind (D1.item i _ _ _ hlt1 q1 fun x1 p1 tk1 hx1 sn1 hp1 => wpAny_pure ?_)
    replace hp1 : Heap.SameBut i1 hq p1 := hp1
    refine wpAny_pure ?_
    refine wpAny_bind (wpAny_bind (wpAny_holding ?_))
    show wpAny _ _ (Builtin.SmallTypes.nextOf (.ref i2) >>= _) _ _ ⟨p1, g, d, tk1, os⟩
    refine wpAny_bind (D2.item i _ _ _ hlt2 (D2.over q2 hp1 S.sep1_2) fun x2 p2 tk2 hx2 sn2 hp2 => wpAny_pure ?_)
    replace hp2 : Heap.SameBut i2 p1 p2 := hp2
    refine wpAny_pure (wpAny_pure ?_)
    show wpAny _ _ (newTuple [x1, x2] >>= _) _ _ _
    refine wpAny_bind (wpAny_newTuple ?_)
    have hsz : p2.objs.size = hp.objs.size := by rw [hp2.1, hp1.1, hsq.1]
    have hkk : ∀ c o, c ≠ z → c ≠ i1 → c ≠ i2 → hp.get? c = some o → p2.get? c = some o := fun c o cz c1 c2 e => hp2.extBut _ _ c2 (hp1.extBut _ _ c1 (hsq.extBut _ _ cz e))
    have hz2 : ZipF p2 z TI TO v f := hp2.extBut _ _ S.zi2 (hp1.extBut _ _ S.zi1 hzq)
    have hj1 : St1 (i + 1) p2 := D1.over sn1 hp2 S.sep2_1
    refine wpAny_pure ⟨_, rfl, ?_⟩
    show Q (.ref p2.objs.size) ⟨p2.push { cls := .type "tuple", data := .seq #[x1, x2] }, g, d, tk2, os⟩
    have hT : IsTupOf2 (p2.push { cls := .type "tuple", data := .seq #[x1, x2] }) p2.objs.size x1 x2 := Heap.get?_push_size _ rfl
    have hz4 : (p2.push { cls := .type "tuple", data := .seq #[x1, x2] }).objs.size = p2.objs.size + 1 := Heap.size_push ..
    rw [hsz] at hT hz4 ⊢
    exact hQ x1 x2 _ tk2 hx1 hx2 ⟨⟨_, _, Heap.get?_push_of_some _ hz2, hv⟩, Heap.get?_push_of_some _ (hkk _ _ S.TIz S.TIi1 S.TIi2 hTI), ⟨_, _, Heap.get?_push_of_some _ (hkk _ _ S.TOz S.Ti1 S.Ti2 hTO)⟩, D1.frame _ _ _ hj1 fun b hb o e => Heap.get?_push_of_some _ e, D2.frame _ _ _ sn2 fun b hb o e => Heap.get?_push_of_some _ e⟩ hT hz4 fun c o cz cT c1 c2 e => Heap.get?_push_of_some _ (hkk c o cz c1 c2 e)
theorem zipS_end {Q : Fin → Shared → Prop} (S : ZipSep2 z TI TO i1 i2 fp1 fp2) (D1 : Draws prog w A i1 fp1 n1 P1 St1) (D2 : Draws prog w A i2 fp2 n2 P2 St2)
    (hz : ZSt z TI TO i1 i2 St1 St2 i s.heap) (hle1 : i ≤ n1) (hle2 : i ≤ n2) (hend : i = n1 ∨ i = n2)
    (hE : ∀ h' tk e, (∀ c o, c ≠ z → c ≠ TO → c ≠ i1 → c ≠ i2 → s.heap.get? c = some o → h'.get? c = some o) → (∃ o, h'.get? e = some o ∧ o.cls = .type "StopIteration") → E (.ref e) { s with heap := h', toks := tk }) :
    wpAny (model prog w) A (Builtin.«zip.__next__» ⟨[.ref z], []⟩) Q E s := by
  obtain ⟨hp, g, d, tk0, os⟩ := s
  obtain ⟨⟨v0, f0, hz, hv0⟩, hTI, ⟨a1, a2, hTO⟩, st1, st2⟩ := hz
  show wpAny _ _ (field (.ref z) 2 >>= _) _ _ _
  refine wpAny_bind (wpAny_field hz rfl (x := .bool false) rfl ?_)
  show wpAny _ _ (field (.ref z) 3 >>= _) _ _ _
  refine wpAny_bind (wpAny_field hz rfl (x := .ref TI) rfl ?_)
  refine wpAny_bind (wpAny_seqItems hTI rfl ?_)
  show wpAny _ _ (Builtin.SmallTypes.ownedTupleIsFree (.ref z) >>= _) _ _ _
  refine wpAny_bind (zipS_free ⟨v0, f0, hz, hv0⟩ fun b hq v f hzq hv hsq => ?_)
  replace hsq : Heap.SameBut z hp hq := hsq
  have hTIq : IsTupOf2 hq TI (.ref i1) (.ref i2) := hsq.extBut _ _ S.TIz hTI
  have hTOq : IsTupOf2 hq TO a1 a2 := hsq.extBut _ _ S.TOz hTO
  have q1 := D1.over st1 hsq S.zf1
  have q2 := D2.over st2 hsq S.zf2
  cases b with
  | true =>
    simp only [if_true]
    refine wpAny_bind (wpAny_rule ?_)
    refine wpAny_bind (wpAny_field hzq rfl (x := .ref TO) rfl ?_)
    refine wpAny_bind (wpAny_setField_rec hzq (by simp) fun g0 hz0 hs0 => ?_)
    replace hz0 : ZipF g0 z TI TO .ellipsis f := hz0
    replace hs0 : Heap.SameBut z hq g0 := hs0
    refine wpAny_bind ?_
    simp only [List.zipIdx_cons, List.zipIdx_nil, List.forIn_cons, List.forIn_nil]
    refine wpAny_bind (wpAny_bind (wpAny_onRaise ?_))
    show wpAny _ _ (Builtin.SmallTypes.nextOf (.ref i1) >>= _) _ _ ⟨g0, g, d, tk0, os⟩
    by_cases hlt1 : i < n1
    · refine wpAny_bind (D1.item i _ _ _ hlt1 (D1.over q1 hs0 S.zf1) fun x1 p1 tk1 hx1 sn1 hp1 => wpAny_pure ?_)
      replace hp1 : Heap.SameBut i1 g0 p1 := hp1
      have hU1 : IsTupOf2 p1 TO a1 a2 := hp1.extBut _ _ S.Ti1 (hs0.extBut _ _ S.TOz hTOq)
      refine wpAny_bind (wpAny_seqItems (s := ⟨p1, g, d, tk1, os⟩) hU1 rfl ?_)
      refine wpAny_bind (updateSeq_IsTupOf2 (s := ⟨p1, g, d, tk1, os⟩) hU1 fun g1 hT1 hs1 => ?_)
      replace hT1 : IsTupOf2 g1 TO x1 a2 := hT1
      replace hs1 : Heap.SameBut TO p1 g1 := hs1
      refine wpAny_bind (wpAny_letGo (wpAny_pure ?_))
      have hi2 : i = n2 := by omega
      refine wpAny_bind (wpAny_bind (wpAny_onRaise ?_))
      show wpAny _ _ (Builtin.SmallTypes.nextOf (.ref i2) >>= _) _ _ ⟨g1, g, d, tk1, os⟩
      refine wpAny_bind (D2.done ⟨g1, g, d, tk1, os⟩ _ _ (by rw [← hi2]; exact (D2.over (D2.over (D2.over q2 hs0 S.zf2) hp1 S.sep1_2) hs1 S.Tf2)) fun q e hq' he => ?_)
      replace hq' : Heap.ExtBut i2 g1 q := hq'
      obtain ⟨oe, hoe, hce⟩ := he
      replace hoe : q.get? e = some oe := hoe
      have hzr : ZipF q z TI TO .ellipsis f := hq' _ _ S.zi2 (hs1.extBut _ _ S.TOz.symm (hp1.extBut _ _ S.zi1 hz0))
      have hez : e ≠ z := fun x => by subst x; rw [hzr] at hoe; cases hoe; simp at hce
      refine wpAny_setField_rec (s := ⟨q, g, d, tk1, os⟩) hzr (by simp) fun q' _ hq'' => ?_
      replace hq'' : Heap.SameBut z q q' := hq''
      exact hE q' tk1 e (fun c o cz cT c1 c2 x => hq''.extBut _ _ cz (hq' _ _ c2 (hs1.extBut _ _ cT (hp1.extBut _ _ c1 (hs0.extBut _ _ cz (hsq.extBut _ _ cz x)))))) ⟨oe, hq''.extBut _ _ hez hoe, hce⟩
    · have hi1 : i = n1 := by omega
      refine wpAny_bind (D1.done ⟨g0, g, d, tk0, os⟩ _ _ (by rw [← hi1]; exact (D1.over q1 hs0 S.zf1)) fun q e hq' he => ?_)
      replace hq' : Heap.ExtBut i1 g0 q := hq'
      obtain ⟨oe, hoe, hce⟩ := he
      replace hoe : q.get? e = some oe := hoe
      have hzr : ZipF q z TI TO .ellipsis f := hq' _ _ S.zi1 hz0
      have hez : e ≠ z := fun x => by subst x; rw [hzr] at hoe; cases hoe; simp at hce
      refine wpAny_setField_rec (s := ⟨q, g, d, tk0, os⟩) hzr (by simp) fun q' _ hq'' => ?_
      replace hq'' : Heap.SameBut z q q' := hq''
      exact hE q' tk0 e (fun c o cz cT c1 c2 x => hq''.extBut _ _ cz (hq' _ _ c1 (hs0.extBut _ _ cz (hsq.extBut _ _ cz x)))) ⟨oe, hq''.extBut _ _ hez hoe, hce⟩
  | false =>
    simp only [Bool.false_eq_true, if_false]
    refine wpAny_bind ?_
    rw [← Array.forIn_toList]
    simp only [List.forIn_cons, List.forIn_nil]
    refine wpAny_bind (wpAny_bind (wpAny_holding ?_))
    show wpAny _ _ (Builtin.SmallTypes.nextOf (.ref i1) >>= _) _ _ ⟨hq, g, d, tk0, os⟩
    by_cases hlt1 : i < n1
    · refine wpAny_bind (D1.item i _ _ _ hlt1 q1 fun x1 p1 tk1 hx1 sn1 hp1 => wpAny_pure ?_)
      replace hp1 : Heap.SameBut i1 hq p1 := hp1
      refine wpAny_pure ?_
      have hi2 : i = n2 := by omega
      refine wpAny_bind (wpAny_bind (wpAny_holding ?_))
      show wpAny _ _ (Builtin.SmallTypes.nextOf (.ref i2) >>= _) _ _ ⟨p1, g, d, tk1, os⟩
      refine wpAny_bind (D2.done ⟨p1, g, d, tk1, os⟩ _ _ (by rw [← hi2]; exact D2.over q2 hp1 S.sep1_2) fun q e hq' he => ?_)
      replace hq' : Heap.ExtBut i2 p1 q := hq'
      exact hE q tk1 e (fun c o cz cT c1 c2 x => hq' _ _ c2 (hp1.extBut _ _ c1 (hsq.extBut _ _ cz x))) he
    · have hi1 : i = n1 := by omega
      refine wpAny_bind (D1.done ⟨hq, g, d, tk0, os⟩ _ _ (by rw [← hi1]; exact q1) fun q e hq' he => ?_)
      replace hq' : Heap.ExtBut i1 hq q := hq'
      exact hE q tk0 e (fun c o cz cT c1 c2 x => hq' _ _ c1 (hsq.extBut _ _ cz x)) he
theorem nextOf_zipS {Q : Value → Shared → Prop} (S : ZipSep2 z TI TO i1 i2 fp1 fp2) (D1 : Draws prog w A.in1 i1 fp1 n1 P1 St1) (D2 : Draws prog w A.in1 i2 fp2 n2 P2 St2)
    (hz : ZSt z TI TO i1 i2 St1 St2 i s.heap) (hlt1 : i < n1) (hlt2 : i < n2)
    (hQ : ∀ x1 x2 h' tk, P1 i x1 → P2 i x2 → ZSt z TI TO i1 i2 St1 St2 (i + 1) h' → IsTupOf2 h' s.heap.objs.size x1 x2 → h'.objs.size = s.heap.objs.size + 1 →
      (∀ c o, c ≠ z → c ≠ TO → c ≠ i1 → c ≠ i2 → s.heap.get? c = some o → h'.get? c = some o) → Q (.ref s.heap.objs.size) { s with heap := h', toks := tk }) :
    wpAny (model prog w) A (Builtin.SmallTypes.nextOf (.ref z)) Q E s := by
  have hT := hz.1.typ
  unfold Builtin.SmallTypes.nextOf
  exact wpAny_bind (wpAny_callSpecial?_slot (name := Str.ofString "__next__") hT F.slot_zip_next
    (wpAny_call_entry F.slot_zip_next hT F.entry_zip_next
      (zipS_item S D1 D2 hz hlt1 hlt2 fun x1 x2 h' tk a b c d e f => wpAny_pure (hQ x1 x2 h' tk a b c d e f)) (F.args_zip_next_1 _)))
theorem nextOf_zipS_end {Q : Value → Shared → Prop} (S : ZipSep2 z TI TO i1 i2 fp1 fp2) (D1 : Draws prog w A.in1 i1 fp1 n1 P1 St1) (D2 : Draws prog w A.in1 i2 fp2 n2 P2 St2)
    (hz : ZSt z TI TO i1 i2 St1 St2 i s.heap) (hle1 : i ≤ n1) (hle2 : i ≤ n2) (hend : i = n1 ∨ i = n2)
    (hE : ∀ h' tk e, (∀ c o, c ≠ z → c ≠ TO → c ≠ i1 → c ≠ i2 → s.heap.get? c = some o → h'.get? c = some o) → (∃ o, h'.get? e = some o ∧ o.cls = .type "StopIteration") → E (.ref e) { s with heap := h', toks := tk }) :
    wpAny (model prog w) A (Builtin.SmallTypes.nextOf (.ref z)) Q E s := by
  have hT := hz.1.typ
  unfold Builtin.SmallTypes.nextOf
  exact wpAny_bind (wpAny_callSpecial?_slot (name := Str.ofString "__next__") hT F.slot_zip_next
    (wpAny_call_entry F.slot_zip_next hT F.entry_zip_next (zipS_end S D1 D2 hz hle1 hle2 hend hE) (F.args_zip_next_1 _)))
/-- the cells of enumerate lie apart from those of its zip -/
structure EApart (e z TI TO i1 i2 : Addr) (fp1 fp2 : List Addr) : Prop where
  ez : e ≠ z
  eTI : e ≠ TI
  eTO : e ≠ TO
  e1 : e ≠ i1
  e2 : e ≠ i2
  f1 : e ∉ fp1
  f2 : e ∉ fp2
theorem ZSt.keep (S : ZipSep2 z TI TO i1 i2 fp1 fp2) (D1 : Draws prog w A i1 fp1 n1 P1 St1) (D2 : Draws prog w A i2 fp2 n2 P2 St2) {h h' : Heap} (hz : ZSt z TI TO i1 i2 St1 St2 i h) (k : ∀ b, b = z ∨ b = TI ∨ b = TO ∨ b ∈ fp1 ∨ b ∈ fp2 → ∀ o, h.get? b = some o → h'.get? b = some o) :
    ZSt z TI TO i1 i2 St1 St2 i h' := by
  obtain ⟨hz, hTI, ⟨a1, a2, hTO⟩, st1, st2⟩ := hz
  exact ⟨hz.at (k z (.inl rfl)), k TI (.inr (.inl rfl)) _ hTI, ⟨a1, a2, k TO (.inr (.inr (.inl rfl))) _ hTO⟩, D1.frame _ _ _ st1 fun b hb => k b (.inr (.inr (.inr (.inl hb)))), D2.frame _ _ _ st2 fun b hb => k b (.inr (.inr (.inr (.inr hb))))⟩
theorem enumZ_item {e : Addr} {c : Int} {old : Value} {Q : Value → Shared → Prop} (S : ZipSep2 z TI TO i1 i2 fp1 fp2) (D1 : Draws prog w A.in1 i1 fp1 n1 P1 St1) (D2 : Draws prog w A.in1 i2 fp2 n2 P2 St2) (ap : EApart e z TI TO i1 i2 fp1 fp2)
    (he : IsEnum s.heap e z c old) (hz : ZSt z TI TO i1 i2 St1 St2 i s.heap) (hlt1 : i < n1) (hlt2 : i < n2)
    (hQ : ∀ x1 x2 h1 h2 tk t2, P1 i x1 → P2 i x2 → IsTupOf2 h1 s.heap.objs.size x1 x2 → h1.objs.size = s.heap.objs.size + 1 → (∀ b o, b ≠ z → b ≠ TO → b ≠ i1 → b ≠ i2 → s.heap.get? b = some o → h1.get? b = some o) →
      IsTupOf2 h2 h1.objs.size (.int c tk) (.ref s.heap.objs.size) → (∀ b o, b ≠ e → h1.get? b = some o → h2.get? b = some o) → IsEnumOut h2 e z (c + 1) (.ref s.heap.objs.size) h1.objs.size → ZSt z TI TO i1 i2 St1 St2 (i + 1) h2 →
      Q (.ref h1.objs.size) { s with heap := h2, toks := t2 }) :
    wpAny (model prog w) A (Builtin.«enumerate.__next__» ⟨[.ref e], []⟩) (fun fin s' => ∃ v, fin = .done (.ret v) ∧ Q v s') E s := by
  obtain ⟨hp, g, d, tk₀, os⟩ := s
  show wpAny _ _ (field (.ref e) 2 >>= _) _ _ _
  refine wpAny_bind (wpAny_field he rfl (x := .ref z) rfl ?_)
  refine wpAny_bind (nextOf_zipS S D1 D2 hz hlt1 hlt2 fun x1 x2 h₁ tk hx1 hx2 hz₁ hT₁ hsz₁ hk₁ => ?_)
  replace hT₁ : IsTupOf2 h₁ hp.objs.size x1 x2 := hT₁
  replace hsz₁ : h₁.objs.size = hp.objs.size + 1 := hsz₁
  replace hk₁ : ∀ b o, b ≠ z → b ≠ TO → b ≠ i1 → b ≠ i2 → hp.get? b = some o → h₁.get? b = some o := hk₁
  have he₁ : IsEnum h₁ e z c old := hk₁ _ _ ap.ez ap.eTO ap.e1 ap.e2 he
  show wpAny _ _ (field (.ref e) 3 >>= _) _ _ ⟨h₁, g, d, tk, os⟩
  refine wpAny_bind (wpAny_field he₁ rfl (x := rawInt c) rfl ?_)
  show wpAny _ _ (field (.ref e) 4 >>= _) _ _ ⟨h₁, g, d, tk, os⟩
  refine wpAny_bind (wpAny_field he₁ rfl (x := .none) rfl ?_)
  show wpAny _ _ (mkInt c >>= _) _ _ ⟨h₁, g, d, tk, os⟩
  refine wpAny_bind (wpAny_mkInt ?_)
  show wpAny _ _ (setField (.ref e) 3 (rawInt (c + 1)) >>= _) _ _ ⟨h₁, g, d, tk + 1, os⟩
  refine wpAny_bind (wpAny_setField_rec he₁ (by simp) fun h₂ he₂ hs₂ => ?_)
  replace hs₂ : Heap.SameBut e h₁ h₂ := hs₂
  replace he₂ : IsEnum h₂ e z (c + 1) old := he₂
  show wpAny _ _ (setField (.ref e) 4 .none >>= _) _ _ ⟨h₂, g, d, tk + 1, os⟩
  refine wpAny_bind (wpAny_setField_rec he₂ (by simp) fun h₃ he₃ hs₃ => ?_)
  replace hs₃ : Heap.SameBut e h₂ h₃ := hs₃
  replace he₃ : IsEnum h₃ e z (c + 1) old := he₃
  show wpAny _ _ (newTuple [.int c tk, .ref hp.objs.size] >>= _) _ _ ⟨h₃, g, d, tk + 1, os⟩
  refine wpAny_bind (wpAny_newTuple ?_)
  have he₄ : IsEnum (h₃.push { cls := .type "tuple", data := .seq #[.int c tk, .ref hp.objs.size] }) e z (c + 1) old := Heap.get?_push_of_some _ he₃
  generalize hh₄ : h₃.push { cls := .type "tuple", data := .seq #[.int c tk, .ref hp.objs.size] } = h₄ at he₄
  have hsz : h₃.objs.size = h₁.objs.size := by rw [hs₃.1, hs₂.1]
  have hel : e < h₁.objs.size := Heap.lt_size he₁
  have ht₄ : IsTupOf2 h₄ h₁.objs.size (.int c tk) (.ref hp.objs.size) := by
    show h₄.get? _ = _
    rw [← hh₄, ← hsz]
    exact Heap.get?_push_size _ rfl
  have hk₄ : ∀ b o, b ≠ e → h₁.get? b = some o → h₄.get? b = some o := fun b o hbe hb => by
    rw [← hh₄]; exact Heap.get?_push_of_some _ (hs₃.extBut b o hbe (hs₂.extBut b o hbe hb))
  have zk : ∀ h', (∀ b o, b ≠ e → h₁.get? b = some o → h'.get? b = some o) → ZSt z TI TO i1 i2 St1 St2 (i + 1) h' := fun h' k => hz₁.keep S D1 D2 fun b hb o => by
    refine k b o fun q => ?_
    subst q
    rcases hb with q | q | q | q | q
    · exact ap.ez q
    · exact ap.eTI q
    · exact ap.eTO q
    · exact ap.f1 q
    · exact ap.f2 q
  show wpAny _ _ (Builtin.SmallTypes.ownedTupleIsFree (.ref e) >>= _) _ _ ⟨h₄, g, d, tk + 1, os⟩
  rw [hsz]
  clear hh₄ he₃ hs₃ he₂ hs₂ hsz h₃ h₂
  refine wpAny_bind ?_
  unfold Builtin.SmallTypes.ownedTupleIsFree
  refine wpAny_bind (wpAny_field he₄ rfl (x := .none) rfl (wpAny_pure ?_))
  simp only [if_true]
  refine wpAny_bind (wpAny_rule ?_)
  refine wpAny_bind (wpAny_field he₄ rfl (x := old) rfl ?_)
  refine wpAny_bind (wpAny_setField_rec he₄ (by simp) fun h₅ he₅ hs₅ => ?_)
  replace hs₅ : Heap.SameBut e h₄ h₅ := hs₅
  replace he₅ : IsEnum h₅ e z (c + 1) (.ref hp.objs.size) := he₅
  show wpAny _ _ (Builtin.SmallTypes.ownedTupleHandOut (.ref e) (.ref h₁.objs.size) >>= _) _ _ ⟨h₅, g, d, tk + 1, os⟩
  refine wpAny_bind ?_
  unfold Builtin.SmallTypes.ownedTupleHandOut
  refine wpAny_bind (wpAny_setField_rec he₅ (by simp) fun h₆ he₆ hs₆ => ?_)
  replace hs₆ : Heap.SameBut e h₅ h₆ := hs₆
  replace he₆ : IsEnumOut h₆ e z (c + 1) (.ref hp.objs.size) h₁.objs.size := he₆
  refine wpAny_setField_rec he₆ (by simp) fun h₇ he₇ hs₇ => ?_
  replace hs₇ : Heap.SameBut e h₆ h₇ := hs₇
  replace he₇ : IsEnumOut h₇ e z (c + 1) (.ref hp.objs.size) h₁.objs.size := he₇
  have up : ∀ b o, b ≠ e → h₁.get? b = some o → h₇.get? b = some o := fun b o hbe hb => hs₇.extBut b o hbe (hs₆.extBut b o hbe (hs₅.extBut b o hbe (hk₄ b o hbe hb)))
  refine wpAny_bind (wpAny_letGo (wpAny_pure ⟨_, rfl, hQ x1 x2 h₁ h₇ tk (tk + 1) hx1 hx2 hT₁ hsz₁ hk₁ ?_ up he₇ (zk h₇ up)⟩))
  exact hs₇.extBut _ _ (Nat.ne_of_gt hel) (hs₆.extBut _ _ (Nat.ne_of_gt hel) (hs₅.extBut _ _ (Nat.ne_of_gt hel) ht₄))
theorem pyNext_enumZ {e : Addr} {c : Int} {old : Value} {Q : Option Value → Shared → Prop} (S : ZipSep2 z TI TO i1 i2 fp1 fp2) (D1 : Draws prog w A.in1.in1 i1 fp1 n1 P1 St1) (D2 : Draws prog w A.in1.in1 i2 fp2 n2 P2 St2) (ap : EApart e z TI TO i1 i2 fp1 fp2)
    (he : IsEnum s.heap e z c old) (hz : ZSt z TI TO i1 i2 St1 St2 i s.heap) (hlt1 : i < n1) (hlt2 : i < n2)
    (hQ : ∀ x1 x2 h1 h2 tk t2, P1 i x1 → P2 i x2 → IsTupOf2 h1 s.heap.objs.size x1 x2 → h1.objs.size = s.heap.objs.size + 1 → (∀ b o, b ≠ z → b ≠ TO → b ≠ i1 → b ≠ i2 → s.heap.get? b = some o → h1.get? b = some o) →
      IsTupOf2 h2 h1.objs.size (.int c tk) (.ref s.heap.objs.size) → (∀ b o, b ≠ e → h1.get? b = some o → h2.get? b = some o) → IsEnumOut h2 e z (c + 1) (.ref s.heap.objs.size) h1.objs.size → ZSt z TI TO i1 i2 St1 St2 (i + 1) h2 →
      Q (some (.ref h1.objs.size)) { s with heap := h2, toks := t2 }) :
    wpAny (model prog w) A (pyNext (.ref e)) Q E s := by
  have hT : s.TypeIs (.ref e) "enumerate" := ⟨_, he, rfl⟩
  unfold pyNext
  exact wpAny_bind (wpAny_attempt (wpAny_callSpecial?_slot (name := Str.ofString "__next__") hT F.slot_enumerate_next
    (wpAny_call_entry F.slot_enumerate_next hT F.entry_enumerate_next
      (enumZ_item S D1 D2 ap he hz hlt1 hlt2 fun x1 x2 h1 h2 tk t2 a b c d k q r u v => wpAny_pure (hQ x1 x2 h1 h2 tk t2 a b c d k q r u v)) (F.args_enumerate_next_1 _))))
theorem pyNext_enumZ_end {e : Addr} {c : Int} {old : Value} {Q : Option Value → Shared → Prop} (S : ZipSep2 z TI TO i1 i2 fp1 fp2) (D1 : Draws prog w A.in1.in1 i1 fp1 n1 P1 St1) (D2 : Draws prog w A.in1.in1 i2 fp2 n2 P2 St2)
    (he : IsEnum s.heap e z c old) (hz : ZSt z TI TO i1 i2 St1 St2 i s.heap) (hle1 : i ≤ n1) (hle2 : i ≤ n2) (hend : i = n1 ∨ i = n2)
    (hQ : ∀ h' tk, (∀ b o, b ≠ z → b ≠ TO → b ≠ i1 → b ≠ i2 → s.heap.get? b = some o → h'.get? b = some o) → Q none { s with heap := h', toks := tk }) :
    wpAny (model prog w) A (pyNext (.ref e)) Q E s := by
  have hT : s.TypeIs (.ref e) "enumerate" := ⟨_, he, rfl⟩
  unfold pyNext
  refine wpAny_bind (wpAny_attempt (wpAny_callSpecial?_slot (name := Str.ofString "__next__") hT F.slot_enumerate_next
    (wpAny_call_entry F.slot_enumerate_next hT F.entry_enumerate_next ?_ (F.args_enumerate_next_1 _))))
  show wpAny _ _ (field (.ref e) 2 >>= _) _ _ _
  refine wpAny_bind (wpAny_field he rfl (x := .ref z) rfl ?_)
  refine wpAny_bind (nextOf_zipS_end S D1 D2 hz hle1 hle2 hend fun h' tk x hk hx => ?_)
  obtain ⟨o, ho, hc⟩ := hx
  refine wpAny_bind (wpAny_isInstance (T := "StopIteration") (b := true) ⟨o, ho, hc⟩ isSubtype_stop ?_)
  exact wpAny_pure (hQ _ _ hk)
end
theorem enum_newZ {z TI TO : Addr} :
    Meets (Builtin.«enumerate.__new__» ⟨[.type "enumerate", .ref z], []⟩) (fun _ R s => IsZip s.heap z TI TO .none ∧
      R (.ok (.ret (.ref s.heap.objs.size))) { s with heap := s.heap.push { cls := .type "enumerate", data := .fields #[.none, .bool false, .ref z, rawInt 0, .none, .none] } }) :=
  .of_wp fun prog w A R s q => by
    obtain ⟨hh, gg, dd, tt, oo⟩ := s
    obtain ⟨q1, q2⟩ := q
    have hsub := sub_enumerate
    have go : ∀ {A2 : Around} {E2 : Value → Shared → Prop} {Q2 : Value → Shared → Prop}, Q2 (.ref z) ⟨hh, gg, dd, tt, oo⟩ → wpAny (model prog w) A2 (pyIter (.ref z)) Q2 E2 ⟨hh, gg, dd, tt, oo⟩ :=
      fun x => wpAny_pyIter_zip q1 x
    wp_walk
    refine wpAny_stack_any fun _ => wpAny_pure ?_
    split
    · rename_i c _ _ _ _ _
      cases (c == Value.type "enumerate") <;> (wp_walk using go; exact ⟨_, rfl, q2⟩)
    · wp_walk using go
      exact ⟨_, rfl, q2⟩
theorem enum_callZ {prog : Program} {w : World} {A : Around} {E : Value → Shared → Prop} {s : Shared} {z TI TO : Addr} {Q : Value → Shared → Prop} (hz : IsZip s.heap z TI TO .none)
    (q : ∀ h', IsEnum h' s.heap.objs.size z 0 .none → (∀ c u, s.heap.get? c = some u → h'.get? c = some u) → Q (.ref s.heap.objs.size) { s with heap := h' }) :
    wpAny (model prog w) A (call (.type "enumerate") [.ref z]) Q E s := by
  refine callType_new F.called_enumerate (by decide) (F.typeCall_enumerate_1 _) (F.newCall_enumerate_1 _) (fun obj => F.args_object_init_2 obj _) F.entry_enumerate_new enum_newZ ⟨hz, ?_⟩
  have e := Heap.get?_push_size s.heap (o := { cls := .type "enumerate", data := .fields #[.none, .bool false, .ref z, rawInt 0, .none, .none] }) rfl
  exact ⟨⟨_, e, rfl⟩, q _ e fun c u x => Heap.get?_push_of_some _ x⟩
/-- pairs of a number and a pair -/
def ItEZ (K : PySem.W.Frag) (k1 k2 : Bool) (a b : Addr) (n1 n2 : Nat) : It :=
  ⟨fun i H => i < min n1 n2 ∧ ((∃ xs, SqX K k1 H a xs ∧ xs.length = n1) ∧ ∃ ys, SqX K k2 H b ys ∧ ys.length = n2),
   fun i H x H' => ∃ T1 T2 vs, x = .ref T2 ∧ H T1 = none ∧ H T2 = none ∧ T1 ≠ T2 ∧ H' = upd (upd H T1 (.tup vs)) T2 (.tup [.int (i : Nat), .ref T1]) ∧ ∀ xs ys, SqX K k1 H a xs → SqX K k2 H b ys → ∃ x y, xs[i]? = some x ∧ ys[i]? = some y ∧ vs = [x, y],
   fun i H => i = min n1 n2 ∧ ((∃ xs, SqX K k1 H a xs ∧ xs.length = n1) ∧ ∃ ys, SqX K k2 H b ys ∧ ys.length = n2)⟩
theorem turn_EZ {Pg : Program} {w : World} {K : PySem.W.Frag} {elts : List Expr} {kk : Nat} {tpos : Pos} {k1 k2 : Bool} {a b e z TI TO i1 i2 : Addr} {n1 n2 : Nat} (S : ZipSep2 z TI TO i1 i2 [i1, a] [i2, b]) (ap : EApart e z TI TO i1 i2 [i1, a] [i2, b]) (h1 : a ≠ i1) (h2 : b ≠ i2) :
    Turn Pg w K (.Tuple elts kk tpos) (ItEZ K k1 k2 a b n1 n2) [e, z, TI, TO, i1, i2] e (fun i h => (∃ old, IsEnum h e z ((i : Nat) : Int) old) ∧ ZipS h z TI TO ∧ IsTupOf2 h TI (.ref i1) (.ref i2) ∧ (∃ a1 a2, IsTupOf2 h TO a1 a2) ∧ itK k1 h i1 a i ∧ itK k2 h i2 b i) where
  mem := by simp
  obj := by
    rintro i h ⟨⟨old, q0⟩, ⟨v, f, q1, _⟩, q2, ⟨a1, a2, q3⟩, q4, q5⟩ c hc
    simp only [List.mem_cons, List.not_mem_nil, or_false] at hc
    rcases hc with x | x | x | x | x | x
    · rw [x]; exact ⟨_, q0, fun v y => nomatch y⟩
    · rw [x]; exact ⟨_, q1, fun v y => nomatch y⟩
    · rw [x]; exact ⟨_, q2, fun v y => nomatch y⟩
    · rw [x]; exact ⟨_, q3, fun v y => nomatch y⟩
    · rw [x]; exact itK_obj q4
    · rw [x]; exact itK_obj q5
  keep := by
    rintro i h h' ⟨⟨old, q0⟩, q1, q2, ⟨a1, a2, q3⟩, q4, q5⟩ kp
    exact ⟨⟨old, kp e (by simp) _ q0⟩, q1.at (kp z (by simp)), kp TI (by simp) _ q2, ⟨a1, a2, kp TO (by simp) _ q3⟩, itK_keep q4 (kp i1 (by simp)), itK_keep q5 (kp i2 (by simp))⟩
  item := by
    intro X hP hw hK hc i pins s σ H E I hf st hg
    obtain ⟨hi, ⟨xs, g1, l1⟩, ys, g2, l2⟩ := hg
    subst hP hw hK
    obtain ⟨ws, r, p⟩ := sqX_is I g1
    obtain ⟨ws2, r2, p2⟩ := sqX_is I g2
    obtain ⟨⟨old, q0⟩, q1, q2, q3, q4, q5⟩ := st
    have hh : X.A.in1.in1.handled = none := I.ok.hd hc
    have D1 := drawsK (prog := X.prog) (w := X.w) (A := X.A.in1.in1) (k := k1) (it := i1) (a := a) hh h1 ws.toArray
    have D2 := drawsK (prog := X.prog) (w := X.w) (A := X.A.in1.in1) (k := k2) (it := i2) (a := b) hh h2 ws2.toArray
    have z1 : ws.toArray.size = n1 := by rw [List.size_toArray, ← r.length]; exact l1
    have z2 : ws2.toArray.size = n2 := by rw [List.size_toArray, ← r2.length]; exact l2
    refine pyNext_enumZ S D1 D2 ap q0 ⟨q1, q2, q3, ⟨q4, p⟩, ⟨q5, p2⟩⟩ (by omega) (by omega) fun u1 u2 hA hB tk t2 hu1 hu2 hTA hsA hkA hTB hkB hO hZ => ?_
    refine ⟨_, rfl, wpAny_letOwnedTupleGo_enum hO fun hC heC hsC => ?_⟩
    replace hsC : Heap.SameBut e hB hC := hsC
    replace hsA : hA.objs.size = s.heap.objs.size + 1 := hsA
    have hx : xs[i]? = some (xs[i]'(by omega)) := List.getElem?_eq_getElem (by omega)
    have hy : ys[i]? = some (ys[i]'(by omega)) := List.getElem?_eq_getElem (by omega)
    obtain ⟨w1, e1, ru⟩ := r.get hx
    obtain ⟨w2, e2, ru2⟩ := r2.get hy
    have t1 : ws[i]? = some u1 := by simpa using hu1
    have t3 : ws2[i]? = some u2 := by simpa using hu2
    rw [t1] at e1
    rw [t3] at e2
    cases e1
    cases e2
    have f1 : FpOk X pins H z := hf z (by simp)
    have f2 : FpOk X pins H TO := hf TO (by simp)
    have f3 : FpOk X pins H i1 := hf i1 (by simp)
    have f4 : FpOk X pins H i2 := hf i2 (by simp)
    have f0 : FpOk X pins H e := hf e (by simp)
    have I1 : Inv X pins σ (upd H s.heap.objs.size (.tup [xs[i]'(by omega), ys[i]'(by omega)])) { s with heap := hA, toks := s.toks } := I.turnedNew (t' := s.toks) (ch := [z, TO, i1, i2]) (fun c o hc q => by
        simp only [List.mem_cons, List.not_mem_nil, or_false, not_or] at hc
        exact hkA c o hc.1 hc.2.1 hc.2.2.1 hc.2.2.2 q) (fun c hc => by
        simp only [List.mem_cons, List.not_mem_nil, or_false] at hc
        rcases hc with x | x | x | x
        · rw [x]; exact f1
        · rw [x]; exact f2
        · rw [x]; exact f3
        · rw [x]; exact f4) (Nat.le_refl _) ⟨by show 2 ≤ sizeLine; decide, [u1, u2], .cons ru (.cons ru2 .nil), ⟨_, hTA, rfl, _, rfl⟩⟩
    have ltE : e < s.heap.objs.size := Heap.lt_size q0
    have nE : ∀ c, c < s.heap.objs.size → ∀ (vs : List V) (vs2 : List V), upd (upd H s.heap.objs.size (.tup vs)) hA.objs.size (.tup vs2) c = H c := fun c hc vs vs2 => by
      rw [upd_ne (show c ≠ hA.objs.size from Nat.ne_of_lt (by rw [hsA]; exact Nat.lt_succ_of_lt hc)), upd_ne (Nat.ne_of_lt hc)]
    have I2 := I1.turnedNew (t' := t2) (h' := hC) (ch := [e]) (T := hA.objs.size) (ob := .tup [.int (i : Nat), .ref s.heap.objs.size]) (fun c o hc q => by
        have hce : c ≠ e := by simpa using hc
        exact hsC.extBut c o hce (hkB c o hce q)) (fun c hc => by
        have hce : c = e := by simpa using hc
        rw [hce]
        exact ⟨by rw [upd_ne (Nat.ne_of_lt ltE)]; exact f0.1, f0.2⟩) (Nat.le_refl _) ⟨by show 2 ≤ sizeLine; decide, [.int ((i : Nat) : Int) tk, .ref s.heap.objs.size], .cons ⟨tk, rfl⟩ (.cons rfl .nil), ⟨_, hsC.extBut _ _ (Nat.ne_of_gt (by rw [hsA]; exact Nat.lt_succ_of_lt ltE)) hTB, rfl, _, rfl⟩⟩
    have hZC : ZSt z TI TO i1 i2 _ _ (i + 1) hC := hZ.keep S D1 D2 fun c hc o => hsC.extBut c o fun q => by
      subst q
      rcases hc with q | q | q | q | q
      · exact ap.ez q
      · exact ap.eTI q
      · exact ap.eTO q
      · exact ap.f1 q
      · exact ap.f2 q
    have heC' : IsEnum hC e z (((i + 1 : Nat)) : Int) (.ref s.heap.objs.size) := by
      have e1 : (((i + 1 : Nat) : Int)) = (i : Int) + 1 := by omega
      rw [e1]
      exact heC
    refine ⟨.ref hA.objs.size, _, I2, rfl, ⟨s.heap.objs.size, hA.objs.size, _, rfl, I.hok.fresh (Nat.le_refl _), I.hok.fresh (by rw [hsA]; exact Nat.le_succ _), (by rw [hsA]; exact Nat.ne_of_lt (Nat.lt_succ_self _)), rfl, fun us vs hu hv => ?_⟩, ⟨⟨_, heC'⟩, hZC.1, hZC.2.1, hZC.2.2.1, hZC.2.2.2.1.1, hZC.2.2.2.2.1⟩, fun c hc => ?_⟩
    · rw [sqX_inj I hu g1, sqX_inj I hv g2]
      exact ⟨_, _, hx, hy, rfl⟩
    · obtain ⟨o, ho, _⟩ := (show ∃ o, s.heap.get? c = some o ∧ ∀ v, o.data ≠ .cell v from by
        obtain ⟨v, f, q1', _⟩ := q1
        obtain ⟨a1, a2, q3'⟩ := q3
        simp only [List.mem_cons, List.not_mem_nil, or_false] at hc
        rcases hc with x | x | x | x | x | x
        · rw [x]; exact ⟨_, q0, fun v y => nomatch y⟩
        · rw [x]; exact ⟨_, q1', fun v y => nomatch y⟩
        · rw [x]; exact ⟨_, q2, fun v y => nomatch y⟩
        · rw [x]; exact ⟨_, q3', fun v y => nomatch y⟩
        · rw [x]; exact itK_obj q4
        · rw [x]; exact itK_obj q5)
      rw [nE c (Heap.lt_size ho)]
      exact (hf c hc).1
  done := by
    intro X hP hw hK hc i pins s σ H E I hf st hg
    obtain ⟨hi, ⟨xs, g1, l1⟩, ys, g2, l2⟩ := hg
    subst hP hw hK
    obtain ⟨ws, r, p⟩ := sqX_is I g1
    obtain ⟨ws2, r2, p2⟩ := sqX_is I g2
    obtain ⟨⟨old, q0⟩, q1, q2, q3, q4, q5⟩ := st
    have hh : X.A.in1.in1.handled = none := I.ok.hd hc
    have D1 := drawsK (prog := X.prog) (w := X.w) (A := X.A.in1.in1) (k := k1) (it := i1) (a := a) hh h1 ws.toArray
    have D2 := drawsK (prog := X.prog) (w := X.w) (A := X.A.in1.in1) (k := k2) (it := i2) (a := b) hh h2 ws2.toArray
    have z1 : ws.toArray.size = n1 := by rw [List.size_toArray, ← r.length]; exact l1
    have z2 : ws2.toArray.size = n2 := by rw [List.size_toArray, ← r2.length]; exact l2
    refine pyNext_enumZ_end S D1 D2 q0 ⟨q1, q2, q3, ⟨q4, p⟩, ⟨q5, p2⟩⟩ (by omega) (by omega) (by omega) fun h' tk hk => ⟨rfl, I.turnedL (t' := tk) (ch := [z, TO, i1, i2]) (fun c o hc q => ?_) fun c hc => ?_⟩
    · simp only [List.mem_cons, List.not_mem_nil, or_false, not_or] at hc
      exact hk c o hc.1 hc.2.1 hc.2.2.1 hc.2.2.2 q
    · simp only [List.mem_cons, List.not_mem_nil, or_false] at hc
      rcases hc with x | x | x | x
      · rw [x]; exact hf z (by simp)
      · rw [x]; exact hf TO (by simp)
      · rw [x]; exact hf i1 (by simp)
      · rw [x]; exact hf i2 (by simp)
  self := fun A i s Q E st q => by
    obtain ⟨⟨old, q0⟩, _⟩ := st
    exact wpAny_pyIter_enum q0 q
end PB
set_option maxRecDepth 100000
set_option maxHeartbeats 2000000
/-! Pb, part 9: what is walked, as written. -/
namespace PB
open PySem PySem.Spec PyProof.Rows L2
section
variable {X : Cx} {tg : Expr} {m : Env → M (List D)} {m1 : Env → M D} {p pos : Pos} {es : List Expr} {k : SK}
theorem allP_len : ∀ {ds : List D} {es : List P}, allP ds = some es → es.length = ds.length := fun h => by rw [allP_some h]; simp
theorem keys_zip {kvs : List (Key × D)} {es : List P} (h : allP (kvs.map Prod.snd) = some es) : (((kvs.map fun kv => keyP kv.1).zip es).map Prod.fst) = kvs.map fun kv => keyP kv.1 := by
  have hl := allP_len h
  rw [List.map_fst_zip]
  simp at hl
  simp [hl]
theorem RDk.keys {K : PySem.W.Frag} {H : Hp} {ρ : Pl} : ∀ {xs : List (Key × V)} {ds : List (Key × D)}, RDk K H ρ xs ds → ds.map Prod.fst = xs.map Prod.fst
  | _, _, .nil => rfl
  | _, _, .cons _ q => by simp [RDk.keys q]
def srcW (k : SK) (m : Env → M (List D)) : Env → M (List P × (Sto → Prop)) := fun env => do
  let ds ← m env
  srcM k ds
theorem stays_self {st : Sto} : ∀ ds : List D, stays st ds st
  | [] => trivial
  | .p _ :: r => stays_self r
  | .ref _ :: r => ⟨rfl, stays_self r⟩
/-- what comes of the arguments is known ahead -/
theorem src_ahead {ρ : Pl} {H : Hp} {env : Env} {st : Sto} {Q : It → Hp → Prop} (q : (srcW k m env st).holds (PostI X.K ρ H Q) (Er X ρ H)) :
    (∃ ds st1 qs items, m env st = .ok ds st1 ∧ Views st1 ds qs ∧ srcK k st1 ds qs = some items ∧ PostI X.K ρ H Q (items, stays st1 ds) st1) ∨ ∃ cE vE stE, m env st = .err cE vE stE ∧ Er X ρ H cE vE stE := by
  have q : ((m env st).bind fun ds st => srcM k ds st).holds (PostI X.K ρ H Q) (Er X ρ H) := q
  cases e0 : m env st with
  | bad => rw [e0] at q; exact q.elim
  | err _ _ _ => rw [e0] at q; exact .inr ⟨_, _, _, rfl, q⟩
  | ok ds st1 =>
    rw [e0] at q
    obtain ⟨qs, e1, q⟩ := seenL (show ((vws ds st1).bind _).holds (PostI X.K ρ H Q) (Er X ρ H) from q)
    cases e2 : srcK k st1 ds qs with
    | none => rw [e2] at q; exact q.elim
    | some items =>
      rw [e2] at q
      exact .inl ⟨ds, st1, qs, items, rfl, vws_views e1, e2, q⟩
theorem tM_err {m : Env → M D} {ρ : Pl} {H : Hp} {env : Env} {st st1 : Sto} {σ : List (Option V)} {c : Str} {v : Option P} {Q : VK} (hE : RE X.K H ρ env σ) (hS : RS X.K H ρ st) (e0 : m env st = .err c v st1) (q : Er X ρ H c v st1) : tM X m σ H Q := ⟨ρ, env, st, hE, hS, by rw [e0]; exact q⟩
theorem tL_err {m : Env → M (List D)} {ρ : Pl} {H : Hp} {env : Env} {st st1 : Sto} {σ : List (Option V)} {c : Str} {v : Option P} {Q : List V → Hp → Prop} (hE : RE X.K H ρ env σ) (hS : RS X.K H ρ st) (e0 : m env st = .err c v st1) (q : Er X ρ H c v st1) : tL X m σ H Q := ⟨ρ, env, st, hE, hS, by rw [e0]; exact q⟩
theorem one_err {m : Env → M D} {env : Env} {st st1 : Sto} {c : Str} {v : Option P} (h : (do let x ← m env; pure [x] : M (List D)) st = .err c v st1) : m env st = .err c v st1 := by
  have h : ((m env st).bind fun x st => R.ok [x] st) = .err c v st1 := h
  cases e : m env st with
  | ok _ _ => rw [e] at h; cases h
  | bad => rw [e] at h; cases h
  | err _ _ _ => rw [e] at h; cases h; rfl
theorem args_ahead {ρ : Pl} {H : Hp} {env : Env} {st st1 : Sto} {σ : List (Option V)} {ds : List D} {Q : List V → Hp → Prop} (hE : RE X.K H ρ env σ) (hS : RS X.K H ρ st) (e0 : m env st = .ok ds st1)
    (z : ∀ ρ1 H1 vs, Ext ρ H ρ1 H1 → RS X.K H1 ρ1 st1 → RDs X.K H1 ρ1 vs ds → Q vs H1) : tL X m σ H Q :=
  ⟨ρ, env, st, hE, hS, by rw [e0]; exact z⟩
theorem src_keys {K : PySem.W.Frag} {ρ : Pl} {H : Hp} {g : Sto → Prop} {d : Addr} {o : Obj} {kvs : List (Key × V)} (hd : H d = some (.frz o (.dK kvs))) : Src K (Itk d o kvs) (kvs.map fun kv => keyP kv.1) g ρ H where
  go := fun ρ1 H1 st i e S q hi => ⟨e.frz _ _ _ hd, by simpa using hi⟩
  stop := fun ρ1 H1 st e S q => ⟨e.frz _ _ _ hd, by simp⟩
  yld := fun ρ1 H1 st i d x H2 e S q hi y => by
    obtain ⟨rfl, k, v, hk, rfl⟩ := y
    rw [List.getElem?_map, hk] at hi
    cases hi
    refine ⟨Same.refl _, ?_⟩
    cases k with
    | inl j => exact .int j
    | inr z => exact .str z
/-- the keys of a dict of the store that is locked -/
theorem pi_keysO {e : Expr} (h : PE X e (tM X m1)) : PI X tg e (tI X (srcW .keys fun env => do let x ← m1 env; pure [x])) := by
  refine ⟨fun pins s σ H R0 I q => ?_⟩
  obtain ⟨ρ, env, st, hE, hS, q⟩ := q
  rcases src_ahead q with ⟨ds, st1, qs, items, e0, vi, e2, q⟩ | ⟨cE, vE, stE, e0, q⟩
  rotate_left
  · exact (pi_list h).run pins s σ H R0 I (tM_err hE hS (one_err e0) q)
  have e0 : ((m1 env st).bind fun x st => .ok [x] st) = .ok ds st1 := e0
  cases e1 : m1 env st with
  | bad => rw [e1] at e0; cases e0
  | err _ _ _ => rw [e1] at e0; cases e0
  | ok v st2 =>
    rw [e1] at e0
    have e0 : R.ok [v] st2 = .ok ds st1 := e0
    cases e0
    cases vi with
    | cons hv t =>
      cases t
      rename_i d
      have e2 : (if lockedB st1 [v] = true then srcP .keys [d] else none) = some items := e2
      by_cases hl : lockedB st1 [v] = true
      · have e5 : srcP .keys [d] = some items := by rw [if_pos hl] at e2; exact e2
        clear e2
        cases v with
        | p _ => cases hl
        | ref l =>
          have hl : (match st1[l]? with
            | some (.dct false _) => true
            | _ => false) = true := hl
          split at hl
          · rename_i kvs o
            refine (pi_keys h).run pins s σ H R0 I ⟨ρ, env, st, hE, hS, ?_⟩
            rw [e1]
            intro ρ1 H1 x e3 S1 r1
            cases r1 with
            | @ref a _ r1 =>
              obtain ⟨⟨vs, ⟨ob, hd⟩, rk⟩, _⟩ := S1.ob l a _ r1 o
              refine ⟨a, ob, rfl, .inl ⟨vs, hd, q ρ1 H1 _ e3 S1 ?_⟩⟩
              have hv : view st1 (.ref l) = some d := hv
              simp only [PB.view, o] at hv
              obtain ⟨es, h1, h2⟩ := Option.map_eq_some_iff.mp hv
              subst h2
              have e6 : items = ((kvs.map fun kv => keyP kv.1).zip es).map Prod.fst := (Option.some.inj e5).symm
              subst e6
              have hk := rk.keys
              have z := src_keys (K := X.K) (ρ := ρ1) (g := stays st1 [.ref l]) hd
              rw [keys_zip h1]
              rw [show (kvs.map fun kv => keyP kv.1) = vs.map fun kv => keyP kv.1 by
                have e7 : ∀ (α : Type) (l : List (Key × α)), (l.map fun kv => keyP kv.1) = (l.map Prod.fst).map keyP := fun α l => by rw [List.map_map]; rfl
                rw [e7, e7, hk]]
              exact z
          · cases hl
      · rw [if_neg hl] at e2
        cases e2
theorem pi_it {e : Expr} (h : PE X e (tM X m1)) : PI X tg e (tI X (srcW .it fun env => do let x ← m1 env; pure [x])) := by
  refine ⟨fun pins s σ H R0 I q => ?_⟩
  obtain ⟨ρ, env, st, hE, hS, q⟩ := q
  rcases src_ahead q with ⟨ds, st1, qs, items, e0, vi, e2, q⟩ | ⟨cE, vE, stE, e0, q⟩
  rotate_left
  · exact (pi_list h).run pins s σ H R0 I (tM_err hE hS (one_err e0) q)
  have e0 : ((m1 env st).bind fun x st => .ok [x] st) = .ok ds st1 := e0
  cases e1 : m1 env st with
  | bad => rw [e1] at e0; cases e0
  | err _ _ _ => rw [e1] at e0; cases e0
  | ok v st2 =>
    rw [e1] at e0
    have e0 : R.ok [v] st2 = .ok ds st1 := e0
    cases e0
    cases vi with
    | cons hv t =>
      cases t
      rename_i d
      have e2 : itemsP d = some items := e2
      -- list or tuple
      have kind : (∃ xs, d = .list xs) ∨ ∃ xs, d = .tuple xs := by
        cases d with
        | list xs => exact .inl ⟨xs, rfl⟩
        | tuple xs => exact .inr ⟨xs, rfl⟩
        | _ => cases e2
      rcases kind with ⟨xs, rfl⟩ | ⟨xs, rfl⟩
      · refine (pi_list h).run pins s σ H R0 I ⟨ρ, env, st, hE, hS, ?_⟩
        rw [e1]
        intro ρ1 H1 x e3 S1 r1
        cases e2
        obtain ⟨a, rfl, w⟩ := wk_list r1 S1 hv
        obtain ⟨ys, hs, _⟩ := w ρ1 H1 _ .refl S1 (stays_self _)
        exact ⟨a, rfl, ⟨ys, hs⟩, q ρ1 H1 _ e3 S1 (src_seq (k := true) w)⟩
      · refine (pi_tup h).run pins s σ H R0 I ⟨ρ, env, st, hE, hS, ?_⟩
        rw [e1]
        intro ρ1 H1 x e3 S1 r1
        cases e2
        obtain ⟨a, rfl, w⟩ := wk_tup r1 S1 hv
        obtain ⟨ys, hs, _⟩ := w ρ1 H1 _ .refl S1 (stays_self _)
        exact ⟨a, rfl, ⟨ys, hs⟩, q ρ1 H1 _ e3 S1 (src_seq (k := false) w)⟩
theorem pi_rng (hg : Gl X "range") (hm : X.mg "range" = none) (ha : PA X es (tL X m)) (hlen : ∀ env st ds st', m env st = .ok ds st' → ds.length = es.length) (h0 : es = [] → ∀ env st, m env st = .ok [] st)
    (hs : ∀ e ∈ es, ∀ r, starEach (e :: r) X.env = (false, eval e X.env) :: starEach r X.env) : PI X tg (.Call (.Name "range" p) es [] pos) (tI X (srcW .rng m)) := by
  refine ⟨fun pins s σ H R0 I q => ?_⟩
  obtain ⟨ρ, env, st, hE, hS, q⟩ := q
  rcases src_ahead q with ⟨ds, st1, qs, items, e0, vi, e2, q⟩ | ⟨cE, vE, stE, e0, q⟩
  rotate_left
  · cases es with
    | nil => rw [h0 rfl] at e0; cases e0
    | cons e es =>
      have plA : ∀ l : List Expr, (∀ e ∈ l, ∀ r, starEach (e :: r) X.env = (false, eval e X.env) :: starEach r X.env) → ((backTo pos (starEach l X.env)).any fun x => x.1) = false := by
        intro l
        induction l with
        | nil => intro _; rfl
        | cons a l ih =>
          intro h
          rw [h a (by simp)]
          show (false || (backTo pos (starEach l X.env)).any fun x => x.1) = false
          rw [ih fun e he => h e (by simp [he])]
          rfl
      exact Call_ (ld_blt I hg hm boot_range (PyProof.Rows.callWith_type1 (thn (ha.run pos pins s σ H (fun _ _ => False) I (tL_err hE hS e0 q)) fun us s1 ⟨_, _, _, _, z⟩ => z.elim) (hs e (by simp) es) (plA es fun a ha => hs a (by simp [ha]))))
  have hl := hlen _ _ _ _ e0
  have lens : qs.length = es.length := vi.length.trans hl
  have e2 : rangeP qs = some items := e2
  have kind : (∃ j : Int, qs = [.int j] ∧ (-(2 ^ 62) ≤ j ∧ j < 2 ^ 62) ∧ items = rangeD 0 j.toNat) ∨ (∃ i j : Int, qs = [.int i, .int j] ∧ ((-(2 ^ 62) ≤ i ∧ i < 2 ^ 62) ∧ -(2 ^ 62) ≤ j ∧ j < 2 ^ 62) ∧ items = rangeD i (j - i).toNat) ∨ ∃ (i j k : Int) (n : Nat), qs = [.int i, .int j, .int k] ∧ RgC i j k n ∧ items = rangeSt i k n := by
    unfold rangeP at e2
    split at e2
    · split at e2
      · cases e2
        exact .inl ⟨_, rfl, by assumption, rfl⟩
      · cases e2
    · split at e2
      · cases e2
        exact .inr (.inl ⟨_, _, rfl, by assumption, rfl⟩)
      · cases e2
    · split at e2
      · rename_i hb
        cases e2
        obtain ⟨rfl, hb⟩ := hb
        exact .inr (.inr ⟨_, _, _, _, rfl, RgC.neg hb.1.1 hb.1.2 hb.2.1 hb.2.2, rfl⟩)
      · split at e2
        · rename_i hb
          cases e2
          exact .inr (.inr ⟨_, _, _, _, rfl, rgc_stp hb.1 hb.2.1.1 hb.2.1.2 hb.2.2.1 hb.2.2.2, rfl⟩)
        · cases e2
    · cases e2
  rcases kind with ⟨j, rfl, hb, rfl⟩ | ⟨i, j, rfl, hb, rfl⟩ | ⟨i, j, k, n, rfl, hrg, rfl⟩
  · have e2' := e2
    obtain ⟨a, rfl⟩ : ∃ a, es = [a] := by
      match es, lens with
      | [a], _ => exact ⟨a, rfl⟩
    refine (pi_range1 hg hm ha (by rw [hs a (by simp)]; rfl)).run pins s σ H R0 I (args_ahead hE hS e0 fun ρ1 H1 vs e S r => ?_)
    have r := Views.rv S r vi
    cases r with
    | cons r1 r2 =>
      cases r1
      cases r2
      exact ⟨j, rfl, hb.1, hb.2, q ρ1 H1 _ e S (src_range 0 j.toNat)⟩
  · have e2' := e2
    obtain ⟨a, b, rfl⟩ : ∃ a b, es = [a, b] := by
      match es, lens with
      | [a, b], _ => exact ⟨a, b, rfl⟩
    have h2 : starEach [b] X.env = [(false, eval b X.env)] := by rw [hs b (by simp)]; rfl
    refine (pi_range2 hg hm ha (by rw [hs a (by simp), h2]) h2).run pins s σ H R0 I (args_ahead hE hS e0 fun ρ1 H1 vs e S r => ?_)
    have r := Views.rv S r vi
    cases r with
    | cons r1 r2 =>
      cases r1
      cases r2 with
      | cons r3 r4 =>
        cases r3
        cases r4
        exact ⟨i, j, rfl, ⟨hb.1.1, hb.1.2, hb.2.1, hb.2.2⟩, q ρ1 H1 _ e S (src_range i (j - i).toNat)⟩
  · obtain ⟨a, b, c, rfl⟩ : ∃ a b c, es = [a, b, c] := by
      match es, lens with
      | [a, b, c], _ => exact ⟨a, b, c, rfl⟩
    have h2 : starEach [b, c] X.env = [(false, eval b X.env), (false, eval c X.env)] := by
      rw [hs b (by simp), hs c (by simp)]
      rfl
    refine (pi_range3 hg hm ha (hs a (by simp) _) (by rw [h2]; rfl)).run pins s σ H R0 I (args_ahead hE hS e0 fun ρ1 H1 vs e S r => ?_)
    have r := Views.rv S r vi
    cases r with
    | cons r1 r2 =>
      cases r1
      cases r2 with
      | cons r3 r4 =>
        cases r3
        cases r4 with
        | cons r5 r6 =>
          cases r5
          cases r6
          exact ⟨i, j, k, n, rfl, hrg, q ρ1 H1 _ e S (src_rangeSt i k n)⟩
/-- reversed(range(n)) -/
theorem pi_revK {e : Expr} {p2 pos2 : Pos} (hg : Gl X "reversed") (hm : X.mg "reversed" = none) (hg2 : Gl X "range") (hm2 : X.mg "range" = none) (h : PE X e (tM X m1)) (hs : ∀ r, starEach (e :: r) X.env = (false, eval e X.env) :: starEach r X.env) :
    PI X tg (.Call (.Name "reversed" p) [.Call (.Name "range" p2) [e] [] pos2] [] pos) (tI X (srcW .rev fun env => do let x ← m1 env; pure [x])) := by
  have base := pi_revR (tg := tg) (p := p) (pos := pos) hg hm (prg_1 (pos := pos2) (p := p2) hg2 hm2 h (hs []))
  refine ⟨fun pins s σ H R0 I q => base.run pins s σ H R0 I ?_⟩
  obtain ⟨ρ, env, st, hE, hS, q⟩ := q
  rcases src_ahead q with ⟨ds, st1, qs, items, e0, vi, e2, q⟩ | ⟨cE, vE, stE, e0, q⟩
  rotate_left
  · exact tM_err hE hS (one_err e0) q
  have e0 : ((m1 env st).bind fun x st => .ok [x] st) = .ok ds st1 := e0
  cases e1 : m1 env st with
  | bad => rw [e1] at e0; cases e0
  | err _ _ _ => rw [e1] at e0; cases e0
  | ok v st2 =>
    rw [e1] at e0
    have e0 : R.ok [v] st2 = .ok ds st1 := e0
    cases e0
    cases vi with
    | cons hv t =>
      cases t
      rename_i d
      cases d with
      | int j =>
        have e2 : (if -(2 ^ 62) ≤ j ∧ j < 2 ^ 62 then some (rangeDn ((j.toNat : Int) - 1) j.toNat) else none) = some items := e2
        split at e2
        · rename_i hb
          cases e2
          refine ⟨ρ, env, st, hE, hS, ?_⟩
          rw [e1]
          intro ρ1 H1 x e3 S1 r1
          have rv := r1.view S1 hv
          cases rv
          refine ⟨j, rfl, by decide, by decide, hb.1, hb.2, ?_⟩
          rw [Int.sub_zero, Int.zero_add]
          exact q ρ1 H1 _ e3 S1 (src_rangeDn ((j.toNat : Int) - 1) j.toNat)
        · cases e2
      | _ => cases e2
theorem pi_enumK {e : Expr} {elts : List Expr} {kk : Nat} {tpos : Pos} (hg : Gl X "enumerate") (hm : X.mg "enumerate" = none) (ha : PA X [e] (tL X m)) (hlen : ∀ env st ds st', m env st = .ok ds st' → ds.length = 1)
    (hs : starEach [e] X.env = [(false, eval e X.env)]) : PI X (.Tuple elts kk tpos) (.Call (.Name "enumerate" p) [e] [] pos) (tI X (srcW .enum m)) := by
  refine ⟨fun pins s σ H R0 I q => ?_⟩
  obtain ⟨ρ, env, st, hE, hS, q⟩ := q
  rcases src_ahead q with ⟨ds, st1, qs, items, e0, vi, e2, q⟩ | ⟨cE, vE, stE, e0, q⟩
  rotate_left
  · exact Call_ (ld_blt I hg hm boot_enumerate (PyProof.Rows.callWith_type1 (thn (ha.run pos pins s σ H (fun _ _ => False) I (tL_err hE hS e0 q)) fun us s1 ⟨_, _, _, _, z⟩ => z.elim) hs rfl))
  have hl := hlen _ _ _ _ e0
  refine Call_ (ld_blt I hg hm boot_enumerate (PyProof.Rows.callWith_type1 (thn (ha.run pos pins s σ H (fun vs H1 => ∃ ρ1, Ext ρ H ρ1 H1 ∧ RS X.K H1 ρ1 st1 ∧ RDs X.K H1 ρ1 vs ds) I (args_ahead hE hS e0 fun ρ1 H1 vs e S r => ⟨ρ1, e, S, r⟩)) fun us s1 ⟨vs, H1, I1, r1, ρ1, e, S, r⟩ => ?_) hs rfl))
  match ds, qs, vi, hl with
  | [dv], [d], .cons hv .nil, _ =>
      have e2 : (itemsP d).map enumP = some items := e2
      cases e3 : itemsP d with
      | none => rw [e3] at e2; cases e2
      | some xs =>
        rw [e3] at e2
        cases e2
        cases r with
        | cons r rr =>
          cases rr
          cases r1 with
          | cons q1 qq =>
            cases qq
            obtain ⟨k, a, rfl, w⟩ := wk_of r S hv e3
            cases q1
            obtain ⟨ys, sq, _⟩ := w ρ1 H1 st1 .refl S (stays_self _)
            obtain ⟨ws, _, ik⟩ := sqX_is I1 sq
            refine enum_call (beginsK (its := ws.toArray)) ik fun h' he hit hk => wpAny_pyIter_enum he ?_
            have I2 := I1.kept (t' := s1.toks) hk
            refine ⟨s1.heap.objs.size + 1, [s1.heap.objs.size + 1, s1.heap.objs.size], _, _, H1, rfl, I2, turn_E (n := xs.length) (k := k) (a := a) (e := s1.heap.objs.size + 1) (it := s1.heap.objs.size) (Nat.succ_ne_self _) (fun z => ?_) (fun z => ?_), ⟨⟨.none, he⟩, itK_zero hit⟩, fun b hb => ?_, q ρ1 H1 _ e S (src_E w)⟩
            · have lt := isK_lt ik
              rw [← z] at lt
              exact absurd lt (Nat.not_lt.mpr (Nat.le_succ _))
            · have lt := isK_lt ik
              rw [z] at lt
              exact absurd lt (Nat.lt_irrefl _)
            · have hb' : b = s1.heap.objs.size + 1 ∨ b = s1.heap.objs.size := by simpa using hb
              have hle : s1.heap.objs.size ≤ b := by
                rcases hb' with z | z
                · rw [z]; exact Nat.le_succ _
                · rw [z]; exact Nat.le_refl _
              exact I1.fpOk hle (I1.hok.fresh hle)
theorem pi_zipK {e f : Expr} {elts : List Expr} {kk : Nat} {tpos : Pos} (hg : Gl X "zip") (hm : X.mg "zip" = none) (ha : PA X [e, f] (tL X m)) (hlen : ∀ env st ds st', m env st = .ok ds st' → ds.length = 2)
    (hs : starEach [e, f] X.env = (false, eval e X.env) :: starEach [f] X.env) (hpl : (backTo pos (starEach [f] X.env)).any (·.1) = false) : PI X (.Tuple elts kk tpos) (.Call (.Name "zip" p) [e, f] [] pos) (tI X (srcW .zip m)) := by
  refine ⟨fun pins s σ H R0 I q => ?_⟩
  obtain ⟨ρ, env, st, hE, hS, q⟩ := q
  rcases src_ahead q with ⟨ds, st1, qs, items, e0, vi, e2, q⟩ | ⟨cE, vE, stE, e0, q⟩
  rotate_left
  · exact Call_ (ld_blt I hg hm PyProof.Rows.boot_zip (PyProof.Rows.callWith_type1 (thn (ha.run pos pins s σ H (fun _ _ => False) I (tL_err hE hS e0 q)) fun us s1 ⟨_, _, _, _, z⟩ => z.elim) hs hpl))
  have hl := hlen _ _ _ _ e0
  refine Call_ (ld_blt I hg hm PyProof.Rows.boot_zip (PyProof.Rows.callWith_type1 (thn (ha.run pos pins s σ H (fun vs H1 => ∃ ρ1, Ext ρ H ρ1 H1 ∧ RS X.K H1 ρ1 st1 ∧ RDs X.K H1 ρ1 vs ds) I (args_ahead hE hS e0 fun ρ1 H1 vs e S r => ⟨ρ1, e, S, r⟩)) fun us s1 ⟨vs, H1, I1, r1, ρ1, e, S, r⟩ => ?_) hs hpl))
  match ds, qs, vi, hl with
  | [d1, d2], [q1, q2], .cons hv1 (.cons hv2 .nil), _ =>
    have e2 : ((itemsP q1).bind fun xs => (itemsP q2).map fun ys => zipP xs ys) = some items := e2
    cases e3 : itemsP q1 with
    | none => rw [e3] at e2; cases e2
    | some xs =>
      cases e4 : itemsP q2 with
      | none => rw [e3, e4] at e2; cases e2
      | some ys =>
        rw [e3, e4] at e2
        cases e2
        cases r with
        | cons ra rr =>
          cases rr with
          | cons rb rr =>
            cases rr
            cases r1 with
            | cons u1 uu =>
              cases uu with
              | cons u2 uu =>
                cases uu
                obtain ⟨k1, a, rfl, w1⟩ := wk_of ra S hv1 e3
                obtain ⟨k2, b, rfl, w2⟩ := wk_of rb S hv2 e4
                cases u1
                cases u2
                have st12 : stays st1 [d1, d2] st1 := stays_self _
                have s1' : ∀ st, stays st1 [d1, d2] st → stays st1 [d1] st := fun st h => by cases d1 <;> cases d2 <;> simp_all [stays]
                have s2' : ∀ st, stays st1 [d1, d2] st → stays st1 [d2] st := fun st h => by cases d1 <;> cases d2 <;> simp_all [stays]
                have w1' := Wk.mono w1 s1'
                have w2' := Wk.mono w2 s2'
                obtain ⟨vs1, sq1, _⟩ := w1' ρ1 H1 st1 .refl S st12
                obtain ⟨vs2, sq2, _⟩ := w2' ρ1 H1 st1 .refl S st12
                obtain ⟨ws1, _, ik1⟩ := sqX_is I1 sq1
                obtain ⟨ws2, _, ik2⟩ := sqX_is I1 sq2
                have la := isK_lt ik1
                have lb := isK_lt ik2
                refine zip_begins2 (beginsK (its := ws1.toArray)) (beginsK (its := ws2.toArray)) ik1 ik2 fun h' hz hTI hTO h1 h2 hsz hk => wpAny_pyIter_zip hz ?_
                have I2 := I1.kept (t' := s1.toks) hk
                refine ⟨s1.heap.objs.size + 4, [s1.heap.objs.size + 4, s1.heap.objs.size + 2, s1.heap.objs.size + 3, s1.heap.objs.size, s1.heap.objs.size + 1], _, _, H1, rfl, I2,
                  turn_Z (n1 := xs.length) (n2 := ys.length) (k1 := k1) (k2 := k2) (a := a) (b := b) (zip_sep2 (fp1 := [a]) (fp2 := [b]) (fun c hc => by rw [List.mem_singleton.mp hc]; exact la) (fun c hc => by rw [List.mem_singleton.mp hc]; exact lb)) (fun z => ?_) (fun z => ?_),
                  ⟨hz, hTI, ⟨_, _, hTO⟩, itK_zero h1, itK_zero h2⟩, fun c hc => ?_, q ρ1 H1 _ e S (src_Z w1' w2')⟩
                · rw [z] at la
                  exact absurd la (Nat.lt_irrefl _)
                · rw [z] at lb
                  exact absurd lb (Nat.not_lt.mpr (Nat.le_succ _))
                · simp only [List.mem_cons, List.not_mem_nil, or_false] at hc
                  have hle : s1.heap.objs.size ≤ c := by
                    rcases hc with z | z | z | z | z
                    · rw [z]; exact Nat.le_add_right _ _
                    · rw [z]; exact Nat.le_add_right _ _
                    · rw [z]; exact Nat.le_add_right _ _
                    · rw [z]; exact Nat.le_refl _
                    · rw [z]; exact Nat.le_add_right _ _
                  exact I1.fpOk hle (I1.hok.fresh hle)
theorem enumzP_get {ds es : List P} {i : Nat} {d : P} (h : (enumP (zipP ds es))[i]? = some d) : ∃ x y, ds[i]? = some x ∧ es[i]? = some y ∧ d = .tuple [.int i, .tuple [x, y]] := by
  obtain ⟨q, h1, rfl⟩ := enumP_get h
  obtain ⟨x, y, g1, g2, rfl⟩ := zipP_get h1
  exact ⟨x, y, g1, g2, rfl⟩
theorem src_EZ {K : PySem.W.Frag} {ρ : Pl} {H : Hp} {a b : Addr} {ds es : List P} {g : Sto → Prop} {k1 k2 : Bool} (h : Wk K k1 a ds g ρ H) (h2 : Wk K k2 b es g ρ H) : Src K (ItEZ K k1 k2 a b ds.length es.length) (enumP (zipP ds es)) g ρ H where
  go := fun ρ1 H1 st i e S q hi => by
    obtain ⟨xs, s, r⟩ := h ρ1 H1 st e S q
    obtain ⟨ys, s2, r2⟩ := h2 ρ1 H1 st e S q
    rw [enumP_len, zipP_len] at hi
    exact ⟨hi, ⟨xs, s, r.length⟩, ys, s2, r2.length⟩
  stop := fun ρ1 H1 st e S q => by
    obtain ⟨xs, s, r⟩ := h ρ1 H1 st e S q
    obtain ⟨ys, s2, r2⟩ := h2 ρ1 H1 st e S q
    rw [enumP_len, zipP_len]
    exact ⟨rfl, ⟨xs, s, r.length⟩, ys, s2, r2.length⟩
  yld := fun ρ1 H1 st i d x H2 e S q hi y => by
    obtain ⟨T1, T2, vs, rfl, nn1, nn2, ne, rfl, y⟩ := y
    obtain ⟨xs, s, r⟩ := h ρ1 H1 st e S q
    obtain ⟨ys, s2, r2⟩ := h2 ρ1 H1 st e S q
    obtain ⟨x0, y0, hx, hy, rfl⟩ := y xs ys s s2
    obtain ⟨d1, d2, g1, g2, rfl⟩ := enumzP_get hi
    obtain ⟨x', q1, q2⟩ := r.get g1
    obtain ⟨y', q3, q4⟩ := r2.get g2
    rw [hx] at q1
    rw [hy] at q3
    cases q1
    cases q3
    have s3 := same_new (o := .tup [x0, y0]) nn1
    have nn2' : upd H1 T1 (.tup [x0, y0]) T2 = none := by rw [upd_ne (Ne.symm ne)]; exact nn2
    have s4 := same_new (o := .tup [V.int (i : Nat), V.ref T1]) nn2'
    have inner : RP K (upd H1 T1 (.tup [x0, y0])) ρ1 (.ref T1) (.tuple [d1, d2]) := .tup (.inl ⟨.inl upd_same, S.fresh nn1⟩) (.cons (q2.ext (Ext.same s3)) (.cons (q4.ext (Ext.same s3)) .nil))
    exact ⟨fun a u q => s4 a u (s3 a u q), .tup (.inl ⟨.inl upd_same, S.fresh nn2⟩) (.cons (.int _) (.cons (inner.ext (Ext.same s4)) .nil))⟩
/-- what zip(e, f) comes to -/
def ZipR (X : Cx) (pins : List (Addr × Obj)) (σ : L2.St) (R0 : It → Hp → Prop) (v : Value) (s1 : Shared) : Prop :=
  ∃ (H1 : Hp) (z TI TO i1 i2 a b : Addr) (k1 k2 : Bool) (n1 n2 : Nat), v = .ref z ∧ IsZip s1.heap z TI TO .none ∧ IsTupOf2 s1.heap TI (.ref i1) (.ref i2) ∧ (∃ a1 a2, IsTupOf2 s1.heap TO a1 a2) ∧ itK k1 s1.heap i1 a 0 ∧ itK k2 s1.heap i2 b 0 ∧
    ZipSep2 z TI TO i1 i2 [i1, a] [i2, b] ∧ a ≠ i1 ∧ b ≠ i2 ∧ Inv X pins σ H1 s1 ∧ (∀ c ∈ [z, TI, TO, i1, i2, a, b], c < s1.heap.objs.size) ∧ (∀ c ∈ [z, TI, TO, i1, i2], FpOk X pins H1 c) ∧ R0 (ItEZ X.K k1 k2 a b n1 n2) H1
theorem zip_eval {e f : Expr} (hg : Gl X "zip") (hm : X.mg "zip" = none) (ha : PA X [e, f] (tL X m)) (hlen : ∀ env st ds st', m env st = .ok ds st' → ds.length = 2)
    (hs : starEach [e, f] X.env = (false, eval e X.env) :: starEach [f] X.env) (hpl : (backTo pos (starEach [f] X.env)).any (·.1) = false) {pins : List (Addr × Obj)} {s : Shared} {σ : L2.St} {H : Hp} {R0 : It → Hp → Prop} (I : Inv X pins σ H s) (q : tI X (srcW .enumz m) σ H R0) :
    wpAny (model X.prog X.w) X.A (eval (.Call (.Name "zip" p) [e, f] [] pos) X.env) (ZipR X pins σ R0) X.xe s := by
  obtain ⟨ρ, env, st, hE, hS, q⟩ := q
  rcases src_ahead q with ⟨ds, st1, qs, items, e0, vi, e2, q⟩ | ⟨cE, vE, stE, e0, q⟩
  rotate_left
  · exact Call_ (ld_blt I hg hm PyProof.Rows.boot_zip (PyProof.Rows.callWith_type1 (thn (ha.run pos pins s σ H (fun _ _ => False) I (tL_err hE hS e0 q)) fun us s1 ⟨_, _, _, _, z⟩ => z.elim) hs hpl))
  have hl := hlen _ _ _ _ e0
  refine Call_ (ld_blt I hg hm PyProof.Rows.boot_zip (PyProof.Rows.callWith_type1 (thn (ha.run pos pins s σ H (fun vs H1 => ∃ ρ1, Ext ρ H ρ1 H1 ∧ RS X.K H1 ρ1 st1 ∧ RDs X.K H1 ρ1 vs ds) I (args_ahead hE hS e0 fun ρ1 H1 vs e S r => ⟨ρ1, e, S, r⟩)) fun us s1 ⟨vs, H1, I1, r1, ρ1, e, S, r⟩ => ?_) hs hpl))
  match ds, qs, vi, hl with
  | [d1, d2], [q1, q2], .cons hv1 (.cons hv2 .nil), _ =>
    have e2 : ((itemsP q1).bind fun xs => (itemsP q2).map fun ys => enumP (zipP xs ys)) = some items := e2
    cases e3 : itemsP q1 with
    | none => rw [e3] at e2; cases e2
    | some xs =>
      cases e4 : itemsP q2 with
      | none => rw [e3, e4] at e2; cases e2
      | some ys =>
        rw [e3, e4] at e2
        cases e2
        cases r with
        | cons ra rr =>
          cases rr with
          | cons rb rr =>
            cases rr
            cases r1 with
            | cons u1 uu =>
              cases uu with
              | cons u2 uu =>
                cases uu
                obtain ⟨k1, a, rfl, w1⟩ := wk_of ra S hv1 e3
                obtain ⟨k2, b, rfl, w2⟩ := wk_of rb S hv2 e4
                cases u1
                cases u2
                have st12 : stays st1 [d1, d2] st1 := stays_self _
                have s1' : ∀ st, stays st1 [d1, d2] st → stays st1 [d1] st := fun st h => by cases d1 <;> cases d2 <;> simp_all [stays]
                have s2' : ∀ st, stays st1 [d1, d2] st → stays st1 [d2] st := fun st h => by cases d1 <;> cases d2 <;> simp_all [stays]
                have w1' := Wk.mono w1 s1'
                have w2' := Wk.mono w2 s2'
                obtain ⟨vs1, sq1, _⟩ := w1' ρ1 H1 st1 .refl S st12
                obtain ⟨vs2, sq2, _⟩ := w2' ρ1 H1 st1 .refl S st12
                obtain ⟨ws1, _, ik1⟩ := sqX_is I1 sq1
                obtain ⟨ws2, _, ik2⟩ := sqX_is I1 sq2
                have la := isK_lt ik1
                have lb := isK_lt ik2
                refine zip_begins2 (beginsK (its := ws1.toArray)) (beginsK (its := ws2.toArray)) ik1 ik2 fun h' hz hTI hTO h1 h2 hsz hk => ?_
                have I2 := I1.kept (t' := s1.toks) hk
                refine ⟨H1, s1.heap.objs.size + 4, s1.heap.objs.size + 2, s1.heap.objs.size + 3, s1.heap.objs.size, s1.heap.objs.size + 1, a, b, k1, k2, xs.length, ys.length, rfl, hz, hTI, ⟨_, _, hTO⟩, itK_zero h1, itK_zero h2,
                  (zip_sep2 (fp1 := [a]) (fp2 := [b]) (fun c hc => by rw [List.mem_singleton.mp hc]; exact la) (fun c hc => by rw [List.mem_singleton.mp hc]; exact lb)), (fun z => ?_), (fun z => ?_), I2, fun c hc => ?_, fun c hc => ?_, q ρ1 H1 _ e S (src_EZ w1' w2')⟩
                · rw [z] at la
                  exact absurd la (Nat.lt_irrefl _)
                · rw [z] at lb
                  exact absurd lb (Nat.not_lt.mpr (Nat.le_succ _))
                · show c < h'.objs.size
                  rw [hsz]
                  simp only [List.mem_cons, List.not_mem_nil, or_false] at hc
                  rcases hc with z | z | z | z | z | z | z
                  · rw [z]; exact Nat.add_lt_add_left (by decide) _
                  · rw [z]; exact Nat.add_lt_add_left (by decide) _
                  · rw [z]; exact Nat.add_lt_add_left (by decide) _
                  · rw [z]; exact Nat.lt_add_of_pos_right (by decide)
                  · rw [z]; exact Nat.add_lt_add_left (by decide) _
                  · rw [z]; exact Nat.lt_of_lt_of_le la (Nat.le_add_right _ _)
                  · rw [z]; exact Nat.lt_of_lt_of_le lb (Nat.le_add_right _ _)
                · simp only [List.mem_cons, List.not_mem_nil, or_false] at hc
                  have hle : s1.heap.objs.size ≤ c := by
                    rcases hc with z | z | z | z | z
                    · rw [z]; exact Nat.le_add_right _ _
                    · rw [z]; exact Nat.le_add_right _ _
                    · rw [z]; exact Nat.le_add_right _ _
                    · rw [z]; exact Nat.le_refl _
                    · rw [z]; exact Nat.le_add_right _ _
                  exact I1.fpOk hle (I1.hok.fresh hle)
/-- enumerate(zip(e, f)) -/
theorem pi_enumzK {e f : Expr} {elts : List Expr} {kk : Nat} {tpos p2 pos2 : Pos} (hge : Gl X "enumerate") (hme : X.mg "enumerate" = none) (hg : Gl X "zip") (hm : X.mg "zip" = none) (ha : PA X [e, f] (tL X m)) (hlen : ∀ env st ds st', m env st = .ok ds st' → ds.length = 2)
    (hs : starEach [e, f] X.env = (false, eval e X.env) :: starEach [f] X.env) (hpl : (backTo pos (starEach [f] X.env)).any (·.1) = false) :
    PI X (.Tuple elts kk tpos) (.Call (.Name "enumerate" p2) [.Call (.Name "zip" p) [e, f] [] pos] [] pos2) (tI X (srcW .enumz m)) := by
  refine ⟨fun pins s σ H R0 I q => ?_⟩
  refine Call_ (ld_blt I hge hme boot_enumerate (PyProof.Rows.callWith_type1 (args_cons (thn (zip_eval (p := p) hg hm ha hlen hs hpl I q) fun u s1 hx => args_nil ?_) rfl) rfl rfl))
  obtain ⟨H1, z, TI, TO, i1, i2, a, b, k1, k2, n1, n2, rfl, hz, hTI, hTO, t1, t2, S, na, nb, I1, lt, fp, q⟩ := hx
  have big : ∀ c ∈ [z, TI, TO, i1, i2, a, b], s1.heap.objs.size ≠ c := fun c hc => Nat.ne_of_gt (lt c hc)
  have ap : EApart s1.heap.objs.size z TI TO i1 i2 [i1, a] [i2, b] := ⟨big z (by simp), big TI (by simp), big TO (by simp), big i1 (by simp), big i2 (by simp), fun h => by
    simp only [List.mem_cons, List.not_mem_nil, or_false] at h
    rcases h with x | x
    · exact big i1 (by simp) x
    · exact big a (by simp) x, fun h => by
    simp only [List.mem_cons, List.not_mem_nil, or_false] at h
    rcases h with x | x
    · exact big i2 (by simp) x
    · exact big b (by simp) x⟩
  refine enum_callZ hz fun h' he hk => wpAny_pyIter_enum he ?_
  have I2 := I1.kept (t' := s1.toks) hk
  obtain ⟨a1, a2, hTO⟩ := hTO
  refine ⟨s1.heap.objs.size, [s1.heap.objs.size, z, TI, TO, i1, i2], _, _, H1, rfl, I2, turn_EZ (k1 := k1) (k2 := k2) (n1 := n1) (n2 := n2) S ap na nb, ⟨⟨.none, he⟩, ⟨_, _, hk _ _ hz, .inl rfl⟩, hk _ _ hTI, ⟨_, _, hk _ _ hTO⟩, itK_keep t1 fun o => hk i1 o, itK_keep t2 fun o => hk i2 o⟩, fun c hc => ?_, q⟩
  rcases List.mem_cons.mp hc with x | hc
  · rw [x]
    exact I1.fpOk (Nat.le_refl _) (I1.hok.fresh (Nat.le_refl _))
  · exact fp c hc
end
end PB
set_option maxRecDepth 100000
set_option maxHeartbeats 2000000
/-! Pb, part 9z: zip of three. -/
namespace PB
open PySem PySem.Spec PyProof.Rows L2
def ItZ3 (K : PySem.W.Frag) (k1 k2 k3 : Bool) (a b d : Addr) (n1 n2 n3 : Nat) : It := Itw (min (min n1 n2) n3) (fun H => (∃ xs, SqX K k1 H a xs ∧ xs.length = n1) ∧ (∃ ys, SqX K k2 H b ys ∧ ys.length = n2) ∧ ∃ zs, SqX K k3 H d zs ∧ zs.length = n3)
  fun i H vs => ∀ xs ys zs, SqX K k1 H a xs → SqX K k2 H b ys → SqX K k3 H d zs → ∃ x y z, xs[i]? = some x ∧ ys[i]? = some y ∧ zs[i]? = some z ∧ vs = [x, y, z]
theorem turn_Z3 {Pg : Program} {w : World} {K : PySem.W.Frag} {elts : List Expr} {kk : Nat} {tpos : Pos} {k1 k2 k3 : Bool} {a b d z TI TO i1 i2 i3 : Addr} {n1 n2 n3 : Nat} (S : ZipSep3 z TI TO i1 i2 i3 [i1, a] [i2, b] [i3, d]) (h1 : a ≠ i1) (h2 : b ≠ i2) (h3 : d ≠ i3) :
    Turn Pg w K (.Tuple elts kk tpos) (ItZ3 K k1 k2 k3 a b d n1 n2 n3) [z, TI, TO, i1, i2, i3] z (fun i h => IsZip h z TI TO .none ∧ IsTupOf3 h TI (.ref i1) (.ref i2) (.ref i3) ∧ (∃ a1 a2 a3, IsTupOf3 h TO a1 a2 a3) ∧ itK k1 h i1 a i ∧ itK k2 h i2 b i ∧ itK k3 h i3 d i) := by
  refine turn_W (C := List Value × List Value × List Value) (wr := [z, TO, i1, i2, i3]) (fp := fun _ => z :: TI :: TO :: ([i1, a] ++ [i2, b] ++ [i3, d])) (Good := fun c => c.1.length = n1 ∧ c.2.1.length = n2 ∧ c.2.2.length = n3) (Sr := fun c h => isK k1 h a c.1.toArray ∧ isK k2 h b c.2.1.toArray ∧ isK k3 h d c.2.2.toArray)
    (Pt := fun c i vals => ∃ x1 x2 x3, c.1.toArray[i]? = some x1 ∧ c.2.1.toArray[i]? = some x2 ∧ c.2.2.toArray[i]? = some x3 ∧ vals = #[x1, x2, x3])
    (St := fun c i h => IsZip h z TI TO .none ∧ IsTupOf3 h TI (.ref i1) (.ref i2) (.ref i3) ∧ (∃ a1 a2 a3, IsTupOf3 h TO a1 a2 a3) ∧ (itK k1 h i1 a i ∧ isK k1 h a c.1.toArray) ∧ (itK k2 h i2 b i ∧ isK k2 h b c.2.1.toArray) ∧ (itK k3 h i3 d i ∧ isK k3 h d c.2.2.toArray))
    (Mid := fun c i T h => IsZip h z TI TO (rawInt T) ∧ IsTupOf3 h TI (.ref i1) (.ref i2) (.ref i3) ∧ (∃ a1 a2 a3, IsTupOf3 h TO a1 a2 a3) ∧ (itK k1 h i1 a (i + 1) ∧ isK k1 h a c.1.toArray) ∧ (itK k2 h i2 b (i + 1) ∧ isK k2 h b c.2.1.toArray) ∧ (itK k3 h i3 d (i + 1) ∧ isK k3 h d c.2.2.toArray) ∧ T ≠ z ∧ T ≠ TO ∧ T ≠ i1 ∧ T ≠ i2 ∧ T ≠ i3)
    (fun A c hh g => ?_) (fun c i h o sr => ?_) (fun c i h st => ?_) (by simp) (fun b hb => ?_) (fun i h o b hb => ?_) (fun i h h' o kp => ?_) (fun X pins σ H s hP hw hK I g => ?_) (fun A i s Q E o q => ?_)
  rotate_left
  · exact ⟨o.1, o.2.1, o.2.2.1, ⟨o.2.2.2.1, sr.1⟩, ⟨o.2.2.2.2.1, sr.2.1⟩, ⟨o.2.2.2.2.2, sr.2.2⟩⟩
  · exact ⟨st.1, st.2.1, st.2.2.1, st.2.2.2.1.1, st.2.2.2.2.1.1, st.2.2.2.2.2.1⟩
  · simp only [List.mem_cons, List.not_mem_nil, or_false] at hb ⊢
    rcases hb with e | e | e | e | e <;> simp [e]
  · obtain ⟨q1, q2, ⟨a1, a2, a3, q3⟩, q4, q5, q6⟩ := o
    simp only [List.mem_cons, List.not_mem_nil, or_false] at hb
    rcases hb with e | e | e | e | e | e
    · rw [e]; exact ⟨_, q1, fun v y => nomatch y⟩
    · rw [e]; exact ⟨_, q2, fun v y => nomatch y⟩
    · rw [e]; exact ⟨_, q3, fun v y => nomatch y⟩
    · rw [e]; exact itK_obj q4
    · rw [e]; exact itK_obj q5
    · rw [e]; exact itK_obj q6
  · obtain ⟨q1, q2, ⟨a1, a2, a3, q3⟩, q4, q5, q6⟩ := o
    exact ⟨kp z (by simp) _ q1, kp TI (by simp) _ q2, ⟨a1, a2, a3, kp TO (by simp) _ q3⟩, itK_keep q4 fun o => kp i1 (by simp) o, itK_keep q5 fun o => kp i2 (by simp) o, itK_keep q6 fun o => kp i3 (by simp) o⟩
  · subst hK
    obtain ⟨⟨xs, g1, l1⟩, ⟨ys, g2, l2⟩, zs, g3, l3⟩ := g
    obtain ⟨ws, r, p⟩ := sqX_is I g1
    obtain ⟨ws2, r2, p2⟩ := sqX_is I g2
    obtain ⟨ws3, r3, p3⟩ := sqX_is I g3
    refine ⟨(ws, ws2, ws3), ⟨by rw [← l1, r.length], by rw [← l2, r2.length], by rw [← l3, r3.length]⟩, ⟨p, p2, p3⟩, fun i vals hi hp => ?_⟩
    obtain ⟨u, u2, u3, hu, hu2, hu3, rfl⟩ := hp
    have hx : xs[i]? = some (xs[i]'(by omega)) := List.getElem?_eq_getElem (by omega)
    have hy : ys[i]? = some (ys[i]'(by omega)) := List.getElem?_eq_getElem (by omega)
    have hz : zs[i]? = some (zs[i]'(by omega)) := List.getElem?_eq_getElem (by omega)
    obtain ⟨w1, e1, ru⟩ := r.get hx
    obtain ⟨w2, e2, ru2⟩ := r2.get hy
    obtain ⟨w3, e3, ru3⟩ := r3.get hz
    have t1 : ws[i]? = some u := by simpa using hu
    have t2 : ws2[i]? = some u2 := by simpa using hu2
    have t3 : ws3[i]? = some u3 := by simpa using hu3
    rw [t1] at e1
    rw [t2] at e2
    rw [t3] at e3
    cases e1
    cases e2
    cases e3
    exact ⟨[xs[i]'(by omega), ys[i]'(by omega), zs[i]'(by omega)], .cons ru (.cons ru2 (.cons ru3 .nil)), fun us vs ts hu hv ht => by rw [sqX_inj I hu g1, sqX_inj I hv g2, sqX_inj I ht g3]; exact ⟨_, _, _, hx, hy, hz, rfl⟩, by show 3 ≤ sizeLine; decide⟩
  · exact wpAny_pyIter_zip o.1 q
  · have D1 := drawsK (prog := Pg) (w := w) (A := A.in1) (k := k1) (it := i1) (a := a) (show A.in1.handled = none from hh) h1 c.1.toArray
    have D2 := drawsK (prog := Pg) (w := w) (A := A.in1) (k := k2) (it := i2) (a := b) (show A.in1.handled = none from hh) h2 c.2.1.toArray
    have D3 := drawsK (prog := Pg) (w := w) (A := A.in1) (k := k3) (it := i3) (a := d) (show A.in1.handled = none from hh) h3 c.2.2.toArray
    have W := WalksT.zipD3 (A := A) S D1 D2 D3
    have l1 : n1 = c.1.toArray.size := by rw [List.size_toArray]; exact g.1.symm
    have l2 : n2 = c.2.1.toArray.size := by rw [List.size_toArray]; exact g.2.1.symm
    have l3 : n3 = c.2.2.toArray.size := by rw [List.size_toArray]; exact g.2.2.symm
    rw [l1, l2, l3]
    exact W
theorem zipP3_len {ds es fs : List P} : (zipP3 ds es fs).length = min (min ds.length es.length) fs.length := by
  unfold zipP3
  rw [List.length_map, List.length_zip, List.length_zip]
  omega
theorem zipP3_get {ds es fs : List P} {i : Nat} {d : P} (h : (zipP3 ds es fs)[i]? = some d) : ∃ x y z, ds[i]? = some x ∧ es[i]? = some y ∧ fs[i]? = some z ∧ d = .tuple [x, y, z] := by
  unfold zipP3 at h
  rw [List.getElem?_map] at h
  cases e : (ds.zip (es.zip fs))[i]? with
  | none => rw [e] at h; cases h
  | some q =>
    rw [e] at h
    cases h
    obtain ⟨h1, h2⟩ := List.getElem?_zip_eq_some.mp e
    obtain ⟨h3, h4⟩ := List.getElem?_zip_eq_some.mp h2
    exact ⟨_, _, _, h1, h3, h4, rfl⟩
section
variable {K : PySem.W.Frag} {ρ : Pl} {H : Hp} {a b d : Addr} {ds es fs : List P} {g : Sto → Prop} {k1 k2 k3 : Bool}
theorem src_Z3 (h : Wk K k1 a ds g ρ H) (h2 : Wk K k2 b es g ρ H) (h3 : Wk K k3 d fs g ρ H) : Src K (ItZ3 K k1 k2 k3 a b d ds.length es.length fs.length) (zipP3 ds es fs) g ρ H where
  go := fun ρ1 H1 st i e S q hi => by
    obtain ⟨xs, s, r⟩ := h ρ1 H1 st e S q
    obtain ⟨ys, s2, r2⟩ := h2 ρ1 H1 st e S q
    obtain ⟨zs, s3, r3⟩ := h3 ρ1 H1 st e S q
    rw [zipP3_len] at hi
    exact ⟨hi, ⟨xs, s, r.length⟩, ⟨ys, s2, r2.length⟩, zs, s3, r3.length⟩
  stop := fun ρ1 H1 st e S q => by
    obtain ⟨xs, s, r⟩ := h ρ1 H1 st e S q
    obtain ⟨ys, s2, r2⟩ := h2 ρ1 H1 st e S q
    obtain ⟨zs, s3, r3⟩ := h3 ρ1 H1 st e S q
    rw [zipP3_len]
    exact ⟨rfl, ⟨xs, s, r.length⟩, ⟨ys, s2, r2.length⟩, zs, s3, r3.length⟩
  yld := fun ρ1 H1 st i d x H2 e S q hi y => by
    obtain ⟨T, vs, rfl, n, rfl, y⟩ := y
    obtain ⟨xs, s, r⟩ := h ρ1 H1 st e S q
    obtain ⟨ys, s2, r2⟩ := h2 ρ1 H1 st e S q
    obtain ⟨zs, s3, r3⟩ := h3 ρ1 H1 st e S q
    obtain ⟨x0, y0, z0, hx, hy, hz, rfl⟩ := y xs ys zs s s2 s3
    obtain ⟨d1, d2, d3, g1, g2, g3, rfl⟩ := zipP3_get hi
    obtain ⟨x', q1, q2⟩ := r.get g1
    obtain ⟨y', q3, q4⟩ := r2.get g2
    obtain ⟨z', q5, q6⟩ := r3.get g3
    rw [hx] at q1
    rw [hy] at q3
    rw [hz] at q5
    cases q1
    cases q3
    cases q5
    have s4 := same_new (o := .tup [x0, y0, z0]) n
    exact ⟨s4, .tup (.inl ⟨.inl upd_same, S.fresh n⟩) (.cons (q2.ext (Ext.same s4)) (.cons (q4.ext (Ext.same s4)) (.cons (q6.ext (Ext.same s4)) .nil)))⟩
end
section
variable {X : Cx} {m : Env → M (List D)} {p pos : Pos}
theorem pi_zip3K {e f e3 : Expr} {elts : List Expr} {kk : Nat} {tpos : Pos} (hg : Gl X "zip") (hm : X.mg "zip" = none) (ha : PA X [e, f, e3] (tL X m)) (hlen : ∀ env st ds st', m env st = .ok ds st' → ds.length = 3)
    (hs : starEach [e, f, e3] X.env = (false, eval e X.env) :: starEach [f, e3] X.env) (hpl : (backTo pos (starEach [f, e3] X.env)).any (·.1) = false) : PI X (.Tuple elts kk tpos) (.Call (.Name "zip" p) [e, f, e3] [] pos) (tI X (srcW .zip3 m)) := by
  refine ⟨fun pins s σ H R0 I q => ?_⟩
  obtain ⟨ρ, env, st, hE, hS, q⟩ := q
  rcases src_ahead q with ⟨ds, st1, qs, items, e0, vi, e2, q⟩ | ⟨cE, vE, stE, e0, q⟩
  rotate_left
  · exact Call_ (ld_blt I hg hm PyProof.Rows.boot_zip (PyProof.Rows.callWith_type1 (thn (ha.run pos pins s σ H (fun _ _ => False) I (tL_err hE hS e0 q)) fun us s1 ⟨_, _, _, _, z⟩ => z.elim) hs hpl))
  have hl := hlen _ _ _ _ e0
  refine Call_ (ld_blt I hg hm PyProof.Rows.boot_zip (PyProof.Rows.callWith_type1 (thn (ha.run pos pins s σ H (fun vs H1 => ∃ ρ1, Ext ρ H ρ1 H1 ∧ RS X.K H1 ρ1 st1 ∧ RDs X.K H1 ρ1 vs ds) I (args_ahead hE hS e0 fun ρ1 H1 vs e S r => ⟨ρ1, e, S, r⟩)) fun us s1 ⟨vs, H1, I1, r1, ρ1, e, S, r⟩ => ?_) hs hpl))
  match ds, qs, vi, hl with
  | [d1, d2, d3], [q1, q2, q3], .cons hv1 (.cons hv2 (.cons hv3 .nil)), _ =>
    have e2 : ((itemsP q1).bind fun xs => (itemsP q2).bind fun ys => (itemsP q3).map fun zs => zipP3 xs ys zs) = some items := e2
    cases e3 : itemsP q1 with
    | none => rw [e3] at e2; cases e2
    | some xs =>
      cases e4 : itemsP q2 with
      | none => rw [e3, e4] at e2; cases e2
      | some ys =>
       cases e5 : itemsP q3 with
       | none => rw [e3, e4, e5] at e2; cases e2
       | some zs =>
        rw [e3, e4, e5] at e2
        cases e2
        cases r with
        | cons ra rr =>
          cases rr with
          | cons rb rr =>
           cases rr with
           | cons rc rr =>
            cases rr
            cases r1 with
            | cons u1 uu =>
              cases uu with
              | cons u2 uu =>
               cases uu with
               | cons u3 uu =>
                cases uu
                obtain ⟨k1, a, rfl, w1⟩ := wk_of ra S hv1 e3
                obtain ⟨k2, b, rfl, w2⟩ := wk_of rb S hv2 e4
                obtain ⟨k3, d, rfl, w3⟩ := wk_of rc S hv3 e5
                cases u1
                cases u2
                cases u3
                have st12 : stays st1 [d1, d2, d3] st1 := stays_self _
                have s1' : ∀ st, stays st1 [d1, d2, d3] st → stays st1 [d1] st := fun st h => by cases d1 <;> cases d2 <;> cases d3 <;> simp_all [stays]
                have s2' : ∀ st, stays st1 [d1, d2, d3] st → stays st1 [d2] st := fun st h => by cases d1 <;> cases d2 <;> cases d3 <;> simp_all [stays]
                have s3' : ∀ st, stays st1 [d1, d2, d3] st → stays st1 [d3] st := fun st h => by cases d1 <;> cases d2 <;> cases d3 <;> simp_all [stays]
                have w1' := Wk.mono w1 s1'
                have w2' := Wk.mono w2 s2'
                have w3' := Wk.mono w3 s3'
                obtain ⟨vs1, sq1, _⟩ := w1' ρ1 H1 st1 .refl S st12
                obtain ⟨vs2, sq2, _⟩ := w2' ρ1 H1 st1 .refl S st12
                obtain ⟨vs3, sq3, _⟩ := w3' ρ1 H1 st1 .refl S st12
                obtain ⟨ws1, _, ik1⟩ := sqX_is I1 sq1
                obtain ⟨ws2, _, ik2⟩ := sqX_is I1 sq2
                obtain ⟨ws3, _, ik3⟩ := sqX_is I1 sq3
                have la := isK_lt ik1
                have lb := isK_lt ik2
                have lc := isK_lt ik3
                refine zip_begins3 (beginsK (its := ws1.toArray)) (beginsK (its := ws2.toArray)) (beginsK (its := ws3.toArray)) ik1 ik2 ik3 fun h' hz hTI hTO h1 h2 h3 hsz hk => wpAny_pyIter_zip hz ?_
                have I2 := I1.kept (t' := s1.toks) hk
                refine ⟨s1.heap.objs.size + 5, [s1.heap.objs.size + 5, s1.heap.objs.size + 3, s1.heap.objs.size + 4, s1.heap.objs.size, s1.heap.objs.size + 1, s1.heap.objs.size + 2], _, _, H1, rfl, I2,
                  turn_Z3 (n1 := xs.length) (n2 := ys.length) (n3 := zs.length) (k1 := k1) (k2 := k2) (k3 := k3) (a := a) (b := b) (d := d) (zip_sep3 (fp1 := [a]) (fp2 := [b]) (fp3 := [d]) (fun c hc => by rw [List.mem_singleton.mp hc]; exact la) (fun c hc => by rw [List.mem_singleton.mp hc]; exact lb) (fun c hc => by rw [List.mem_singleton.mp hc]; exact lc)) (fun z => ?_) (fun z => ?_) (fun z => ?_),
                  ⟨hz, hTI, ⟨_, _, _, hTO⟩, itK_zero h1, itK_zero h2, itK_zero h3⟩, fun c hc => ?_, q ρ1 H1 _ e S (src_Z3 w1' w2' w3')⟩
                · rw [z] at la
                  exact absurd la (Nat.lt_irrefl _)
                · rw [z] at lb
                  exact absurd lb (Nat.not_lt.mpr (Nat.le_succ _))
                · rw [z] at lc
                  exact absurd lc (Nat.not_lt.mpr (Nat.le_add_right _ 2))
                · simp only [List.mem_cons, List.not_mem_nil, or_false] at hc
                  have hle : s1.heap.objs.size ≤ c := by
                    rcases hc with z | z | z | z | z | z
                    · rw [z]; exact Nat.le_add_right _ _
                    · rw [z]; exact Nat.le_add_right _ _
                    · rw [z]; exact Nat.le_add_right _ _
                    · rw [z]; exact Nat.le_refl _
                    · rw [z]; exact Nat.le_add_right _ _
                    · rw [z]; exact Nat.le_add_right _ _
                  exact I1.fpOk hle (I1.hok.fresh hle)
end
end PB
set_option maxRecDepth 100000
set_option maxHeartbeats 2000000
/-! Pb, part 6x: an exception class of the package whose __init__ says super().__init__(x), self.f = x. -/
namespace PB
open PySem PySem.Spec PyProof.Rows L2
/-- what it does -/
def spInit (C : Addr) (f : Str) : Sp := fun vs H Q _ => ∃ (p : Addr) (x : V), vs = [.ref p, x] ∧ H p = some (exo p C none) ∧ ∀ dx, H dx = none → dx ≠ p → Q .non (upd (upd H dx (exd dx [(f, x)])) p (exo p C (some dx)))
/-- X() of a class of the text without an __init__ of its own -/
theorem pmk_own0 {X : Cx} {C : Addr} {bmB : List Value} {B newId initId : String} {x : Str} {p pos : Pos} (F : ExcBaseFacts B newId initId bmB) (q : PySem.W.excIn X.K C bmB newId = true) (gC : X.mg x = some (.ref C)) (kC : PySem.W.keepIn X.K (.ref C) = true) (r : Raises X (.ref C)) (hg : Gl X x)
    (hdb : (x == ("__debug__" : Str)) = false) : PMk X (.Call (.Name x p) [] [] pos) (fun _ H Q => Q (.ref C) none H) := by
  intro pins s σ H Q I h
  refine wpAny_Call_Name_kw (ld_glob I hg gC ?_ hdb)
  refine PySem.W.callWith_K0 I.kIn kC ?_
  show wpAny _ _ (call (.ref C) []) _ _ _
  obtain ⟨bm, N, nm, qn, bs, hdct, sn, sub, ab, col, dd, k0, k1, k2, k3, k5, mN, hC, hN, hni, T⟩ := exc_obj I.kIn q
  obtain ⟨hp1, g1, d1, tk1, os1⟩ := s
  refine wpAny_call_exc_subT F T hC hN hni (fun h' e hm => ?_) (Nat.zero_le _)
  exact mk_of I hm r h (I.hok.gone hm.new)
/-- what is asked of such a class -/
def OwnX (K : PySem.W.Frag) (C : Addr) : Prop := PySem.W.excIn K C [.type "ValueError", .type "Exception", .type "BaseException", .type "object"] "ValueError.__new__" = true ∧ PySem.W.keepIn K (.ref C) = true ∧ PySem.W.subIn K (.ref C) (.type "BaseException") = some true ∧ PySem.W.typeIn K (.ref C) = some (.type "type")
/-- the exception class x of the text, whether it has such an __init__ -/
structure XcOk (Pg : Program) (w : World) (K : PySem.W.Frag) (mg : Str → Option Value) (base : Heap) (k : Nat) (xs : List (String × Bool)) (x : String) (b : Bool) : Prop where
  ok : ∃ C, mg (Str.ofString x) = some (.ref C) ∧ XfC K C ∧ ExcC K C ∧ PySem.W.findIn K (.ref C) (fldOf (Str.ofString x)) = some none ∧
    (∀ y b', (y, b') ∈ xs → ∃ D, mg (Str.ofString y) = some (.ref D) ∧ PySem.W.exmOne K (.ref C) (.ref D) = some (isX (Str.ofString x) y) ∧ PySem.W.kitOne K (.ref C) (.ref D) = some (isX (Str.ofString x) y)) ∧
    (b = true → OexC K C ∧ ∃ fI fd a j, PySem.W.findIn K (.ref C) "__init__" = some (some (.ref fI)) ∧ PySem.W.typeIn K (.ref fI) = some (.type "function") ∧ j + 1 ≤ k ∧ FnOk Pg w K mg base L2.CX0 j fI fd ["self", a] (spInit C (fldOf (Str.ofString x))) ∧ Binds K fd ["self", a] []) ∧ (b = false → OwnX K C)
theorem XcOk.mono {Pg : Program} {w : World} {K : PySem.W.Frag} {mg : Str → Option Value} {base : Heap} {j k : Nat} {xs : List (String × Bool)} {x : String} {b : Bool} (h : XcOk Pg w K mg base j xs x b) (l : j ≤ k) : XcOk Pg w K mg base k xs x b := by
  obtain ⟨C, h1, h2, h3, h4, h5, h6, h7⟩ := h.ok
  refine ⟨C, h1, h2, h3, h4, h5, fun z => ?_, h7⟩
  obtain ⟨T, fI, fd, a, i, q1, q2, q3, q4⟩ := h6 z
  exact ⟨T, fI, fd, a, i, q1, q2, Nat.le_trans q3 l, q4⟩
end PB
set_option maxRecDepth 100000
set_option maxHeartbeats 2000000
/-! Pb, part 10: functions of the text, called. -/
namespace PB
open PySem PySem.Spec PyProof.Rows L2
/-- the function at f does what fn does -/
structure FnG (Pg : Program) (w : World) (K : PySem.W.Frag) (mg : Str → Option Value) (base : Heap) (k : Nat) (f : Addr) (fd : FuncData) (ps : List Str) (fn : List D → M D) : Prop where
  run : ∀ (A : Around) (outer : List PySem.Env) (s : Shared) (H : Hp) (args : Args) (us : List Value) (vs : List V) (ds : List D) (ρ : Pl) (st : Sto) (Q : VK) (E : XK), Room k A → A.guards = some [] → Env0 Pg w K mg base A outer s H →
    BindsTo s fd args (ps.zip us) → Vals vs us → RDs K H ρ vs ds → RS K H ρ st → ds.length = ps.length → (fn ds st).holds (Post K ρ H Q) (ErK K mg ρ H E) →
    codeAny (model Pg w) A (.call (.ref f) args) (CR (L2.CX Pg w) outer Pg w H s Q E) s
theorem FnG.mono {Pg : Program} {w : World} {K : PySem.W.Frag} {mg : Str → Option Value} {base : Heap} {j k : Nat} {f : Addr} {fd : FuncData} {ps : List Str} {fn : List D → M D} (F : FnG Pg w K mg base j f fd ps fn) (h : j ≤ k) : FnG Pg w K mg base k f fd ps fn :=
  ⟨fun A outer s H args us vs ds ρ st Q E hr => F.run A outer s H args us vs ds ρ st Q E (hr.mono h)⟩
/-- n values by place, those of the keywords ks in the order π -/
def KwOk (K : PySem.W.Frag) (fd : FuncData) (ps : List Str) (n : Nat) (ks : List String) (π : List Nat) : Prop := n + π.length = ps.length ∧ (∀ i ∈ π, i < ks.length) ∧
  ∀ (s : Shared) (us ws : List Value), K.In s.heap → us.length = n → ws.length = ks.length → BindsTo s fd ⟨us, (ks.map Str.ofString).zip ws⟩ (ps.zip (us ++ pick π ws))
/-- what the module has, for the functions of c, called at level k -/
structure Glb (Pg : Program) (w : World) (K : PySem.W.Frag) (mg : Str → Option Value) (base : Heap) (k : Nat) (c : Cfg) (G : List (String × P)) : Prop where
  fn : ∀ f m, c.T f = some m → ∃ a fd ps, mg (Str.ofString f) = some (.ref a) ∧ PySem.W.keepIn K (.ref a) = true ∧ ps.length = c.ar f ∧ Binds K fd ps [] ∧ FnG Pg w K mg base k a fd ps m ∧ ∀ n ks π, (f, n, ks, π) ∈ c.kw → KwOk K fd ps n ks π
  gl : ∀ x d, (x, d) ∈ G → ∃ u v, mg (Str.ofString x) = some u ∧ RelV v u ∧ ∀ H ρ, RP K H ρ v d
  bl : ∀ x ∈ bifNames ++ tyNames ++ ["isinstance", "range", "enumerate", "zip", "reversed", "set"], mg (Str.ofString x) = none
  xc : ∀ x b, (x, b) ∈ c.xs → XcOk Pg w K mg base k c.xs x b
section
variable {X : Cx} {pins : List (Addr × Obj)} {σ : List (Option V)} {H : Hp} {s : Shared} {ρ : Pl} {st : Sto} {Q : VK}
theorem RDs.pick {xs : List V} {ds : List D} (h : RDs X.K H ρ xs ds) : ∀ π : List Nat, RDs X.K H ρ (PB.pick π xs) (PB.pick π ds)
  | [] => .nil
  | i :: π => by
    have ih := RDs.pick h π
    unfold PB.pick
    cases e : ds[i]? with
    | none =>
      have e2 : xs[i]? = none := by
        have := h.length
        rw [List.getElem?_eq_none_iff] at e ⊢
        omega
      rw [List.filterMap_cons_none e, List.filterMap_cons_none e2]
      exact ih
    | some d =>
      obtain ⟨x, e2, r⟩ := h.get e
      rw [List.filterMap_cons_some e, List.filterMap_cons_some e2]
      exact .cons r ih
theorem vals_pick {xs : List V} {us : List Value} (h : Vals xs us) : ∀ π : List Nat, Vals (PB.pick π xs) (PB.pick π us)
  | [] => .nil
  | i :: π => by
    have ih := vals_pick h π
    unfold PB.pick
    cases e : xs[i]? with
    | none =>
      have e2 := h.none_of e
      rw [List.filterMap_cons_none e, List.filterMap_cons_none e2]
      exact ih
    | some d =>
      obtain ⟨x, e2, r⟩ := h.get e
      rw [List.filterMap_cons_some e, List.filterMap_cons_some e2]
      exact .cons r ih
theorem pick_len {α : Type} {xs : List α} : ∀ {π : List Nat}, (∀ i ∈ π, i < xs.length) → (PB.pick π xs).length = π.length
  | [], _ => rfl
  | i :: π, h => by
    have hi := h i (by simp)
    unfold PB.pick
    rw [List.filterMap_cons_some (List.getElem?_eq_getElem hi)]
    show (PB.pick π xs).length + 1 = _
    rw [pick_len fun j hj => h j (by simp [hj])]
    rfl
/-- a function runs, its values in hand -/
theorem call_G {k : Nat} {f : Addr} {fd : FuncData} {ps : List Str} {fn : List D → M D} {args : List Value} {kws : List (Str × Value)} {us : List Value} {vs : List V} {ds : List D} (F : FnG X.prog X.w X.K X.mg X.base k f fd ps fn) (hr : Room k X.A)
    (hg : X.A.guards = some []) (I : Inv X pins σ H s) (hb : BindsTo s fd ⟨args, kws⟩ (ps.zip us)) (r : Vals vs us) (rd : RDs X.K H ρ vs ds) (S : RS X.K H ρ st) (hl : ds.length = ps.length)
    (h : (fn ds st).holds (Post X.K ρ H Q) (Er X ρ H)) : wpAny (model X.prog X.w) X.A (call (.ref f) args kws) (EP X pins σ Q) X.xe s := by
  refine wpAny_call (codeAny_mono (F.run X.A X.stack s H ⟨args, kws⟩ us vs ds ρ st Q (Xw X) hr hg I.env0 hb r rd S hl h) fun z s2 hz => ?_)
  cases z with
  | error e => exact takes_Xw X e s2 (XE.of_call (W := fun cls d _ H => Xw X cls d H) I (fun _ _ _ h => h) hz)
  | ok fl =>
    cases fl with
    | ret u => exact I.after hz
    | _ => exact hz.elim
end
/-- plain arguments -/
def Plain (X : Cx) (es : List Expr) : Prop := ∀ e ∈ es, ∀ r, starEach (e :: r) X.env = (false, eval e X.env) :: starEach r X.env
theorem Plain.tail {X : Cx} {e : Expr} {es : List Expr} (h : Plain X (e :: es)) : Plain X es := fun a ha => h a (List.mem_cons_of_mem _ ha)
theorem Plain.none {X : Cx} {pos : Pos} : ∀ {es : List Expr}, Plain X es → (backTo pos (starEach es X.env)).any (·.1) = false
  | [], _ => rfl
  | e :: es, h => by
    rw [h e (by simp) es]
    show (false || (backTo pos (starEach es X.env)).any (·.1)) = false
    rw [Plain.none h.tail]
    rfl
section
variable {X : Cx} {p pos : Pos} {es : List Expr} {m : Env → M (List D)} {f : String} {k : Nat} {c : Cfg} {G : List (String × P)}
def callM (c : Cfg) (f : String) (m : Env → M (List D)) : Env → M D := fun env => do
  let g ← need (c.T f)
  let ds ← m env
  g ds
theorem pe_callG (gb : Glb X.prog X.w X.K X.mg X.base k c G) (hr : Room k X.A) (hg : X.A.guards = some []) (hgl : Gl X (Str.ofString f)) (ha : PA X es (tL X m)) (hpl : Plain X es) (hdb : (Str.ofString f == ("__debug__" : Str)) = false)
    (hlen : ∀ env st ds st', m env st = .ok ds st' → ds.length = es.length) (h0 : es = [] → ∀ env st, m env st = .ok [] st) (har : es.length = c.ar f) :
    PE X (.Call (.Name (Str.ofString f) p) es [] pos) (tM X (callM c f m)) := by
  refine ⟨fun pins s σ H Q I q => ?_⟩
  obtain ⟨ρ, env, st, hE, hS, q⟩ := q
  obtain ⟨fn, ef, q⟩ := needed (show ((need (c.T f) st).bind fun g st => ((m env st).bind fun ds st => g ds st)).holds (Post X.K ρ H Q) (Er X ρ H) from q)
  obtain ⟨a, fd, ps, hm, kp, hps, bd, F, _⟩ := gb.fn f fn ef
  refine wpAny_Call_Name_kw (ld_glob I hgl hm ?_ hdb)
  cases e0 : m env st with
  | bad => rw [e0] at q; exact q.elim
  | err _ _ _ =>
    rw [e0] at q
    cases es with
    | nil => rw [h0 rfl] at e0; cases e0
    | cons e es =>
      exact PySem.W.callWith_K (h₀ := X.base) I.ok.mod.kin kp (thn (ha.run pos pins s σ H (fun _ _ => False) I (tL_err hE hS e0 q)) fun us s1 ⟨_, _, _, _, z⟩ => z.elim) (hpl e (by simp) es) hpl.tail.none
  | ok ds st1 =>
    rw [e0] at q
    have q : (fn ds st1).holds (Post X.K ρ H Q) (Er X ρ H) := q
    have hl := hlen _ _ _ _ e0
    have body : ∀ {us : List Value} {vs : List V} {s1 : Shared} {H1 : Hp} {ρ1 : Pl}, Inv X pins σ H1 s1 → Vals vs us → Ext ρ H ρ1 H1 → RS X.K H1 ρ1 st1 → RDs X.K H1 ρ1 vs ds → wpAny (model X.prog X.w) X.A (call (.ref a) us) (EP X pins σ Q) X.xe s1 := by
      intro us vs s1 H1 ρ1 I1 r e S rd
      have l1 : us.length = ps.length := by rw [← r.length, rd.length, hl, har, hps]
      have b := bd s1 us I1.kIn (by simpa using l1)
      rw [List.append_nil] at b
      exact call_G F hr hg I1 b r rd S (by rw [hl, har, hps]) (holds_mono q (fun v st2 h => h.ext e) fun _ _ _ z => z.ext e)
    cases es with
    | nil =>
      refine PySem.W.callWith_K0 I.kIn kp ?_
      have z := h0 rfl env st
      rw [e0] at z
      cases z
      exact body (us := []) (vs := []) I .nil .refl hS .nil
    | cons e es =>
      refine PySem.W.callWith_K (h₀ := X.base) I.ok.mod.kin kp (thn (ha.run pos pins s σ H (fun vs H1 => ∃ ρ1, Ext ρ H ρ1 H1 ∧ RS X.K H1 ρ1 st1 ∧ RDs X.K H1 ρ1 vs ds) I (args_ahead hE hS e0 fun ρ1 H1 vs e S r => ⟨ρ1, e, S, r⟩)) fun us s1 hq => ?_) (hpl e (by simp) es) hpl.tail.none
      obtain ⟨vs, H1, I1, r, ρ1, e1, S, rd⟩ := hq
      exact ⟨I1.kIn, body I1 r e1 S rd⟩
/-- f(.., k = v, ..) -/
def callKM (c : Cfg) (f : String) (π : List Nat) (m mk : Env → M (List D)) : Env → M D := fun env => do
  let g ← need (c.T f)
  let ds ← m env
  let es ← mk env
  g (ds ++ pick π es)
theorem pe_callKG {kws : List Keyword} {ks : List String} {π : List Nat} {mk : Env → M (List D)} (gb : Glb X.prog X.w X.K X.mg X.base k c G) (hr : Room k X.A) (hg : X.A.guards = some []) (hgl : Gl X (Str.ofString f)) (ha : PA X es (tL X m)) (hk : PK X kws (tL X mk))
    (hpl : Plain X es) (hdb : (Str.ofString f == ("__debug__" : Str)) = false) (hlen : ∀ env st ds st', m env st = .ok ds st' → ds.length = es.length) (h0 : es = [] → ∀ env st, m env st = .ok [] st) (hlk : ∀ env st ds st', mk env st = .ok ds st' → ds.length = ks.length)
    (hin : (f, es.length, ks, π) ∈ c.kw) (hall : ∀ pos, (backToKw pos (keywordEach kws X.env)).all (·.1.isSome) = true) (hks : ∀ pos, (backToKw pos (keywordEach kws X.env)).filterMap (·.1) = ks.map Str.ofString)
    (hno : ∀ pos, (backToKw pos (keywordEach kws X.env)).any (·.1.isNone) = false) : PE X (.Call (.Name (Str.ofString f) p) es kws pos) (tM X (callKM c f π m mk)) := by
  refine ⟨fun pins s σ H Q I q => ?_⟩
  obtain ⟨ρ, env, st, hE, hS, q⟩ := q
  obtain ⟨fn, ef, q⟩ := needed (show ((need (c.T f) st).bind fun g st => ((m env st).bind fun ds st => ((mk env st).bind fun es st => g (ds ++ pick π es) st))).holds (Post X.K ρ H Q) (Er X ρ H) from q)
  obtain ⟨a, fd, ps, hm, kp, hps, bd, F, hkw⟩ := gb.fn f fn ef
  obtain ⟨n1, n2, n3⟩ := hkw _ _ _ hin
  refine wpAny_Call_Name_kw (ld_glob I hgl hm ?_ hdb)
  -- the values of the keywords, then the call
  have kwE : ∀ {ρ1 : Pl} {H1 : Hp} {s1 : Shared} {us : List Value} {st1 st2 : Sto} {cE : Str} {vE : Option P}, Inv X pins σ H1 s1 → Ext ρ H ρ1 H1 → RS X.K H1 ρ1 st1 → mk env st1 = .err cE vE st2 → Er X ρ H cE vE st2 →
      wpAny (model X.prog X.w) X.A (evalAll ((backToKw pos (keywordEach kws X.env)).map (·.2))) (fun ws s2 => X.K.In s2.heap ∧ wpAny (model X.prog X.w) X.A (call (.ref a) us (((backToKw pos (keywordEach kws X.env)).filterMap (·.1)).zip ws)) (EP X pins σ Q) X.xe s2) X.xe s1 := by
    intro ρ1 H1 s1 us st1 st2 cE vE I1 e S e1 q
    exact thn (hk.run pos pins s1 σ H1 (fun _ _ => False) I1 (tL_err (hE.ext e) S e1 (q.ext e))) fun us s1 ⟨_, _, _, _, z⟩ => z.elim
  cases e0 : m env st with
  | bad => rw [e0] at q; exact q.elim
  | err _ _ _ =>
    rw [e0] at q
    cases es with
    | nil => rw [h0 rfl] at e0; cases e0
    | cons e es =>
      exact PySem.W.callWith_KW (h₀ := X.base) I.ok.mod.kin kp (hall pos) (thn (ha.run pos pins s σ H (fun _ _ => False) I (tL_err hE hS e0 q)) fun us s1 ⟨_, _, _, _, z⟩ => z.elim) (by
        rw [hpl.none, hno]; rfl) (hpl e (by simp) es)
  | ok ds st1 =>
    rw [e0] at q
    have q : ((mk env st1).bind fun es st => fn (ds ++ pick π es) st).holds (Post X.K ρ H Q) (Er X ρ H) := q
    have hl := hlen _ _ _ _ e0
    have kwd : ∀ {ρ1 : Pl} {H1 : Hp} {s1 : Shared} {us : List Value} {vs : List V}, Inv X pins σ H1 s1 → Vals vs us → Ext ρ H ρ1 H1 → RS X.K H1 ρ1 st1 → RDs X.K H1 ρ1 vs ds →
        wpAny (model X.prog X.w) X.A (evalAll ((backToKw pos (keywordEach kws X.env)).map (·.2))) (fun ws s2 => X.K.In s2.heap ∧ wpAny (model X.prog X.w) X.A (call (.ref a) us (((backToKw pos (keywordEach kws X.env)).filterMap (·.1)).zip ws)) (EP X pins σ Q) X.xe s2) X.xe s1 := by
      intro ρ1 H1 s1 us vs I1 r e S rd
      cases e1 : mk env st1 with
      | bad => rw [e1] at q; exact q.elim
      | err _ _ _ => rw [e1] at q; exact kwE I1 e S e1 q
      | ok zs st2 =>
        rw [e1] at q
        have q : (fn (ds ++ pick π zs) st2).holds (Post X.K ρ H Q) (Er X ρ H) := q
        have hl2 := hlk _ _ _ _ e1
        refine thn (hk.run pos pins s1 σ H1 (fun xs H2 => ∃ ρ2, Ext ρ1 H1 ρ2 H2 ∧ RS X.K H2 ρ2 st2 ∧ RDs X.K H2 ρ2 xs zs) I1 (args_ahead (hE.ext e) S e1 fun ρ2 H2 xs e S r => ⟨ρ2, e, S, r⟩)) fun ws s2 hq => ?_
        obtain ⟨xs, H2, I2, rw2, ρ2, e2, S2, rd2⟩ := hq
        refine ⟨I2.kIn, ?_⟩
        rw [hks]
        have l1 : us.length = es.length := by rw [← r.length, rd.length, hl]
        have l2 : ws.length = ks.length := by rw [← rw2.length, rd2.length, hl2]
        have b := n3 s2 us ws I2.kIn l1 l2
        have pl : (pick π zs).length = π.length := pick_len fun i hi => by rw [hl2]; exact n2 i hi
        exact call_G F hr hg I2 b (r.append (vals_pick rw2 π)) ((rd.ext e2).append (rd2.pick π)) S2 (by rw [List.length_append, pl, hl, n1]) (holds_mono q (fun v st2 h => h.ext (e.trans e2)) fun _ _ _ z => z.ext (e.trans e2))
    cases es with
    | nil =>
      have z := h0 rfl env st
      rw [e0] at z
      cases z
      exact PySem.W.callWith_KW0 (h₀ := X.base) I.ok.mod.kin kp (hall pos) (kwd (us := []) (vs := []) I .nil .refl hS .nil) (by
        show (false || _) = false
        rw [hno]; rfl)
    | cons e es =>
      refine PySem.W.callWith_KW (h₀ := X.base) I.ok.mod.kin kp (hall pos) (thn (ha.run pos pins s σ H (fun vs H1 => ∃ ρ1, Ext ρ H ρ1 H1 ∧ RS X.K H1 ρ1 st1 ∧ RDs X.K H1 ρ1 vs ds) I (args_ahead hE hS e0 fun ρ1 H1 vs e S r => ⟨ρ1, e, S, r⟩)) fun us s1 hq => ?_) (by
        rw [hpl.none, hno]; rfl) (hpl e (by simp) es)
      obtain ⟨vs, H1, I1, r, ρ1, e1', S, rd⟩ := hq
      exact kwd I1 r e1' S rd
end
end PB
set_option maxRecDepth 100000
set_option maxHeartbeats 2000000
/-! Pb, part 11: what of the text answers to what of the language; the rules, construct by construct. -/
namespace PB
open PySem PySem.Spec PyProof.Rows L2
/-! ### looking at the text -/
def visB (sc : Scope) (y : Str) : Bool := match sc.names.lookup y with
  | some .local => true
  | some .cell => true
  | some .free => true
  | _ => false
def locB (sc : Scope) (y : Str) : Bool := match sc.names.lookup y with
  | some .local => true
  | some .cell => true
  | _ => false
def glB (sc : Scope) (y : Str) : Bool := match sc.names.lookup y with
  | some .globalImplicit => true
  | _ => false
def nameOk (y : Str) : Bool := !(y == ("__debug__" : Str)) && !(y == ("__classdict__" : Str))
def constIs : P → Const → Bool
  | .none, .none => true
  | .bool a, .bool b => a == b
  | .int a, .int b => decide (a = b)
  | .str a, .str b => decide (a = b)
  | _, _ => false
def notStar : Expr → Bool
  | .Starred _ _ => false
  | _ => true
def notSet : Expr → Bool
  | .Set _ _ _ => false
  | _ => true
def notSlice : Expr → Bool
  | .Slice _ _ _ _ => false
  | _ => true
def isTup : Expr → Bool
  | .Tuple _ _ _ => true
  | _ => false
def noSuper : Expr → Bool
  | .Call (.Name _ _) [] [] _ => false
  | _ => true
mutual
def chkTg (N : List Str) (sc : Scope) (fn : Str → Bool) : Tg → Expr → Bool
  | .one i, .Name y _ => decide (N[i]? = some y) && locB sc y && (fn y || (sc.names.lookup y == some .local))
  | .tup l, .Tuple es _ _ => chkTgs N sc fn l es
  | _, _ => false
def chkTgs (N : List Str) (sc : Scope) (fn : Str → Bool) : List Tg → List Expr → Bool
  | [], [] => true
  | t :: ts, e :: es => chkTg N sc fn t e && chkTgs N sc fn ts es
  | _, _ => false
end
def ownOf (N : List Str) (tg : Tg) : List (Str × Nat) := tg.slots.map fun i => (N.getD i (Str.ofString ""), i)
def blkFn (scope : Scope) : Str → Bool := fun x => scope.names.lookup x == some .cell
/-- forms that give a new thing, or data that is no object -/
def Ex.fr : Ex → Bool
  | .lst _ => true
  | .comp _ _ _ _ _ => true
  | .bif _ _ => true
  | .bin _ _ _ => true
  | .slc _ _ _ => true
  | .rev _ => true
  | .listOf _ _ => true
  | .listZ _ => true
  | .rev2 _ => true
  | .sset _ => true
  | _ => false
def constP : P → P → Bool
  | .none, .none => true
  | .bool a, .bool b => a == b
  | .int a, .int b => decide (a = b)
  | .str a, .str b => decide (a = b)
  | _, _ => false
def keyC : Key → Expr → Bool
  | .inl i, .Constant (.int j) _ _ => decide (i = j)
  | .inr x, .Constant (.str y) _ _ => decide (x = y)
  | _, _ => false
def keysAre : List Key → List (Option Expr) → Bool
  | [], [] => true
  | k :: ks, some e :: es => keyC k e && keysAre ks es
  | _, _ => false
def kwsAre : List String → List Keyword → Bool
  | [], [] => true
  | k :: ks, ⟨some n, _, _⟩ :: r => decide (n = Str.ofString k) && kwsAre ks r
  | _, _ => false
-- forms whose test is their value's, or a test by itself
mutual
def Ex.tst : Ex → Bool
  | .not a => a.tst
  | .and l => Ex.tsts l
  | .or l => Ex.tsts l
  | .ife _ _ _ => false
  | .new _ => false
  | .lstH _ => false
  | .tupH _ => false
  | .compH _ _ _ _ _ => false
  | .dctH _ _ => false
  | .dct _ _ => false
  | .tup _ => false
  | .lst _ => false
  | .cst _ => false
  | .comp _ _ _ _ _ => false
  | .dcomp _ _ _ _ _ => false
  | .sset _ => false
  | .lock _ _ => false
  | .rev2 _ => false
  | _ => true
def Ex.tsts : List Ex → Bool
  | [] => true
  | e :: r => e.tst && Ex.tsts r
end
/-- the arguments of what is walked -/
def srcEs : SK → Expr → List Expr
  | .it, e => [e]
  | .keys, e => [e]
  | .rev, .Call _ [.Call _ es _ _] _ _ => es
  | .enumz, .Call _ [.Call _ es _ _] _ _ => es
  | _, .Call _ es _ _ => es
  | _, _ => []
def rngForm (sc : Scope) : Expr → Bool
  | .Call (.Name y _) es [] _ => decide (y = Str.ofString "range") && glB sc y && es.all notStar
  | _ => false
def enumForm (sc : Scope) : Expr → Bool
  | .Call (.Name y _) [e] [] _ => decide (y = Str.ofString "enumerate") && glB sc y && notStar e
  | _ => false
def zipForm (sc : Scope) : Expr → Bool
  | .Call (.Name y _) [e, e'] [] _ => decide (y = Str.ofString "zip") && glB sc y && notStar e && notStar e'
  | _ => false
def zip3Form (sc : Scope) : Expr → Bool
  | .Call (.Name y _) [e, e', e''] [] _ => decide (y = Str.ofString "zip") && glB sc y && notStar e && notStar e' && notStar e''
  | _ => false
def revForm (sc : Scope) : Expr → Bool
  | .Call (.Name y _) [.Call (.Name z _) [e] [] _] [] _ => decide (y = Str.ofString "reversed") && decide (z = Str.ofString "range") && glB sc y && glB sc z && notStar e
  | _ => false
def enumzForm (sc : Scope) : Expr → Bool
  | .Call (.Name y _) [.Call (.Name z _) [e, e'] [] _] [] _ => decide (y = Str.ofString "enumerate") && decide (z = Str.ofString "zip") && glB sc y && glB sc z && notStar e && notStar e'
  | _ => false
def srcForm (sc : Scope) (k : SK) (etg eit : Expr) : Bool := match k with
  | .it => notStar eit
  | .rng => rngForm sc eit
  | .enum => isTup etg && enumForm sc eit
  | .zip => isTup etg && zipForm sc eit
  | .rev => revForm sc eit
  | .enumz => isTup etg && enumzForm sc eit
  | .zip3 => isTup etg && zip3Form sc eit
  | .keys => notStar eit
/-- the methods and how many arguments they take -/
def mthOk (m : String) (n : Nat) : Bool := (m == "append" && n == 1) || (m == "pop" && n == 0) || (m == "pop" && n == 1) || (m == "extend" && n == 1) || (m == "insert" && n == 2)
def cellB (sc : Scope) (y : Str) : Bool := match sc.names.lookup y with
  | some .cell => true
  | some .free => true
  | _ => false
/-- a generator expression's scope: its name x is its own, xa and xb are the function's -/
def genOk (N : List Str) (sc gs : Scope) (a b : Nat) (x xa xb : Str) : Bool :=
  decide (N[a]? = some xa) && decide (N[b]? = some xb) && cellB sc xa && cellB sc xb && nameOk xa && nameOk xb && nameOk x && decide (gs.kind = .function) && !gs.isCoroutine &&
  (gs.names.all fun y => decide (y.2 ≠ .cell) && (decide (y.2 ≠ .free) || cellB sc y.1)) && decide (gs.names.lookup (".0" : Str) = some .local) && decide (gs.names.lookup x = some .local) &&
  decide (gs.names.lookup xa = some .free) && decide (gs.names.lookup xb = some .free)
/-- a list comprehension -/
def lcForm : Expr → Bool
  | .ListComp _ _ _ _ => true
  | _ => false
mutual
def chkE (c : Cfg) (G : List (String × P)) (N : List Str) : Ex → Scope → (Str → Bool) → Expr → Bool
  | .var i, sc, _, .Name y _ => decide (N[i]? = some y) && visB sc y && nameOk y
  | .glob x d, sc, _, .Name y _ => decide (y = Str.ofString x) && glB sc y && nameOk y && G.any fun p => p.1 == x && constP p.2 d
  | .cst d, _, _, .Constant k _ _ => constIs d k
  | .bin op a b, sc, fn, .BinOp ea op' eb _ => decide (op = op') && chkE c G N a sc fn ea && chkE c G N b sc fn eb
  | .neg a, sc, fn, .UnaryOp .USub ea _ => chkE c G N a sc fn ea
  | .not a, sc, fn, .UnaryOp .Not ea _ => chkE c G N a sc fn ea
  | .and l, sc, fn, .BoolOp .And es _ => !l.isEmpty && chkL c G N l sc fn es
  | .or l, sc, fn, .BoolOp .Or es _ => !l.isEmpty && chkL c G N l sc fn es
  | .ife t a b, sc, fn, .IfExp et ea eb _ => t.tst && chkE c G N t sc fn et && chkE c G N a sc fn ea && chkE c G N b sc fn eb
  | .cmp op a b, sc, fn, .Compare ea [op'] [eb] _ => decide (op = op') && notSet eb && chkE c G N a sc fn ea && chkE c G N b sc fn eb
  | .cmp2 o1 o2 a b d, sc, fn, .Compare ea [o1', o2'] [eb, ed] _ => decide (o1 = o1') && decide (o2 = o2') && notSet ed && notSet eb && chkE c G N a sc fn ea && chkE c G N b sc fn eb && chkE c G N d sc fn ed
  | .cmp3 o1 o2 o3 a b d e, sc, fn, .Compare ea [o1', o2', o3'] [eb, ed, ef] _ => decide (o1 = o1') && decide (o2 = o2') && decide (o3 = o3') && notSet ef && chkE c G N a sc fn ea && chkE c G N b sc fn eb && chkE c G N d sc fn ed && chkE c G N e sc fn ef
  | .tup l, sc, fn, .Tuple es _ _ => es.all notStar && chkL c G N l sc fn es
  | .lst l, sc, fn, .List es _ => es.all notStar && chkL c G N l sc fn es
  | .new e, sc, fn, ee => e.fr && chkE c G N e sc fn ee
  | .lstH l, sc, fn, .List es _ => es.all notStar && chkL c G N l sc fn es
  | .tupH l, sc, fn, .Tuple es _ _ => es.all notStar && chkL c G N l sc fn es
  | .dct ks vs, sc, fn, .Dict keys es _ => keysAre ks keys && chkL c G N vs sc fn es && decide (ks.length = es.length) && decide (ks.length ≤ 15)
  | .dctH ks vs, sc, fn, .Dict keys es _ => keysAre ks keys && chkL c G N vs sc fn es && decide (ks.length = es.length) && decide (ks.length ≤ 15)
  | .idx a i, sc, fn, .Subscript ea ei _ => notSlice ei && chkE c G N a sc fn ea && chkE c G N i sc fn ei
  | .slc a lo hi, sc, fn, .Subscript ea (.Slice elo ehi none _) _ => chkE c G N a sc fn ea && chkO c G N lo sc fn elo && chkO c G N hi sc fn ehi
  | .rev a, sc, fn, .Subscript ea (.Slice none none (some (.UnaryOp .USub (.Constant (.int 1) _ _) _)) _) _ => chkE c G N a sc fn ea
  | .call f args, sc, fn, .Call (.Name y _) es [] _ => decide (y = Str.ofString f) && glB sc y && nameOk y && es.all notStar && chkL c G N args sc fn es && decide (es.length = c.ar f)
  | .callK f args ks kargs π, sc, fn, .Call (.Name y _) es kws _ => decide (y = Str.ofString f) && glB sc y && nameOk y && es.all notStar && chkL c G N args sc fn es && kwsAre ks kws && chkL c G N kargs sc fn (kws.map fun k => k.value) && c.kw.any fun q => decide (q = (f, es.length, ks, π))
  | .bif f args, sc, fn, .Call (.Name y _) es [] _ => decide (y = Str.ofString f) && bifNames.contains f && glB sc y && nameOk y && es.all notStar && !es.isEmpty && chkL c G N args sc fn es
  | .lenH a, sc, fn, .Call (.Name y _) [ea] [] _ => decide (y = Str.ofString "len") && glB sc y && notStar ea && chkE c G N a sc fn ea
  | .isi a t, sc, fn, .Call (.Name y _) [ea, .Name z _] [] _ => decide (y = Str.ofString "isinstance") && glB sc y && decide (z = Str.ofString t) && tyNames.contains t && glB sc z && notStar ea && chkE c G N a sc fn ea
  | .mth m a args, sc, fn, .Call (.Attribute ea y apos) es [] cpos => decide (y = Str.ofString m) && noSuper ea && es.all notStar && (apos.endLine == cpos.line) && decide (es.length < 20) && mthOk m es.length && chkE c G N a sc fn ea && chkL c G N args sc fn es
  | .comp tg k src cond elt, sc, fn, .ListComp eelt [⟨etg, eit, ifs, 0⟩] scope _ =>
    srcForm sc k etg eit && chkL c G N src sc fn (srcEs k eit) && notSet eit && blkC N sc scope (ownOf N tg) && chkTg N (relS scope sc) (blkFn scope) tg etg && decide (ifs.length ≤ 1) && Ex.tsts cond && chkL c G N cond (relS scope sc) (blkFn scope) ifs && chkE c G N elt (relS scope sc) (blkFn scope) eelt
  | .compH tg k src cond elt, sc, fn, .ListComp eelt [⟨etg, eit, ifs, 0⟩] scope _ =>
    srcForm sc k etg eit && chkL c G N src sc fn (srcEs k eit) && notSet eit && blkC N sc scope (ownOf N tg) && chkTg N (relS scope sc) (blkFn scope) tg etg && decide (ifs.length ≤ 1) && Ex.tsts cond && chkL c G N cond (relS scope sc) (blkFn scope) ifs && chkE c G N elt (relS scope sc) (blkFn scope) eelt
  | .dcomp tg k src key val, sc, fn, .DictComp kx vx [⟨etg, eit, [], 0⟩] scope _ =>
    srcForm sc k etg eit && chkL c G N src sc fn (srcEs k eit) && notSet eit && blkC N sc scope (ownOf N tg) && chkTg N (relS scope sc) (blkFn scope) tg etg && chkE c G N key (relS scope sc) (blkFn scope) kx && chkE c G N val (relS scope sc) (blkFn scope) vx
  | .allEq a b _ src, sc, fn, .Call (.Name y _) [.GeneratorExp (.Compare (.Subscript (.Name xa _) (.Name p1 _) _) [.Eq] [.Subscript (.Name xb _) (.Name p2 _) _] _) [⟨.Name x _, .Name yi pi, [], 0⟩] gs _] [] _ =>
    c.gx && decide (y = Str.ofString "all") && glB sc y && decide (p1 = x) && decide (p2 = x) && genOk N sc gs a b x xa xb && chkE c G N src sc fn (.Name yi pi)
  | .listOf k src, sc, fn, .Call (.Name y _) [ea] [] _ => decide (k = .rng) && decide (y = Str.ofString "list") && glB sc y && rngForm sc ea && decide (src.length ≤ 3) && !src.isEmpty && chkL c G N src sc fn (srcEs .rng ea)
  | .listZ src, sc, fn, .Call (.Name y _) [ea] [] _ => decide (y = Str.ofString "list") && glB sc y && zipForm sc ea && chkL c G N src sc fn (srcEs .zip ea)
  | .dictP e, sc, fn, .Call (.Name y _) [ea] [] _ => decide (y = Str.ofString "dict") && glB sc y && notStar ea && chkE c G N e sc fn ea
  | .dictZ src, sc, fn, .Call (.Name y _) [ea] [] _ => decide (y = Str.ofString "dict") && glB sc y && zipForm sc ea && chkL c G N src sc fn (srcEs .zip ea)
  | .getD d k x, sc, fn, .Call (.Attribute ea y apos) [ek, ex] [] cpos => decide (y = Str.ofString "get") && noSuper ea && [ek, ex].all notStar && (apos.endLine == cpos.line) && chkE c G N d sc fn ea && chkE c G N k sc fn ek && chkE c G N x sc fn ex
  | .sset a, sc, fn, .Call (.Name y _) [.Call (.Name z _) [ea] [] _] [] _ => decide (y = Str.ofString "sorted") && glB sc y && decide (z = Str.ofString "set") && glB sc z && notStar ea && chkE c G N a sc fn ea
  | .lock i e, sc, fn, ee => !lcForm ee && chkE c G N e sc fn ee
  | .rev2 a, sc, fn, .Subscript ea (.Slice (some (.UnaryOp .USub (.Constant (.int 2) _ _) _)) none (some (.UnaryOp .USub (.Constant (.int 1) _ _) _)) _) _ => chkE c G N a sc fn ea
  | .tupOf k src, sc, fn, .Call (.Name y _) [ea] [] _ => decide (k = .rng) && decide (y = Str.ofString "tuple") && glB sc y && rngForm sc ea && decide (src.length ≤ 2) && !src.isEmpty && chkL c G N src sc fn (srcEs .rng ea)
  | _, _, _, _ => false
def chkL (c : Cfg) (G : List (String × P)) (N : List Str) : List Ex → Scope → (Str → Bool) → List Expr → Bool
  | [], _, _, [] => true
  | x :: xs, sc, fn, e :: es => chkE c G N x sc fn e && chkL c G N xs sc fn es
  | _, _, _, _ => false
def chkO (c : Cfg) (G : List (String × P)) (N : List Str) : Option Ex → Scope → (Str → Bool) → Option Expr → Bool
  | none, _, _, none => true
  | some x, sc, fn, some e => chkE c G N x sc fn e
  | _, _, _, _ => false
end
end PB
set_option maxRecDepth 100000
set_option maxHeartbeats 2000000
/-! Pb, part 12: the rules of expressions. -/
namespace PB
open PySem PySem.Spec PyProof.Rows L2
/-- where a piece of text stands -/
structure Ctx (X : Cx) (c : Cfg) (G : List (String × P)) (N : List Str) (sc : Scope) (fn : Str → Bool) (k : Nat) : Prop where
  hN : X.N = N
  nd : N.Nodup
  hsc : X.env.scope = sc
  calm : X.calm = true
  gd : X.A.guards = some []
  room : Room k X.A
  gb : Glb X.prog X.w X.K X.mg X.base k c G
  hfn : ∀ y, fn y = true → X.fn y = true
  kind : sc.kind = .function
  gx : c.gx = true → ∃ cc P, X.env.code = .ref cc ∧ GxR.TabB X.base X.mg cc P ∧ P ∈ tabsK X.K
theorem _root_.L2.PE.imp {X : Cx} {e : Expr} {t t' : TE} (h : PE X e t) (q : ∀ σ H Q, t' σ H Q → t σ H Q) : PE X e t' := ⟨fun pins s σ H Q I z => h.run pins s σ H Q I (q σ H Q z)⟩
theorem _root_.L2.PT.imp {X : Cx} {e : Expr} {t t' : TT} (h : PT X e t) (q : ∀ σ H Q, t' σ H Q → t σ H Q) : PT X e t' := ⟨fun pins s σ H Q I z => h.run pins s σ H Q I (q σ H Q z)⟩
theorem _root_.L2.PA.imp {X : Cx} {e : List Expr} {t t' : TA} (h : PA X e t) (q : ∀ σ H Q, t' σ H Q → t σ H Q) : PA X e t' := ⟨fun pos pins s σ H Q I z => h.run pos pins s σ H Q I (q σ H Q z)⟩
section
variable {X : Cx} {c : Cfg} {G : List (String × P)} {N : List Str} {sc : Scope} {fn : Str → Bool} {k : Nat}
theorem Ctx.units (C : Ctx X c G N sc fn k) : X.A.units + 200 < cLine := by have := C.room.un; omega
theorem vis_of (C : Ctx X c G N sc fn k) {y : Str} (h : visB sc y = true) : Vis X.env.scope y := by
  rw [C.hsc]
  unfold visB at h
  split at h
  · exact .inl (by assumption)
  · exact .inr (.inl (by assumption))
  · exact .inr (.inr (by assumption))
  · cases h
theorem loc_of (C : Ctx X c G N sc fn k) {y : Str} (h : locB sc y = true) : Loc X.env.scope y := by
  rw [C.hsc]
  unfold locB at h
  split at h
  · exact .inl (by assumption)
  · exact .inr (by assumption)
  · cases h
theorem gl_of (C : Ctx X c G N sc fn k) {y : Str} (h : glB sc y = true) : Gl X y := by
  show X.env.scope.names.lookup y = some .globalImplicit
  rw [C.hsc]
  unfold glB at h
  split at h
  · assumption
  · cases h
theorem nameOk_of {y : Str} (h : nameOk y = true) : (y == ("__debug__" : Str)) = false ∧ (y == ("__classdict__" : Str)) = false := by
  simpa [nameOk] using h
/-! ### raw answers: data, a new list at a new place -/
def PostR (K : PySem.W.Frag) (ρ : Pl) (H : Hp) (Q : VK) (v : D) (st : Sto) : Prop := ∃ r, v = .p r ∧ ∀ ρ1 H1, Ext ρ H ρ1 H1 → RS K H1 ρ1 st → FP K H1 ρ1 r Q
def tR (X : Cx) (m : Env → M D) : TE := fun σ H Q => ∃ ρ env st, RE X.K H ρ env σ ∧ RS X.K H ρ st ∧ (m env st).holds (PostR X.K ρ H Q) (Er X ρ H)
/-- m gives data alone -/
def OnlyP (m : Env → M D) : Prop := ∀ env st v st', m env st = .ok v st' → ∃ r, v = .p r
theorem tM_tR {m : Env → M D} (o : OnlyP m) {σ : List (Option V)} {H : Hp} {Q : VK} (h : tM X m σ H Q) : tR X m σ H Q := by
  obtain ⟨ρ, env, st, hE, hS, h⟩ := h
  refine ⟨ρ, env, st, hE, hS, ?_⟩
  cases e0 : m env st with
  | bad => rw [e0] at h; exact h.elim
  | err _ _ _ => rw [e0] at h; exact h
  | ok v st1 =>
    obtain ⟨r, rfl⟩ := o _ _ _ _ e0
    rw [e0] at h
    exact ⟨r, rfl, fun ρ1 H1 e S => FP.of_post S (Post.ext h e)⟩
theorem PE.of_raw {m : Env → M D} {e : Expr} (o : OnlyP m) (h : PE X e (tR X m)) : PE X e (tM X m) := h.imp fun _ _ _ q => tM_tR o q
/-- a new place of the store -/
theorem newM_holds {v : D} {st : Sto} {Qf : D → Sto → Prop} {E : EE} (h : (newM v st).holds Qf E) : ∃ ds, v = .p (.list ds) ∧ Qf (.ref st.length) (st ++ [.lst (ds.map .p)]) := by
  cases v with
  | ref l => exact h.elim
  | p d => cases d <;> first | exact ⟨_, rfl, h⟩ | exact h.elim
theorem PE.new {m : Env → M D} {e : Expr} (h : PE X e (tR X m)) : PE X e (tM X fun env => do
    let x ← m env
    newM x) := by
  refine h.imp fun σ H Q q => ?_
  obtain ⟨ρ, env, st, hE, hS, q⟩ := q
  refine ⟨ρ, env, st, hE, hS, ?_⟩
  have q : ((m env st).bind fun x st => newM x st).holds (Post X.K ρ H Q) (Er X ρ H) := q
  cases e0 : m env st with
  | bad => rw [e0] at q; exact q.elim
  | err _ _ _ => rw [e0] at q; exact q
  | ok v st1 =>
    rw [e0] at q
    obtain ⟨ds, rfl, q⟩ := newM_holds (show (newM v st1).holds (Post X.K ρ H Q) (Er X ρ H) from q)
    refine ⟨.list ds, rfl, fun ρ1 H1 e S H2 sm xs p r n => ?_⟩
    have S2 := S.same sm
    have e2 : Ext ρ H (ρ1.add p) (upd H2 p (.lst xs)) := (e.trans (Ext.same sm)).trans (ext_add n)
    refine q _ _ (.ref p) e2 (S2.add n ⟨xs, upd_same, RDs.ofP (r.ext (ext_add n))⟩ fun d hd => ?_) (.ref ?_)
    · obtain ⟨x, _, rfl⟩ := List.mem_map.mp hd
      trivial
    · show (ρ1.l ++ [p])[st1.length]? = some p
      rw [← S2.len]
      simp
/-! ### names and constants -/
theorem r_var (C : Ctx X c G N sc fn k) {i : Nat} {y : Str} {pos : Pos} (h : (decide (N[i]? = some y) && visB sc y && nameOk y) = true) : PE X (.Name y pos) (tM X (evE c (.var i))) := by
  simp only [Bool.and_eq_true, decide_eq_true_eq] at h
  obtain ⟨⟨h1, h2⟩, h3⟩ := h
  obtain ⟨d1, d2⟩ := nameOk_of h3
  refine (pe_var (by rw [C.hN]; exact h1) (vis_of C h2) d1 d2).imp fun σ H Q q => ?_
  obtain ⟨ρ, env, st, hE, hS, q⟩ := q
  simp only [evE] at q
  cases e : env[i]?.join with
  | none => rw [e] at q; exact q.elim
  | some d =>
    rw [e] at q
    have e' : env[i]? = some (some d) := by
      cases z : env[i]? with
      | none => rw [z] at e; cases e
      | some o => rw [z] at e; exact congrArg some e
    obtain ⟨x, hx, r⟩ := hE.sl i d e'
    exact ⟨x, hx, q ρ H x .refl hS r⟩
theorem val_of {x : V} {d : D} {m : Env → M D} {e : Expr} (h : PE X e (tC x)) (hm : ∀ env st, m env st = .ok d st) (r : ∀ H ρ, RD X.K H ρ x d) : PE X e (tM X m) := by
  refine h.imp fun σ H Q q => ?_
  obtain ⟨ρ, env, st, hE, hS, q⟩ := q
  rw [hm] at q
  exact q ρ H x .refl hS (r H ρ)
theorem constP_eq : ∀ {d e : P}, constP d e = true → d = e
  | .none, .none, _ => rfl
  | .bool a, .bool b, h => by rw [show a = b by simpa [constP] using h]
  | .int a, .int b, h => by rw [show a = b by simpa [constP] using h]
  | .str a, .str b, h => by rw [show a = b by simpa [constP] using h]
theorem r_glob (C : Ctx X c G N sc fn k) {x : String} {d : P} {y : Str} {pos : Pos} (h : (decide (y = Str.ofString x) && glB sc y && nameOk y && G.any fun p => p.1 == x && constP p.2 d) = true) : PE X (.Name y pos) (tM X (evE c (.glob x d))) := by
  simp only [Bool.and_eq_true, decide_eq_true_eq, List.any_eq_true, beq_iff_eq] at h
  obtain ⟨⟨⟨rfl, h2⟩, h3⟩, p, hp, h5, h6⟩ := h
  obtain ⟨p1, p2⟩ := p
  simp only at h5 h6
  subst h5
  have h6 := constP_eq h6
  subst h6
  obtain ⟨u, v, hm, rv, rp⟩ := C.gb.gl _ _ hp
  exact val_of (pe_glob (gl_of C h2) hm rv (nameOk_of h3).1) (fun _ _ => by simp [evE]) fun H ρ => .p (rp H ρ)
theorem r_cst {d : P} {q : Const} {n : Nat} {pos : Pos} (h : constIs d q = true) : PE X (.Constant q n pos) (tM X (evE c (.cst d))) := by
  have hm : ∀ env st, evE c (.cst d) env st = .ok (.p d) st := fun _ _ => by simp [evE]
  cases d with
  | none => cases q <;> first | exact val_of pe_non hm fun H ρ => .p .non | cases h
  | bool b =>
    cases q with
    | bool b' =>
      have e : b = b' := by simpa [constIs] using h
      subst e
      exact val_of pe_bl hm fun H ρ => .p (.bl b)
    | _ => cases h
  | int b =>
    cases q with
    | int b' =>
      have e : b = b' := by simpa [constIs] using h
      subst e
      exact val_of pe_int hm fun H ρ => .p (.int b)
    | _ => cases h
  | str b =>
    cases q with
    | str b' =>
      have e : b = b' := by simpa [constIs] using h
      subst e
      exact val_of pe_str hm fun H ρ => .p (.str b)
    | _ => cases h
  | _ => cases q <;> cases h
/-! ### operators -/
variable {ea eb ed : Expr} {ma mb md : Env → M D} {pos : Pos}
theorem r_bin {op : Operator} (ha : PE X ea (tM X ma)) (hb : PE X eb (tM X mb)) : PE X (.BinOp ea op eb pos) (tR X fun env => do
    let x ← ma env
    let y ← mb env
    let x ← vw x
    let y ← vw y
    .p <$> need (binP op x y)) := by
  refine (pe_op (bin_ok op) ha hb).imp fun σ H Q q => ?_
  obtain ⟨ρ, env, st, hE, hS, q⟩ := q
  have q : ((ma env st).bind fun x st => ((mb env st).bind fun y st => ((vw x st).bind fun x st => ((vw y st).bind fun y st => ((need (binP op x y) st).bind fun r st => .ok (.p r) st))))).holds (PostR X.K ρ H Q) (Er X ρ H) := q
  refine tM_mono (step (Now.start hE hS) q) ?_
  rintro x H1 ⟨ρ1, st1, v, n1, rx, e1, q⟩
  refine tM_mono (step n1 q) ?_
  rintro y H2 ⟨ρ2, st2, w, n2, ry, e2, q⟩
  obtain ⟨a, va, q⟩ := seen q
  obtain ⟨b, vb, q⟩ := seen q
  obtain ⟨r, er, q⟩ := needed q
  obtain ⟨r', e', q⟩ := q
  cases e'
  exact ⟨ρ2, st2, [a, b], r, n2.rs, .cons ((rx.ext e2).view n2.rs va) (.cons (ry.view n2.rs vb) .nil), er, q ρ2 H2 n2.ext n2.rs⟩
theorem ok_bind {α β : Type} {r : R α} {f : α → Sto → R β} {b : β} {st : Sto} (h : r.bind f = .ok b st) : ∃ a st1, r = .ok a st1 ∧ f a st1 = .ok b st := by
  cases r with
  | ok a st1 => exact ⟨a, st1, rfl, h⟩
  | err _ _ _ => cases h
  | bad => cases h
theorem ok_need {α : Type} {o : Option α} {a : α} {st st1 : Sto} (h : need o st = .ok a st1) : o = some a ∧ st1 = st := by
  unfold need at h
  cases o with
  | none => cases h
  | some b => cases h; exact ⟨rfl, rfl⟩
theorem only_bin {op : Operator} : OnlyP (fun env => do
    let x ← ma env
    let y ← mb env
    let x ← vw x
    let y ← vw y
    .p <$> need (binP op x y)) := by
  intro env st v st' h
  obtain ⟨x, st1, _, h⟩ := ok_bind h
  obtain ⟨y, st2, _, h⟩ := ok_bind h
  obtain ⟨x, st3, _, h⟩ := ok_bind h
  obtain ⟨y, st4, _, h⟩ := ok_bind h
  obtain ⟨r, st5, _, h⟩ := ok_bind h
  cases h
  exact ⟨_, rfl⟩
theorem fp_bl {K : PySem.W.Frag} {H : Hp} {ρ : Pl} {r : Bool} {Q : VK} (q : ∀ H1, Same H H1 → Q (.bl r) H1) : FP K H ρ (.bool r) Q := fun H1 s z h => by
  cases h
  exact q H1 s
theorem cmp_core {op : CmpOp} {Q : VK} {H2 : Hp} {ρ2 : Pl} {x y : V} {v w : D} {a b : P} {r : Bool} {st2 : Sto} (S : RS X.K H2 ρ2 st2) (rx : RD X.K H2 ρ2 x v) (ry : RD X.K H2 ρ2 y w) (va : view st2 v = some a) (vb : view st2 w = some b)
    (er : cmpP op a b = some r) (q : ∀ H1, Same H2 H1 → Q (.bl r) H1) : rCmp X op x y H2 Q :=
  ⟨ρ2, st2, [a, b], .bool r, S, .cons (rx.view S va) (.cons (ry.view S vb) .nil), by show (cmpP op a b).map _ = _; rw [er]; rfl, fp_bl q⟩
theorem assoc_b {α β γ : Type} (r : R α) (g : α → Sto → R β) (h : β → Sto → R γ) : (r.bind g).bind h = r.bind fun a st => (g a st).bind h := by cases r <;> rfl
theorem onlyP_holds {v : D} {st : Sto} {α : Type} {f : P → Sto → R α} {Qf : α → Sto → Prop} {E : EE} (h : ((onlyP v st).bind f).holds Qf E) : ∃ d, v = .p d ∧ (f d st).holds Qf E := by
  cases v with
  | p d => exact ⟨d, rfl, h⟩
  | ref l => exact h.elim
def cmpM (op : CmpOp) (ma mb : Env → M D) : Env → M Bool := fun env => do
  let x ← ma env
  let y ← mb env
  let x ← vw x
  let y ← vw y
  need (cmpP op x y)
theorem cmp_step {op : CmpOp} {σ : List (Option V)} {H0 H : Hp} {ρ0 ρ : Pl} {env : Env} {st : Sto} {α : Type} {f : Bool → Sto → R α} {Qf : α → Sto → Prop} {Q : VK} (n : Now X ρ0 H0 ρ H env σ st) (h : ((cmpM op ma mb env st).bind f).holds Qf (Er X ρ0 H0))
    (q : ∀ b ρ1 H1 st1, Now X ρ0 H0 ρ1 H1 env σ st1 → (f b st1).holds Qf (Er X ρ0 H0) → Q (.bl b) H1) : tOp (rCmp X op) (tM X ma) (tM X mb) σ H Q := by
  have h : ((ma env st).bind fun x st => ((mb env st).bind fun y st => ((vw x st).bind fun x st => ((vw y st).bind fun y st => ((need (cmpP op x y) st).bind f))))).holds Qf (Er X ρ0 H0) := by
    have h0 : (((ma env st).bind fun x st => ((mb env st).bind fun y st => ((vw x st).bind fun x st => ((vw y st).bind fun y st => need (cmpP op x y) st)))).bind f).holds Qf (Er X ρ0 H0) := h
    simp only [assoc_b] at h0
    exact h0
  refine tM_mono (step n h) ?_
  rintro x H1 ⟨ρ1, st1, v, n1, rx, e1, h⟩
  refine tM_mono (step n1 h) ?_
  rintro y H2 ⟨ρ2, st2, w, n2, ry, e2, h⟩
  obtain ⟨a, va, h⟩ := seen h
  obtain ⟨b, vb, h⟩ := seen h
  obtain ⟨r, er, h⟩ := needed h
  exact cmp_core n2.rs (rx.ext e2) ry va vb er fun H3 s => q r ρ2 H3 st2 ⟨n2.ext.trans (Ext.same s), n2.re.ext (Ext.same s), n2.rs.same s⟩ h
def boolM (m : Env → M Bool) : Env → M D := fun env => do
  let b ← m env
  pure (.p (.bool b))
theorem post_bl {ρ0 ρ1 : Pl} {H0 H1 : Hp} {σ : List (Option V)} {env : Env} {st1 : Sto} {b : Bool} {Q : VK} (n : Now X ρ0 H0 ρ1 H1 env σ st1) (q : (R.ok (D.p (.bool b)) st1).holds (Post X.K ρ0 H0 Q) (Er X ρ0 H0)) : Q (.bl b) H1 := q ρ1 H1 _ n.ext n.rs (.p (.bl b))
theorem ok_id {α : Type} (r : R α) : (r.bind fun a st => R.ok a st) = r := by cases r <;> rfl
theorem r_cmp {op : CmpOp} (hu : X.A.units + 65 < cLine) (ha : PE X ea (tM X ma)) (hb : PE X eb (tM X mb)) (hm : behindInMarks op eb = false) : PE X (.Compare ea [op] [eb] pos) (tM X (boolM (cmpM op ma mb))) := by
  refine (pe_cmpR (cmp_ok op hu) ha hb hm).imp fun σ H Q q => ?_
  obtain ⟨ρ, env, st, hE, hS, q⟩ := q
  exact cmp_step (Now.start hE hS) (show ((cmpM op ma mb env st).bind fun b st => .ok (.p (.bool b)) st).holds (Post X.K ρ H Q) (Er X ρ H) from q) fun b ρ1 H1 st1 n1 q => post_bl n1 q
theorem t_cmp {op : CmpOp} (hu : X.A.units + 65 < cLine) (ha : PE X ea (tM X ma)) (hb : PE X eb (tM X mb)) (hm : behindInMarks op eb = false) : PT X (.Compare ea [op] [eb] pos) (tT X (cmpM op ma mb)) := by
  refine (pt_cmpR (cmp_ok op hu) ha hb hm).imp fun σ H Q q => ?_
  obtain ⟨ρ, env, st, hE, hS, q⟩ := q
  rw [← ok_id (cmpM op ma mb env st)] at q
  exact cmp_step (Now.start hE hS) q fun b ρ1 H1 st1 n1 q => ⟨b, rfl, q ρ1 H1 n1.ext n1.rs⟩
def cmp2M (o1 o2 : CmpOp) (ma mb md : Env → M D) : Env → M Bool := fun env => do
  let x ← ma env
  let y ← mb env
  let x ← vw x
  let y ← onlyP y
  let k ← need (cmpP o1 x y)
  if k = true then (do
    let z ← md env
    let z ← vw z
    need (cmpP o2 y z)) else pure false
theorem chain_step {o1 o2 : CmpOp} {σ : List (Option V)} {H0 H : Hp} {ρ0 ρ : Pl} {env : Env} {st : Sto} {α : Type} {f : Bool → Sto → R α} {Qf : α → Sto → Prop} {Q : VK} (n : Now X ρ0 H0 ρ H env σ st) (h : ((cmp2M o1 o2 ma mb md env st).bind f).holds Qf (Er X ρ0 H0))
    (q : ∀ b ρ1 H1 st1, Now X ρ0 H0 ρ1 H1 env σ st1 → (f b st1).holds Qf (Er X ρ0 H0) → Q (.bl b) H1) : tChain (rCmp X o1) (rCmp X o2) (tM X ma) (tM X mb) (tM X md) σ H Q := by
  have h : ((ma env st).bind fun x st => ((mb env st).bind fun y st => ((vw x st).bind fun x st => ((onlyP y st).bind fun y st => ((need (cmpP o1 x y) st).bind fun k st =>
      ((if k = true then (do
        let z ← md env
        let z ← vw z
        need (cmpP o2 y z)) else pure false : M Bool) st).bind f))))).holds Qf (Er X ρ0 H0) := by
    have h0 : (((ma env st).bind fun x st => ((mb env st).bind fun y st => ((vw x st).bind fun x st => ((onlyP y st).bind fun y st => ((need (cmpP o1 x y) st).bind fun k st => (if k = true then (do
        let z ← md env
        let z ← vw z
        need (cmpP o2 y z)) else pure false : M Bool) st))))).bind f).holds Qf (Er X ρ0 H0) := h
    simp only [assoc_b] at h0
    exact h0
  refine tM_mono (step n h) ?_
  rintro x H1 ⟨ρ1, st1, v, n1, rx, e1, h⟩
  refine tM_mono (step n1 h) ?_
  rintro y H2 ⟨ρ2, st2, w, n2, ry, e2, h⟩
  obtain ⟨a, va, h⟩ := seen h
  obtain ⟨b, rfl, h⟩ := onlyP_holds h
  obtain ⟨r, er, h⟩ := needed h
  refine cmp_core n2.rs (rx.ext e2) ry va (show view st2 (.p b) = some b from rfl) er fun H3 s => ⟨r, rfl, ?_⟩
  have n3 : Now X ρ0 H0 ρ2 H3 env σ st2 := ⟨n2.ext.trans (Ext.same s), n2.re.ext (Ext.same s), n2.rs.same s⟩
  cases r with
  | false => exact q false ρ2 H3 st2 n3 h
  | true =>
    have h : ((md env st2).bind fun z st => ((vw z st).bind fun z st => ((need (cmpP o2 b z) st).bind f))).holds Qf (Er X ρ0 H0) := by
      have h0 : (((md env st2).bind fun z st => ((vw z st).bind fun z st => need (cmpP o2 b z) st)).bind f).holds Qf (Er X ρ0 H0) := h
      simp only [assoc_b] at h0
      exact h0
    refine tM_mono (step n3 h) ?_
    rintro z H4 ⟨ρ4, st4, u, n4, rz, e4, h⟩
    obtain ⟨d, vd, h⟩ := seen h
    obtain ⟨r2, er2, h⟩ := needed h
    exact cmp_core n4.rs ((ry.ext (Ext.same s)).ext e4) rz (show view st4 (.p b) = some b from rfl) vd er2 fun H5 s5 => q r2 ρ4 H5 st4 ⟨n4.ext.trans (Ext.same s5), n4.re.ext (Ext.same s5), n4.rs.same s5⟩ h
theorem lastMarks2 {o1 o2 : CmpOp} (h : behindInMarks o2 ed = false) : lastMarks [o1, o2] [eb, ed] = false := by
  simp [lastMarks, h]
theorem r_cmp2 {o1 o2 : CmpOp} (hu : X.A.units + 65 < cLine) (ha : PE X ea (tM X ma)) (hb : PE X eb (tM X mb)) (hd : PE X ed (tM X md)) (hm : behindInMarks o2 ed = false) : PE X (.Compare ea [o1, o2] [eb, ed] pos) (tM X (boolM (cmp2M o1 o2 ma mb md))) := by
  refine (pe_chain (cmp_ok o1 hu) (cmp_ok o2 hu) ha hb hd (lastMarks2 hm)).imp fun σ H Q q => ?_
  obtain ⟨ρ, env, st, hE, hS, q⟩ := q
  exact chain_step (Now.start hE hS) (show ((cmp2M o1 o2 ma mb md env st).bind fun b st => .ok (.p (.bool b)) st).holds (Post X.K ρ H Q) (Er X ρ H) from q) fun b ρ1 H1 st1 n1 q => post_bl n1 q
theorem t_cmp2 {o1 o2 : CmpOp} (hu : X.A.units + 65 < cLine) (ha : PE X ea (tM X ma)) (hb : PE X eb (tM X mb)) (hd : PE X ed (tM X md)) (hm : behindInMarks o2 ed = false) : PT X (.Compare ea [o1, o2] [eb, ed] pos) (tT X (cmp2M o1 o2 ma mb md)) := by
  refine (pt_chain (cmp_ok o1 hu) (cmp_ok o2 hu) ha hb hd (lastMarks2 hm)).imp fun σ H Q q => ?_
  obtain ⟨ρ, env, st, hE, hS, q⟩ := q
  rw [← ok_id (cmp2M o1 o2 ma mb md env st)] at q
  exact chain_step (Now.start hE hS) q fun b ρ1 H1 st1 n1 q => ⟨b, rfl, q ρ1 H1 n1.ext n1.rs⟩
/-! ### truth -/
def testM (m : Env → M D) : Env → M Bool := fun env => do
  let x ← m env
  asBM x
theorem asB_some {a : P} {b : Bool} (h : asB a = some b) : a = .bool b := by
  cases a <;> first | (cases h; rfl) | cases h
theorem asBM_holds {v : D} {st : Sto} {α : Type} {f : Bool → Sto → R α} {Qf : α → Sto → Prop} {E : EE} (h : ((asBM v st).bind f).holds Qf E) : ∃ b, view st v = some (.bool b) ∧ (f b st).holds Qf E := by
  have h : ((vw v st).bind fun q st => ((need (asB q) st).bind f)).holds Qf E := by
    have h0 : (((vw v st).bind fun q st => need (asB q) st).bind f).holds Qf E := h
    rw [assoc_b] at h0
    exact h0
  obtain ⟨a, va, h⟩ := seen h
  obtain ⟨b, eb, h⟩ := needed h
  rw [asB_some eb] at va
  exact ⟨b, va, h⟩
theorem rv_bl {K : PySem.W.Frag} {H : Hp} {ρ : Pl} {x : V} {b : Bool} (h : RV K H ρ x (.bool b)) : x = .bl b := by cases h; rfl
theorem t_val (h : PE X ea (tM X ma)) (he : ∀ whole, isTrue ea X.env whole = (do let v ← whole; standAt ea.pos; holding [v] (truthy v))) : PT X ea (tT X (testM ma)) := by
  refine (pt_val h he).imp fun σ H Q q => ?_
  obtain ⟨ρ, env, st, hE, hS, q⟩ := q
  have q : ((ma env st).bind fun x st => ((asBM x st).bind fun b st => .ok b st)).holds (PostB X.K ρ H Q) (Er X ρ H) := by
    rw [← ok_id (testM ma env st)] at q
    have q : (((ma env st).bind fun x st => asBM x st).bind fun b st => .ok b st).holds (PostB X.K ρ H Q) (Er X ρ H) := q
    rw [assoc_b] at q
    exact q
  refine tM_mono (step (Now.start hE hS) q) ?_
  rintro x H1 ⟨ρ1, st1, v, n1, rx, e1, q⟩
  obtain ⟨b, vb, q⟩ := asBM_holds q
  exact ⟨b, rv_bl (rx.view n1.rs vb), q ρ1 H1 n1.ext n1.rs⟩
theorem r_not (h : PE X ea (tM X ma)) : PE X (.UnaryOp .Not ea pos) (tM X fun env => do
    let x ← ma env
    let b ← asBM x
    pure (.p (.bool (!b)))) := by
  refine (pe_not h).imp fun σ H Q q => ?_
  obtain ⟨ρ, env, st, hE, hS, q⟩ := q
  refine tM_mono (step (Now.start hE hS) (show ((ma env st).bind fun x st => ((asBM x st).bind fun b st => .ok (.p (.bool (!b))) st)).holds (Post X.K ρ H Q) (Er X ρ H) from q)) ?_
  rintro x H1 ⟨ρ1, st1, v, n1, rx, e1, q⟩
  obtain ⟨b, vb, q⟩ := asBM_holds q
  exact ⟨b, rv_bl (rx.view n1.rs vb), post_bl n1 q⟩
theorem t_not (h : PT X ea (tT X (testM ma))) : PT X (.UnaryOp .Not ea pos) (tT X (testM fun env => do
    let x ← ma env
    let b ← asBM x
    pure (.p (.bool (!b))))) := by
  refine (pt_not h).imp fun σ H Q q => ?_
  obtain ⟨ρ, env, st, hE, hS, q⟩ := q
  have e : testM (fun env => do
    let x ← ma env
    let b ← asBM x
    pure (.p (.bool (!b)))) env st = (testM ma env st).bind fun b st => .ok (!b) st := by
    show (((ma env st).bind fun x st => ((asBM x st).bind fun b st => .ok (D.p (.bool (!b))) st)).bind fun v st => asBM v st) = (((ma env st).bind fun x st => asBM x st).bind fun b st => .ok (!b) st)
    simp only [assoc_b]
    rfl
  rw [e] at q
  refine tT_mono (stepT (Now.start hE hS) q) ?_
  rintro b H1 ⟨ρ1, st1, n1, e1, q⟩
  exact q ρ1 H1 n1.ext n1.rs
theorem r_neg (h : PE X ea (tM X ma)) : PE X (.UnaryOp .USub ea pos) (tM X fun env => do
    let x ← ma env
    negM x) := by
  refine (pe_un un_neg h).imp fun σ H Q q => ?_
  obtain ⟨ρ, env, st, hE, hS, q⟩ := q
  refine tM_mono (step (Now.start hE hS) (show ((ma env st).bind fun x st => negM x st).holds (Post X.K ρ H Q) (Er X ρ H) from q)) ?_
  rintro x H1 ⟨ρ1, st1, v, n1, rx, e1, q⟩
  cases rx with
  | ref _ => exact q.elim
  | p rx =>
    cases rx with
    | int i => exact ⟨i, rfl, q ρ1 H1 _ n1.ext n1.rs (.p (.int (-i)))⟩
    | _ => exact q.elim
theorem r_ife {et : Expr} {mt : Env → M D} (ht : PT X et (tT X (testM mt))) (ha : PE X ea (tM X ma)) (hb : PE X eb (tM X mb)) : PE X (.IfExp et ea eb pos) (tM X fun env => do
    let x ← mt env
    let k ← asBM x
    if k = true then ma env else mb env) := by
  refine (pe_ifExp ht ha hb).imp fun σ H Q q => ?_
  obtain ⟨ρ, env, st, hE, hS, q⟩ := q
  have q : ((testM mt env st).bind fun k st => (if k = true then ma env else mb env : M D) st).holds (Post X.K ρ H Q) (Er X ρ H) := by
    show (((mt env st).bind fun x st => asBM x st).bind _).holds _ _
    rw [assoc_b]
    exact q
  refine tT_mono (stepT (Now.start hE hS) q) ?_
  rintro b H1 ⟨ρ1, st1, n1, e1, q⟩
  cases b with
  | true => exact last n1 q
  | false => exact last n1 q
end
end PB
set_option maxRecDepth 100000
set_option maxHeartbeats 2000000
/-! Pb, part 13: and, or, rows of arguments, displays. -/
namespace PB
open PySem PySem.Spec PyProof.Rows L2
section
variable {X : Cx} {c : Cfg} {ea eb : Expr} {ma mb : Env → M D} {pos : Pos} {rest : List Expr}
def andM (ma mb : Env → M D) : Env → M D := fun env => do
  let x ← ma env
  let k ← asBM x
  if k = true then mb env else pure (.p (.bool false))
def orM (ma mb : Env → M D) : Env → M D := fun env => do
  let x ← ma env
  let k ← asBM x
  if k = true then pure (.p (.bool true)) else mb env
theorem r_and (ha : PE X ea (tM X ma)) (hb : PE X (.BoolOp .And (eb :: rest) pos) (tM X mb)) : PE X (.BoolOp .And (ea :: eb :: rest) pos) (tM X (andM ma mb)) := by
  refine (pe_and ha hb).imp fun σ H Q q => ?_
  obtain ⟨ρ, env, st, hE, hS, q⟩ := q
  refine tM_mono (step (Now.start hE hS) (show ((ma env st).bind fun x st => ((asBM x st).bind fun k st => (if k = true then mb env else pure (.p (.bool false)) : M D) st)).holds (Post X.K ρ H Q) (Er X ρ H) from q)) ?_
  rintro x H1 ⟨ρ1, st1, v, n1, rx, e1, q⟩
  obtain ⟨b, vb, q⟩ := asBM_holds q
  refine ⟨b, rv_bl (rx.view n1.rs vb), ?_⟩
  cases b with
  | true => exact last n1 q
  | false => exact post_bl n1 q
theorem r_or (ha : PE X ea (tM X ma)) (hb : PE X (.BoolOp .Or (eb :: rest) pos) (tM X mb)) : PE X (.BoolOp .Or (ea :: eb :: rest) pos) (tM X (orM ma mb)) := by
  refine (pe_or ha hb).imp fun σ H Q q => ?_
  obtain ⟨ρ, env, st, hE, hS, q⟩ := q
  refine tM_mono (step (Now.start hE hS) (show ((ma env st).bind fun x st => ((asBM x st).bind fun k st => (if k = true then pure (.p (.bool true)) else mb env : M D) st)).holds (Post X.K ρ H Q) (Er X ρ H) from q)) ?_
  rintro x H1 ⟨ρ1, st1, v, n1, rx, e1, q⟩
  obtain ⟨b, vb, q⟩ := asBM_holds q
  refine ⟨b, rv_bl (rx.view n1.rs vb), ?_⟩
  cases b with
  | true => exact post_bl n1 q
  | false => exact last n1 q
theorem _root_.L2.PW.imp {X : Cx} {e : Expr} {t t' : TT} (h : PW X e t) (q : ∀ σ H Q, t' σ H Q → t σ H Q) : PW X e t' := ⟨fun wh pins s σ H Q I z => h.run wh pins s σ H Q I (q σ H Q z)⟩
theorem testM_and (env : Env) (st : Sto) : testM (andM ma mb) env st = (testM ma env st).bind fun k st => (if k = true then testM mb env else pure false : M Bool) st := by
  show (((ma env st).bind fun x st => ((asBM x st).bind fun k st => (if k = true then mb env else pure (.p (.bool false)) : M D) st)).bind fun v st => asBM v st) = (((ma env st).bind fun x st => asBM x st).bind _)
  simp only [assoc_b]
  congr 1
  funext x st1
  congr 1
  funext k st2
  cases k <;> rfl
theorem testM_or (env : Env) (st : Sto) : testM (orM ma mb) env st = (testM ma env st).bind fun k st => (if k = true then pure true else testM mb env : M Bool) st := by
  show (((ma env st).bind fun x st => ((asBM x st).bind fun k st => (if k = true then pure (.p (.bool true)) else mb env : M D) st)).bind fun v st => asBM v st) = (((ma env st).bind fun x st => asBM x st).bind _)
  simp only [assoc_b]
  congr 1
  funext x st1
  congr 1
  funext k st2
  cases k <;> rfl
theorem w_and (ha : PT X ea (tT X (testM ma))) (hb : PW X (.BoolOp .And (eb :: rest) pos) (tT X (testM mb))) : PW X (.BoolOp .And (ea :: eb :: rest) pos) (tT X (testM (andM ma mb))) := by
  refine (pw_and ha hb).imp fun σ H Q q => ?_
  obtain ⟨ρ, env, st, hE, hS, q⟩ := q
  rw [testM_and] at q
  refine tT_mono (stepT (Now.start hE hS) q) ?_
  rintro b H1 ⟨ρ1, st1, n1, e1, q⟩
  cases b with
  | true => exact ⟨ρ1, env, st1, n1.re, n1.rs, holds_mono q (fun v st2 h ρ2 H2 e S => h ρ2 H2 (n1.ext.trans e) S) fun _ _ _ z => z.ext n1.ext⟩
  | false => exact q ρ1 H1 n1.ext n1.rs
theorem w_or (ha : PT X ea (tT X (testM ma))) (hb : PW X (.BoolOp .Or (eb :: rest) pos) (tT X (testM mb))) : PW X (.BoolOp .Or (ea :: eb :: rest) pos) (tT X (testM (orM ma mb))) := by
  refine (pw_or ha hb).imp fun σ H Q q => ?_
  obtain ⟨ρ, env, st, hE, hS, q⟩ := q
  rw [testM_or] at q
  refine tT_mono (stepT (Now.start hE hS) q) ?_
  rintro b H1 ⟨ρ1, st1, n1, e1, q⟩
  cases b with
  | true => exact q ρ1 H1 n1.ext n1.rs
  | false => exact ⟨ρ1, env, st1, n1.re, n1.rs, holds_mono q (fun v st2 h ρ2 H2 e S => h ρ2 H2 (n1.ext.trans e) S) fun _ _ _ z => z.ext n1.ext⟩
/-! ### rows of arguments -/
theorem star_of {e : Expr} (h : notStar e = true) (r : List Expr) (env : PySem.Env) : starEach (e :: r) env = (false, eval e env) :: starEach r env := by
  cases e <;> first | rfl | cases h
def consM (ma : Env → M D) (ml : Env → M (List D)) : Env → M (List D) := fun env => do
  let x ← ma env
  let xs ← ml env
  pure (x :: xs)
theorem l_nil : PA X [] (tL X fun _ => pure []) := pa_nil.imp fun σ H Q q => by
  obtain ⟨ρ, env, st, hE, hS, q⟩ := q
  exact q ρ H [] .refl hS .nil
theorem l_cons {es : List Expr} {ml : Env → M (List D)} (ha : PE X ea (tM X ma)) (hl : PA X es (tL X ml)) (hs : notStar ea = true) : PA X (ea :: es) (tL X (consM ma ml)) := by
  refine (pa_cons ha hl (star_of hs es X.env)).imp fun σ H Q q => ?_
  obtain ⟨ρ, env, st, hE, hS, q⟩ := q
  refine tM_mono (step (Now.start hE hS) (show ((ma env st).bind fun x st => ((ml env st).bind fun xs st => .ok (x :: xs) st)).holds (PostL X.K ρ H Q) (Er X ρ H) from q)) ?_
  rintro x H1 ⟨ρ1, st1, v, n1, rx, e1, q⟩
  refine tL_mono (stepL n1 q) ?_
  rintro xs H2 ⟨ρ2, st2, vs, n2, rs, e2, q⟩
  exact q ρ2 H2 (x :: xs) n2.ext n2.rs (.cons (rx.ext e2) rs)
theorem len_cons {es : List Expr} {ml : Env → M (List D)} (h : ∀ env st ds st', ml env st = .ok ds st' → ds.length = es.length) : ∀ env st ds st', consM ma ml env st = .ok ds st' → ds.length = (ea :: es).length := by
  intro env st ds st' e
  obtain ⟨x, st1, _, e⟩ := ok_bind e
  obtain ⟨xs, st2, e2, e⟩ := ok_bind e
  cases e
  simp [h _ _ _ _ e2]
theorem plain_of {es : List Expr} (h : es.all notStar = true) : Plain X es := fun e he r => star_of (List.all_eq_true.mp h e he) r X.env
/-! ### pure values alone -/
theorem onlyPs_holds : ∀ {vs : List D} {st : Sto} {α : Type} {f : List P → Sto → R α} {Qf : α → Sto → Prop} {E : EE}, ((onlyPs vs st).bind f).holds Qf E → ∃ ds, vs = ds.map D.p ∧ (f ds st).holds Qf E
  | [], st, α, f, Qf, E, h => ⟨[], rfl, h⟩
  | v :: vs, st, α, f, Qf, E, h => by
    rw [onlyPs_cons] at h
    simp only [assoc_b] at h
    obtain ⟨d, e1, h2⟩ := onlyP_holds h
    obtain ⟨ds, e2, h3⟩ := onlyPs_holds h2
    exact ⟨d :: ds, by rw [e1, e2]; rfl, h3⟩
theorem line_holds {n : Nat} {st : Sto} {α : Type} {f : Unit → Sto → R α} {Qf : α → Sto → Prop} {E : EE} (h : ((line n st).bind f).holds Qf E) : n ≤ sizeLine ∧ (f () st).holds Qf E := by
  unfold line at h
  split at h
  · exact ⟨by assumption, h⟩
  · exact h.elim
variable {es : List Expr} {ml : Env → M (List D)}
def tupM (ml : Env → M (List D)) : Env → M D := fun env => do
  let ds ← ml env
  let ds ← onlyPs ds
  line ds.length
  pure (.p (.tuple ds))
def lstM (ml : Env → M (List D)) : Env → M D := fun env => do
  let ds ← ml env
  let ds ← onlyPs ds
  line ds.length
  pure (.p (.list ds))
def lstHM (ml : Env → M (List D)) : Env → M D := fun env => do
  let ds ← ml env
  line ds.length
  alloc (.lst ds)
theorem r_tup {k : Nat} (h : PA X es (tL X ml)) : PE X (.Tuple es k pos) (tM X (tupM ml)) := by
  refine (pe_tup h).imp fun σ H Q q => ?_
  obtain ⟨ρ, env, st, hE, hS, q⟩ := q
  refine tL_mono (stepL (Now.start hE hS) (show ((ml env st).bind fun ds st => ((onlyPs ds st).bind fun ds st => ((line ds.length st).bind fun _ st => .ok (.p (.tuple ds)) st))).holds (Post X.K ρ H Q) (Er X ρ H) from q)) ?_
  rintro xs H1 ⟨ρ1, st1, vs, n1, rs, e1, q⟩
  obtain ⟨ds, ed, q2⟩ := onlyPs_holds q
  subst ed
  clear q
  obtain ⟨hl, q⟩ := line_holds q2
  refine ⟨by rw [rs.length]; simpa using hl, fun p hn => ?_⟩
  have s2 := same_new (o := .tup xs) hn
  exact q ρ1 _ _ (n1.ext.trans (Ext.same s2)) (n1.rs.same s2) (.p (.tup (.inl ⟨.inl upd_same, n1.rs.fresh hn⟩) (rs.toP.ext (Ext.same s2))))
def tupHM (ml : Env → M (List D)) : Env → M D := fun env => do
  let ds ← ml env
  line ds.length
  alloc (.tup ds)
theorem r_tupH {k : Nat} (h : PA X es (tL X ml)) : PE X (.Tuple es k pos) (tM X (tupHM ml)) := by
  refine (pe_tup h).imp fun σ H Q q => ?_
  obtain ⟨ρ, env, st, hE, hS, q⟩ := q
  refine tL_mono (stepL (Now.start hE hS) (show ((ml env st).bind fun ds st => ((line ds.length st).bind fun _ st => alloc (.tup ds) st)).holds (Post X.K ρ H Q) (Er X ρ H) from q)) ?_
  rintro xs H1 ⟨ρ1, st1, vs, n1, rs, e1, q⟩
  obtain ⟨hl, q⟩ := line_holds q
  refine ⟨by rw [rs.length]; exact hl, fun p hn => ?_⟩
  refine q _ _ (.ref p) (n1.ext.trans (ext_add hn)) (n1.rs.add hn ⟨xs, upd_same, rs.ext (ext_add hn)⟩ (rs.belows (Nat.le_of_eq n1.rs.len))) (.ref ?_)
  show (ρ1.l ++ [p])[st1.length]? = some p
  rw [← n1.rs.len]
  simp
theorem r_lst (h : PA X es (tL X ml)) : PE X (.List es pos) (tR X (lstM ml)) := by
  refine (pe_lst h).imp fun σ H Q q => ?_
  obtain ⟨ρ, env, st, hE, hS, q⟩ := q
  refine tL_mono (stepL (Now.start hE hS) (show ((ml env st).bind fun ds st => ((onlyPs ds st).bind fun ds st => ((line ds.length st).bind fun _ st => .ok (.p (.list ds)) st))).holds (PostR X.K ρ H Q) (Er X ρ H) from q)) ?_
  rintro xs H1 ⟨ρ1, st1, vs, n1, rs, e1, q⟩
  obtain ⟨ds, ed, q2⟩ := onlyPs_holds q
  subst ed
  clear q
  obtain ⟨hl, q⟩ := line_holds q2
  refine ⟨by rw [rs.length]; simpa using hl, fun p hn => ?_⟩
  obtain ⟨r, er, q⟩ := q
  cases er
  exact (q ρ1 H1 n1.ext n1.rs) H1 (Same.refl H1) xs p rs.toP hn
theorem only_lst : OnlyP (lstM ml) := by
  intro env st v st' h
  obtain ⟨x, st1, _, h⟩ := ok_bind h
  obtain ⟨y, st2, _, h⟩ := ok_bind h
  obtain ⟨y2, st3, _, h⟩ := ok_bind h
  cases h
  exact ⟨_, rfl⟩
theorem r_lstH (h : PA X es (tL X ml)) : PE X (.List es pos) (tM X (lstHM ml)) := by
  refine (pe_lst h).imp fun σ H Q q => ?_
  obtain ⟨ρ, env, st, hE, hS, q⟩ := q
  refine tL_mono (stepL (Now.start hE hS) (show ((ml env st).bind fun ds st => ((line ds.length st).bind fun _ st => alloc (.lst ds) st)).holds (Post X.K ρ H Q) (Er X ρ H) from q)) ?_
  rintro xs H1 ⟨ρ1, st1, vs, n1, rs, e1, q⟩
  obtain ⟨hl, q⟩ := line_holds q
  refine ⟨by rw [rs.length]; exact hl, fun p hn => ?_⟩
  refine q _ _ (.ref p) (n1.ext.trans (ext_add hn)) (n1.rs.add hn ⟨xs, upd_same, rs.ext (ext_add hn)⟩ (rs.belows (Nat.le_of_eq n1.rs.len))) (.ref ?_)
  show (ρ1.l ++ [p])[st1.length]? = some p
  rw [← n1.rs.len]
  simp
end
end PB
set_option maxRecDepth 100000
set_option maxHeartbeats 2000000
/-! Pb, part 14: subscripts, built-in functions, methods. -/
namespace PB
open PySem PySem.Spec PyProof.Rows L2
section
variable {X : Cx} {c : Cfg} {ea eb : Expr} {ma mb : Env → M D} {pos : Pos}
/-- two values, known ahead -/
theorem two_ahead {R : R2} {e : Expr} {σ : List (Option V)} {H : Hp} {Q : VK} {ρ : Pl} {env : Env} {st st1 st2 : Sto} {v w : D} {pins : List (Addr × Obj)} {s : Shared} (h : PE X e (tOp R (tM X ma) (tM X mb))) (I : Inv X pins σ H s) (hE : RE X.K H ρ env σ) (hS : RS X.K H ρ st)
    (e0 : ma env st = .ok v st1) (e1 : mb env st1 = .ok w st2) (z : ∀ ρ2 H2 x y, Ext ρ H ρ2 H2 → RS X.K H2 ρ2 st2 → RD X.K H2 ρ2 x v → RD X.K H2 ρ2 y w → R x y H2 Q) :
    wpAny (model X.prog X.w) X.A (eval e X.env) (EP X pins σ Q) X.xe s := by
  refine h.run pins s σ H Q I ⟨ρ, env, st, hE, hS, ?_⟩
  rw [e0]
  intro ρ1 H1 x ex1 S1 r1
  refine ⟨ρ1, env, st1, hE.ext ex1, S1, ?_⟩
  rw [e1]
  intro ρ2 H2 y ex2 S2 r2
  exact z ρ2 H2 x y (ex1.trans ex2) S2 (r1.ext ex2) r2
theorem plainIx {b : Expr} (h : notSlice b = true) : PlainIx b := by
  intro o i
  cases b <;> first | rfl | cases h
theorem noSl {b : Expr} (h : notSlice b = true) : NoSl b := by
  intro o i
  cases b <;> first | rfl | cases h
theorem RPs.atI {K : PySem.W.Frag} {H : Hp} {ρ : Pl} {xs : List V} {ds : List P} {i : Int} {d : P} (h : RPs K H ρ xs ds) (e : atI ds i = some d) : ∃ x, atI xs i = some x ∧ RP K H ρ x d := by
  unfold L2.atI at e ⊢
  rw [h.length]
  cases z : ixN ds.length i with
  | none => rw [z] at e; cases e
  | some j => rw [z] at e; exact h.get e
theorem RDs.atI {K : PySem.W.Frag} {H : Hp} {ρ : Pl} {xs : List V} {ds : List D} {i : Int} {d : D} (h : RDs K H ρ xs ds) (e : atI ds i = some d) : ∃ x, atI xs i = some x ∧ RD K H ρ x d := by
  unfold L2.atI at e ⊢
  rw [h.length]
  cases z : ixN ds.length i with
  | none => rw [z] at e; cases e
  | some j => rw [z] at e; exact h.get e
theorem RDk.look {K : PySem.W.Frag} {H : Hp} {ρ : Pl} {k : Key} : ∀ {vs : List (Key × V)} {kvs : List (Key × D)} {d : D}, RDk K H ρ vs kvs → lookK k kvs = some d → ∃ x, valV vs k = some x ∧ RD K H ρ x d
  | _, _, _, .nil, e => by cases e
  | _, _, _, .cons (k := j) (v := v) (vs := vs) h q, e => by
    unfold lookK at e
    split at e
    · rename_i z
      cases e
      exact ⟨v, valV_pos (p := (j, v)) z, h⟩
    · rename_i z
      obtain ⟨x, h1, h2⟩ := RDk.look q e
      exact ⟨x, by rw [valV_neg (p := (j, v)) z]; exact h1, h2⟩
def idxMM (ma mb : Env → M D) : Env → M D := fun env => do
  let x ← ma env
  let y ← mb env
  idxM x y
theorem r_idx (hu : X.A.units + 1 < cLine) (ha : PE X ea (tM X ma)) (hb : PE X eb (tM X mb)) (hs : notSlice eb = true) : PE X (.Subscript ea eb pos) (tM X (idxMM ma mb)) := by
  refine ⟨fun pins s σ H Q I q => ?_⟩
  obtain ⟨ρ, env, st, hE, hS, q⟩ := q
  have q : ((ma env st).bind fun x st => ((mb env st).bind fun y st => idxM x y st)).holds (Post X.K ρ H Q) (Er X ρ H) := q
  cases e0 : ma env st with
  | bad => rw [e0] at q; exact q.elim
  | err _ _ _ =>
    rw [e0] at q
    exact (pe_ix (pos := pos) ix_seq ha hb (plainIx hs)).run pins s σ H Q I (tM_err hE hS e0 q)
  | ok v st1 =>
    rw [e0] at q
    have q : ((mb env st1).bind fun y st => idxM v y st).holds (Post X.K ρ H Q) (Er X ρ H) := q
    cases e1 : mb env st1 with
    | bad => rw [e1] at q; exact q.elim
    | err _ _ _ =>
      rw [e1] at q
      refine (pe_ix (pos := pos) ix_seq ha hb (plainIx hs)).run pins s σ H Q I ⟨ρ, env, st, hE, hS, ?_⟩
      rw [e0]
      intro ρ1 H1 x ex1 S1 r1
      exact tM_err (hE.ext ex1) S1 e1 (q.ext ex1)
    | ok w st2 =>
      rw [e1] at q
      obtain ⟨i, vi, q2⟩ := seen (show ((vw w st2).bind fun i st => idxD v i st).holds (Post X.K ρ H Q) (Er X ρ H) from q)
      clear q
      cases v with
      | p d =>
        obtain ⟨r, er, q9⟩ := needed (show ((need (idxP d i) st2).bind fun r st => .ok (.p r) st).holds (Post X.K ρ H Q) (Er X ρ H) from q2)
        clear q2
        by_cases hdd : ∃ kvs, d = .dict kvs
        · obtain ⟨kvs, rfl⟩ := hdd
          have er : ((keyOf i).bind fun k => dlookP k kvs) = some r := by
            cases i <;> exact er
          obtain ⟨k, ek, el⟩ := Option.bind_eq_some_iff.mp er
          refine two_ahead (R := fun x y H2 Q => ∃ a v, x = .ref a ∧ DGet H2 a y (some v) ∧ Q v H2) (pe_dget (pos := pos) hu ha hb (noSl hs)) I hE hS e0 e1 fun ρ2 H2 x y e S rx ry => ?_
          have ry := key_rv (ry.view S vi) ek
          cases rx with
          | p rx =>
            cases rx with
            | @dct a vs _ h1 hn r1 =>
              have z := RPk.dlook (k := k) r1
              rw [el] at z
              obtain ⟨v, h3, h4⟩ := z
              exact ⟨a, v, rfl, .inl ⟨vs, k, h1, ry, h3.symm⟩, q9 ρ2 H2 v e S (.p h4)⟩
        refine two_ahead (pe_ix (pos := pos) ix_seq ha hb (plainIx hs)) I hE hS e0 e1 fun ρ2 H2 x y e S rx ry => ?_
        have ry := ry.view S vi
        cases rx with
        | p rx =>
          unfold idxP at er
          split at er
          · cases ry
            cases rx with
            | lst h rs =>
              obtain ⟨z, h1, h2⟩ := rs.atI er
              exact .inl ⟨_, _, _, z, rfl, rfl, h.sq, h1, q9 ρ2 H2 z e S (.p h2)⟩
          · cases ry
            cases rx with
            | tup h rs =>
              obtain ⟨z, h1, h2⟩ := rs.atI er
              exact .inr (.inl ⟨_, _, _, z, rfl, rfl, h.sq, h1, q9 ρ2 H2 z e S (.p h2)⟩)
          · cases ry
            cases rx
            split at er
            · rename_i hz
              obtain ⟨ch, ec, e3⟩ := Option.map_eq_some_iff.mp er
              subst e3
              exact .inr (.inr ⟨_, _, ch, rfl, rfl, hz, ec, q9 ρ2 H2 _ e S (.p (.str _))⟩)
            · cases er
          · exact absurd ⟨_, rfl⟩ hdd
          · cases er
      | ref l =>
        have q : ((getO l st2).bind fun o st => idxO o i st).holds (Post X.K ρ H Q) (Er X ρ H) := q2
        unfold getO at q
        cases eo : st2[l]? with
        | none => rw [eo] at q; exact q.elim
        | some o =>
          rw [eo] at q
          cases o with
          | tup _ => exact q.elim
          | lst xs =>
            have q : (idxO (.lst xs) i st2).holds (Post X.K ρ H Q) (Er X ρ H) := q
            cases i with
            | int k =>
              have q : (need (L2.atI xs k) st2).holds (Post X.K ρ H Q) (Er X ρ H) := q
              rw [← ok_id (need _ st2)] at q
              obtain ⟨d, ed, q⟩ := needed q
              refine two_ahead (pe_ix (pos := pos) ix_list ha hb (plainIx hs)) I hE hS e0 e1 fun ρ2 H2 x y e S rx ry => ?_
              have ry := ry.view S vi
              cases ry
              cases rx with
              | ref hl =>
                obtain ⟨⟨vs, h1, h2⟩, _⟩ := S.ob l _ _ hl eo
                obtain ⟨z, h3, h4⟩ := h2.atI ed
                exact ⟨_, vs, k, z, rfl, rfl, SqL.of h1, h3, q ρ2 H2 z e S h4⟩
            | _ => exact q.elim
          | dct w kvs =>
            have q : ((need (keyOf i) st2).bind fun k st => need (lookK k kvs) st).holds (Post X.K ρ H Q) (Er X ρ H) := q
            obtain ⟨k, ek, q⟩ := needed q
            rw [← ok_id (need _ st2)] at q
            obtain ⟨d, ed, q⟩ := needed q
            refine two_ahead (R := fun x y H2 Q => ∃ a v, x = .ref a ∧ DGet H2 a y (some v) ∧ Q v H2) (pe_dget (pos := pos) hu ha hb (noSl hs)) I hE hS e0 e1 fun ρ2 H2 x y e S rx ry => ?_
            have ry := key_rv (ry.view S vi) ek
            cases rx with
            | ref hl =>
              obtain ⟨⟨vs, h1, h2⟩, _⟩ := S.ob l _ _ hl eo
              obtain ⟨z, h3, h4⟩ := h2.look ed
              exact ⟨_, z, rfl, by rw [ry, ← h3]; exact .inl ⟨_, _, h1.rd, rfl, rfl⟩, q ρ2 H2 z e S h4⟩
/-! ### slices -/
def PostO (K : PySem.W.Frag) (ρ : Pl) (H : Hp) (Q : Option Int → Hp → Prop) (o : Option Int) (st : Sto) : Prop := ∀ ρ' H', Ext ρ H ρ' H' → RS K H' ρ' st → Q o H'
def tO (X : Cx) (m : Env → M (Option Int)) : TO := fun σ H Q => ∃ ρ env st, RE X.K H ρ env σ ∧ RS X.K H ρ st ∧ (m env st).holds (PostO X.K ρ H Q) (Er X ρ H)
theorem _root_.L2.PO.imp {X : Cx} {e : Option Expr} {t t' : TO} (h : PO X e t) (q : ∀ σ H Q, t' σ H Q → t σ H Q) : PO X e t' := ⟨fun pins s σ H Q I z => h.run pins s σ H Q I (q σ H Q z)⟩
theorem tO_mono {σ : List (Option V)} {H : Hp} {m : Env → M (Option Int)} {Q Q' : Option Int → Hp → Prop} (h : tO X m σ H Q) (q : ∀ x H', Q x H' → Q' x H') : tO X m σ H Q' := by
  obtain ⟨ρ, env, st, h1, h2, h3⟩ := h
  exact ⟨ρ, env, st, h1, h2, holds_mono h3 (fun v st1 z ρ1 H1 e S => q _ _ (z ρ1 H1 e S)) fun _ _ _ z => z⟩
theorem stepO {ρ0 ρ : Pl} {H0 H : Hp} {σ : List (Option V)} {env : Env} {st : Sto} {α : Type} {m : Env → M (Option Int)} {f : Option Int → Sto → R α} {Qf : α → Sto → Prop} (n : Now X ρ0 H0 ρ H env σ st) (h : ((m env st).bind f).holds Qf (Er X ρ0 H0)) :
    tO X m σ H fun b H1 => ∃ ρ1 st1, Now X ρ0 H0 ρ1 H1 env σ st1 ∧ Ext ρ H ρ1 H1 ∧ (f b st1).holds Qf (Er X ρ0 H0) :=
  ⟨ρ, env, st, n.re, n.rs, holds_mono (holds_bind.mp h) (fun v st1 h1 ρ1 H1 e S => ⟨ρ1, st1, ⟨n.ext.trans e, n.re.ext e, S⟩, e, h1⟩) fun c v st1 h1 => h1.ext n.ext⟩
theorem o_none : PO X none (tO X fun _ => pure none) := po_none.imp fun σ H Q q => by
  obtain ⟨ρ, env, st, hE, hS, q⟩ := q
  exact q ρ H .refl hS
def partM (ma : Env → M D) : Env → M (Option Int) := fun env => do
  let x ← ma env
  some <$> intM x
theorem o_some (ha : PE X ea (tM X ma)) : PO X (some ea) (tO X (partM ma)) := (po_some ha).imp fun σ H Q q => by
  obtain ⟨ρ, env, st, hE, hS, q⟩ := q
  refine tM_mono (step (Now.start hE hS) (show ((ma env st).bind fun x st => ((intM x st).bind fun i st => .ok (some i) st)).holds (PostO X.K ρ H Q) (Er X ρ H) from q)) ?_
  rintro x H1 ⟨ρ1, st1, v, n1, rx, e1, q⟩
  cases rx with
  | ref _ => exact q.elim
  | p rx =>
    cases rx with
    | int i => exact ⟨i, rfl, q ρ1 H1 n1.ext n1.rs⟩
    | _ => exact q.elim
theorem cut_rel {K : PySem.W.Frag} {H : Hp} {ρ : Pl} {xs : List V} {ds : List P} (h : RPs K H ρ xs ds) (lo hi : Option Int) : RPs K H ρ (cutV xs lo hi) (cutP ds lo hi) := by
  unfold cutV cutP
  rw [h.length]
  exact (h.drop _).take _
def slcM (ma : Env → M D) (ml mh : Env → M (Option Int)) : Env → M D := fun env => do
  let x ← ma env
  let l ← ml env
  let h ← mh env
  let x ← vw x
  .p <$> need (slcP x l h)
theorem r_slc {lo hi : Option Expr} {p2 : Pos} {ml mh : Env → M (Option Int)} (ha : PE X ea (tM X ma)) (hl : PO X lo (tO X ml)) (hh : PO X hi (tO X mh)) : PE X (.Subscript ea (.Slice lo hi none p2) pos) (tR X (slcM ma ml mh)) := by
  refine (pe_slice (sl_list.or sl_tupA) ha hl hh).imp fun σ H Q q => ?_
  obtain ⟨ρ, env, st, hE, hS, q⟩ := q
  refine tM_mono (step (Now.start hE hS) (show ((ma env st).bind fun x st => ((ml env st).bind fun l st => ((mh env st).bind fun h st => ((vw x st).bind fun x st => ((need (slcP x l h) st).bind fun r st => .ok (.p r) st))))).holds (PostR X.K ρ H Q) (Er X ρ H) from q)) ?_
  rintro x H1 ⟨ρ1, st1, v, n1, rx, e1, q⟩
  refine tO_mono (stepO n1 q) ?_
  rintro l H2 ⟨ρ2, st2, n2, e2, q⟩
  refine tO_mono (stepO n2 q) ?_
  rintro h H3 ⟨ρ3, st3, n3, e3, q⟩
  obtain ⟨d, vd, q⟩ := seen q
  obtain ⟨r, er, q⟩ := needed q
  obtain ⟨r', e', q⟩ := q
  cases e'
  have fp := q ρ3 H3 n3.ext n3.rs
  have rv := ((rx.ext e2).ext e3).view n3.rs vd
  cases rv with
  | @lst a xs ds h1 rs =>
    cases er
    exact .inl ⟨_, _, rfl, h1.sq, fun p hn => fp H3 (Same.refl H3) _ p (cut_rel rs l h) hn⟩
  | @tup a xs ds h1 rs =>
    cases er
    refine .inr ⟨_, _, rfl, h1.sq, fun hw => ?_, fun _ p hn => ?_⟩
    · refine fp H3 (Same.refl H3) _ (.tup h1 ?_)
      have e5 : cutV xs l h = xs := by
        unfold cutV
        rw [hw.1, hw.2]
        simp
      have e6 := cut_rel rs l h
      rw [e5] at e6
      exact e6
    · have s2 := same_new (o := .tup (cutV xs l h)) hn
      exact fp _ s2 _ (.tup (.inl ⟨.inl upd_same, n3.rs.fresh hn⟩) ((cut_rel rs l h).ext (Ext.same s2)))
  | _ => cases er
theorem only_slc {ml mh : Env → M (Option Int)} : OnlyP (slcM ma ml mh) := by
  intro env st v st' h
  obtain ⟨_, _, _, h⟩ := ok_bind h
  obtain ⟨_, _, _, h⟩ := ok_bind h
  obtain ⟨_, _, _, h⟩ := ok_bind h
  obtain ⟨_, _, _, h⟩ := ok_bind h
  obtain ⟨_, _, _, h⟩ := ok_bind h
  cases h
  exact ⟨_, rfl⟩
def revM (ma : Env → M D) : Env → M D := fun env => do
  let x ← ma env
  let x ← vw x
  .p <$> need (revP x)
/-! ### built-in functions -/
variable {es : List Expr} {ml : Env → M (List D)}
def bifM (f : String) (ml : Env → M (List D)) : Env → M D := fun env => do
  let ds ← ml env
  let ds ← vws ds
  .p <$> need (bifP f ds)
theorem only_bif {f : String} : OnlyP (bifM f ml) := by
  intro env st v st' h
  obtain ⟨_, _, _, h⟩ := ok_bind h
  obtain ⟨_, _, _, h⟩ := ok_bind h
  obtain ⟨_, _, _, h⟩ := ok_bind h
  cases h
  exact ⟨_, rfl⟩
theorem bif_core {f : String} {σ : List (Option V)} {H : Hp} {Q : VK} (q : tR X (bifM f ml) σ H Q) : tCB (OnP X (bifP f)) (tL X ml) σ H Q := by
  obtain ⟨ρ, env, st, hE, hS, q⟩ := q
  refine tL_mono (stepL (Now.start hE hS) (show ((ml env st).bind fun ds st => ((vws ds st).bind fun ds st => ((need (bifP f ds) st).bind fun r st => .ok (.p r) st))).holds (PostR X.K ρ H Q) (Er X ρ H) from q)) ?_
  rintro xs H1 ⟨ρ1, st1, vs, n1, rs, e1, q⟩
  obtain ⟨qs, eq, q⟩ := seenL q
  obtain ⟨r, er, q⟩ := needed q
  obtain ⟨r', e', q⟩ := q
  cases e'
  exact ⟨ρ1, st1, qs, r, n1.rs, Views.rv n1.rs rs (vws_views eq), er, q ρ1 H1 n1.ext n1.rs⟩
theorem bif_names {f : String} (hf : f ∈ bifNames) : Str.ofString f ≠ ("__name__" : Str) ∧ (Str.ofString f == ("__debug__" : Str)) = false := by
  have h : f = "len" ∨ f = "tuple" ∨ f = "list" ∨ f = "int" ∨ f = "abs" ∨ f = "sum" ∨ f = "repr" ∨ f = "str" ∨ f = "min" ∨ f = "max" ∨ f = "sorted" ∨ f = "all" ∨ f = "any" := by simpa [bifNames] using hf
  rcases h with rfl | rfl | rfl | rfl | rfl | rfl | rfl | rfl | rfl | rfl | rfl | rfl | rfl <;> exact ⟨by decide, by decide⟩
theorem r_bif {f : String} {p : Pos} (hf : f ∈ bifNames) (hc : X.calm = true) (hgd : X.A.guards = some []) (hu : X.A.units + 128 < cLine) (hg : Gl X (Str.ofString f)) (hm : X.mg (Str.ofString f) = none) (h0 : es ≠ []) (hst : es.all notStar = true) (ha : PA X es (tL X ml)) :
    PE X (.Call (.Name (Str.ofString f) p) es [] pos) (tR X (bifM f ml)) := by
  cases es with
  | nil => exact absurd rfl h0
  | cons e es =>
    have pl : Plain X (e :: es) := plain_of hst
    obtain ⟨n1, n2⟩ := bif_names hf
    rcases bif_ok hf hc hgd hu with ⟨id, hv, hc⟩ | ⟨T, hv, hc⟩
    · exact (pe_callB hc hg hm hv ha n1 n2 (pl e (by simp) es) pl.tail.none).imp fun σ H Q q => bif_core q
    · exact (pe_callTy hc hg hm hv ha n1 n2 (pl e (by simp) es) pl.tail.none).imp fun σ H Q q => bif_core q
def isiM (t : String) (ma : Env → M D) : Env → M D := fun env => do
  let x ← ma env
  let x ← vw x
  pure (.p (.bool (isiP t x)))
theorem ty_names {t : String} (h : t ∈ tyNames) : bootBuiltins (Str.ofString t) = some (.type t) ∧ (Str.ofString t) ≠ ("__name__" : Str) ∧ (Str.ofString t == ("__debug__" : Str)) = false := by
  refine ⟨by simpa using List.all_eq_true.mp boot_ty t h, ?_⟩
  have h : t = "int" ∨ t = "bool" ∨ t = "str" ∨ t = "list" ∨ t = "tuple" ∨ t = "dict" := by simpa [tyNames] using h
  rcases h with rfl | rfl | rfl | rfl | rfl | rfl <;> exact ⟨by decide, by decide⟩
theorem r_isi {t : String} {p p2 : Pos} (ht : t ∈ tyNames) (hg : Gl X "isinstance") (hm : X.mg "isinstance" = none) (hg2 : Gl X (Str.ofString t)) (hm2 : X.mg (Str.ofString t) = none) (hst : notStar ea = true) (ha : PE X ea (tM X ma)) :
    PE X (.Call (.Name "isinstance" p) [ea, .Name (Str.ofString t) p2] [] pos) (tM X (isiM t ma)) := by
  obtain ⟨hv, n1, n2⟩ := ty_names ht
  have h2 : PE X (.Name (Str.ofString t) p2) (tC (.ty t)) := pe_bltn hg2 hm2 hv rfl n1 n2
  refine (pe_callB (isi_ok ht) hg hm (by decide +kernel) (pa_cons ha (pa_cons h2 pa_nil) (star_of hst _ _)) (by decide) (by decide) (star_of hst _ _) rfl).imp fun σ H Q q => ?_
  obtain ⟨ρ, env, st, hE, hS, q⟩ := q
  refine tM_mono (step (Now.start hE hS) (show ((ma env st).bind fun x st => ((vw x st).bind fun x st => .ok (.p (.bool (isiP t x))) st)).holds (Post X.K ρ H Q) (Er X ρ H) from q)) ?_
  rintro x H1 ⟨ρ1, st1, v, n1, rx, e1, q⟩
  obtain ⟨d, vd, q⟩ := seen q
  exact ⟨x, d, ρ1, st1, rfl, n1.rs, rx.view n1.rs vd, post_bl n1 q⟩
theorem post_int {ρ0 ρ1 : Pl} {H0 H1 : Hp} {σ : List (Option V)} {env : Env} {st1 : Sto} {b : Int} {Q : VK} (n : Now X ρ0 H0 ρ1 H1 env σ st1) (q : (R.ok (D.p (.int b)) st1).holds (Post X.K ρ0 H0 Q) (Er X ρ0 H0)) : Q (.int b) H1 := q ρ1 H1 _ n.ext n.rs (.p (.int b))
theorem rdk_len {K : PySem.W.Frag} {H : Hp} {ρ : Pl} : ∀ {vs : List (Key × V)} {kvs : List (Key × D)}, RDk K H ρ vs kvs → kvs.length = vs.length
  | _, _, .nil => rfl
  | _, _, .cons _ q => by simp [rdk_len q]
def lenHM (ma : Env → M D) : Env → M D := fun env => do
  let x ← ma env
  lenM x
theorem r_lenH {p : Pos} (hg : Gl X "len") (hm : X.mg "len" = none) (hst : notStar ea = true) (ha : PE X ea (tM X ma)) : PE X (.Call (.Name "len" p) [ea] [] pos) (tM X (lenHM ma)) := by
  have hc : CallR X (.builtin "len") (fun xs H Q => ∃ x m, xs = [x] ∧ (LenV X.K x H m ∨ ∃ a kvs, x = V.ref a ∧ Rd H a (.dK kvs) ∧ m = kvs.length) ∧ Q (.int (m : Nat)) H) := fun pins s σ H xs us Q I r h => by
    obtain ⟨x, m, rfl, hl, q⟩ := h
    rcases hl with hl | ⟨a, kvs, rfl, hd, rfl⟩
    · exact call_len pins s σ H _ us Q I r ⟨x, m, rfl, hl, q⟩
    · obtain ⟨u, rfl, ru⟩ := vals1 r
      cases ru
      exact d_len I hd fun t s' I' => ⟨.int kvs.length, H, I', ⟨t, rfl⟩, q⟩
  refine (pe_callB hc hg hm (by decide +kernel) (pa_cons ha pa_nil (star_of hst _ _)) (by decide) (by decide) (star_of hst _ _) rfl).imp fun σ H Q q => ?_
  obtain ⟨ρ, env, st, hE, hS, q⟩ := q
  refine tM_mono (step (Now.start hE hS) (show ((ma env st).bind fun x st => lenM x st).holds (Post X.K ρ H Q) (Er X ρ H) from q)) ?_
  rintro x H1 ⟨ρ1, st1, v, n1, rx, e1, q⟩
  cases v with
  | p d =>
    have q : ((need (bifP "len" [d]) st1).bind fun r st => .ok (.p r) st).holds (Post X.K ρ H Q) (Er X ρ H) := q
    obtain ⟨r, er, q⟩ := needed q
    have hd : ∃ n, r = .int n := by
      cases d <;> first | cases er; exact ⟨_, rfl⟩ | (have e2 : (if _ then _ else _) = some r := er; split at e2 <;> cases e2; exact ⟨_, rfl⟩) | cases er
    obtain ⟨n, rfl⟩ := hd
    obtain ⟨m, rfl, hl⟩ := seq_len (rx.view n1.rs rfl) er
    exact ⟨x, m, rfl, .inl hl, post_int n1 q⟩
  | ref l =>
    cases rx with
    | @ref a _ h =>
      cases o : st1[l]? with
      | none =>
        have q : (match st1[l]? with | some (.lst xs) => (.ok (.p (.int xs.length)) st1 : R D) | some (.dct _ kvs) => .ok (.p (.int kvs.length)) st1 | _ => .bad).holds (Post X.K ρ H Q) (Er X ρ H) := q
        rw [o] at q
        exact q.elim
      | some o' =>
        have q : (match st1[l]? with | some (.lst xs) => (.ok (.p (.int xs.length)) st1 : R D) | some (.dct _ kvs) => .ok (.p (.int kvs.length)) st1 | _ => .bad).holds (Post X.K ρ H Q) (Er X ρ H) := q
        rw [o] at q
        cases o' with
        | tup _ => exact q.elim
        | lst xs =>
          obtain ⟨⟨vs, r1, r2⟩, _⟩ := n1.rs.ob l a _ h o
          exact ⟨.ref a, xs.length, rfl, .inl (.inl ⟨vs, (show LsV X.K H1 a vs from .inl (.inl r1)).sq, r2.length.symm⟩), post_int n1 q⟩
        | dct w kvs =>
          obtain ⟨⟨vs, r1, r2⟩, _⟩ := n1.rs.ob l a _ h o
          exact ⟨.ref a, kvs.length, rfl, .inr ⟨a, vs, rfl, r1.rd, rdk_len r2⟩, post_int n1 q⟩
/-! ### methods -/
def mthMM (m : String) (ma : Env → M D) (ml : Env → M (List D)) : Env → M D := fun env => do
  let x ← ma env
  kindM x
  let ds ← ml env
  let ds ← onlyPs ds
  mthM m x ds
theorem super_of {e : Expr} (h : noSuper e = true) (m : Str) (env : PySem.Env) : attributeBase e m env (eval e env) = eval e env := by
  unfold noSuper at h
  split at h
  · cases h
  · rename_i hn
    unfold attributeBase
    split
    · rename_i x p q
      exact absurd rfl (hn x p q)
    · rfl
end
end PB
set_option maxRecDepth 100000
set_option maxHeartbeats 2000000
/-! Pb, part 15: methods of lists, displays of dicts. -/
namespace PB
open PySem PySem.Spec PyProof.Rows L2
section
variable {X : Cx} {c : Cfg} {ea eb : Expr} {ma mb : Env → M D} {pos : Pos} {es : List Expr} {ml : Env → M (List D)}
theorem Plain.all {pos : Pos} : ∀ {es : List Expr}, Plain X es → (backTo pos (starEach es X.env)).all (fun x => !x.1) = true
  | [], _ => rfl
  | e :: es, h => by
    rw [h e (by simp) es]
    show (!false && (backTo pos (starEach es X.env)).all (fun x => !x.1)) = true
    rw [Plain.all h.tail]
    rfl
theorem few_of {pos : Pos} (h : Plain X es) (hl : es.length < 20) : ((backTo pos (starEach es X.env)).all (fun x => !x.1) && (backToKw pos (keywordEach [] X.env)).all (fun x => x.1.isSome)
      && decide (es.length + ([] : List Keyword).length + (if ([] : List Keyword).isEmpty then 0 else 1) < 30)) = true := by
  rw [h.all]
  have : decide (es.length + ([] : List Keyword).length + (if ([] : List Keyword).isEmpty then 0 else 1) < 30) = true := decide_eq_true (by simp; omega)
  rw [this]
  rfl
theorem RDs.getLast {K : PySem.W.Frag} {H : Hp} {ρ : Pl} {xs : List V} {ds : List D} {d : D} (h : RDs K H ρ xs ds) (e : ds.getLast? = some d) : ∃ x, xs[xs.length - 1]? = some x ∧ RD K H ρ x d := by
  rw [List.getLast?_eq_getElem?] at e
  rw [h.length]
  exact h.get e
theorem RDs.takeD {K : PySem.W.Frag} {H : Hp} {ρ : Pl} : ∀ {xs : List V} {ds : List D}, RDs K H ρ xs ds → ∀ n, RDs K H ρ (xs.take n) (ds.take n)
  | _, _, .nil, n => by simp; exact .nil
  | _, _, .cons a r, 0 => by simp; exact .nil
  | _, _, .cons a r, n + 1 => by simp; exact .cons a (RDs.takeD r n)
theorem RDs.dropD {K : PySem.W.Frag} {H : Hp} {ρ : Pl} : ∀ {xs : List V} {ds : List D}, RDs K H ρ xs ds → ∀ n, RDs K H ρ (xs.drop n) (ds.drop n)
  | _, _, .nil, n => by simp; exact .nil
  | _, _, .cons a r, 0 => by simp; exact .cons a r
  | _, _, .cons a r, n + 1 => by simp; exact RDs.dropD r n
theorem mem_below {n : Nat} {ds : List D} (h : ∀ d ∈ ds, d.below n) {es : List D} (s : ∀ d ∈ es, d ∈ ds ∨ ∃ p, d = .p p) : ∀ d ∈ es, d.below n := fun d hd => (s d hd).elim (h d) fun ⟨p, e⟩ => e ▸ trivial
/-- a list of the store becomes another -/
theorem put_list {K : PySem.W.Frag} {H : Hp} {ρ : Pl} {st : Sto} {l : Nat} {a : Addr} {vs ws : List V} {es : List D} (S : RS K H ρ st) (hl : ρ.l[l]? = some a) (e : H a = some (.lst vs)) (r : RDs K (upd H a (.lst ws)) ρ ws es) (b : ∀ d ∈ es, d.below l) :
    RS K (upd H a (.lst ws)) ρ (st.set l (.lst es)) := S.put hl e ⟨ws, upd_same, r⟩ b
/-- l.extend(a list of any kind) -/
def rExtendA (K : PySem.W.Frag) : V → List V → Hp → VK → Prop := fun x vs H Q => ∃ l b xs zs, x = .ref l ∧ vs = [.ref b] ∧ H l = some (.lst xs) ∧ LsV K H b zs ∧ xs.length + zs.length ≤ sizeLine ∧ Q .non (upd H l (.lst (xs ++ zs)))
theorem mt_extendA : MtM X "list.extend" (rExtendA X.K) := by
  intro pins s σ H x vs v us Q I rx rv h
  obtain ⟨l, b, xs, zs, rfl, rfl, hH, hB, hz, q⟩ := h
  cases rx
  obtain ⟨u, rfl, ru⟩ := rv.one
  cases ru
  obtain ⟨z, its, n, r, hl, e⟩ := I.lstM hH
  obtain ⟨its2, n2, r2, hl2, e2⟩ : ∃ (its2 : List Value) (n2 : Nat), Vals zs its2 ∧ zs.length = its2.length ∧ s.heap.get? b = some { cls := .type "list", data := .seq its2.toArray n2 } := by
    rcases hB with h | ⟨its2, n2, h1, h2, h3⟩
    · obtain ⟨_, its2, n2, r2, e2⟩ := h.ok I.hok
      exact ⟨its2, n2, r2, r2.length, e2⟩
    · exact ⟨its2, n2, h2, h2.length, I.kIn _ _ h1⟩
  have hsz : its.toArray.size + its2.toArray.size ≤ sizeLine := by rw [List.size_toArray, List.size_toArray]; omega
  have hlong : ¬ (!its.toArray.isEmpty && Builtin.List.listTooLong (its.toArray.size + its2.toArray.size)) = true := by
    rw [notLongL hsz, Bool.and_false]
    exact Bool.false_ne_true
  refine call_meets PySem.F.slot_list_extend ⟨_, e, rfl⟩ PySem.F.entry_list_extend (PySem.F.args_list_extend_2 _ _)
    (AutoSeq1.list_extend_list_list_0 l its.toArray n b its2.toArray n2 hlong (by rw [List.size_toArray]; omega) (by omega)) ⟨e, e2, ?_⟩
  refine ⟨.non, _, I.lset (its' := its ++ its2) hH e (by simp) (r.append r2) ?_, rfl, q⟩
  rw [List.length_append]
  omega
theorem mthOk_of {m : String} {es : List Expr} (h : mthOk m es.length = true) : (m = "append" ∧ ∃ e, es = [e]) ∨ (m = "pop" ∧ es = []) ∨ (m = "pop" ∧ ∃ e, es = [e]) ∨ (m = "extend" ∧ ∃ e, es = [e]) ∨ (m = "insert" ∧ ∃ e f, es = [e, f]) := by
  unfold mthOk at h
  simp only [Bool.or_eq_true, Bool.and_eq_true, beq_iff_eq] at h
  match es, h with
  | [], h => simp at h; exact .inr (.inl ⟨h, rfl⟩)
  | [e], h =>
    simp at h
    rcases h with (h | h) | h
    · exact .inl ⟨h, e, rfl⟩
    · exact .inr (.inr (.inl ⟨h, e, rfl⟩))
    · exact .inr (.inr (.inr (.inl ⟨h, e, rfl⟩)))
  | [e, f], h => simp at h; exact .inr (.inr (.inr (.inr ⟨h, e, f, rfl⟩)))
  | _ :: _ :: _ :: _, h => simp at h
theorem r_mth {m : String} {apos : Pos} (ha : PE X ea (tM X ma)) (hl : PA X es (tL X ml)) (hst : es.all notStar = true) (hsup : noSuper ea = true) (hline : (apos.endLine == pos.line) = true) (hfew : es.length < 20) (hmo : mthOk m es.length = true)
    (hlen : ∀ env st ds st', ml env st = .ok ds st' → ds.length = es.length) (h0 : es = [] → ∀ env st, ml env st = .ok [] st) : PE X (.Call (.Attribute ea (Str.ofString m) apos) es [] pos) (tM X (mthMM m ma ml)) := by
  refine ⟨fun pins s σ H Q I q => ?_⟩
  obtain ⟨ρ, env, st, hE, hS, q⟩ := q
  have q : ((ma env st).bind fun x st => ((kindM x st).bind fun _ st => ((ml env st).bind fun ds st => ((onlyPs ds st).bind fun ds st => mthM m x ds st)))).holds (Post X.K ρ H Q) (Er X ρ H) := q
  have base := super_of hsup (Str.ofString m) X.env
  have pl : Plain X es := plain_of hst
  have rule : es ≠ [] → ∃ r, PE X (.Call (.Attribute ea (Str.ofString m) apos) es [] pos) (tBM X.K "list" r (tM X ma) (tL X ml)) := by
    intro ne
    rcases mthOk_of hmo with ⟨rfl, e, rfl⟩ | ⟨rfl, rfl⟩ | ⟨rfl, e, rfl⟩ | ⟨rfl, e, rfl⟩ | ⟨rfl, e, f, rfl⟩
    · exact ⟨_, pe_bm (T := "list") (id := "list.append") PySem.F.plainAttrs_list PySem.F.slot_list_append type_list_append mt_append ha hl base (few_of pl hfew) hline (pl e (by simp) []) rfl⟩
    · exact absurd rfl ne
    · exact ⟨_, pe_bm (T := "list") (id := "list.pop") PySem.F.plainAttrs_list PySem.F.slot_list_pop PySem.F.type_list_pop mt_popAt ha hl base (few_of pl hfew) hline (pl e (by simp) []) rfl⟩
    · exact ⟨_, pe_bm (T := "list") (id := "list.extend") PySem.F.plainAttrs_list PySem.F.slot_list_extend PySem.F.type_list_extend mt_extendA ha hl base (few_of pl hfew) hline (pl e (by simp) []) rfl⟩
    · exact ⟨_, pe_bm (T := "list") (id := "list.insert") PySem.F.plainAttrs_list PySem.F.slot_list_insert PySem.F.type_list_insert mt_insert ha hl base (few_of pl hfew) hline (pl e (by simp) [f]) (by
        have := Plain.all (pos := pos) pl.tail
        simpa using this)⟩
  cases e0 : ma env st with
  | bad => rw [e0] at q; exact q.elim
  | err _ _ _ =>
    rw [e0] at q
    by_cases ne : es = []
    · subst ne
      rcases mthOk_of hmo with ⟨rfl, e, h⟩ | ⟨rfl, _⟩ | ⟨rfl, e, h⟩ | ⟨rfl, e, h⟩ | ⟨rfl, e, f, h⟩
      · cases h
      · exact (pe_bm0 (T := "list") (id := "list.pop") PySem.F.plainAttrs_list PySem.F.slot_list_pop PySem.F.type_list_pop mt_pop ha base hline).run pins s σ H Q I (tM_err hE hS e0 q)
      · cases h
      · cases h
      · cases h
    · obtain ⟨r, h⟩ := rule ne
      exact h.run pins s σ H Q I (tM_err hE hS e0 q)
  | ok v st1 =>
    rw [e0] at q
    have q : ((kindM v st1).bind fun _ st => ((ml env st).bind fun ds st => ((onlyPs ds st).bind fun ds st => mthM m v ds st))).holds (Post X.K ρ H Q) (Er X ρ H) := q
    cases v with
    | p d =>
      exact q.elim
    | ref l =>
      have q : (((getO l st1).bind fun o st => (if isLst o = true then pure () else stop : M Unit) st).bind fun _ st => ((ml env st).bind fun ds st => ((onlyPs ds st).bind fun ds st => mthM m (.ref l) ds st))).holds (Post X.K ρ H Q) (Er X ρ H) := q
      unfold getO at q
      cases eo : st1[l]? with
      | none => rw [eo] at q; exact q.elim
      | some o =>
        rw [eo] at q
        cases o with
        | dct _ _ => exact q.elim
        | tup _ => exact q.elim
        | lst xs0 =>
          have q : ((ml env st1).bind fun ds st => ((onlyPs ds st).bind fun ds st => mthM m (.ref l) ds st)).holds (Post X.K ρ H Q) (Er X ρ H) := q
          have ty1 : ∀ {ρ1 H1 x}, RS X.K H1 ρ1 st1 → RD X.K H1 ρ1 x (.ref l) → tyV X.K "list" x H1 := by
            intro ρ1 H1 x S1 r1
            cases r1 with
            | ref hl1 =>
              obtain ⟨⟨vs, h1, _⟩, _⟩ := S1.ob l _ _ hl1 eo
              exact .inl ⟨rfl, vs, SqL.of h1⟩
          cases e1 : ml env st1 with
          | bad => rw [e1] at q; exact q.elim
          | err _ _ _ =>
            rw [e1] at q
            by_cases ne : es = []
            · have e1' := h0 ne env st1
              rw [e1] at e1'
              cases e1'
            · obtain ⟨r, h⟩ := rule ne
              refine h.run pins s σ H Q I ⟨ρ, env, st, hE, hS, ?_⟩
              rw [e0]
              intro ρ1 H1 x ex1 S1 r1
              exact ⟨ty1 S1 r1, tL_err (hE.ext ex1) S1 e1 (q.ext ex1)⟩
          | ok ws st2 =>
            rw [e1] at q
            obtain ⟨ds, ew, q2⟩ := onlyPs_holds (show ((onlyPs ws st2).bind fun ds st => mthM m (.ref l) ds st).holds (Post X.K ρ H Q) (Er X ρ H) from q)
            clear q
            subst ew
            have hll := hlen _ _ _ _ e1
            have q : ((getO l st2).bind fun o st => mthO m l o ds st).holds (Post X.K ρ H Q) (Er X ρ H) := q2
            clear q2
            unfold getO at q
            cases eo2 : st2[l]? with
            | none => rw [eo2] at q; exact q.elim
            | some o =>
              rw [eo2] at q
              cases o with
              | dct _ _ => exact q.elim
              | tup _ => exact q.elim
              | lst xs =>
                have q : (mthL m l xs ds st2).holds (Post X.K ρ H Q) (Er X ρ H) := q
                match ds, es, hll, q with
                | [], [], _, q =>
                  unfold mthL at q
                  dsimp only at q
                  split at q
                  · rename_i em
                    rw [em] at base ⊢
                    cases eg : xs.getLast? with
                    | none => rw [eg] at q; exact q.elim
                    | some d =>
                      rw [eg] at q
                      have q : Post X.K ρ H Q d (st2.set l (.lst xs.dropLast)) := q
                      have e1' := h0 rfl env st1
                      rw [e1] at e1'
                      cases e1'
                      refine (pe_bm0 (T := "list") (id := "list.pop") PySem.F.plainAttrs_list PySem.F.slot_list_pop PySem.F.type_list_pop mt_pop ha base hline).run pins s σ H Q I ⟨ρ, env, st, hE, hS, ?_⟩
                      rw [e0]
                      intro ρ1 H1 x ex1 S1 r1
                      refine ⟨ty1 S1 r1, ?_⟩
                      cases r1 with
                      | @ref a _ hl1 =>
                        obtain ⟨⟨vs, h1, h2⟩, hb⟩ := S1.ob l _ _ hl1 eo2
                        obtain ⟨y, hy, ry⟩ := h2.getLast eg
                        refine ⟨_, vs, y, rfl, rfl, h1, hy, ?_⟩
                        have e5 : Ext ρ1 H1 ρ1 (upd H1 a (.lst vs.dropLast)) := ext_put (List.mem_of_getElem? hl1) h1
                        exact q ρ1 _ y (ex1.trans e5) (put_list S1 hl1 h1 (h2.dropLast.ext e5) (mem_below hb fun d hd => .inl (List.dropLast_subset _ hd))) (ry.ext e5)
                  · exact q.elim
                | [a], [e], _, q =>
                  unfold mthL at q
                  dsimp only at q
                  have two : ∀ {r : V → List V → Hp → VK → Prop}, PE X (.Call (.Attribute ea (Str.ofString m) apos) [e] [] pos) (tBM X.K "list" r (tM X ma) (tL X ml)) →
                      (∀ ρ2 H2 x xs0, Ext ρ H ρ2 H2 → RS X.K H2 ρ2 st2 → RD X.K H2 ρ2 x (.ref l) → RP X.K H2 ρ2 xs0 a → r x [xs0] H2 Q) → wpAny (model X.prog X.w) X.A (eval (.Call (.Attribute ea (Str.ofString m) apos) [e] [] pos) X.env) (EP X pins σ Q) X.xe s := by
                    intro r pe z
                    refine pe.run pins s σ H Q I ⟨ρ, env, st, hE, hS, ?_⟩
                    rw [e0]
                    intro ρ1 H1 x ex1 S1 r1
                    refine ⟨ty1 S1 r1, ρ1, env, st1, hE.ext ex1, S1, ?_⟩
                    rw [e1]
                    intro ρ2 H2 xs2 ex2 S2 r2
                    cases r2 with
                    | cons ra rr =>
                      cases rr
                      cases ra with
                      | p ra => exact z ρ2 H2 x _ (ex1.trans ex2) S2 (r1.ext ex2) ra
                  split at q
                  · rename_i em
                    rw [em] at base two ⊢
                    split at q
                    · rename_i hlt
                      have q : Post X.K ρ H Q (.p .none) (st2.set l (.lst (xs ++ [.p a]))) := q
                      refine two (pe_bm (T := "list") (id := "list.append") PySem.F.plainAttrs_list PySem.F.slot_list_append type_list_append mt_append ha hl base (few_of pl hfew) hline (pl e (by simp) []) rfl) fun ρ2 H2 x y ex S r ry => ?_
                      cases r with
                      | @ref b _ hl1 =>
                        obtain ⟨⟨vs, h1, h2⟩, hb⟩ := S.ob l _ _ hl1 eo2
                        refine ⟨_, vs, y, rfl, rfl, h1, by rw [h2.length]; exact hlt, ?_⟩
                        have e5 : Ext ρ2 H2 ρ2 (upd H2 b (.lst (vs ++ [y]))) := ext_put (List.mem_of_getElem? hl1) h1
                        refine q ρ2 _ .non (ex.trans e5) (put_list S hl1 h1 ((h2.append (.cons (.p ry) .nil)).ext e5) (mem_below hb fun d hd => ?_)) (.p .non)
                        rcases List.mem_append.mp hd with hd | hd
                        · exact .inl hd
                        · exact .inr ⟨a, List.mem_singleton.mp hd⟩
                    · exact q.elim
                  · split at q
                    · rename_i em
                      rw [em] at base two ⊢
                      cases a with
                      | int i =>
                        dsimp only at q
                        split at q
                        · rename_i hb63
                          have q : ((need (ixN xs.length i) st2).bind fun k st => ((need xs[k]? st).bind fun d st => R.ok d (st.set l (.lst (xs.eraseIdx k))))).holds (Post X.K ρ H Q) (Er X ρ H) := q
                          obtain ⟨k, ek, q⟩ := needed q
                          obtain ⟨d, ed, q⟩ := needed q
                          have q : Post X.K ρ H Q d (st2.set l (.lst (xs.eraseIdx k))) := q
                          refine two (pe_bm (T := "list") (id := "list.pop") PySem.F.plainAttrs_list PySem.F.slot_list_pop PySem.F.type_list_pop mt_popAt ha hl base (few_of pl hfew) hline (pl e (by simp) []) rfl) fun ρ2 H2 x y ex S r ry => ?_
                          cases ry
                          cases r with
                          | @ref b _ hl1 =>
                            obtain ⟨⟨vs, h1, h2⟩, hb⟩ := S.ob l _ _ hl1 eo2
                            obtain ⟨y, hy, ry⟩ := h2.get ed
                            refine ⟨_, vs, i, k, y, rfl, rfl, h1, hb63.1, hb63.2, by rw [h2.length]; exact (ixN_seq ek).1, hy, ?_⟩
                            have e5 : Ext ρ2 H2 ρ2 (upd H2 b (.lst (vs.eraseIdx k))) := ext_put (List.mem_of_getElem? hl1) h1
                            exact q ρ2 _ y (ex.trans e5) (put_list S hl1 h1 ((h2.eraseIdx k).ext e5) (mem_below hb fun d hd => .inl (List.mem_of_mem_eraseIdx hd))) (ry.ext e5)
                        · exact q.elim
                      | _ => exact q.elim
                    · split at q
                      · rename_i em
                        rw [em] at base two ⊢
                        cases a with
                        | list ds =>
                          dsimp only at q
                          split at q
                          · rename_i hlt
                            have q : Post X.K ρ H Q (.p .none) (st2.set l (.lst (xs ++ ds.map .p))) := q
                            refine two (pe_bm (T := "list") (id := "list.extend") PySem.F.plainAttrs_list PySem.F.slot_list_extend PySem.F.type_list_extend mt_extendA ha hl base (few_of pl hfew) hline (pl e (by simp) []) rfl) fun ρ2 H2 x y ex S r ry => ?_
                            cases ry with
                            | @lst b2 ws _ hls rs =>
                              cases r with
                              | @ref b _ hl1 =>
                                obtain ⟨⟨vs, h1, h2⟩, hb⟩ := S.ob l _ _ hl1 eo2
                                refine ⟨_, b2, vs, ws, rfl, rfl, h1, hls.lsv, by rw [h2.length, rs.length]; exact hlt, ?_⟩
                                have e5 : Ext ρ2 H2 ρ2 (upd H2 b (.lst (vs ++ ws))) := ext_put (List.mem_of_getElem? hl1) h1
                                refine q ρ2 _ .non (ex.trans e5) (put_list S hl1 h1 ((h2.append (RDs.ofP rs)).ext e5) (mem_below hb fun d hd => ?_)) (.p .non)
                                rcases List.mem_append.mp hd with hd | hd
                                · exact .inl hd
                                · obtain ⟨p, _, rfl⟩ := List.mem_map.mp hd
                                  exact .inr ⟨p, rfl⟩
                          · exact q.elim
                        | _ => exact q.elim
                      · exact q.elim
                | [], _ :: _, h, _ => cases h
                | [_], [], h, _ => cases h
                | [_], _ :: _ :: _, h, _ => simp at h
                | [a, b], [e, e2], _, q =>
                  unfold mthL at q
                  dsimp only at q
                  split at q
                  · rename_i em
                    rw [em] at base ⊢
                    cases a with
                    | int i =>
                      dsimp only at q
                      split at q
                      · rename_i hh
                        have q : Post X.K ρ H Q (.p .none) (st2.set l (.lst (xs.take i.toNat ++ [.p b] ++ xs.drop i.toNat))) := q
                        have pany : ((backTo pos (starEach [e2] X.env)).any fun x => x.1) = false := by
                          have := Plain.all (pos := pos) pl.tail
                          simpa using this
                        refine (pe_bm (T := "list") (id := "list.insert") PySem.F.plainAttrs_list PySem.F.slot_list_insert PySem.F.type_list_insert mt_insert ha hl base (few_of pl hfew) hline (pl e (by simp) [e2]) pany).run pins s σ H Q I ⟨ρ, env, st, hE, hS, ?_⟩
                        rw [e0]
                        intro ρ1 H1 x ex1 S1 r1
                        refine ⟨ty1 S1 r1, ρ1, env, st1, hE.ext ex1, S1, ?_⟩
                        rw [e1]
                        intro ρ2 H2 xs2 ex2 S2 r2
                        have r1' := r1.ext ex2
                        cases r2 with
                        | cons ra rr =>
                          cases rr with
                          | @cons y _ _ _ rb rr =>
                            cases rr
                            cases ra with
                            | p ra =>
                              cases rb with
                              | p rb =>
                                cases ra
                                cases r1' with
                                | @ref b1 _ hl1 =>
                                  obtain ⟨⟨vs, h1, h2⟩, hb⟩ := S2.ob l _ _ hl1 eo2
                                  refine ⟨_, vs, i, y, rfl, rfl, h1, by rw [h2.length]; exact hh.2.2, hh.1, hh.2.1, ?_⟩
                                  have e5 : Ext ρ2 H2 ρ2 (upd H2 b1 (.lst (vs.take i.toNat ++ [y] ++ vs.drop i.toNat))) := ext_put (List.mem_of_getElem? hl1) h1
                                  refine q ρ2 _ .non ((ex1.trans ex2).trans e5) (put_list S2 hl1 h1 ((((h2.takeD i.toNat).append (.cons (.p rb) .nil)).append (h2.dropD i.toNat)).ext e5) (mem_below hb fun d hd => ?_)) (.p .non)
                                  rcases List.mem_append.mp hd with hd | hd
                                  · rcases List.mem_append.mp hd with hd | hd
                                    · exact .inl (List.mem_of_mem_take hd)
                                    · exact .inr ⟨b, List.mem_singleton.mp hd⟩
                                  · exact .inl (List.mem_of_mem_drop hd)
                      · exact q.elim
                    | _ => exact q.elim
                  · exact q.elim
                | [_, _], [], h, _ => cases h
                | [_, _], [_], h, _ => simp at h
                | [_, _], _ :: _ :: _ :: _, h, _ => simp at h
                | _ :: _ :: _ :: _, es', h, q => exact q.elim
end
end PB
set_option maxRecDepth 100000
set_option maxHeartbeats 2000000
/-! Pb, part 16: targets; comprehensions. -/
namespace PB
open PySem PySem.Spec PyProof.Rows L2
/-! ### slots -/
section
variable {K : PySem.W.Frag} {ρ ρ' : Pl} {H H' : Hp} {env : Env} {σ : List (Option V)}
theorem RE.set {i : Nat} {v : V} {d : D} (h : RE K H ρ env σ) (r : RD K H ρ v d) : RE K H ρ (env.set i (some d)) (σ.set i (some v)) := by
  refine ⟨by simp [h.len], fun j e q => ?_⟩
  by_cases hj : i = j
  · subst hj
    by_cases hi : i < env.length
    · rw [List.getElem?_set_self hi] at q
      cases q
      exact ⟨v, by rw [List.getElem?_set_self (by rw [← h.len]; exact hi)], r⟩
    · rw [List.getElem?_eq_none (by simpa using hi)] at q
      cases q
  · rw [List.getElem?_set_ne hj] at q ⊢
    exact h.sl j e q
theorem RE.unset {i : Nat} (h : RE K H ρ env σ) : RE K H ρ (env.set i none) (σ.set i none) := by
  refine ⟨by simp [h.len], fun j e q => ?_⟩
  by_cases hj : i = j
  · subst hj
    by_cases hi : i < env.length
    · rw [List.getElem?_set_self hi] at q
      cases q
    · rw [List.getElem?_eq_none (by simpa using hi)] at q
      cases q
  · rw [List.getElem?_set_ne hj] at q ⊢
    exact h.sl j e q
theorem RE.wipe (h : RE K H ρ env σ) : ∀ vs : List Nat, RE K H ρ (wipeE env vs) (L2.wipe σ vs)
  | [] => h
  | v :: vs => (RE.wipe h vs).unset
/-- alike but for some slots -/
def But' (vs : List Nat) (σ σ' : List (Option V)) : Prop := σ'.length = σ.length ∧ ∀ i, i ∉ vs → σ'[i]? = σ[i]?
theorem But'.refl (vs : List Nat) : But' vs σ σ := ⟨rfl, fun _ _ => rfl⟩
theorem But'.set {vs : List Nat} {i : Nat} {x : Option V} (h : i ∈ vs) : But' vs σ (σ.set i x) := ⟨by simp, fun j hj => List.getElem?_set_ne (fun e => hj (by rw [← e]; exact h))⟩
theorem But'.trans {vs : List Nat} {σ' σ'' : List (Option V)} (h : But' vs σ σ') (h' : But' vs σ' σ'') : But' vs σ σ'' := ⟨h'.1.trans h.1, fun i hi => (h'.2 i hi).trans (h.2 i hi)⟩
theorem But'.mono {vs ws : List Nat} {σ' : List (Option V)} (h : But' vs σ σ') (s : ∀ i ∈ vs, i ∈ ws) : But' ws σ σ' := ⟨h.1, fun i hi => h.2 i fun z => hi (s i z)⟩
theorem wipe_get {i : Nat} : ∀ {vs : List Nat}, (L2.wipe σ vs)[i]? = if i ∈ vs then (if i < σ.length then some none else none) else σ[i]?
  | [] => by simp [L2.wipe]
  | v :: vs => by
    unfold L2.wipe
    by_cases h : v = i
    · subst h
      by_cases hv : v < σ.length
      · rw [List.getElem?_set_self (by rw [wipe_length]; exact hv)]; simp [hv]
      · rw [List.getElem?_eq_none (by rw [List.length_set, wipe_length]; omega)]; simp [hv]
    · rw [List.getElem?_set_ne h, wipe_get (vs := vs)]
      have e : (i ∈ v :: vs) ↔ (i ∈ vs) := by simp [Ne.symm h]
      by_cases hv : i ∈ vs
      · rw [if_pos hv, if_pos (e.mpr hv)]
      · rw [if_neg hv, if_neg (fun z => hv (e.mp z))]
theorem But'.wipe {vs : List Nat} {σ' : List (Option V)} (h : But' vs σ σ') : L2.wipe σ' vs = L2.wipe σ vs := by
  apply List.ext_getElem?
  intro i
  rw [wipe_get, wipe_get, h.1]
  by_cases hi : i ∈ vs
  · rw [if_pos hi, if_pos hi]
  · rw [if_neg hi, if_neg hi, h.2 i hi]
theorem wipe_wipe {vs : List Nat} : But' vs σ (L2.wipe σ vs) := ⟨wipe_length σ vs, fun i hi => by rw [wipe_get, if_neg hi]⟩
end
/-! ### targets -/
def gT (X : Cx) (tg : Tg) : TG := fun v σ H Q => ∃ ρ env st d env', RE X.K H ρ env σ ∧ RS X.K H ρ st ∧ RD X.K H ρ v d ∧ asgD tg d env = some env' ∧ ∀ σ', RE X.K H ρ env' σ' → But' tg.slots σ σ' → Q σ' H
def gP (X : Cx) (tg : Tg) : TG := fun v σ H Q => ∃ ρ env st d env', RE X.K H ρ env σ ∧ RS X.K H ρ st ∧ RP X.K H ρ v d ∧ asgP tg d env = some env' ∧ ∀ σ', RE X.K H ρ env' σ' → But' tg.slots σ σ' → Q σ' H
def gPs (X : Cx) (l : List Tg) : TGs := fun vs σ H Q => ∃ ρ env st ds env', RE X.K H ρ env σ ∧ RS X.K H ρ st ∧ RPs X.K H ρ vs ds ∧ asgPs l ds env = some env' ∧ ∀ σ', RE X.K H ρ env' σ' → But' (Tg.slots.slotsL l) σ σ' → Q σ' H
theorem _root_.L2.PG.imp {X : Cx} {e : Expr} {t t' : TG} (h : PG X e t) (q : ∀ v σ H Q, t' v σ H Q → t v σ H Q) : PG X e t' := ⟨fun pins s σ H v u Q I r z => h.run pins s σ H v u Q I r (q v σ H Q z)⟩
theorem _root_.L2.PGs.imp {X : Cx} {e : List Expr} {t t' : TGs} (h : PGs X e t) (q : ∀ v σ H Q, t' v σ H Q → t v σ H Q) : PGs X e t' := ⟨fun pins s σ H v u Q I r z => h.run pins s σ H v u Q I r (q v σ H Q z)⟩
section
variable {X : Cx} {c : Cfg} {G : List (String × P)} {N : List Str} {sc : Scope} {fn : Str → Bool} {k : Nat}
theorem slots_one {i : Nat} : (Tg.one i).slots = [i] := by simp [Tg.slots]
theorem slots_tup {l : List Tg} : (Tg.tup l).slots = Tg.slots.slotsL l := by simp [Tg.slots]
theorem slots_cons {t : Tg} {l : List Tg} : Tg.slots.slotsL (t :: l) = t.slots ++ Tg.slots.slotsL l := by simp [Tg.slots.slotsL]
theorem tg_name (C : Ctx X c G N sc fn k) {i : Nat} {y : Str} {pos : Pos} (h : (decide (N[i]? = some y) && locB sc y && (fn y || (sc.names.lookup y == some .local))) = true) : PG X (.Name y pos) (gName i) := by
  simp only [Bool.and_eq_true, decide_eq_true_eq, Bool.or_eq_true, beq_iff_eq] at h
  obtain ⟨⟨h1, h2⟩, h3⟩ := h
  exact pg_name (by rw [C.hN]; exact C.nd) (by rw [C.hN]; exact h1) (loc_of C h2) (h3.imp (C.hfn y) fun z => by rw [C.hsc]; exact z)
theorem asgPs_same : ∀ {l : List Tg} {ds : List P} {env env' : Env}, asgPs l ds env = some env' → l.length = ds.length
  | [], [], _, _, _ => rfl
  | [], _ :: _, _, _, h => by unfold asgPs at h; cases h
  | _ :: _, [], _, _, h => by unfold asgPs at h; cases h
  | t :: l, d :: ds, env, env', h => by
    unfold asgPs at h
    cases e : asgP t d env with
    | none => rw [e] at h; cases h
    | some e1 => rw [e] at h; simp [asgPs_same h]
theorem asg_each {t : Tg} {e : Expr} (h : chkTg N sc fn t e = true) (es : List Expr) (env : PySem.Env) : assignEach (e :: es) env = (false, assign e env) :: assignEach es env := by
  cases e <;> first | rfl | (cases t <;> (unfold chkTg at h; cases h))
mutual
theorem pg_ok (C : Ctx X c G N sc fn k) : ∀ (t : Tg) (e : Expr), chkTg N sc fn t e = true → PG X e (gP X t)
  | .one i, e, h => by
    cases e with
    | Name y pos =>
      refine (tg_name C (by unfold chkTg at h; exact h)).imp fun v σ H Q q => ?_
      obtain ⟨ρ, env, st, d, env', hE, hS, r, e, q⟩ := q
      unfold asgP at e
      split at e
      · cases e
        exact q _ (hE.set (.p r)) (But'.set (by rw [slots_one]; simp))
      · cases e
    | _ => unfold chkTg at h; cases h
  | .tup l, e, h => by
    cases e with
    | Tuple es k2 pos =>
      have h : chkTgs N sc fn l es = true := by unfold chkTg at h; exact h
      obtain ⟨n1, n2, n3⟩ := pgs_ok C l es h
      refine (pg_tup C.calm n1 rfl n3).imp fun v σ H Q q => ?_
      obtain ⟨ρ, env, st, d, env', hE, hS, r, e, q⟩ := q
      cases r with
      | @tup a xs ds ht rs =>
        have e : asgPs l ds env = some env' := by unfold asgP at e; exact e
        refine ⟨a, xs, rfl, ht.sq, ?_, ρ, env, st, ds, env', hE, hS, rs, e, fun σ' r b => q σ' r (by rw [slots_tup]; exact b)⟩
        rw [rs.length, n2]
        exact (asgPs_same e).symm
      | _ => unfold asgP at e; cases e
    | _ => unfold chkTg at h; cases h
theorem pgs_ok (C : Ctx X c G N sc fn k) : ∀ (l : List Tg) (es : List Expr), chkTgs N sc fn l es = true → PGs X es (gPs X l) ∧ (assignEach es X.env).length = l.length ∧ (assignEach es X.env).findIdx? (·.1) = none
  | [], es, h => by
    cases es with
    | nil =>
      refine ⟨pgs_nil.imp fun vs σ H Q q => ?_, rfl, rfl⟩
      obtain ⟨ρ, env, st, ds, env', hE, hS, r, e, q⟩ := q
      cases ds with
      | nil =>
        unfold asgPs at e
        cases e
        cases r
        exact ⟨rfl, q σ hE (But'.refl _)⟩
      | cons _ _ => unfold asgPs at e; cases e
    | cons _ _ => unfold chkTgs at h; cases h
  | t :: l, es, h => by
    cases es with
    | nil => unfold chkTgs at h; cases h
    | cons e es =>
      unfold chkTgs at h
      rw [Bool.and_eq_true] at h
      obtain ⟨n1, n2, n3⟩ := pgs_ok C l es h.2
      have p1 := pg_ok C t e h.1
      have ae := asg_each h.1 es X.env
      refine ⟨(pgs_cons p1 n1 (by rw [ae]; rfl)).imp fun vs σ H Q q => ?_, by rw [ae, List.length_cons, n2, List.length_cons], ?_⟩
      · obtain ⟨ρ, env, st, ds, env', hE, hS, r, e, q⟩ := q
        cases ds with
        | nil => unfold asgPs at e; cases e
        | cons d ds =>
          unfold asgPs at e
          cases e1 : asgP t d env with
          | none => rw [e1] at e; cases e
          | some en =>
            rw [e1] at e
            cases r with
            | cons r rr =>
              refine ⟨_, _, rfl, ρ, env, st, d, en, hE, hS, r, e1, fun σ' hE' b => ⟨ρ, en, st, ds, env', hE', hS, rr, e, fun σ2 h2 b2 => q σ2 h2 ?_⟩⟩
              exact (b.mono fun i hi => by rw [slots_cons]; exact List.mem_append_left _ hi).trans (b2.mono fun i hi => by rw [slots_cons]; exact List.mem_append_right _ hi)
      · rw [ae, List.findIdx?_cons]
        show (if (false : Bool) = true then _ else _) = _
        rw [if_neg Bool.false_ne_true, n3]
        rfl
end
/-- .. of any value -/
theorem pd_ok (C : Ctx X c G N sc fn k) (t : Tg) (e : Expr) (h : chkTg N sc fn t e = true) : PG X e (gT X t) := by
  cases t with
  | one i =>
    cases e with
    | Name y pos =>
      refine (tg_name C (by unfold chkTg at h; exact h)).imp fun v σ H Q q => ?_
      obtain ⟨ρ, env, st, d, env', hE, hS, r, e, q⟩ := q
      have e : (if i < env.length then some (env.set i (some d)) else none) = some env' := by
        cases d <;> exact e
      split at e
      · cases e
        exact q _ (hE.set r) (But'.set (by rw [slots_one]; simp))
      · cases e
    | _ => unfold chkTg at h; cases h
  | tup l =>
    refine (pg_ok C (.tup l) e h).imp fun v σ H Q q => ?_
    obtain ⟨ρ, env, st, d, env', hE, hS, r, e, q⟩ := q
    cases r with
    | p r => exact ⟨ρ, env, st, _, env', hE, hS, r, by unfold asgD at e; exact e, q⟩
    | ref _ => unfold asgD at e; cases e
end
end PB
set_option maxRecDepth 100000
set_option maxHeartbeats 2000000
/-! Pb, part 17: comprehensions. -/
namespace PB
open PySem PySem.Spec PyProof.Rows L2
section
variable {K : PySem.W.Frag} {ρ ρ' ρ1 : Pl} {H H' H1 : Hp} {a p : Addr} {st : Sto}
theorem Ext.memZ (e : Ext ρ H ρ' H') (h : a ∈ ρ.z) : a ∈ ρ'.z := by
  obtain ⟨new, nz, h1, h2, _⟩ := e.grow
  rw [h2]
  exact List.mem_append_right _ h
/-- a place that came later is written -/
theorem Ext.over {u w : HO} (e : Ext ρ1 H1 ρ H) (n : H1 p = none) (h : H p = some w) : Ext ρ1 H1 ρ (upd H p u) := by
  refine ⟨⟨e.grow, fun a o q z t => ?_, fun a q => ?_, fun a q z => ?_⟩, fun a o v q => by rw [upd_ne (ne_of_none q n)]; exact e.frz a o v q⟩
  · rw [upd_ne (ne_of_none q n)]
    exact e.keep a o q z t
  · by_cases ea : a = p
    · subst ea; exact n
    · rw [upd_ne ea] at q
      exact e.there a q
  · obtain ⟨ps, y, t⟩ := e.tbl a q z
    exact ⟨ps, by rw [upd_ne (q.ne n)]; exact y, t⟩
def rmv (H : Hp) (p : Addr) : Hp := fun b => if b = p then none else H b
theorem rmv_self : rmv H p p = none := by simp [rmv]
theorem rmv_ne (h : a ≠ p) : rmv H p a = H a := by simp [rmv, h]
theorem rmv_put {u : HO} (h : H p = some u) : upd (rmv H p) p u = H := by
  funext b
  by_cases e : b = p
  · subst e; rw [upd_same, h]
  · rw [upd_ne e, rmv_ne e]
def Pl.fre (ρ : Pl) (p : Addr) : Pl := ⟨ρ.l, ρ.z.filter (· ≠ p)⟩
/-- a reserved place comes -/
theorem chg_res {u : HO} (S : RS K H ρ st) (n : H p = none) : Chg p ρ H (ρ.res p) (upd H p u) :=
  ⟨fun b h => upd_ne h, rfl, fun q => S.fresh n (.inl q), fun b q => q.elim (fun z => .inr (.inl z)) fun z => (List.mem_cons.mp z).elim .inl fun z => .inr (.inr z), fun a ⟨u, h⟩ _ e => by
    subst e
    rcases h with h | ⟨_, h⟩ <;> rw [n] at h <;> cases h⟩
theorem RS.res {u : HO} (S : RS K H ρ st) (n : H p = none) : RS K (upd H p u) (ρ.res p) st := by
  refine S.chg (chg_res S n) (fun a q => ?_) (fun e => ?_) fun P q => (S.tab P q).1.ne n
  · rcases List.mem_cons.mp q with e | q
    · subst e; exact ⟨⟨u, upd_same⟩, .inr rfl⟩
    · obtain ⟨o, h⟩ := S.zt a q
      exact ⟨⟨o, by rw [upd_ne (ne_of_none h n)]; exact h⟩, .inl q⟩
  · obtain ⟨φ, h⟩ := S.sysm
    rw [e, n] at h
    cases h
/-- .. is written -/
theorem chg_put {u : HO} (hz : p ∈ ρ.z) (hl : p ∉ ρ.l) : Chg p ρ H ρ (upd H p u) := ⟨fun b h => upd_ne h, rfl, hl, fun b q => .inr q, fun a _ n e => n (e ▸ .inr hz)⟩
theorem RS.over {u w : HO} (S : RS K H ρ st) (hz : p ∈ ρ.z) (hl : p ∉ ρ.l) (h : H p = some w) (hn : ∀ φ, w ≠ .ext φ) : RS K (upd H p u) ρ st := by
  refine S.chg (chg_put hz hl) (fun a q => ?_) (fun e => ?_) fun P q e => (S.tab P q).2 (e ▸ .inr hz)
  · refine ⟨?_, .inl q⟩
    by_cases ea : a = p
    · subst ea; exact ⟨u, upd_same⟩
    · obtain ⟨o, h⟩ := S.zt a q
      exact ⟨o, by rw [upd_ne ea]; exact h⟩
  · obtain ⟨φ, h'⟩ := S.sysm
    rw [e, h] at h'
    exact hn φ (Option.some.inj h')
/-- .. is free again -/
theorem chg_fre (hz : p ∈ ρ.z) (hl : p ∉ ρ.l) : Chg p ρ H (ρ.fre p) (rmv H p) :=
  ⟨fun b h => rmv_ne h, rfl, hl, fun b q => q.elim (fun z => .inr (.inl z)) fun z => .inr (.inr ((List.mem_filter.mp z).1)), fun a _ n e => n (e ▸ .inr hz)⟩
theorem RS.fre {w : HO} (S : RS K H ρ st) (hz : p ∈ ρ.z) (hl : p ∉ ρ.l) (h : H p = some w) (hn : ∀ φ, w ≠ .ext φ) : RS K (rmv H p) (ρ.fre p) st := by
  refine S.chg (chg_fre hz hl) (fun a q => ?_) (fun e => ?_) fun P q e => (S.tab P q).2 (e ▸ .inr hz)
  · have q' : a ∈ ρ.z.filter (· ≠ p) := q
    rw [List.mem_filter] at q'
    have ne : a ≠ p := by simpa using q'.2
    obtain ⟨o, h⟩ := S.zt a q'.1
    exact ⟨⟨o, by rw [rmv_ne ne]; exact h⟩, .inl q'.1⟩
  · obtain ⟨φ, h'⟩ := S.sysm
    rw [e, h] at h'
    exact hn φ (Option.some.inj h')
theorem Ext.fre (e : Ext ρ1 H1 ρ H) (n : H1 p = none) (nz : p ∉ ρ1.z) : Ext ρ1 H1 (ρ.fre p) (rmv H p) := by
  obtain ⟨new, nzs, g1, g2, g3, g4⟩ := e.grow
  refine ⟨⟨⟨new, nzs.filter (· ≠ p), g1, ?_, g3, fun a q => g4 a ((List.mem_filter.mp q).1)⟩, fun a o q z t => ?_, fun a q => ?_, fun a q z => ?_⟩, fun a o v q => by rw [rmv_ne (ne_of_none q n)]; exact e.frz a o v q⟩
  · show ρ.z.filter (· ≠ p) = _
    rw [g2, List.filter_append]
    congr 1
    rw [List.filter_eq_self]
    intro a ha
    have : a ≠ p := fun e => nz (e ▸ ha)
    simpa using this
  · rw [rmv_ne (ne_of_none q n)]
    exact e.keep a o q z t
  · by_cases ea : a = p
    · subst ea; exact n
    · rw [rmv_ne ea] at q
      exact e.there a q
  · obtain ⟨ps, y, t⟩ := e.tbl a q z
    exact ⟨ps, by rw [rmv_ne (q.ne n)]; exact y, t⟩
end
section
variable {X : Cx} {c : Cfg} {G : List (String × P)} {N : List Str} {sc : Scope} {fn : Str → Bool} {k : Nat}
def compF (tg : Tg) (mc : Env → M Bool) (me : Env → M D) (env0 : Env) (d : P) : M (Option P) := do
  let e1 ← need (asgP tg d env0)
  let k ← mc e1
  if k = true then (do
    let y ← me e1
    let y ← onlyP y
    pure (some y)) else pure none
noncomputable def compM (sk : SK) (ml : Env → M (List D)) (tg : Tg) (mc : Env → M Bool) (me : Env → M D) : Env → M D := fun env => do
  let xs ← ml env
  let items ← srcM sk xs
  let ys ← noErr (compL items.2 (compF tg mc me (wipeE env tg.slots)) items.1)
  line ys.length
  pure (.p (.list ys))
theorem own_slots {tg : Tg} : (ownOf N tg).map (·.2) = tg.slots := by
  unfold ownOf
  rw [List.map_map]
  exact List.map_id' _
theorem compF_ok {tg : Tg} {mc : Env → M Bool} {me : Env → M D} {env0 : Env} {d : P} {st st' : Sto} {o : Option P} (h : compF tg mc me env0 d st = .ok o st') :
    ∃ e1 b st1, asgP tg d env0 = some e1 ∧ mc e1 st = .ok b st1 ∧ ((b = true ∧ ∃ y, me e1 st1 = .ok (.p y) st' ∧ o = some y) ∨ (b = false ∧ o = none ∧ st' = st1)) := by
  obtain ⟨e1, st0, h1, h3⟩ := ok_bind h
  obtain ⟨h1, h4⟩ := ok_need h1
  rw [h4] at h3
  clear h
  obtain ⟨b, st1, h2, h⟩ := ok_bind h3
  refine ⟨e1, b, st1, h1, h2, ?_⟩
  cases b with
  | false =>
    have h : R.ok (none : Option P) st1 = .ok o st' := h
    cases h
    exact .inr ⟨rfl, rfl, rfl⟩
  | true =>
    have h : ((me e1 st1).bind fun y st => ((onlyP y st).bind fun y st => R.ok (some y) st)) = .ok o st' := h
    obtain ⟨y, st2, h3, h⟩ := ok_bind h
    cases y with
    | ref _ => cases h
    | p y =>
      cases h
      exact .inl ⟨rfl, y, h3, rfl⟩
theorem compL_nil {g : Sto → Prop} {f : P → M (Option P)} {st st' : Sto} {ys : List P} (h : compL g f [] st = .ok ys st') : g st ∧ ys = [] ∧ st' = st := by
  unfold compL at h
  split at h
  · cases h; exact ⟨by assumption, rfl, rfl⟩
  · cases h
theorem compL_cons {g : Sto → Prop} {f : P → M (Option P)} {d : P} {r : List P} {st st' : Sto} {ys : List P} (h : compL g f (d :: r) st = .ok ys st') :
    g st ∧ ∃ o st1 rest, f d st = .ok o st1 ∧ compL g f r st1 = .ok rest st' ∧ ys = (match o with
      | some y => y :: rest
      | none => rest) := by
  unfold compL at h
  split at h
  · obtain ⟨o, st1, h1, h⟩ := ok_bind h
    obtain ⟨rest, st2, h2, h⟩ := ok_bind h
    cases h
    exact ⟨by assumption, o, st1, rest, h1, h2, rfl⟩
  · cases h
theorem noErr_ok {α : Type} {m : M α} {st : Sto} {β : Type} {f : α → Sto → R β} {Qf : β → Sto → Prop} {E : EE} (h : ((noErr m st).bind f).holds Qf E) : ∃ a st1, m st = .ok a st1 ∧ (f a st1).holds Qf E := by
  unfold noErr at h
  cases e : m st with
  | ok a st1 => rw [e] at h; exact ⟨a, st1, rfl, h⟩
  | err _ _ _ => rw [e] at h; exact h.elim
  | bad => rw [e] at h; exact h.elim
theorem only_comp {sk : SK} {ml : Env → M (List D)} {tg : Tg} {mc : Env → M Bool} {me : Env → M D} : OnlyP (compM sk ml tg mc me) := by
  intro env st v st' h
  obtain ⟨_, _, _, h⟩ := ok_bind h
  obtain ⟨_, _, _, h⟩ := ok_bind h
  obtain ⟨_, _, _, h⟩ := ok_bind h
  obtain ⟨_, _, _, h⟩ := ok_bind h
  cases h
  exact ⟨_, rfl⟩
theorem comp_core {sk : SK} {ml : Env → M (List D)} {tg : Tg} {mc : Env → M Bool} {me : Env → M D} {σ : List (Option V)} {H : Hp} {Q : VK} (q : tR X (compM sk ml tg mc me) σ H Q) : tLc (tI X (srcW sk ml)) (gP X tg) (tTF X.K mc) (tMF X.K me) tg.slots σ H Q := by
  obtain ⟨ρ, env, st, hE, hS, q⟩ := q
  have q : ((srcW sk ml env st).bind fun items st => ((noErr (compL items.2 (compF tg mc me (wipeE env tg.slots)) items.1) st).bind fun ys st => ((line ys.length st).bind fun _ st => .ok (.p (.list ys)) st))).holds (PostR X.K ρ H Q) (Er X ρ H) := by
    show (((ml env st).bind fun xs st => srcM sk xs st).bind _).holds _ _
    rw [assoc_b]
    exact q
  refine ⟨ρ, env, st, hE, hS, holds_mono (holds_bind.mp q) (fun items st1 q ρ1 H1 J ex1 S1 src D hD => ?_) fun _ _ _ z => z⟩
  obtain ⟨ys, st2, hys, q⟩ := noErr_ok q
  obtain ⟨hz, q⟩ := line_holds q
  obtain ⟨r', er, fin⟩ := q
  cases er
  have E1 : RE X.K H1 ρ1 env σ := hE.ext ex1
  refine ⟨fun i m H' => i ≤ items.1.length ∧ m = items.1.length - i ∧ ∃ ρi sti acc accP ysr, Ext ρ1 H1 ρi H' ∧ D ∈ ρi.z ∧ D ∉ ρi.l ∧ RS X.K H' ρi sti ∧ H' D = some (.lst acc) ∧ RPs X.K H' ρi acc accP ∧
    compL items.2 (compF tg mc me (wipeE env tg.slots)) (items.1.drop i) sti = .ok ysr st2 ∧ accP ++ ysr = ys, ⟨items.1.length, ?_⟩, ?_⟩
  · exact ⟨Nat.zero_le _, rfl, ρ1.res D, st1, [], [], ys, ext_res hD, List.mem_cons_self, fun z => S1.fresh hD (.inl z), S1.res hD, upd_same, .nil, hys, rfl⟩
  · rintro i m H' ⟨hle, rfl, ρi, sti, acc, accP, ysr, exi, dz, dl, Si, hHD, racc, hcl, hacc⟩
    by_cases hi : i < items.1.length
    · rw [List.drop_eq_getElem_cons hi] at hcl
      obtain ⟨hgi, o, st3, rest, hf, hrest, hysr⟩ := compL_cons hcl
      refine .inr ⟨src.go ρi H' sti i exi Si hgi hi, fun H'' => _, fun H'' w => ⟨items.1.length - (i + 1), by omega, w⟩, fun x H2 hy => ?_⟩
      obtain ⟨same2, rx⟩ := src.yld ρi H' sti i _ x H2 exi Si hgi (List.getElem?_eq_getElem hi) hy
      obtain ⟨e1, b, st4, ha, hc, hb⟩ := compF_ok hf
      have S2 := Si.same same2
      have ex2 : Ext ρ1 H1 ρi H2 := exi.trans (Ext.same same2)
      have racc2 := racc.ext (Ext.same same2)
      have hD2 : H2 D = some (.lst acc) := same2 _ _ hHD
      refine ⟨ρi, wipeE env tg.slots, sti, _, e1, (E1.ext ex2).wipe _, S2, rx, ha, fun σ2 hE2 b2 => ⟨(wipe_wipe.trans b2).wipe, ?_⟩⟩
      refine ⟨ρi, e1, sti, hE2, S2, ?_⟩
      rw [hc]
      intro ρ3 H3 ex3 S3
      have hD3 : H3 D = some (.lst acc) := ex3.keep _ _ hD2 dl fun _ z => (by cases z)
      rcases hb with ⟨rfl, y, hme, rfl⟩ | ⟨rfl, rfl, rfl⟩
      · refine ⟨ρ3, e1, st4, hE2.ext ex3, S3, ?_⟩
        rw [hme]
        intro ρ4 H4 y' ex4 S4 ry
        have dl3 := ex3.outL hD2 dl
        have dl4 := ex4.outL hD3 dl3
        have dz4 := ex4.memZ (ex3.memZ dz)
        have hD4 : H4 D = some (.lst acc) := ex4.keep _ _ hD3 dl3 fun _ z => (by cases z)
        have racc4 := (racc2.ext ex3).ext ex4
        subst hysr
        have hlen : acc.length < sizeLine := by
          rw [racc.length]
          rw [← hacc] at hz
          simp at hz
          omega
        cases ry with
        | p ry =>
          have cg : Chg D ρ4 H4 ρ4 (upd H4 D (.lst (acc ++ [y']))) := chg_put dz4 dl4
          exact ⟨acc, hD4, hlen, hi, rfl, ρ4, st3, acc ++ [y'], accP ++ [y], rest, ((ex2.trans ex3).trans ex4).over hD hD4, dz4, dl4, S4.over dz4 dl4 hD4 (fun φ => by simp), upd_same, (racc4.append (.cons ry .nil)).chg cg, hrest, by rw [← hacc]; simp⟩
      · subst hysr
        exact ⟨hi, rfl, ρ3, _, acc, accP, ysr, ex2.trans ex3, ex3.memZ dz, ex3.outL hD2 dl, S3, hD3, racc2.ext ex3, hrest, hacc⟩
    · have e : i = items.1.length := by omega
      subst e
      rw [List.drop_length] at hcl
      obtain ⟨hgi, rfl, rfl⟩ := compL_nil hcl
      refine .inl ⟨src.stop ρi H' _ exi Si hgi, ?_⟩
      rw [List.append_nil] at hacc
      subst hacc
      have cg : Chg D ρi H' (ρi.fre D) (rmv H' D) := chg_fre dz dl
      have nz : D ∉ ρ1.z := fun z => S1.fresh hD (.inr z)
      have f := fin (ρi.fre D) (rmv H' D) (ex1.trans (exi.fre hD nz)) (Si.fre dz dl hHD fun φ => by simp)
      have g := f _ (Same.refl _) acc D (racc.chg cg) rmv_self
      rw [rmv_put hHD] at g
      exact g
theorem r_comp {elt etg eit : Expr} {ifs : List Expr} {scope : Scope} {pos : Pos} {sk : SK} {ml : Env → M (List D)} {tg : Tg} {mc : Env → M Bool} {me : Env → M D} (C : Ctx X c G N sc fn k) (hi : PI X etg eit (tI X (srcW sk ml))) (ok : blkC N sc scope (ownOf N tg) = true)
    (hg : ∀ (s : Shared) (H : Hp) (Cc : Addr) (cl : List (Str × Addr)) (fp : List Addr), PG (X.blk s H scope (compEnvC scope cl Cc X.env) fp) etg (gP X tg)) (ht : ∀ (s : Shared) (H : Hp) (Cc : Addr) (cl : List (Str × Addr)) (fp : List Addr), PTs (X.blk s H scope (compEnvC scope cl Cc X.env) fp) ifs (tT (X.blk s H scope (compEnvC scope cl Cc X.env) fp) mc))
    (he : ∀ (s : Shared) (H : Hp) (Cc : Addr) (cl : List (Str × Addr)) (fp : List Addr), PE (X.blk s H scope (compEnvC scope cl Cc X.env) fp) elt (tM (X.blk s H scope (compEnvC scope cl Cc X.env) fp) me)) (hs : ∀ x, foldedSetIterable eit X.env x = pure x) :
    PE X (.ListComp elt [⟨etg, eit, ifs, 0⟩] scope pos) (tR X (compM sk ml tg mc me)) := by
  refine (pe_lc (own := ownOf N tg) C.calm (by rw [C.hN]; exact C.nd) hi (by rw [C.hN, C.hsc]; exact blkOk_by ok) hg (fun s H Cc cl fp => ⟨fun pins s1 σ H1 Q I q => (ht s H Cc cl fp).run pins s1 σ H1 Q I (tTF_tT q)⟩) (fun s H Cc cl fp => (he s H Cc cl fp).imp fun _ _ _ q => tMF_tM q) hs).imp fun σ H Q q => by rw [own_slots]; exact comp_core q
end
end PB
set_option maxRecDepth 100000
set_option maxHeartbeats 2000000
/-! Pb, part 18: displays of dicts. -/
namespace PB
open PySem PySem.Spec PyProof.Rows L2
section
variable {X : Cx} {pos : Pos} {ea : Expr} {ma : Env → M D} {es : List Expr} {ml : Env → M (List D)}
/-- the values of a display, key by key -/
def PairsOk (X : Cx) (pos : Pos) (es : List Expr) (ml : Env → M (List D)) : Prop := ∀ (ks : List Key) (keys : List (Option Expr)), keysAre ks keys = true → ks.length = es.length →
  ∃ trs, PPs X pos keys es trs ∧ ∀ σ H Q, tL X ml σ H (fun xs H1 => Q ((ks.map kV).zip xs) H1) → tPairs trs σ H Q
theorem pairs_nil : PairsOk X pos [] (fun _ => pure []) := by
  intro ks keys h hl
  cases ks with
  | nil =>
    cases keys with
    | nil =>
      refine ⟨[], pps_nil, fun σ H Q q => ?_⟩
      obtain ⟨ρ, env, st, hE, hS, q⟩ := q
      exact q ρ H [] .refl hS .nil
    | cons _ _ => unfold keysAre at h; cases h
  | cons _ _ => simp at hl
theorem pe_key {k : Key} {e : Expr} (h : keyC k e = true) : PE X e (tC (kV k)) := by
  cases k with
  | inl i =>
    cases e with
    | Constant q n p =>
      cases q with
      | int j =>
        have e : i = j := by simpa [keyC] using h
        subst e
        exact pe_int
      | _ => unfold keyC at h; cases h
    | _ => unfold keyC at h; cases h
  | inr x =>
    cases e with
    | Constant q n p =>
      cases q with
      | str j =>
        have e : x = j := by simpa [keyC] using h
        subst e
        exact pe_str
      | _ => unfold keyC at h; cases h
    | _ => unfold keyC at h; cases h
theorem pairs_cons (ha : PE X ea (tM X ma)) (hr : PairsOk X pos es ml) : PairsOk X pos (ea :: es) (consM ma ml) := by
  intro ks keys h hl
  cases ks with
  | nil => simp at hl
  | cons k ks =>
    cases keys with
    | nil => unfold keysAre at h; cases h
    | cons o keys =>
      cases o with
      | none => unfold keysAre at h; cases h
      | some e =>
        unfold keysAre at h
        rw [Bool.and_eq_true] at h
        obtain ⟨trs, hp, hq⟩ := hr ks keys h.2 (by simpa using hl)
        refine ⟨(tC (kV k), tM X ma) :: trs, pps_cons (pe_key h.1) ha hp, fun σ H Q q => ?_⟩
        obtain ⟨ρ, env, st, hE, hS, q⟩ := q
        unfold tPairs
        refine tM_mono (step (Now.start hE hS) (show ((ma env st).bind fun x st => ((ml env st).bind fun xs st => .ok (x :: xs) st)).holds (PostL X.K ρ H _) (Er X ρ H) from q)) ?_
        rintro x H1 ⟨ρ1, st1, v, n1, rx, e1, q⟩
        refine hq σ H1 _ (tL_mono (stepL n1 q) ?_)
        rintro xs H2 ⟨ρ2, st2, vs, n2, rs, e2, q⟩
        exact q ρ2 H2 (x :: xs) n2.ext n2.rs (.cons (rx.ext e2) rs)
theorem put_new {κ : Type} [DecidableEq κ] {kvs : List (κ × V)} {k : κ} {v : V} (h : k ∉ kvs.map Prod.fst) : L2.putK kvs k v = kvs ++ [(k, v)] := by
  unfold L2.putK
  rw [if_neg]
  intro z
  obtain ⟨kv, h1, h2⟩ := List.any_eq_true.mp z
  exact h (List.mem_map.mpr ⟨kv, h1, by simpa using h2⟩)
theorem merge_new : ∀ {more acc : List (Key × V)}, ((acc ++ more).map Prod.fst).Nodup → mergeK acc more = acc ++ more
  | [], acc, _ => by simp [mergeK]
  | p :: r, acc, h => by
    have hp : p.1 ∉ acc.map Prod.fst := by
      rw [List.map_append, List.nodup_append] at h
      intro z
      exact h.2.2 p.1 z p.1 (by simp) rfl
    show mergeK (L2.putK acc p.1 p.2) r = _
    rw [put_new hp, merge_new (by simpa using h)]
    simp
theorem zip_keys {ks : List Key} {xs : List V} (h : ks.length = xs.length) : (ks.zip xs).map Prod.fst = ks := List.map_fst_zip (by omega)
theorem zip_kV (ks : List Key) (xs : List V) : (ks.map kV).zip xs = (ks.zip xs).map fun kv => (kV kv.1, kv.2) := by
  rw [List.zip_map_left]
  rfl
theorem rpk_zip {K : PySem.W.Frag} {H : Hp} {ρ : Pl} : ∀ {ks : List Key} {xs : List V} {ds : List P}, RPs K H ρ xs ds → RPk K H ρ (ks.zip xs) ((ks.map keyP).zip ds)
  | [], _, _, _ => .nil
  | _ :: _, _, _, .nil => .nil
  | k :: ks, _, _, .cons h q => .cons h (rpk_zip q)
theorem rdk_zip {K : PySem.W.Frag} {H : Hp} {ρ : Pl} : ∀ {ks : List Key} {xs : List V} {ds : List D}, RDs K H ρ xs ds → RDk K H ρ (ks.zip xs) (ks.zip ds)
  | [], _, _, _ => .nil
  | _ :: _, _, _, .nil => .nil
  | k :: ks, _, _, .cons h q => .cons h (rdk_zip q)
theorem upd_rmv {H : Hp} {p : Addr} {u : HO} : upd (rmv H p) p u = upd H p u := by
  funext b
  by_cases e : b = p
  · subst e; rw [upd_same, upd_same]
  · rw [upd_ne e, upd_ne e, rmv_ne e]
def dctM (ks : List Key) (ml : Env → M (List D)) : Env → M D := fun env => do
  let ds ← noErr (ml env)
  let ds ← onlyPs ds
  if ks.Nodup ∧ ks.length = ds.length ∧ ks.length ≤ 15 then pure (.p (.dict ((ks.map keyP).zip ds))) else stop
def dctHM (ks : List Key) (ml : Env → M (List D)) : Env → M D := fun env => do
  let ds ← noErr (ml env)
  if ks.Nodup ∧ ks.length = ds.length ∧ ks.length ≤ 15 then alloc (.dct true (ks.zip ds)) else stop
/-- the new dict, its values made -/
structure Made (X : Cx) (ρ : Pl) (H : Hp) (st1 : Sto) (ks : List Key) (vs : List D) (p : Addr) (H2 : Hp) (xs : List V) (ρ2 : Pl) : Prop where
  ext : Ext ρ H ρ2 (rmv H2 p)
  rs : RS X.K (rmv H2 p) ρ2 st1
  rd : RDs X.K (rmv H2 p) ρ2 xs vs
theorem dct_core {keys : List (Option Expr)} {ks : List Key} {β : Type} {f : List D → Sto → R β} {Qf : β → Sto → Prop} (hp : PairsOk X pos es ml) (hk : keysAre ks keys = true) (hl : ks.length = es.length) (h15 : ks.length ≤ 15)
    (hlen : ∀ env st ds st', ml env st = .ok ds st' → ds.length = es.length) (h0 : es = [] → ∀ env st, ml env st = .ok [] st) {t : TE}
    (hq : ∀ σ H Q, t σ H Q → ∃ ρ env st vs st1, RE X.K H ρ env σ ∧ RS X.K H ρ st ∧ ml env st = .ok vs st1 ∧ ks.Nodup ∧ ∀ p H2 xs ρ2, H p = none → Made X ρ H st1 ks vs p H2 xs ρ2 → Q (.ref p) (upd (rmv H2 p) p (.dK (ks.zip xs)))) :
    PE X (.Dict keys es pos) t := by
  by_cases he : es = []
  · subst he
    have : ks = [] := by cases ks with
      | nil => rfl
      | cons _ _ => simp at hl
    subst this
    have : keys = [] := by cases keys with
      | nil => rfl
      | cons _ _ => unfold keysAre at hk; cases hk
    subst this
    refine pe_dnewK.imp fun σ H Q q => ?_
    obtain ⟨ρ, env, st, vs, st1, hE, hS, e0, nd, z⟩ := hq σ H Q q
    rw [h0 rfl] at e0
    cases e0
    intro p hn
    have e : rmv H p = H := by
      funext b
      by_cases e : b = p
      · subst e; rw [rmv_self, hn]
      · rw [rmv_ne e]
    have y := z p H [] ρ hn ⟨by rw [e]; exact .refl, by rw [e]; exact hS, .nil⟩
    rw [e] at y
    exact y
  · obtain ⟨trs, hpp, ht⟩ := hp ks keys hk hl
    have kl : keys.length = es.length := by
      rw [← hl]
      have : ∀ {ks : List Key} {keys : List (Option Expr)}, keysAre ks keys = true → keys.length = ks.length := by
        intro ks
        induction ks with
        | nil => intro keys h; cases keys with
          | nil => rfl
          | cons _ _ => unfold keysAre at h; cases h
        | cons k ks ih => intro keys h; cases keys with
          | nil => unfold keysAre at h; cases h
          | cons o keys => cases o with
            | none => unfold keysAre at h; cases h
            | some e => unfold keysAre at h; rw [Bool.and_eq_true] at h; simp [ih h.2]
      exact this hk
    have ka : keys.all (·.isSome) = true := by
      have : ∀ {ks : List Key} {keys : List (Option Expr)}, keysAre ks keys = true → keys.all (·.isSome) = true := by
        intro ks
        induction ks with
        | nil => intro keys h; cases keys with
          | nil => rfl
          | cons _ _ => unfold keysAre at h; cases h
        | cons k ks ih => intro keys h; cases keys with
          | nil => unfold keysAre at h; cases h
          | cons o keys => cases o with
            | none => unfold keysAre at h; cases h
            | some e => unfold keysAre at h; rw [Bool.and_eq_true] at h; simp [ih h.2]
      exact this hk
    refine (pe_disp hpp ka kl (fun z => he (List.length_eq_zero_iff.mp (by rw [← kl, z]; rfl))) (by rw [kl, ← hl]; exact h15)).imp fun σ H Q q => ?_
    obtain ⟨ρ, env, st, vs, st1, hE, hS, e0, nd, z⟩ := hq σ H Q q
    intro p hn
    refine ht σ _ _ ⟨ρ.res p, env, st, hE.ext (ext_res hn), hS.res hn, ?_⟩
    rw [e0]
    intro ρ2 H2 xs ex S2 rs
    have dz : p ∈ ρ2.z := ex.memZ List.mem_cons_self
    have dl : p ∉ ρ2.l := ex.outL upd_same fun z => hS.fresh hn (.inl z)
    have hp2 : H2 p = some (.dK []) := ex.keep _ _ upd_same (fun z => hS.fresh hn (.inl z)) fun _ z => (by cases z)
    have lx : ks.length = xs.length := by rw [hl, rs.length, hlen _ _ _ _ e0]
    refine ⟨hp2, ks.zip xs, zip_kV ks xs, by rw [List.length_zip]; omega, ?_⟩
    rw [merge_new (by rw [List.nil_append, zip_keys lx]; exact nd), List.nil_append, ← upd_rmv]
    exact z p H2 xs (ρ2.fre p) hn ⟨((ext_res hn).trans ex).fre hn fun z => hS.fresh hn (.inr z), S2.fre dz dl hp2 fun φ => by simp, rs.chg (chg_fre dz dl)⟩
theorem r_dct {keys : List (Option Expr)} {ks : List Key} (hp : PairsOk X pos es ml) (hk : keysAre ks keys = true) (hl : ks.length = es.length) (h15 : ks.length ≤ 15) (hlen : ∀ env st ds st', ml env st = .ok ds st' → ds.length = es.length)
    (h0 : es = [] → ∀ env st, ml env st = .ok [] st) : PE X (.Dict keys es pos) (tM X (dctM ks ml)) := by
  refine dct_core (β := D) (f := fun _ _ => .bad) (Qf := fun _ _ => True) hp hk hl h15 hlen h0 fun σ H Q q => ?_
  obtain ⟨ρ, env, st, hE, hS, q⟩ := q
  have q : ((noErr (ml env) st).bind fun ds st => ((onlyPs ds st).bind fun ds st => (if ks.Nodup ∧ ks.length = ds.length ∧ ks.length ≤ 15 then pure (.p (.dict ((ks.map keyP).zip ds))) else stop : M D) st)).holds (Post X.K ρ H Q) (Er X ρ H) := q
  obtain ⟨vs, st1, e0, q⟩ := noErr_ok q
  · skip
    obtain ⟨ds, ed, q⟩ := onlyPs_holds (show ((onlyPs vs st1).bind fun ds st => (if ks.Nodup ∧ ks.length = ds.length ∧ ks.length ≤ 15 then pure (.p (.dict ((ks.map keyP).zip ds))) else stop : M D) st).holds (Post X.K ρ H Q) (Er X ρ H) from q)
    split at q
    · rename_i hc
      refine ⟨ρ, env, st, vs, st1, hE, hS, e0, hc.1, fun p H2 xs ρ2 hn md => ?_⟩
      have q : Post X.K ρ H Q (.p (.dict ((ks.map keyP).zip ds))) st1 := q
      have s2 := same_new (o := .dK (ks.zip xs)) (rmv_self (H := H2) (p := p))
      have rd := md.rd
      rw [ed] at rd
      exact q ρ2 _ _ (md.ext.trans (Ext.same s2)) (md.rs.same s2) (.p (.dct (.inl upd_same) (md.rs.fresh rmv_self) (rpk_zip (rd.toP.ext (Ext.same s2)))))
    · exact q.elim
theorem r_dctH {keys : List (Option Expr)} {ks : List Key} (hp : PairsOk X pos es ml) (hk : keysAre ks keys = true) (hl : ks.length = es.length) (h15 : ks.length ≤ 15) (hlen : ∀ env st ds st', ml env st = .ok ds st' → ds.length = es.length)
    (h0 : es = [] → ∀ env st, ml env st = .ok [] st) : PE X (.Dict keys es pos) (tM X (dctHM ks ml)) := by
  refine dct_core (β := D) (f := fun _ _ => .bad) (Qf := fun _ _ => True) hp hk hl h15 hlen h0 fun σ H Q q => ?_
  obtain ⟨ρ, env, st, hE, hS, q⟩ := q
  have q : ((noErr (ml env) st).bind fun ds st => (if ks.Nodup ∧ ks.length = ds.length ∧ ks.length ≤ 15 then alloc (.dct true (ks.zip ds)) else stop : M D) st).holds (Post X.K ρ H Q) (Er X ρ H) := q
  obtain ⟨vs, st1, e0, q⟩ := noErr_ok q
  · skip
    have q : ((if ks.Nodup ∧ ks.length = vs.length ∧ ks.length ≤ 15 then alloc (.dct true (ks.zip vs)) else stop : M D) st1).holds (Post X.K ρ H Q) (Er X ρ H) := q
    split at q
    · rename_i hc
      refine ⟨ρ, env, st, vs, st1, hE, hS, e0, hc.1, fun p H2 xs ρ2 hn md => ?_⟩
      have q : Post X.K ρ H Q (.ref st1.length) (st1 ++ [.dct true (ks.zip vs)]) := q
      have nn := rmv_self (H := H2) (p := p)
      refine q _ _ (.ref p) (md.ext.trans (ext_add nn)) (md.rs.add nn ⟨ks.zip xs, upd_same, rdk_zip (md.rd.ext (ext_add nn))⟩ fun kv hkv => ?_) (.ref ?_)
      · exact md.rd.belows (Nat.le_of_eq md.rs.len) _ (List.of_mem_zip hkv).2
      · show (ρ2.l ++ [p])[st1.length]? = some p
        rw [← md.rs.len]
        simp
    · exact q.elim
end
end PB
set_option maxRecDepth 100000
set_option maxHeartbeats 2000000
/-! Pb, part 18d: comprehensions that make dicts. -/
namespace PB
open PySem PySem.Spec PyProof.Rows L2
section
variable {K : PySem.W.Frag} {ρ ρ' : Pl} {H H' : Hp}
theorem RDk.any {k : Key} : ∀ {vs : List (Key × V)} {kvs : List (Key × D)}, RDk K H ρ vs kvs → (vs.any fun kv => decide (kv.1 = k)) = (kvs.any fun kv => decide (kv.1 = k))
  | _, _, .nil => rfl
  | _, _, .cons _ q => by simp [RDk.any q]
theorem RDk.mapPut {k : Key} {v : V} {d : D} (r : RD K H ρ v d) : ∀ {vs : List (Key × V)} {kvs : List (Key × D)}, RDk K H ρ vs kvs → RDk K H ρ (vs.map fun kv => if kv.1 = k then (kv.1, v) else kv) (kvs.map fun kv => if kv.1 = k then (kv.1, d) else kv)
  | _, _, .nil => .nil
  | _, _, .cons (k := j) h q => by
    simp only [List.map_cons]
    by_cases e : j = k
    · rw [if_pos e, if_pos e]
      exact .cons r (RDk.mapPut r q)
    · rw [if_neg e, if_neg e]
      exact .cons h (RDk.mapPut r q)
theorem RDk.snoc {k : Key} {v : V} {d : D} (r : RD K H ρ v d) : ∀ {vs : List (Key × V)} {kvs : List (Key × D)}, RDk K H ρ vs kvs → RDk K H ρ (vs ++ [(k, v)]) (kvs ++ [(k, d)])
  | _, _, .nil => .cons r .nil
  | _, _, .cons h q => .cons h (RDk.snoc r q)
theorem RDk.putD {k : Key} {v : V} {d : D} (r : RD K H ρ v d) {vs : List (Key × V)} {kvs : List (Key × D)} (h : RDk K H ρ vs kvs) : RDk K H ρ (L2.putK vs k v) (PB.putK k d kvs) := by
  unfold L2.putK PB.putK
  rw [h.any]
  split
  · exact RDk.mapPut r h
  · exact RDk.snoc r h
theorem RDk.len : ∀ {vs : List (Key × V)} {kvs : List (Key × D)}, RDk K H ρ vs kvs → vs.length = kvs.length
  | _, _, .nil => rfl
  | _, _, .cons _ q => by simp [RDk.len q]
end
section
variable {X : Cx} {c : Cfg} {G : List (String × P)} {N : List Str} {sc : Scope} {fn : Str → Bool} {k : Nat}
def dcompF (tg : Tg) (mk me : Env → M D) (env0 : Env) (d : P) : M (Key × P) := do
  let e1 ← need (asgP tg d env0)
  let x ← mk e1
  let x ← onlyP x
  let kk ← need (keyOf x)
  let y ← me e1
  let y ← onlyP y
  pure (kk, y)
noncomputable def dcompM (sk : SK) (ml : Env → M (List D)) (tg : Tg) (mk me : Env → M D) : Env → M D := fun env => do
  let xs ← ml env
  let items ← srcM sk xs
  let kvs ← noErr (dcompL items.2 (dcompF tg mk me (wipeE env tg.slots)) items.1 [])
  let ds ← need (allP (kvs.map Prod.snd))
  pure (.p (.dict ((kvs.map fun kv => keyP kv.1).zip ds)))
theorem dcompF_ok {tg : Tg} {mk me : Env → M D} {env0 : Env} {d : P} {st st' : Sto} {o : Key × P} (h : dcompF tg mk me env0 d st = .ok o st') :
    ∃ e1 x kk st1 y, asgP tg d env0 = some e1 ∧ mk e1 st = .ok (.p x) st1 ∧ keyOf x = some kk ∧ me e1 st1 = .ok (.p y) st' ∧ o = (kk, y) := by
  obtain ⟨e1, st0, h1, h3⟩ := ok_bind h
  obtain ⟨h1, h4⟩ := ok_need h1
  rw [h4] at h3
  clear h
  obtain ⟨x, st1, h2, h⟩ := ok_bind h3
  cases x with
  | ref _ => cases h
  | p x =>
    have h : ((need (keyOf x) st1).bind fun kk st => ((me e1 st).bind fun y st => ((onlyP y st).bind fun y st => R.ok (kk, y) st))) = .ok o st' := h
    obtain ⟨kk, st2, h5, h⟩ := ok_bind h
    obtain ⟨h5, h6⟩ := ok_need h5
    rw [h6] at h
    obtain ⟨y, st3, h7, h⟩ := ok_bind h
    cases y with
    | ref _ => cases h
    | p y =>
      cases h
      exact ⟨e1, x, kk, st1, y, h1, h2, h5, h7, rfl⟩
theorem dcompL_nil {g : Sto → Prop} {f : P → M (Key × P)} {acc : List (Key × D)} {st st' : Sto} {ys : List (Key × D)} (h : dcompL g f [] acc st = .ok ys st') : g st ∧ ys = acc ∧ st' = st := by
  unfold dcompL at h
  split at h
  · cases h; exact ⟨by assumption, rfl, rfl⟩
  · cases h
theorem dcompL_cons {g : Sto → Prop} {f : P → M (Key × P)} {d : P} {r : List P} {acc : List (Key × D)} {st st' : Sto} {ys : List (Key × D)} (h : dcompL g f (d :: r) acc st = .ok ys st') :
    g st ∧ acc.length < sizeLine ∧ ∃ o st1, f d st = .ok o st1 ∧ dcompL g f r (PB.putK o.1 (.p o.2) acc) st1 = .ok ys st' := by
  unfold dcompL at h
  split at h
  · rename_i hg
    obtain ⟨o, st1, h1, h⟩ := ok_bind h
    exact ⟨hg.1, hg.2, o, st1, h1, h⟩
  · cases h
theorem dcomp_core {sk : SK} {ml : Env → M (List D)} {tg : Tg} {mk me : Env → M D} {σ : List (Option V)} {H : Hp} {Q : VK} (q : tM X (dcompM sk ml tg mk me) σ H Q) : tDc (tI X (srcW sk ml)) (gP X tg) tYes (tMF X.K mk) (tMF X.K me) tg.slots σ H Q := by
  obtain ⟨ρ, env, st, hE, hS, q⟩ := q
  have q : ((srcW sk ml env st).bind fun items st => ((noErr (dcompL items.2 (dcompF tg mk me (wipeE env tg.slots)) items.1 []) st).bind fun kvs st => ((need (allP (kvs.map Prod.snd)) st).bind fun ds st => .ok (.p (.dict ((kvs.map fun kv => keyP kv.1).zip ds))) st))).holds (Post X.K ρ H Q) (Er X ρ H) := by
    show (((ml env st).bind fun xs st => srcM sk xs st).bind _).holds _ _
    rw [assoc_b]
    exact q
  refine ⟨ρ, env, st, hE, hS, holds_mono (holds_bind.mp q) (fun items st1 q ρ1 H1 J ex1 S1 src D hD => ?_) fun _ _ _ z => z⟩
  obtain ⟨ys, st2, hys, q⟩ := noErr_ok q
  obtain ⟨ds, eds, fin⟩ := needed q
  have E1 : RE X.K H1 ρ1 env σ := hE.ext ex1
  refine ⟨fun i m H' => i ≤ items.1.length ∧ m = items.1.length - i ∧ ∃ ρi sti acc accD, Ext ρ1 H1 ρi H' ∧ D ∈ ρi.z ∧ D ∉ ρi.l ∧ RS X.K H' ρi sti ∧ H' D = some (.dK acc) ∧ RDk X.K H' ρi acc accD ∧
    dcompL items.2 (dcompF tg mk me (wipeE env tg.slots)) (items.1.drop i) accD sti = .ok ys st2, ⟨items.1.length, ?_⟩, ?_⟩
  · exact ⟨Nat.zero_le _, rfl, ρ1.res D, st1, [], [], ext_res hD, List.mem_cons_self, fun z => S1.fresh hD (.inl z), S1.res hD, upd_same, .nil, hys⟩
  · rintro i m H' ⟨hle, rfl, ρi, sti, acc, accD, exi, dz, dl, Si, hHD, racc, hcl⟩
    by_cases hi : i < items.1.length
    · rw [List.drop_eq_getElem_cons hi] at hcl
      obtain ⟨hgi, hlt, o, st3, hf, hrest⟩ := dcompL_cons hcl
      refine .inr ⟨src.go ρi H' sti i exi Si hgi hi, fun H'' => _, fun H'' w => ⟨items.1.length - (i + 1), by omega, w⟩, fun x H2 hy => ?_⟩
      obtain ⟨same2, rx⟩ := src.yld ρi H' sti i _ x H2 exi Si hgi (List.getElem?_eq_getElem hi) hy
      obtain ⟨e1, xk, kk, st4, y, ha, hmk, hkk, hme, rfl⟩ := dcompF_ok hf
      have S2 := Si.same same2
      have ex2 : Ext ρ1 H1 ρi H2 := exi.trans (Ext.same same2)
      have racc2 := racc.ext (Ext.same same2)
      have hD2 : H2 D = some (.dK acc) := same2 _ _ hHD
      refine ⟨ρi, wipeE env tg.slots, sti, _, e1, (E1.ext ex2).wipe _, S2, rx, ha, fun σ2 hE2 b2 => ⟨(wipe_wipe.trans b2).wipe, ?_⟩⟩
      unfold tYes
      dsimp only
      rw [if_pos rfl]
      refine ⟨ρi, e1, sti, hE2, S2, ?_⟩
      rw [hmk]
      intro ρ3 H3 y1 ex3 S3 rk
      have hD3 : H3 D = some (.dK acc) := ex3.keep _ _ hD2 dl fun _ z => (by cases z)
      refine ⟨ρ3, e1, st4, hE2.ext ex3, S3, ?_⟩
      rw [hme]
      intro ρ4 H4 y' ex4 S4 ry
      have dl3 := ex3.outL hD2 dl
      have dl4 := ex4.outL hD3 dl3
      have dz4 := ex4.memZ (ex3.memZ dz)
      have hD4 : H4 D = some (.dK acc) := ex4.keep _ _ hD3 dl3 fun _ z => (by cases z)
      have racc4 := (racc2.ext ex3).ext ex4
      have ek : y1 = kV kk := by
        cases rk with
        | p rk => exact key_rv rk.rv hkk
      have cg : Chg D ρ4 H4 ρ4 (upd H4 D (.dK (L2.putK acc kk y'))) := chg_put dz4 dl4
      refine ⟨acc, kk, ek, hD4, by rw [racc4.len]; exact hlt, hi, rfl, ρ4, st3, L2.putK acc kk y', PB.putK kk (.p y) accD, ((ex2.trans ex3).trans ex4).over hD hD4, dz4, dl4, S4.over dz4 dl4 hD4 (fun φ => by simp), upd_same, (racc4.putD ry).chg cg, hrest⟩
    · have e : i = items.1.length := by omega
      subst e
      rw [List.drop_length] at hcl
      obtain ⟨hgi, rfl, rfl⟩ := dcompL_nil hcl
      refine .inl ⟨src.stop ρi H' _ exi Si hgi, ?_⟩
      have cg : Chg D ρi H' (ρi.fre D) (rmv H' D) := chg_fre dz dl
      have nz : D ∉ ρ1.z := fun z => S1.fresh hD (.inr z)
      have S5 := Si.fre dz dl hHD (fun φ => by simp)
      have nn := rmv_self (H := H') (p := D)
      have s2 := same_new (o := .dK acc) nn
      have g := fin (ρi.fre D) (upd (rmv H' D) D (.dK acc)) (.ref D) ((ex1.trans (exi.fre hD nz)).trans (Ext.same s2)) (S5.same s2) (.p (.dct (.inl upd_same) (S5.fresh nn) (((racc.chg cg).ext (Ext.same s2)).toP eds)))
      rw [rmv_put hHD] at g
      exact g
theorem r_dcomp {kx vx etg eit : Expr} {scope : Scope} {pos : Pos} {sk : SK} {ml : Env → M (List D)} {tg : Tg} {mk me : Env → M D} (C : Ctx X c G N sc fn k) (hi : PI X etg eit (tI X (srcW sk ml))) (ok : blkC N sc scope (ownOf N tg) = true)
    (hg : ∀ (s : Shared) (H : Hp) (Cc : Addr) (cl : List (Str × Addr)) (fp : List Addr), PG (X.blk s H scope (compEnvC scope cl Cc X.env) fp) etg (gP X tg))
    (hk : ∀ (s : Shared) (H : Hp) (Cc : Addr) (cl : List (Str × Addr)) (fp : List Addr), PE (X.blk s H scope (compEnvC scope cl Cc X.env) fp) kx (tM (X.blk s H scope (compEnvC scope cl Cc X.env) fp) mk))
    (he : ∀ (s : Shared) (H : Hp) (Cc : Addr) (cl : List (Str × Addr)) (fp : List Addr), PE (X.blk s H scope (compEnvC scope cl Cc X.env) fp) vx (tM (X.blk s H scope (compEnvC scope cl Cc X.env) fp) me)) (hs : ∀ x, foldedSetIterable eit X.env x = pure x) :
    PE X (.DictComp kx vx [⟨etg, eit, [], 0⟩] scope pos) (tM X (dcompM sk ml tg mk me)) := by
  refine (pe_dc (own := ownOf N tg) C.calm (by rw [C.hN]; exact C.nd) hi (by rw [C.hN, C.hsc]; exact blkOk_by ok) hg (fun _ _ _ _ _ => pts_nil) (fun s H Cc cl fp => (hk s H Cc cl fp).imp fun _ _ _ q => tMF_tM q) (fun s H Cc cl fp => (he s H Cc cl fp).imp fun _ _ _ q => tMF_tM q) hs).imp fun σ H Q q => by rw [own_slots]; exact dcomp_core q
end
end PB
set_option maxRecDepth 100000
set_option maxHeartbeats 4000000
/-! Pb, part 19: expressions do what the interpreter says. -/
namespace PB
open PySem PySem.Spec PyProof.Rows L2
structure EOk (X : Cx) (c : Cfg) (e : Ex) (ee : Expr) : Prop where
  pe : PE X ee (tM X (evE c e))
  fr : e.fr = true → PE X ee (tR X (evE c e))
  tt : e.tst = true → PT X ee (tT X (testM (evE c e)))
structure LOk (X : Cx) (c : Cfg) (l : List Ex) (es : List Expr) : Prop where
  pa : es.all notStar = true → PA X es (tL X (evL c l))
  len : ∀ env st ds st', evL c l env st = .ok ds st' → ds.length = es.length
  h0 : es = [] → ∀ env st, evL c l env st = .ok [] st
  ln : l.length = es.length
  pr : ∀ pos, PairsOk X pos es (evL c l)
  an : l ≠ [] → ∀ pos, PE X (.BoolOp .And es pos) (tM X (evAnd c l))
  ro : l ≠ [] → ∀ pos, PE X (.BoolOp .Or es pos) (tM X (evOr c l))
  ant : l ≠ [] → Ex.tsts l = true → ∀ pos, PW X (.BoolOp .And es pos) (tT X (testM (evAnd c l)))
  rot : l ≠ [] → Ex.tsts l = true → ∀ pos, PW X (.BoolOp .Or es pos) (tT X (testM (evOr c l)))
  hd : ∀ x r e s, l = x :: r → es = e :: s → EOk X c x e
  nth : ∀ (i : Nat) x e, l[i]? = some x → es[i]? = some e → EOk X c x e
  pk : ∀ kws : List Keyword, kws.map (fun k => k.value) = es → PK X kws (tL X (evL c l))
theorem _root_.L2.PK.imp {X : Cx} {e : List Keyword} {t t' : TA} (h : PK X e t) (q : ∀ σ H Q, t' σ H Q → t σ H Q) : PK X e t' := ⟨fun pos pins s σ H Q I z => h.run pos pins s σ H Q I (q σ H Q z)⟩
section
variable {X : Cx} {c : Cfg} {G : List (String × P)} {N : List Str} {sc : Scope} {fn : Str → Bool} {k : Nat}
theorem bl_of (C : Ctx X c G N sc fn k) {x : String} (h : x ∈ bifNames ++ tyNames ++ ["isinstance", "range", "enumerate", "zip", "reversed", "set"]) : X.mg (Str.ofString x) = none := C.gb.bl x h
def valForm : Expr → Prop
  | .BoolOp _ _ _ => False
  | .UnaryOp _ _ _ => False
  | .Compare _ _ _ _ => False
  | .IfExp _ _ _ _ => False
  | .Constant _ _ _ => False
  | .NamedExpr _ _ _ => False
  | _ => True
theorem isTrue_val {e : Expr} {env : PySem.Env} (h : valForm e) (whole : Sem Value) : isTrue e env whole = (do let v ← whole; standAt e.pos; holding [v] (truthy v)) := by
  cases e <;> first | rfl | exact h.elim
theorem src_pi (C : Ctx X c G N sc fn k) {sk : SK} {src : List Ex} {etg eit : Expr} (h : srcForm sc sk etg eit = true) (L : LOk X c src (srcEs sk eit)) : PI X etg eit (tI X (srcW sk (evL c src))) := by
  cases sk with
  | it =>
    have L : LOk X c src [eit] := L
    have hl := L.ln
    cases src with
    | nil => simp at hl
    | cons s r =>
      cases r with
      | cons _ _ => simp at hl
      | nil =>
        have e : (evL c [s]) = fun env => (do let x ← evE c s env; pure [x]) := by
          funext env
          rw [evL, evL]
          rfl
        rw [e]
        exact pi_it (L.hd s [] eit [] rfl rfl).pe
  | keys =>
    have L : LOk X c src [eit] := L
    have hl := L.ln
    cases src with
    | nil => simp at hl
    | cons s r =>
      cases r with
      | cons _ _ => simp at hl
      | nil =>
        have e : (evL c [s]) = fun env => (do let x ← evE c s env; pure [x]) := by
          funext env
          rw [evL, evL]
          rfl
        rw [e]
        exact pi_keysO (L.hd s [] eit [] rfl rfl).pe
  | rng =>
    have h : rngForm sc eit = true := h
    unfold rngForm at h
    split at h
    · simp only [Bool.and_eq_true, decide_eq_true_eq] at h
      obtain ⟨⟨rfl, h2⟩, h3⟩ := h
      exact pi_rng (gl_of C h2) (bl_of C (by simp)) (L.pa h3) L.len L.h0 fun e he r => star_of (List.all_eq_true.mp h3 e he) r X.env
    · cases h
  | enum =>
    have h : (isTup etg && enumForm sc eit) = true := h
    rw [Bool.and_eq_true] at h
    obtain ⟨ht, h⟩ := h
    unfold enumForm at h
    split at h
    · simp only [Bool.and_eq_true, decide_eq_true_eq] at h
      obtain ⟨⟨rfl, h2⟩, h3⟩ := h
      cases etg with
      | Tuple elts kk tpos => exact pi_enumK (gl_of C h2) (bl_of C (by simp)) (L.pa (by simp [h3, srcEs])) L.len (star_of h3 _ _)
      | _ => cases ht
    · cases h
  | zip =>
    have h : (isTup etg && zipForm sc eit) = true := h
    rw [Bool.and_eq_true] at h
    obtain ⟨ht, h⟩ := h
    unfold zipForm at h
    split at h
    · simp only [Bool.and_eq_true, decide_eq_true_eq] at h
      obtain ⟨⟨⟨rfl, h2⟩, h3⟩, h4⟩ := h
      cases etg with
      | Tuple elts kk tpos => exact pi_zipK (gl_of C h2) (bl_of C (by simp)) (L.pa (by simp [h3, h4, srcEs])) L.len (star_of h3 _ _) (plain_of (X := X) (es := [_]) (by simp [h4])).none
      | _ => cases ht
    · cases h
  | zip3 =>
    have h : (isTup etg && zip3Form sc eit) = true := h
    rw [Bool.and_eq_true] at h
    obtain ⟨ht, h⟩ := h
    unfold zip3Form at h
    split at h
    · simp only [Bool.and_eq_true, decide_eq_true_eq] at h
      obtain ⟨⟨⟨⟨rfl, h2⟩, h3⟩, h4⟩, h5⟩ := h
      cases etg with
      | Tuple elts kk tpos => exact pi_zip3K (gl_of C h2) (bl_of C (by simp)) (L.pa (by simp [h3, h4, h5, srcEs])) L.len (star_of h3 _ _) (plain_of (X := X) (es := [_, _]) (by simp [h4, h5])).none
      | _ => cases ht
    · cases h
  | rev =>
    have h : revForm sc eit = true := h
    unfold revForm at h
    split at h
    · rename_i y p z p2 e pos2 pos hh
      simp only [Bool.and_eq_true, decide_eq_true_eq] at h
      obtain ⟨⟨⟨⟨rfl, rfl⟩, h2⟩, h3⟩, h4⟩ := h
      have L : LOk X c src [e] := L
      have hl := L.ln
      cases src with
      | nil => simp at hl
      | cons s r =>
        cases r with
        | cons _ _ => simp at hl
        | nil =>
          have e0 : (evL c [s]) = fun env => (do let x ← evE c s env; pure [x]) := by
            funext env
            rw [evL, evL]
            rfl
          rw [e0]
          exact pi_revK (gl_of C h2) (bl_of C (by simp)) (gl_of C h3) (bl_of C (by simp)) (L.hd s [] e [] rfl rfl).pe fun r => star_of h4 r _
    · cases h
  | enumz =>
    have h : (isTup etg && enumzForm sc eit) = true := h
    rw [Bool.and_eq_true] at h
    obtain ⟨ht, h⟩ := h
    unfold enumzForm at h
    split at h
    · simp only [Bool.and_eq_true, decide_eq_true_eq] at h
      obtain ⟨⟨⟨⟨⟨rfl, rfl⟩, h2⟩, h2'⟩, h3⟩, h4⟩ := h
      cases etg with
      | Tuple elts kk tpos => exact pi_enumzK (gl_of C h2) (bl_of C (by simp)) (gl_of C h2') (bl_of C (by simp)) (L.pa (by simp [h3, h4, srcEs])) L.len (star_of h3 _ _) (plain_of (X := X) (es := [_]) (by simp [h4])).none
      | _ => cases ht
    · cases h
/-- a value's test -/
theorem tt_val {e : Ex} {ee : Expr} (h : PE X ee (tM X (evE c e))) (he : valForm ee) : PT X ee (tT X (testM (evE c e))) := t_val h (isTrue_val he)
theorem EOk.val {e : Ex} {ee : Expr} (h : PE X ee (tM X (evE c e))) (hf : e.fr = false) (he : valForm ee) : EOk X c e ee := ⟨h, fun z => (by rw [hf] at z; cases z), fun _ => tt_val h he⟩
theorem EOk.not {e : Ex} {ee : Expr} (h : PE X ee (tM X (evE c e))) (hf : e.fr = false) (ht : e.tst = false) : EOk X c e ee := ⟨h, fun z => (by rw [hf] at z; cases z), fun z => (by rw [ht] at z; cases z)⟩
theorem EOk.raw {e : Ex} {ee : Expr} (o : OnlyP (evE c e)) (h : PE X ee (tR X (evE c e))) (he : valForm ee) : EOk X c e ee := ⟨PE.of_raw o h, fun _ => h, fun _ => tt_val (PE.of_raw o h) he⟩
theorem blk_ctx (C : Ctx X c G N sc fn k) {scope : Scope} {own : List (Str × Nat)} (ok : blkC N sc scope own = true) (s : Shared) (H : Hp) (Cc : Addr) (cl : List (Str × Addr)) (fp : List Addr) :
    Ctx (X.blk s H scope (compEnvC scope cl Cc X.env) fp) c G N (relS scope sc) (blkFn scope) k where
  hN := C.hN
  nd := C.nd
  hsc := by
    rw [← C.hsc]
    rfl
  calm := C.calm
  gd := C.gd
  room := C.room
  gb := C.gb
  hfn := fun y h => h
  kind := (blkOk_by ok).kind
  gx := C.gx
theorem fun_of {m : Env → M D} {e : Ex} (h : ∀ env, evE c e env = m env) : evE c e = m := funext h
theorem l_two {l : List Ex} {x : Ex} {es : List Expr} {ea : Expr} (hx : EOk X c x ea) (hl : LOk X c l es) : LOk X c (x :: l) (ea :: es) where
  pa := fun h => by
    rw [List.all_cons, Bool.and_eq_true] at h
    have e : evL c (x :: l) = consM (evE c x) (evL c l) := by funext env; rw [evL]; rfl
    rw [e]
    exact l_cons hx.pe (hl.pa h.2) h.1
  len := by
    have e : evL c (x :: l) = consM (evE c x) (evL c l) := by funext env; rw [evL]; rfl
    rw [e]
    exact len_cons hl.len
  h0 := fun h => by cases h
  ln := by simp [hl.ln]
  pr := fun pos => by
    have e : evL c (x :: l) = consM (evE c x) (evL c l) := by funext env; rw [evL]; rfl
    rw [e]
    exact pairs_cons hx.pe (hl.pr pos)
  an := fun _ pos => by
    cases l with
    | nil =>
      have : es = [] := by
        have := hl.ln
        cases es with
        | nil => rfl
        | cons _ _ => simp at this
      subst this
      have e : evAnd c [x] = evE c x := by funext env; rw [evAnd]
      rw [e]
      exact pe_one hx.pe
    | cons y l =>
      cases es with
      | nil => have := hl.ln; simp at this
      | cons eb es =>
        have e : evAnd c (x :: y :: l) = andM (evE c x) (evAnd c (y :: l)) := by funext env; rw [evAnd]; rfl
        rw [e]
        exact r_and hx.pe (hl.an (by simp) pos)
  ro := fun _ pos => by
    cases l with
    | nil =>
      have : es = [] := by
        have := hl.ln
        cases es with
        | nil => rfl
        | cons _ _ => simp at this
      subst this
      have e : evOr c [x] = evE c x := by funext env; rw [evOr]
      rw [e]
      exact pe_one hx.pe
    | cons y l =>
      cases es with
      | nil => have := hl.ln; simp at this
      | cons eb es =>
        have e : evOr c (x :: y :: l) = orM (evE c x) (evOr c (y :: l)) := by funext env; rw [evOr]; rfl
        rw [e]
        exact r_or hx.pe (hl.ro (by simp) pos)
  ant := fun _ ht pos => by
    unfold Ex.tsts at ht
    rw [Bool.and_eq_true] at ht
    cases l with
    | nil =>
      have : es = [] := by
        have := hl.ln
        cases es with
        | nil => rfl
        | cons _ _ => simp at this
      subst this
      have e : evAnd c [x] = evE c x := by funext env; rw [evAnd]
      rw [e]
      exact pw_and1 (hx.tt ht.1)
    | cons y l =>
      cases es with
      | nil => have := hl.ln; simp at this
      | cons eb es =>
        have e : evAnd c (x :: y :: l) = andM (evE c x) (evAnd c (y :: l)) := by funext env; rw [evAnd]; rfl
        rw [e]
        exact w_and (hx.tt ht.1) (hl.ant (by simp) ht.2 pos)
  rot := fun _ ht pos => by
    unfold Ex.tsts at ht
    rw [Bool.and_eq_true] at ht
    cases l with
    | nil =>
      have : es = [] := by
        have := hl.ln
        cases es with
        | nil => rfl
        | cons _ _ => simp at this
      subst this
      have e : evOr c [x] = evE c x := by funext env; rw [evOr]
      rw [e]
      exact pw_or1 (hx.tt ht.1)
    | cons y l =>
      cases es with
      | nil => have := hl.ln; simp at this
      | cons eb es =>
        have e : evOr c (x :: y :: l) = orM (evE c x) (evOr c (y :: l)) := by funext env; rw [evOr]; rfl
        rw [e]
        exact w_or (hx.tt ht.1) (hl.rot (by simp) ht.2 pos)
  hd := fun a r b t h1 h2 => by
    cases h1
    cases h2
    exact hx
  nth := fun i a b h1 h2 => by
    cases i with
    | zero => cases h1; cases h2; exact hx
    | succ i => exact hl.nth i a b (by simpa using h1) (by simpa using h2)
  pk := fun kws hk => by
    cases kws with
    | nil => cases hk
    | cons kw r =>
      obtain ⟨nm, e0, kp⟩ := kw
      have h1 : e0 = ea := by simpa using (List.cons.inj hk).1
      have h2 : r.map (fun k => k.value) = es := (List.cons.inj hk).2
      subst h1
      have e : evL c (x :: l) = consM (evE c x) (evL c l) := by funext env; rw [evL]; rfl
      rw [e]
      refine (pk_cons hx.pe (hl.pk r h2)).imp fun σ H Q q => ?_
      obtain ⟨ρ, env, st, hE, hS, q⟩ := q
      refine tM_mono (step (Now.start hE hS) (show ((evE c x env st).bind fun x st => ((evL c l env st).bind fun xs st => .ok (x :: xs) st)).holds (PostL X.K ρ H Q) (Er X ρ H) from q)) ?_
      rintro x H1 ⟨ρ1, st1, v, n1, rx, e1, q⟩
      refine tL_mono (stepL n1 q) ?_
      rintro xs H2 ⟨ρ2, st2, vs, n2, rs, e2, q⟩
      exact q ρ2 H2 (x :: xs) n2.ext n2.rs (.cons (rx.ext e2) rs)
theorem l_none : LOk X c [] [] where
  pa := fun _ => by
    have e : evL c [] = fun _ => pure [] := by funext env; rw [evL]
    rw [e]
    exact l_nil
  len := fun env st ds st' h => by
    rw [evL] at h
    cases h
    rfl
  h0 := fun _ env st => by rw [evL]; rfl
  ln := rfl
  pr := fun pos => by
    have e : evL c [] = fun _ => pure [] := by funext env; rw [evL]
    rw [e]
    exact pairs_nil
  an := fun h => absurd rfl h
  ro := fun h => absurd rfl h
  ant := fun h => absurd rfl h
  rot := fun h => absurd rfl h
  hd := fun a r b t h1 h2 => by cases h1
  nth := fun i a b h1 h2 => by simp at h1
  pk := fun kws hk => by
    cases kws with
    | nil =>
      have e : evL c [] = fun _ => pure [] := by funext env; rw [evL]
      rw [e]
      refine pk_nil.imp fun σ H Q q => ?_
      obtain ⟨ρ, env, st, hE, hS, q⟩ := q
      exact q ρ H [] .refl hS .nil
    | cons _ _ => cases hk
theorem kws_len : ∀ {ks : List String} {kws : List Keyword}, kwsAre ks kws = true → kws.length = ks.length
  | [], [], _ => rfl
  | [], _ :: _, h => by unfold kwsAre at h; cases h
  | _ :: _, [], h => by unfold kwsAre at h; cases h
  | k :: ks, ⟨none, _, _⟩ :: r, h => by unfold kwsAre at h; cases h
  | k :: ks, ⟨some n, _, _⟩ :: r, h => by
    unfold kwsAre at h
    rw [Bool.and_eq_true] at h
    simp [kws_len h.2]
theorem kws_facts {env : PySem.Env} {pos : Pos} : ∀ {ks : List String} {kws : List Keyword}, kwsAre ks kws = true → (backToKw pos (keywordEach kws env)).all (·.1.isSome) = true ∧
    (backToKw pos (keywordEach kws env)).filterMap (·.1) = ks.map Str.ofString ∧ (backToKw pos (keywordEach kws env)).any (·.1.isNone) = false
  | [], [], _ => ⟨rfl, rfl, rfl⟩
  | [], _ :: _, h => by unfold kwsAre at h; cases h
  | _ :: _, [], h => by unfold kwsAre at h; cases h
  | k :: ks, ⟨none, _, _⟩ :: r, h => by unfold kwsAre at h; cases h
  | k :: ks, ⟨some n, v, p⟩ :: r, h => by
    unfold kwsAre at h
    rw [Bool.and_eq_true, decide_eq_true_eq] at h
    obtain ⟨h1, h2, h3⟩ := kws_facts (env := env) (pos := pos) h.2
    have e : backToKw pos (keywordEach (⟨some n, v, p⟩ :: r) env) = (some n, do let u ← eval v env; standAt pos; pure u) :: backToKw pos (keywordEach r env) := rfl
    rw [e]
    refine ⟨by rw [List.all_cons, h1]; rfl, by
      show n :: (backToKw pos (keywordEach r env)).filterMap (·.1) = _
      rw [h2, h.1]; rfl, by rw [List.any_cons, h3]; rfl⟩
end
end PB
set_option maxRecDepth 100000
set_option maxHeartbeats 2000000
/-! Pb, part R: a tuple turned about by a slice. -/
namespace PB
open PySem PySem.Spec PyProof.Rows L2 PySem.Calls
section
variable {prog : Program} {w : World} {A : Around} {E : Value → Shared → Prop} {s : Shared}
theorem back_adjust (n : Nat) : Builtin.Slice.sliceAdjust none none (-1) (n : Int) = ((n : Int) - 1, -1) := by
  simp [Builtin.Slice.sliceAdjust]
theorem back_places (n : Nat) : Builtin.Slice.slicePlaces ((n : Int) - 1) (-1) (-1) = n := by
  unfold Builtin.Slice.slicePlaces
  simp
  omega
theorem back_applied {sl : Addr} {k : Tok} {n : Nat} {Q : Int × Int × Nat → Shared → Prop} (hs : s.heap.IsSliceOf sl .none .none (.int (-1) k)) (h : Q ((n : Int) - 1, -1, n) s) :
    wpAny (model prog w) A (Builtin.Slice.sliceApplied (.ref sl) (pure (n : Int))) Q E s := by
  obtain ⟨o, ho, hc, hd⟩ := id hs
  unfold Builtin.Slice.sliceApplied Builtin.Slice.sliceFields
  refine wpAny_bind (wpAny_bind (wpAny_field ho hd (x := .none) rfl ?_))
  refine wpAny_bind (wpAny_field ho hd (x := .none) rfl ?_)
  refine wpAny_bind (wpAny_field ho hd (x := .int (-1) k) rfl ?_)
  refine wpAny_pure (wpAny_bind (slicePart_int ?_))
  show wpAny _ _ (if ((-1 : Int) == 0) = true then _ else _) _ _ s
  rw [if_neg (by decide)]
  refine wpAny_bind (slicePart_none (wpAny_bind (slicePart_none (wpAny_bind (wpAny_pure ?_)))))
  show wpAny _ _ (match Builtin.Slice.sliceAdjust none none (-1) (n : Int) with | (a, b) => pure (a, (-1 : Int), Builtin.Slice.slicePlaces a b (-1))) _ _ s
  rw [back_adjust]
  show wpAny _ _ (pure ((n : Int) - 1, (-1 : Int), Builtin.Slice.slicePlaces ((n : Int) - 1) (-1) (-1))) _ _ s
  rw [back_places]
  exact wpAny_pure h
theorem back_pick (xs : Array Value) : ((List.range xs.size).filterMap fun (m : Nat) => xs[((xs.size : Int) - 1 + (m : Int) * (-1)).toNat]?) = xs.toList.reverse := by
  apply List.ext_getElem?
  intro i
  have e : (List.range xs.size).filterMap (fun (m : Nat) => xs[((xs.size : Int) - 1 + (m : Int) * (-1)).toNat]?) = (List.range xs.size).map (fun (m : Nat) => (xs[((xs.size : Int) - 1 + (m : Int) * (-1)).toNat]?).getD .none) := by
    have : ∀ l : List Nat, (∀ m ∈ l, m < xs.size) → l.filterMap (fun (m : Nat) => xs[((xs.size : Int) - 1 + (m : Int) * (-1)).toNat]?) = l.map (fun (m : Nat) => (xs[((xs.size : Int) - 1 + (m : Int) * (-1)).toNat]?).getD .none) := by
      intro l
      induction l with
      | nil => intro _; rfl
      | cons m r ih =>
        intro hm
        have h1 := hm m (by simp)
        have h2 : ((xs.size : Int) - 1 + (m : Int) * (-1)).toNat < xs.size := by omega
        have h3 : (fun (m : Nat) => xs[((xs.size : Int) - 1 + (m : Int) * (-1)).toNat]?) m = some (xs[((xs.size : Int) - 1 + (m : Int) * (-1)).toNat]) := Array.getElem?_eq_getElem h2
        rw [List.filterMap_cons_some (f := fun (m : Nat) => xs[((xs.size : Int) - 1 + (m : Int) * (-1)).toNat]?) h3, ih fun k hk => hm k (by simp [hk]), List.map_cons, Array.getElem?_eq_getElem h2]
        rfl
    exact this _ fun m hm => List.mem_range.mp hm
  rw [e]
  by_cases hi : i < xs.size
  · have h2 : ((xs.size : Int) - 1 + (i : Int) * (-1)).toNat = xs.size - 1 - i := by omega
    have h3 : xs.size - 1 - i < xs.size := by omega
    rw [List.getElem?_map, List.getElem?_range hi, List.getElem?_reverse (by simpa using hi), Option.map_some, h2, Array.getElem?_eq_getElem h3, Array.length_toList, Array.getElem?_toList, Array.getElem?_eq_getElem h3]
    rfl
  · rw [List.getElem?_eq_none (by simp; omega), List.getElem?_eq_none (by simp; omega)]
theorem back_item {t sl : Addr} {items : Array Value} {k : Tok} {Q : Value → Shared → Prop} (ht : IsTup s.heap t items) (hs : s.heap.IsSliceOf sl .none .none (.int (-1) k))
    (h : Q (.ref s.heap.objs.size) { s with heap := s.heap.push { cls := .type "tuple", data := .seq items.toList.reverse.toArray } }) (hz : items.size ≤ sizeLine) : wpAny (model prog w) A (getItem (.ref t) (.ref sl)) Q E s := by
  have room : sizeOk (.seq items.toList.reverse.toArray) := by
    show items.toList.reverse.toArray.size ≤ sizeLine
    simpa using hz
  obtain ⟨o, ho, hc, hd⟩ := id hs
  have isS : s.TypeIs (.ref sl) "slice" := ⟨o, ho, hc⟩
  unfold getItem
  try with_reducible refine wpAny_holding ?_
  first | refine wpAny_bind (wpAny_pure ?_) | skip
  refine wpAny_bind (wpAny_sequenceKey ht.typeIs (by decide) ?_)
  refine wpAny_bind (wpAny_callSpecial?_slot (name := Str.ofString "__getitem__") ht.typeIs slot_tuple_getitem (wpAny_call_entry slot_tuple_getitem ht.typeIs entry_tuple_getitem ?_ (args_tuple_getitem _ _)))
  show wpAny _ _ (Builtin.Tuple.tupleItemsOf (.ref t) >>= _) _ _ s
  refine wpAny_bind (tupleItemsOf_ ht (wpAny_bind (wpAny_typeOf isS ?_)))
  rw [if_pos (by decide)]
  refine wpAny_bind (back_applied hs ?_)
  show wpAny _ _ (if (((items.size : Int) - 1) == 0 && (-1 : Int) == 1 && items.size == items.size) = true then _ else _) _ _ s
  rw [if_neg (by simp), back_pick]
  first
    | exact wpAny_bind (m := Builtin.Tuple.tupleExact _) (wpAny_newObj_type (wpAny_pure ⟨_, rfl, wpAny_pure h⟩) room)
    | exact wpAny_bind (m := Builtin.Tuple.tupleExact _) (wpAny_newObj_type (wpAny_bind (wpAny_pure (wpAny_pure ⟨_, rfl, wpAny_pure h⟩))) room)
    | exact wpAny_bind (wpAny_bind (m := Builtin.Tuple.tupleExact _) (wpAny_newObj_type (wpAny_pure (wpAny_pure ⟨_, rfl, wpAny_pure h⟩)) room))
    | exact wpAny_bind (wpAny_bind (m := Builtin.Tuple.tupleExact _) (wpAny_newObj_type (wpAny_pure ⟨_, rfl, wpAny_pure h⟩) room))
end
section
variable {X : Cx} {e : Expr} {te : TE}
def tBackT (K : PySem.W.Frag) (te : TE) : TE := fun σ H Q => te σ H fun x H1 => ∃ a xs, x = .ref a ∧ SqT K H1 a xs ∧ ∀ p, H1 p = none → Q (.ref p) (upd H1 p (.tup xs.reverse))
theorem pe_backT {n : Nat} {p1 p2 p3 pos : Pos} (he : PE X e te) : PE X (.Subscript e (.Slice none none (some (.UnaryOp .USub (.Constant (.int 1) n p1) p2)) p3) pos) (tBackT X.K te) := by
  refine ⟨fun pins s σ H Q I h => Subscript_ (thn (he.run pins s σ H _ I h) ?_)⟩
  rintro v s1 ⟨x, H1, I1, r1, a, xs, rfl, hx, q⟩
  cases r1
  have part : PO X (some (.UnaryOp .USub (.Constant (.int 1) n p1) p2)) (tPart (tUn (rU fun i => .int (-i)) (tC (.int 1)))) := po_some (pe_un un_neg pe_int)
  refine wpAny_Slice (thn (po_none.run pins s1 σ H1 (fun o H2 => o = none ∧ H2 = H1) I1 ⟨rfl, rfl⟩) ?_)
  rintro vl s2 ⟨l, H2, I2, pl, rfl, rfl⟩
  refine thn (po_none.run pins s2 σ H2 (fun o H3 => o = none ∧ H3 = H2) I2 ⟨rfl, rfl⟩) ?_
  rintro vu s3 ⟨u, H3, I3, pu, rfl, rfl⟩
  refine thn (part.run pins s3 σ H3 (fun o H4 => o = some (-1) ∧ H4 = H3) I3 ⟨1, rfl, -1, rfl, rfl, rfl⟩) ?_
  rintro vs s4 ⟨o, H4, I4, ps, rfl, rfl⟩
  cases pl
  cases pu
  cases ps
  rename_i tok
  generalize hs5 : ({ s4 with heap := s4.heap.push { cls := .type "slice", data := .fields #[.none, .none, .int (-1) tok] } } : Shared) = s5
  have I5 : L2.Inv X pins σ H4 s5 := by
    rw [← hs5]
    exact I4.kept (t' := s4.toks) (fun b ob q => Heap.get?_push_of_some _ q)
  have isl : s5.heap.IsSliceOf s4.heap.objs.size .none .none (.int (-1) tok) := by
    rw [← hs5]
    exact Heap.IsSliceOf.new _ _ _ _
  obtain ⟨its, r, ht, hz⟩ := I5.tuple hx
  show wpAny (model X.prog X.w) X.A (subscriptTail e (.Slice none none (some (.UnaryOp .USub (.Constant (.int 1) n p1) p2)) p3) (.ref a) (.ref s4.heap.objs.size)) (EP X pins σ Q) X.xe s5
  refine tail_any (ops := [.ref a, .ref s4.heap.objs.size]) ht.typeIs slot_tuple_getitem.lookup ?_ (by with_unfolding_all rfl)
  refine back_item ht isl ?_ (by rw [List.size_toArray, ← r.length]; exact hz)
  refine ⟨.ref s5.heap.objs.size, _, I5.laid (t' := s5.toks) (o := .tup xs.reverse) (fun b ob q => Heap.get?_push_of_some _ q) (Nat.le_refl _) ?_, rfl, q _ (I5.hok.fresh (Nat.le_refl _))⟩
  exact ⟨by rw [List.length_reverse]; exact hz, its.reverse, r.reverse, by simpa using IsTup.new _ _⟩
end
end PB
set_option maxRecDepth 100000
set_option maxHeartbeats 4000000
/-! Pb, part S: list(range(..)), tuple(range(..)). -/
namespace PB
open PySem PySem.Spec PyProof.Rows L2
section
variable {X : Cx} {c : Cfg} {G : List (String × P)} {N : List Str} {sc : Scope} {fn : Str → Bool} {k : Nat}
theorem rng_holds {vs : List D} {st : Sto} {α : Type} {f : List P × (Sto → Prop) → Sto → R α} {Qf : α → Sto → Prop} {E : EE} (h : ((srcM .rng vs st).bind f).holds Qf E) : ∃ qs items, Views st vs qs ∧ rangeP qs = some items ∧ (f (items, stays st vs) st).holds Qf E := by
  unfold srcM at h
  rw [assoc_b] at h
  obtain ⟨qs, e1, h⟩ := seenL h
  cases e2 : srcK .rng st vs qs with
  | none => rw [e2] at h; exact h.elim
  | some items =>
    rw [e2] at h
    exact ⟨qs, items, vws_views e1, e2, h⟩
theorem rg_rel {K : PySem.W.Frag} {H : Hp} {ρ : Pl} (a b : Int) : RPs K H ρ (rgV a b) (rangeD a (b - a).toNat) := by
  unfold rgV rangeD
  have : ∀ l : List Nat, RPs K H ρ (l.map fun i => V.int (a + (i : Nat))) (l.map fun (i : Nat) => PyData.int (a + i)) := by
    intro l
    induction l with
    | nil => exact .nil
    | cons i r ih => exact .cons (.int _) ih
  exact this _
def rngI (ml : Env → M (List D)) : Env → M (List P) := fun env => do
  let xs ← ml env
  let items ← srcM .rng xs
  if SK.rng = .rng ∧ items.1.length ≤ 16777216 then pure items.1 else stop
def tRng (X : Cx) (ml : Env → M (List D)) (B : Int → Int → Hp → VK → Prop) : TE := fun σ H Q => ∃ ρ env st, RE X.K H ρ env σ ∧ RS X.K H ρ st ∧ (rngI ml env st).holds (fun items st1 => ∀ a b ρ1 H1, items = rangeD a (b - a).toNat → Ext ρ H ρ1 H1 → RS X.K H1 ρ1 st1 → B a b H1 Q) (Er X ρ H)
theorem rng_rule {call : Expr} {es : List Expr} {l : List Ex} {p pos : Pos} {B : Int → Int → Hp → VK → Prop} (K1 : ∀ te, PRg X (.Call (.Name "range" p) es [] pos) te → PE X call (fun σ H Q => te σ H fun a b H1 => RgOk a b ∧ B a b H1 Q))
    (L : LOk X c l es) (hs : es.all notStar = true) (hl : l.length ≤ 2) (h1 : l ≠ []) (hg : Gl X "range") (hm : X.mg "range" = none) : PE X call (tRng X (evL c l) B) := by
  have ln := L.ln
  match l, es, ln, hl, h1, L, K1, hs with
  | [x], [a], _, _, _, L, K1, hs =>
    have st : notStar a = true := by simpa using hs
    refine (K1 _ (prg_1 hg hm (L.nth 0 x a rfl rfl).pe (star_of st _ _))).imp fun σ H Q q => ?_
    obtain ⟨ρ, env, st0, hE, hS, q⟩ := q
    have q : ((evE c x env st0).bind fun v st => ((srcM .rng [v] st).bind fun items st => (if SK.rng = .rng ∧ items.1.length ≤ 16777216 then pure items.1 else stop : M (List P)) st)).holds (fun items st1 => ∀ a b ρ1 H1, items = rangeD a (b - a).toNat → Ext ρ H ρ1 H1 → RS X.K H1 ρ1 st1 → B a b H1 Q) (Er X ρ H) := by
      have e : evL c [x] env st0 = (evE c x env st0).bind fun v st => .ok [v] st := by
        rw [evL, evL]
        rfl
      have q : ((evL c [x] env st0).bind fun xs st => ((srcM .rng xs st).bind fun items st => (if SK.rng = .rng ∧ items.1.length ≤ 16777216 then pure items.1 else stop : M (List P)) st)).holds _ (Er X ρ H) := q
      rw [e, assoc_b] at q
      exact q
    refine tM_mono (step (Now.start hE hS) q) ?_
    rintro y H1 ⟨ρ1, st1, v, n1, rx, e1, q⟩
    obtain ⟨qs, items, vi, e2, q⟩ := rng_holds q
    cases vi with
    | cons hv t =>
      cases t
      rename_i d
      split at q
      · rename_i hlen
        cases d with
        | int j =>
          have e2 : (if -(2 ^ 62) ≤ j ∧ j < 2 ^ 62 then some (rangeD 0 j.toNat) else none) = some items := e2
          split at e2
          · rename_i hb
            cases e2
            have rv := rx.view n1.rs hv
            cases rv
            have hl2 := hlen.2
            rw [rangeD_len] at hl2
            exact ⟨j, rfl, ⟨by decide, by decide, hb.1, hb.2, by simpa using hl2⟩, q 0 j ρ1 H1 (by simp) n1.ext n1.rs⟩
          · cases e2
        | _ => cases e2
      · exact q.elim
  | [x, y], [a, b], _, _, _, L, K1, hs =>
    have st : notStar a = true ∧ notStar b = true := by simpa using hs
    refine (K1 _ (prg_2 hg hm (L.nth 0 x a rfl rfl).pe (L.nth 1 y b rfl rfl).pe (star_of st.1 _ _) (star_of st.2 _ _) (plain_of (X := X) (es := [b]) (by simp [st.2])).none)).imp fun σ H Q q => ?_
    obtain ⟨ρ, env, st0, hE, hS, q⟩ := q
    have q : ((evE c x env st0).bind fun v st => ((evE c y env st).bind fun w st => ((srcM .rng [v, w] st).bind fun items st => (if SK.rng = .rng ∧ items.1.length ≤ 16777216 then pure items.1 else stop : M (List P)) st))).holds (fun items st1 => ∀ a b ρ1 H1, items = rangeD a (b - a).toNat → Ext ρ H ρ1 H1 → RS X.K H1 ρ1 st1 → B a b H1 Q) (Er X ρ H) := by
      have e : evL c [x, y] env st0 = (evE c x env st0).bind fun v st => ((evE c y env st).bind fun w st => .ok [v, w] st) := by
        rw [evL, evL, evL, m_bind]
        refine congrArg (R.bind _) (funext fun v => funext fun st1 => ?_)
        show (((evE c y env st1).bind fun w st => R.ok [w] st).bind fun xs st => R.ok (v :: xs) st) = _
        rw [assoc_b]
        rfl
      have q : ((evL c [x, y] env st0).bind fun xs st => ((srcM .rng xs st).bind fun items st => (if SK.rng = .rng ∧ items.1.length ≤ 16777216 then pure items.1 else stop : M (List P)) st)).holds _ (Er X ρ H) := q
      have key : ∀ {α : Type} (F : List D → Sto → R α), ((evL c [x, y] env st0).bind F) = ((evE c x env st0).bind fun v st => ((evE c y env st).bind fun w st => F [v, w] st)) := by
        intro α F
        rw [e, assoc_b]
        refine congrArg (R.bind _) (funext fun v => funext fun st1 => ?_)
        rw [assoc_b]
        rfl
      rw [key] at q
      exact q
    refine tM_mono (step (Now.start hE hS) q) ?_
    rintro y1 H1 ⟨ρ1, st1, v, n1, rx, e1, q⟩
    refine tM_mono (step n1 q) ?_
    rintro y2 H2 ⟨ρ2, st2, w, n2, ry, e2, q⟩
    obtain ⟨qs, items, vi, e3, q⟩ := rng_holds q
    cases vi with
    | cons hv t =>
      cases t with
      | cons hw t =>
        cases t
        rename_i d1 d2
        split at q
        · rename_i hlen
          have rv := (rx.ext e2).view n2.rs hv
          have rw' := ry.view n2.rs hw
          cases d1 with
          | int i =>
            cases d2 with
            | int j =>
              have e3 : (if (-(2 ^ 62) ≤ i ∧ i < 2 ^ 62) ∧ -(2 ^ 62) ≤ j ∧ j < 2 ^ 62 then some (rangeD i (j - i).toNat) else none) = some items := e3
              split at e3
              · rename_i hb
                cases e3
                cases rv
                cases rw'
                have hl2 := hlen.2
                rw [rangeD_len] at hl2
                exact ⟨i, j, rfl, rfl, ⟨hb.1.1, hb.1.2, hb.2.1, hb.2.2, hl2⟩, q i j ρ2 H2 rfl n2.ext n2.rs⟩
              · cases e3
            | _ => cases e3
          | _ => cases d2 <;> cases e3
        · exact q.elim
  | [], _, _, _, h1, _, _, _ => exact absurd rfl h1
  | _ :: _ :: _ :: _, _, _, hl, _, _, _, _ => simp at hl
  | [_], [], ln, _, _, _, _, _ => cases ln
  | [_], _ :: _ :: _, ln, _, _, _, _, _ => simp at ln
  | [_, _], [], ln, _, _, _, _, _ => cases ln
  | [_, _], [_], ln, _, _, _, _, _ => simp at ln
  | [_, _], _ :: _ :: _ :: _, ln, _, _, _, _, _ => simp at ln
def rngD (g : List P → P) (ml : Env → M (List D)) : Env → M D := fun env => do
  let xs ← ml env
  let items ← srcM .rng xs
  if SK.rng = .rng ∧ items.1.length ≤ 16777216 then pure (.p (g items.1)) else stop
theorem rngD_I {g : List P → P} {ml : Env → M (List D)} {env : Env} {st : Sto} : rngD g ml env st = (rngI ml env st).bind fun items st => .ok (.p (g items)) st := by
  show ((ml env st).bind fun xs st => ((srcM .rng xs st).bind fun items st => (if SK.rng = .rng ∧ items.1.length ≤ 16777216 then pure (.p (g items.1)) else stop : M D) st)) = (((ml env st).bind fun xs st => ((srcM .rng xs st).bind fun items st => (if SK.rng = .rng ∧ items.1.length ≤ 16777216 then pure items.1 else stop : M (List P)) st)).bind fun items st => .ok (.p (g items)) st)
  rw [assoc_b]
  refine congrArg (R.bind _) (funext fun x => funext fun st1 => ?_)
  rw [assoc_b]
  refine congrArg (R.bind _) (funext fun y => funext fun st2 => ?_)
  split <;> rfl
theorem only_rngD {g : List P → P} {ml : Env → M (List D)} : OnlyP (rngD g ml) := by
  intro env st v st' h
  rw [rngD_I] at h
  obtain ⟨_, _, _, h⟩ := ok_bind h
  cases h
  exact ⟨_, rfl⟩
theorem r_listRg {es : List Expr} {l : List Ex} {p p0 pos pos0 : Pos} (hc : X.calm = true) (h0 : Gl X "list") (hm0 : X.mg "list" = none) (L : LOk X c l es) (hs : es.all notStar = true) (hl : l.length ≤ 2) (h1 : l ≠ []) (hg : Gl X "range") (hm : X.mg "range" = none) :
    PE X (.Call (.Name "list" p0) [.Call (.Name "range" p) es [] pos] [] pos0) (tR X (rngD .list (evL c l))) := by
  refine (rng_rule (p := p) (pos := pos) (B := fun a b H1 Q => ∀ q, H1 q = none → Q (.ref q) (upd H1 q (.lst (rgV a b)))) (fun te h => pe_listRg hc h0 hm0 h) L hs hl h1 hg hm).imp fun σ H Q q => ?_
  obtain ⟨ρ, env, st, hE, hS, q⟩ := q
  rw [rngD_I] at q
  refine ⟨ρ, env, st, hE, hS, holds_mono (holds_bind.mp q) (fun items st1 q a b ρ1 H1 e ex S n hn => ?_) fun _ _ _ z => z⟩
  obtain ⟨r, er, q⟩ := q
  cases er
  subst e
  exact (q ρ1 H1 ex S) H1 (Same.refl H1) _ n (rg_rel a b) hn
theorem by_small {x y : Int} (h : y.natAbs < 1073741824) : Builtin.divisionGoesByPylong x y = false := by
  have h2 : y.natAbs.log2 < 30 := by
    rcases Nat.eq_zero_or_pos y.natAbs with e | e
    · rw [e]; decide
    · exact (Nat.log2_lt (by omega)).mpr (by omega)
  rw [Builtin.divisionGoesByPylong.eq_def]
  have h3 : (if (y == 0) = true then 0 else y.natAbs.log2 / 30 + 1) ≤ 1 := by
    split
    · omega
    · have : y.natAbs.log2 / 30 = 0 := Nat.div_eq_of_lt h2
      omega
  simp only [Bool.and_eq_false_iff, decide_eq_false_iff_not]
  exact .inl (by omega)
theorem pe_listRg3 {a b c : Expr} {ta : TA} {p p0 pos pos0 : Pos} (hcm : X.calm = true) (hgL : Gl X (Str.ofString "list")) (hmL : X.mg (Str.ofString "list") = none) (hg : Gl X (Str.ofString "range")) (hm : X.mg (Str.ofString "range") = none) (ha : PA X [a, b, c] ta)
    (hs : starEach [a, b, c] X.env = (false, eval a X.env) :: starEach [b, c] X.env) (hpl : ((backTo pos (starEach [b, c] X.env)).any fun x => x.1) = false) :
    PE X (.Call (.Name (Str.ofString "list") p0) [.Call (.Name (Str.ofString "range") p) [a, b, c] [] pos] [] pos0) (fun σ H Q => ta σ H fun vs H1 => ∃ i j k n, vs = [V.int i, V.int j, V.int k] ∧ RgC i j k n ∧ n ≤ 2 ^ 24 ∧ ∀ q, H1 q = none → Q (.ref q) (upd H1 q (.lst ((List.range n).map fun m : Nat => V.int (i + m * k))))) := by
  refine ⟨fun pins s σ H Q I h => ?_⟩
  have na : starEach [Expr.Call (.Name (Str.ofString "range") p) [a, b, c] [] pos] X.env = (false, eval (Expr.Call (.Name (Str.ofString "range") p) [a, b, c] [] pos) X.env) :: starEach [] X.env := rfl
  have inner : wpAny (model X.prog X.w) X.A (eval (Expr.Call (.Name (Str.ofString "range") p) [a, b, c] [] pos) X.env) (fun x s' => ∃ r i j k n t u v H', x = Value.ref r ∧ IsRange s'.heap r i j k t u v ∧ L2.Inv X pins σ H' s' ∧ RgC i j k n ∧ n ≤ 2 ^ 24 ∧ ∀ q, H' q = none → Q (.ref q) (upd H' q (.lst ((List.range n).map fun m : Nat => V.int (i + m * k))))) X.xe s := by
    refine Call_ (ld_blt I hg hm boot_range (PyProof.Rows.callWith_type1 (thn (ha.run pos pins s σ H _ I h) fun us s1 hx => ?_) hs hpl) (by decide) (by decide)) rfl
    obtain ⟨vs, H1, I1, r1, i, j, k, n, rfl, hR, hn, q⟩ := hx
    obtain ⟨c0, c1, c2, c3⟩ := hR
    cases r1 with
    | cons r rr =>
      cases rr with
      | cons r' rr =>
        cases rr with
        | cons r'' rr =>
          cases rr
          obtain ⟨t, rfl⟩ := r
          obtain ⟨t', rfl⟩ := r'
          obtain ⟨t'', rfl⟩ := r''
          refine call_range_3 c0 ⟨s1.heap.objs.size, i, j, k, n, t, t', t'', H1, rfl, IsRange.new s1.1 i j k t t' t'', Inv.kept I1 fun b u e => Heap.get?_push_of_some _ e, ⟨c0, c1, c2, c3⟩, hn, q⟩ (.inl (by_small c1))
  refine Call_ (ld_blt I hgL hmL boot_list (PyProof.Rows.callWith_type1 (args_cons (thn inner fun x s1 hx => args_nil ?_) na) na rfl) (by decide) (by decide)) rfl
  obtain ⟨r, i, j, k, n, t, u, v, H1, rfl, hr, I1, hR, hn, q⟩ := hx
  refine call_list_range (I1.ok.hd hcm) hr hR.2.2.1 hR.2.2.2 hn fun h' tk acc c' hk e' hi => ?_
  refine ⟨V.ref s1.heap.objs.size, upd H1 s1.heap.objs.size (HO.lst ((List.range n).map fun m : Nat => V.int (i + m * k))), Inv.laid I1 hk (Nat.le_refl _) ?_, rfl, q _ (HOk.fresh I1.hok (Nat.le_refl _))⟩
  have hsz : acc.toList.length = n := by rw [Array.length_toList]; exact hi.1
  have hv : Vals ((List.range n).map fun m : Nat => V.int (i + m * k)) acc.toList := by
    rw [← hsz]
    refine vals_of_get acc.toList (fun m => V.int (i + m * k)) fun j u hj => ?_
    obtain ⟨t, rfl⟩ := hi.2 j u (by rw [← hj, Array.getElem?_toList])
    exact ⟨t, rfl⟩
  refine ⟨by simp; exact Nat.le_trans hn (by decide), acc.toList, c', hv, ?_⟩
  rw [Array.toArray_toList]
  exact e'
theorem rgD_rel {K : PySem.W.Frag} {H : Hp} {ρ : Pl} (a : Int) (n : Nat) : RPs K H ρ ((List.range n).map fun m : Nat => V.int (a + m * (-1))) (rangeDn a n) := by
  unfold rangeDn
  have : ∀ l : List Nat, RPs K H ρ (l.map fun m : Nat => V.int (a + m * (-1))) (l.map fun (k : Nat) => PyData.int (a + k * (-1))) := by
    intro l
    induction l with
    | nil => exact .nil
    | cons i r ih => exact .cons (.int _) ih
  exact this _
theorem rgSt_rel {K : PySem.W.Frag} {H : Hp} {ρ : Pl} (a c : Int) (n : Nat) : RPs K H ρ ((List.range n).map fun m : Nat => V.int (a + m * c)) (rangeSt a c n) := by
  unfold rangeSt
  have : ∀ l : List Nat, RPs K H ρ (l.map fun m : Nat => V.int (a + m * c)) (l.map fun (k : Nat) => PyData.int (a + k * c)) := by
    intro l
    induction l with
    | nil => exact .nil
    | cons i r ih => exact .cons (.int _) ih
  exact this _
theorem r_listRg3 {es : List Expr} {l : List Ex} {p p0 pos pos0 : Pos} (hc : X.calm = true) (h0 : Gl X "list") (hm0 : X.mg "list" = none) (L : LOk X c l es) (hs : es.all notStar = true) (hl : l.length = 3) (hg : Gl X "range") (hm : X.mg "range" = none) :
    PE X (.Call (.Name "list" p0) [.Call (.Name "range" p) es [] pos] [] pos0) (tR X (rngD .list (evL c l))) := by
  have ln := L.ln
  rw [hl] at ln
  obtain ⟨a, b, d, rfl⟩ : ∃ a b d, es = [a, b, d] := by
    match es, ln with
    | [a, b, d], _ => exact ⟨a, b, d, rfl⟩
  have pa := L.pa hs
  have st : notStar a = true ∧ notStar b = true ∧ notStar d = true := by simpa using hs
  refine (pe_listRg3 hc h0 hm0 hg hm pa (star_of st.1 _ _) ((plain_of (X := X) (es := [b, d]) (by simp [st.2])).none)).imp fun σ H Q q => ?_
  obtain ⟨ρ, env, st0, hE, hS, q⟩ := q
  have q : ((evL c l env st0).bind fun xs st => ((srcM .rng xs st).bind fun items st => (if SK.rng = .rng ∧ items.1.length ≤ 16777216 then pure (.p (.list items.1)) else stop : M D) st)).holds (PostR X.K ρ H Q) (Er X ρ H) := q
  cases e0 : evL c l env st0 with
  | bad => rw [e0] at q; exact q.elim
  | err _ _ _ => rw [e0] at q; exact tL_err hE hS e0 q
  | ok ds st1 =>
    rw [e0] at q
    obtain ⟨qs, items, vi, e2, q⟩ := rng_holds (show ((srcM .rng ds st1).bind fun items st => (if SK.rng = .rng ∧ items.1.length ≤ 16777216 then pure (.p (.list items.1)) else stop : M D) st).holds (PostR X.K ρ H Q) (Er X ρ H) from q)
    have hds := L.len _ _ _ _ e0
    refine ⟨ρ, env, st0, hE, hS, ?_⟩
    rw [e0]
    intro ρ1 H1 vs e S r
    split at q
    · rename_i hlen
      have r := Views.rv S r vi
      cases vi with
      | nil => simp at hds
      | cons v1 vi =>
        cases vi with
        | nil => simp at hds
        | cons v2 vi =>
          cases vi with
          | nil => simp at hds
          | cons v3 vi =>
            cases vi with
            | cons _ _ => simp at hds
            | nil =>
              rename_i d1 _ _ d2 _ _ d3
              cases r with
              | cons r1 r2 =>
                cases r2 with
                | cons r3 r4 =>
                  cases r4 with
                  | cons r5 r6 =>
                    cases r6
                    cases r1 with
                    | int i =>
                      cases r3 with
                      | int j =>
                        cases r5 with
                        | int k =>
                          have e2 : (if k = -1 ∧ (-(2 ^ 62) ≤ i ∧ i < 2 ^ 62) ∧ -(2 ^ 62) ≤ j ∧ j < 2 ^ 62 then some (rangeDn i (i - j).toNat) else if (k < -1 ∧ -1000000 < k) ∧ (-(2 ^ 62) ≤ i ∧ i < 2 ^ 62) ∧ -(2 ^ 62) ≤ j ∧ j < 2 ^ 62 then some (rangeSt i k (rszN i j k)) else none) = some items := e2
                          split at e2
                          · rename_i hb
                            cases e2
                            obtain ⟨rfl, hb1, hb2⟩ := hb
                            have hl2 := hlen.2
                            rw [rangeDn_len] at hl2
                            obtain ⟨r, er, q⟩ := (show PostR X.K ρ H Q (.p (.list (rangeDn i (i - j).toNat))) st1 from q)
                            cases er
                            exact ⟨i, j, -1, (i - j).toNat, rfl, RgC.neg hb1.1 hb1.2 hb2.1 hb2.2, hl2, fun n hn => (q ρ1 H1 e S) H1 (Same.refl H1) _ n (rgD_rel i _) hn⟩
                          · split at e2
                            · rename_i hb
                              cases e2
                              obtain ⟨hb0, hb1, hb2⟩ := hb
                              have hl2 := hlen.2
                              rw [rangeSt_len] at hl2
                              obtain ⟨r, er, q⟩ := (show PostR X.K ρ H Q (.p (.list (rangeSt i k (rszN i j k)))) st1 from q)
                              cases er
                              exact ⟨i, j, k, rszN i j k, rfl, rgc_stp hb0 hb1.1 hb1.2 hb2.1 hb2.2, hl2, fun n hn => (q ρ1 H1 e S) H1 (Same.refl H1) _ n (rgSt_rel i k _) hn⟩
                            · cases e2
                        | _ => cases e2
                      | _ => cases e2
                    | _ => cases e2
    · exact q.elim
theorem r_tupRg {es : List Expr} {l : List Ex} {p p0 pos pos0 : Pos} (hc : X.calm = true) (h0 : Gl X "tuple") (hm0 : X.mg "tuple" = none) (L : LOk X c l es) (hs : es.all notStar = true) (hl : l.length ≤ 2) (h1 : l ≠ []) (hg : Gl X "range") (hm : X.mg "range" = none) :
    PE X (.Call (.Name "tuple" p0) [.Call (.Name "range" p) es [] pos] [] pos0) (tM X (rngD .tuple (evL c l))) := by
  refine (rng_rule (p := p) (pos := pos) (B := fun a b H1 Q => ∀ q, H1 q = none → Q (.ref q) (upd H1 q (.tup (rgV a b)))) (fun te h => pe_tupRg hc h0 hm0 h) L hs hl h1 hg hm).imp fun σ H Q q => ?_
  obtain ⟨ρ, env, st, hE, hS, q⟩ := q
  rw [rngD_I] at q
  refine ⟨ρ, env, st, hE, hS, holds_mono (holds_bind.mp q) (fun items st1 q a b ρ1 H1 e ex S n hn => ?_) fun _ _ _ z => z⟩
  subst e
  have s2 := same_new (o := .tup (rgV a b)) hn
  exact q ρ1 _ _ (ex.trans (Ext.same s2)) (S.same s2) (.p (.tup (.inl ⟨.inl upd_same, S.fresh hn⟩) (rg_rel a b)))
end
end PB
set_option maxRecDepth 100000
set_option maxHeartbeats 4000000
/-! Pb, part 19g: all(A[p] == B[p] for p in S), A a tuple, B a dict, S a tuple. -/
namespace PB
open PySem PySem.Spec PyProof.Rows L2
open GxR (Tabbed TabB inv_tab sh_eta keeps_refl keeps_tok)
section
variable {X : Cx} {pins : List (Addr × Obj)} {σ : L2.St} {H : Hp} {s : Shared}
theorem vals_at {xs : List V} {us : List Value} {i : Nat} {v : Value} (r : Vals xs us) (h : us[i]? = some v) : ∃ y, xs[i]? = some y ∧ RelV y v := by
  have hi : i < xs.length := by
    rw [r.length]
    exact (List.getElem?_eq_some_iff.mp h).1
  obtain ⟨u, h1, h2⟩ := r.get (List.getElem?_eq_getElem hi)
  rw [h] at h1
  cases h1
  exact ⟨_, List.getElem?_eq_getElem hi, h2⟩
/-- the element's truth at each place, whatever the generator's block is, while all that stood but the table stays -/
def EltT (X : Cx) (P : Addr) (scope : Scope) (x : Str) (elt : Expr) (xs : List V) (s1 : Shared) (tb : Nat → Bool) : Prop :=
  ∀ (cenv : PySem.Env) (A' : Around) (E' : Value → Shared → Prop) (j : Nat) (y : V) (v : Value) (s₂ : Shared) (m₂ : Str → Option Value), cenv.scope = scope → cenv.cells = cloFrom X.env.cells scope.names [] → xs[j]? = some y → RelV y v → s₂.heap.Ns cenv.locals m₂ → m₂ x = some v →
    (∀ b u, b ≠ P → s1.heap.get? b = some u → s₂.heap.get? b = some u) → wpAny (model X.prog X.w) A' (eval elt cenv) (fun y s₃ => y = .bool (tb j) ∧ Keeps s₂ s₃) E' s₂
def ReadyT (X : Cx) (pins : List (Addr × Obj)) (σ : L2.St) (H1 : Hp) (P : Addr) (n : Nat) (tb : Nat → Bool) (g : Addr) (s5 : Shared) : Prop :=
  ∃ (fp wr : List Addr) (Gs : Array GenState → Array GenState → Prop) (F : Nat → Value → Prop) (St : Nat → Shared → Prop),
    WalksS X.prog X.w X.A.in1 g fp wr Gs n F St ∧ St 0 s5 ∧ TruthOf X.prog X.w X.A.in1 F tb ∧
    ∀ s', Moved wr Gs s5 s' → ∃ H2, Tabbed P H1 H2 ∧ Inv X pins σ H2 s'
theorem gen_tup {c P : Addr} {elt iter : Expr} {x : Str} {px gpos : Pos} {scope : Scope} {te : TE} {k : Nat} {Q' : Value → Shared → Prop} {R : List V → (Nat → Bool) → Hp → Prop}
    (hr : Room k X.A) (TB : TabB X.base X.mg c P) (hcode : X.env.code = .ref c) (S : GxR.GenS X.env scope x) (hi : PE X iter te)
    (hs : ∀ v, genFold iter X.env v = pure v) (I : Inv X pins σ H s)
    (h : te σ H fun v H1 => ∃ a xs tb, v = .ref a ∧ SqT X.K H1 a xs ∧ TabG H1 P ∧ R xs tb H1 ∧ ∀ s1, Inv X pins σ H1 s1 → EltT X P scope x elt xs s1 tb)
    (hQ : ∀ xs tb H1 g s5, R xs tb H1 → ReadyT X pins σ H1 P xs.length tb g s5 → Q' (.ref g) s5) :
    wpAny (model X.prog X.w) X.A (eval (.GeneratorExp elt [⟨.Name x px, iter, [], 0⟩] scope gpos) X.env) Q' X.xe s := by
  refine wpAny_GeneratorExp_walksQ hr.hd S.co (closure_ok S.free) S.cell S.dot S.loc S.kind (by have := hr.dp; omega) ?_ hs
  refine thn (hi.run pins s σ H _ I h) fun xv s1 ⟨v, H1, I1, r1, q1⟩ => ?_
  obtain ⟨a, xs, tb, rfl, hsq, ⟨ps, hP, ht⟩, q1, hel⟩ := q1
  have hel := hel s1 I1
  cases r1
  obtain ⟨its, rv, ht0, hz⟩ := I1.tuple hsq
  have hlen : xs.length = its.length := rv.length
  have hIT : s1.heap.IsTuple a its.toArray := ht0
  refine wpAny_pyIter_tuple hIT ?_
  have hPs : s1.heap.get? P = some { cls := .none, data := .fields ps } := I1.hok P _ hP
  have hPlt : P < s1.heap.objs.size := Heap.lt_size hPs
  have halt : a < s1.heap.objs.size := let ⟨_, e, _⟩ := hIT; Heap.lt_size e
  have haP : a ≠ P := by
    rintro rfl
    obtain ⟨o, e, h1, _⟩ := hIT
    rw [hPs] at e
    cases e
    cases h1
  generalize hO : ({ cls := .type "tuple_iterator", data := .fields #[.ref a, .int 0 0] } : Obj) = o
  have hP2 : (s1.heap.push o).get? P = some { cls := .none, data := .fields ps } := Heap.get?_push_of_some _ hPs
  have cd : PySem.W.CodeHd (s1.heap.push o) c P := TB.code.keeps fun b u e => Heap.get?_push_of_some _ (I1.bk b u e)
  have lim2 : (s1.heap.push o).NoLimit := I1.nolimit.push o
  have cont : ∀ (code : Value) (h3 : Heap) (tk : Nat) (ps' : Array Value), Heap.ExtBut P (s1.heap.push o) h3 → (s1.heap.push o).objs.size ≤ h3.objs.size → h3.get? P = some { cls := .none, data := .fields ps' } → (∃ more, ps' = ps ++ more) → TriplesOk ps'.toList →
      wpAny (model X.prog X.w) X.A (builtinsFor X.env.globals X.env.builtins) (fun bi s₄ =>
        ∃ Ia fp wr n₀ Pf St₀ pz F, Value.ref s1.heap.objs.size = .ref Ia ∧ (∀ A' : Around, A'.handled = none → Walks X.prog X.w A' Ia fp wr n₀ Pf St₀) ∧ St₀ 0 s₄.heap ∧ (∀ b ∈ fp, b < s₄.heap.objs.size) ∧ s₄.heap.NoLimit ∧ cStatics ∉ wr ∧
          (∀ href : Heap, (∀ b o, s₄.heap.get? b = some o → href.get? b = some o) →
            QuietGen X.prog X.w (genEnv scope (cloFrom X.env.cells scope.names []) s₄.heap.objs.size code bi X.env) x [] elt (List.range s₄.heap.objs.size) wr Pf pz F href) ∧
          (∀ a h₅ tk gs, gs.bare = true → s₄.heap.objs.size < a → h₅.objs.size = a + 1 → (∀ b o, s₄.heap.get? b = some o → h₅.get? b = some o) →
            WalksS X.prog X.w X.A.in4 a (a :: s₄.heap.objs.size :: List.range s₄.heap.objs.size) (s₄.heap.objs.size :: wr) (GenOnlyQ s₄.gens.size) (passing pz n₀ 0).length
              (fun j y => ∃ i, (passing pz n₀ 0)[j]? = some i ∧ F i y) (GenAt X.prog X.w X.A.in4 a s₄.gens.size s₄.heap.objs.size (List.range s₄.heap.objs.size) wr pz n₀ F) →
            GenAt X.prog X.w X.A.in4 a s₄.gens.size s₄.heap.objs.size (List.range s₄.heap.objs.size) wr pz n₀ F 0 { s₄ with gens := s₄.gens.push gs, toks := tk, heap := h₅ } →
            Q' (.ref a) { s₄ with gens := s₄.gens.push gs, toks := tk, heap := h₅ })) X.xe { s1 with heap := h3, toks := tk } := by
    intro code h3 tk ps' hx hsz hP3 hmore ht3
    obtain ⟨bm, ob, e1, e2, e3, e4, e5, e6, e7, e8⟩ := TB.bm
    have hcP : cStatics ≠ P := fun e => by
      obtain ⟨_, hns, _⟩ := I1.nolimit
      obtain ⟨o', es, ep, ho, hd, _⟩ := hns
      rw [e, hPs] at ho
      cases ho
      cases hd
    have hcl : cStatics < s1.heap.objs.size := let ⟨_, hns, _⟩ := I1.nolimit; hns.lt
    have sz2 : (s1.heap.push o).objs.size = s1.heap.objs.size + 1 := Heap.size_push ..
    have le3 : s1.heap.objs.size ≤ h3.objs.size := by
      rw [sz2] at hsz
      exact Nat.le_trans (Nat.le_succ _) hsz
    have keep3 : ∀ b u, b ≠ P → s1.heap.get? b = some u → h3.get? b = some u := fun b u hb e => hx b u hb (Heap.get?_push_of_some _ e)
    refine wpAny_builtinsFor (m := X.mg) (by rw [I1.ok.glob]; exact ((I1.mod.glob.keeps I1.bk).push o).extBut hx TB.gP) e1 e2 (keep3 _ _ e4 (I1.bk _ _ e5)) e6 e7 e8 ?_
    refine ⟨s1.heap.objs.size, [s1.heap.objs.size, a], [s1.heap.objs.size], its.toArray.size, (fun i v => its.toArray[i]? = some v), (fun i h => h.IsTupleIter s1.heap.objs.size a i ∧ h.IsTuple a its.toArray), (fun _ => true), (fun i y => i < its.length ∧ y = .bool (tb i)), rfl,
      fun A' hA => Walks.tuple hA s1.heap.objs.size a (Nat.ne_of_lt halt) its.toArray, ?_, ?_, lim2.extBut hx hcP, ?_, ?_, ?_⟩
    · refine ⟨?_, hIT.at fun u e => keep3 a u haP e⟩
      refine ⟨o, hx _ _ (Nat.ne_of_gt hPlt) (Heap.get?_push_size _ (by rw [← hO] <;> rfl)), ?_, ?_⟩
      · rw [← hO]
      · rw [← hO]
        rfl
    · intro b hb
      rcases List.mem_cons.mp hb with z | z
      · rw [z]
        show s1.heap.objs.size < h3.objs.size
        omega
      · rw [List.mem_singleton.mp z]
        exact Nat.lt_of_lt_of_le halt le3
    · intro z
      rcases List.mem_cons.mp z with z | z
      · exact Nat.ne_of_lt hcl z
      · cases z
    · intro href hhref
      refine ⟨fun A' E' i v s₂ m₂ hA hPv hn hm hk => ?_, fun A' E' i v s₂ m₂ hA hPv hp hn hm hk => ?_⟩
      · simp only [List.forIn_nil]
        exact wpAny_pure ⟨rfl, keeps_refl _⟩
      · have hPv : its[i]? = some v := by simpa using hPv
        obtain ⟨y, hy, ry⟩ := vals_at rv hPv
        refine wpAny_mono (hel _ A' E' i y v s₂ m₂ rfl rfl hy ry hn hm fun b u hb e => ?_) (fun y s3 r => ⟨⟨(List.getElem?_eq_some_iff.mp hPv).1, r.1⟩, r.2⟩) fun _ _ e => e
        refine hk b (List.mem_range.mpr ?_) ?_ u (hhref _ _ (keep3 b u hb e))
        · exact Nat.lt_of_lt_of_le (Heap.lt_size e) le3
        · intro z
          have := Heap.lt_size e
          rw [List.mem_singleton.mp z] at this
          exact Nat.lt_irrefl _ this
    · intro g h5 tk5 gs hgb hag hsz5 hk5 W5 hat
      simp only [GxR.passing_true, List.length_range] at W5
      have esz : its.toArray.size = xs.length := by simp [hlen]
      rw [esz] at W5 hat
      refine hQ xs tb H1 g _ q1 ⟨_, _, _, _, _, W5.in4_1, hat, ?_, fun s' hm => ?_⟩
      · intro j y sj Qj Ej hy hQj
        obtain ⟨i, hij, hlt, rfl⟩ := hy
        obtain ⟨hj, ej⟩ := List.getElem?_eq_some_iff.mp hij
        rw [List.getElem_range] at ej
        subst ej
        have hQ2 : Qj (tb j) sj := hQj
        exact wpAny_truthy_bool hQ2
      · obtain ⟨more, em⟩ := hmore
        have nwr : ∀ b u, s1.heap.get? b = some u → b ∉ h3.objs.size :: [s1.heap.objs.size] := fun b u e hb => by
          have hl := Heap.lt_size e
          rcases List.mem_cons.mp hb with z | z
          · rw [z] at hl
            have h9 : (h3.objs.size : Nat) < s1.heap.objs.size := hl
            omega
          · rcases List.mem_cons.mp z with z | z
            · rw [z] at hl
              exact Nat.lt_irrefl _ hl
            · cases z
        have J := inv_tab (more := more) (h' := s'.heap) (g' := s'.gens) (d' := s'.drawn) (t' := s'.toks) I1 hP (fun b u hb e => hm.heap b u (nwr b u e) (hk5 b u (keep3 b u hb e)))
          (by rw [← em]; exact hm.heap P _ (nwr P _ hPs) (hk5 P _ hP3)) (AllBare.movedS (I1.bare.push hgb) hm)
        rw [sh_eta s1 s' hm.os] at J
        refine ⟨upd H1 P (.tbl (ps ++ more)), ⟨⟨ps ++ more, upd_same, by rw [← em]; exact ht3⟩, fun b hb => upd_ne hb⟩, J⟩
  refine ⟨lim2, ?_⟩
  cases hf : codeAmong gpos ps.toList with
  | none =>
    refine wpAny_genexprCodeX hcode (cd.code hP2 ht) (cd.tab hP2) hf fun c' h' tk hx hge hlt hco' _ htab' _ => ?_
    obtain ⟨o1, vs, f1, tf, fl, tg, inF, tx, tt, op, _, _, _, _, _, _, _, _, _, htr, _⟩ := hco'
    exact cont _ h' tk _ hx (Nat.le_trans hge (Nat.le_of_lt hlt)) htab'.2 ⟨_, rfl⟩ htr
  | some cv =>
    refine wpAny_genexprCode_hit hcode (cd.code hP2 ht) hf ?_
    exact cont cv (s1.heap.push o) s1.toks ps (Heap.ExtBut.refl _ _) (Nat.le_refl _) hP2 ⟨#[], by simp⟩ ht
/-- the name y of the def, read in the generator's block, stands for u -/
def Cap (X : Cx) (scope : Scope) (y : Str) (u : Value) (s1 : Shared) (P : Addr) : Prop := ∃ c, (cloFrom X.env.cells scope.names []).lookup y = some c ∧ s1.heap.IsCell c (some u) ∧ c ≠ P
theorem cap_ld {scope : Scope} {y : Str} {u : Value} {s1 s2 : Shared} {P : Addr} {cenv : PySem.Env} {A' : Around} {E' : Value → Shared → Prop} {Q : Value → Shared → Prop} {p : Pos} (h : Cap X scope y u s1 P) (h1 : cenv.scope = scope) (h2 : cenv.cells = cloFrom X.env.cells scope.names [])
    (hk : scope.kind = .function) (hl : scope.names.lookup y = some .free) (k : ∀ b u, b ≠ P → s1.heap.get? b = some u → s2.heap.get? b = some u) (hn : nameOk y = true) (q : Q u s2) : wpAny (model X.prog X.w) A' (eval (.Name y p) cenv) Q E' s2 := by
  obtain ⟨c, e, ⟨o, eo, d⟩, hP⟩ := h
  obtain ⟨d1, d2⟩ := nameOk_of hn
  exact wpAny_Name (wpAny_loadName_free (by rw [h1]; exact hk) (show cenv.scope.names.lookup y = some .free by rw [h1]; exact hl) (by rw [h2]; exact e) ⟨o, k c o hP eo, d⟩ q d2) d1
theorem elt_eq {P pa pb : Addr} {scope : Scope} {x xa xb : Str} {q1 q2 q3 q4 q5 q6 q7 : Pos} {xs as : List V} {kvs : List (Key × V)} {s1 : Shared} {H1 : Hp} {tb : Nat → Bool} (I : Inv X pins σ H1 s1) (hP : ∃ ps, H1 P = some (.tbl ps))
    (ca : Cap X scope xa (.ref pa) s1 P) (cb : Cap X scope xb (.ref pb) s1 P) (ha : SqT X.K H1 pa as) (hb : Rd H1 pb (.dK kvs)) (hk : scope.kind = .function) (la : scope.names.lookup xa = some .free) (lb : scope.names.lookup xb = some .free) (lx : scope.names.lookup x = some .local)
    (na : nameOk xa = true) (nb : nameOk xb = true) (nx : nameOk x = true)
    (ht : ∀ (j : Nat) (y : V), xs[j]? = some y → ∃ k i i', y = .int k ∧ atI as k = some (.int i) ∧ valV kvs (.inl k) = some (.int i') ∧ tb j = decide (i = i')) :
    EltT X P scope x (.Compare (.Subscript (.Name xa q1) (.Name x q2) q3) [.Eq] [.Subscript (.Name xb q4) (.Name x q5) q6] q7) xs s1 tb := by
  intro cenv A' E' j y v s₂ m₂ hs hc hj ry hn hm kp
  obtain ⟨k, i, i', rfl, e1, e2, e3⟩ := ht j y hj
  obtain ⟨tk, rfl⟩ := ry
  obtain ⟨ps, hP⟩ := hP
  have hPs : s1.heap.get? P = some { cls := .none, data := .fields ps } := I.hok P _ hP
  obtain ⟨its, rv, it, hz⟩ := I.tuple ha
  obtain ⟨hz2, hd, vs, rel, dd⟩ := dk_rd I.hok hb
  have it2 : IsTup s₂.heap pa its.toArray := by
    obtain ⟨o, eo, r1, r2⟩ := it
    refine ⟨o, kp pa o ?_ eo, r1, r2⟩
    rintro rfl
    rw [hPs] at eo
    cases eo
    cases r1
  have dd2 : s₂.heap.DictOf (mixKind X.prog X.w) pb vs := by
    refine dd.at fun o eo => kp pb o ?_ eo
    rintro rfl
    obtain ⟨o', _, _, eo', ex, dt, _⟩ := dd
    rw [hPs] at eo'
    cases eo'
    cases dt
  obtain ⟨j2, h1, h2, h3, h4, h5⟩ := atI_get e1
  obtain ⟨w1, ew1, rw1⟩ := rv.get h2
  obtain ⟨t1, rfl⟩ := rw1
  obtain ⟨w2, ew2, rw2⟩ := RelO.some_of (v := .int i') (o := valueAt vs (.inl k)) (by rw [← e2]; exact rel.val _)
  obtain ⟨t2, rfl⟩ := rw2
  have hl := rv.length
  have hn63 := line63
  obtain ⟨dx1, _⟩ := nameOk_of nx
  have ldx : ∀ {p : Pos} {s3 : Shared} {m3 : Str → Option Value} {Q : Value → Shared → Prop}, s3.heap.Ns cenv.locals m3 → m3 x = some (.int k tk) → Q (.int k tk) s3 → wpAny (model X.prog X.w) A' (eval (.Name x p) cenv) Q E' s3 := fun hn hm q =>
    wpAny_Name (wpAny_loadName_local (by rw [hs]; exact hk) (show cenv.scope.names.lookup x = some .local by rw [hs]; exact lx) hn hm q) dx1
  refine wpAny_Compare1 ?_
  refine subD_of (T := "tuple") slot_tuple_getitem.lookup (noSl rfl) (cap_ld ca hs hc hk la kp na (ldx hn hm ⟨it2.typeIs, ?_⟩))
  refine getItem_tuple (j := j2) it2 (by omega) (by omega) (by rw [List.size_toArray, ← hl]; exact h1) (by simpa using ew1) ?_
  refine subD_of (T := "dict") PySem.F.slot_dict_getitem.lookup (noSl rfl) (cap_ld cb hs hc hk lb kp nb (ldx hn hm ⟨dd2.typeIs, ?_⟩))
  refine wpAny_getItem_of (kV_is (k := .inl k) ⟨tk, rfl⟩) dd2.mapOf ew2 ?_
  refine eq_int ⟨?_, keeps_tok _ _⟩
  rw [e3]
  congr 1
theorem ext_tab {K : PySem.W.Frag} {ρ : Pl} {H H2 : Hp} {P : Addr} (h : TabG H P) (T : Tabbed P H H2) : Ext ρ H ρ H2 := by
  obtain ⟨⟨ps2, e2, t2⟩, r⟩ := T
  obtain ⟨ps, e, t⟩ := h
  refine ⟨⟨grow_self, fun a o h _ nt => ?_, fun a h => ?_, fun a h _ => ?_⟩, fun a o v h => by rw [r a (by rintro rfl; rw [e] at h; cases h)]; exact h⟩
  · rw [r a ?_]
    · exact h
    · rintro rfl
      rw [e] at h
      cases h
      exact nt _ rfl
  · by_cases z : a = P
    · rw [z, e2] at h
      cases h
    · rw [← r a z]
      exact h
  · by_cases z : a = P
    · rw [z]
      exact ⟨ps2, e2, t2⟩
    · obtain ⟨qs, e3, t3⟩ := h
      exact ⟨qs, by rw [r a z]; exact e3, t3⟩
theorem rs_tab {K : PySem.W.Frag} {ρ : Pl} {H H2 : Hp} {P : Addr} {st : Sto} (S : RS K H ρ st) (hP : P ∈ tabsK K) (T : Tabbed P H H2) : RS K H2 ρ st := by
  obtain ⟨h, hn⟩ := S.tab P hP
  have ex : Ext ρ H ρ H2 := ext_tab (K := K) h T
  have ne : ∀ a o, H a = some o → (∀ ps, o ≠ .tbl ps) → H2 a = some o := fun a o e nt => by
    rw [T.2 a ?_]
    · exact e
    · rintro rfl
      obtain ⟨ps, e2, _⟩ := h
      rw [e2] at e
      cases e
      exact nt _ rfl
  refine ⟨S.len, S.nd, S.dj, fun a ha => ?_, ?_, fun Q hQ => ⟨ex.tbl Q (S.tab Q hQ).1 fun z => (S.tab Q hQ).2 (.inl z), (S.tab Q hQ).2⟩, fun i a o h1 h2 => ?_⟩
  · obtain ⟨o, e⟩ := S.zt a ha
    by_cases z : a = P
    · rw [z]
      obtain ⟨ps, e2, _⟩ := T.1
      exact ⟨_, e2⟩
    · exact ⟨o, by rw [T.2 a z]; exact e⟩
  · obtain ⟨φ, e⟩ := S.sysm
    exact ⟨φ, ne _ _ e fun _ z => by cases z⟩
  · obtain ⟨r1, r2⟩ := S.ob i a o h1 h2
    refine ⟨?_, r2⟩
    cases o with
    | lst ds =>
      obtain ⟨xs, e, r⟩ := r1
      exact ⟨xs, ne _ _ e (fun _ z => by cases z), r.ext ex⟩
    | dct w kvs =>
      obtain ⟨vs, e, r⟩ := r1
      refine ⟨vs, ?_, r.ext ex⟩
      cases w with
      | true => exact ne _ _ e fun _ z => by cases z
      | false => obtain ⟨o, e⟩ := e; exact ⟨o, ne _ _ e fun _ z => by cases z⟩
    | tup ds =>
      obtain ⟨xs, e, r⟩ := r1
      exact ⟨xs, ne _ _ e (fun _ z => by cases z), r.ext ex⟩
/-- the truth at each place of what is asked -/
def tbOf (xs : List P) (kvs : List (P × P)) : List P → Nat → Bool
  | .int k :: _, 0 => match atI xs k, dlookP (.inl k) kvs with
    | some (.int i), some (.int j) => decide (i = j)
    | _, _ => false
  | _ :: r, n + 1 => tbOf xs kvs r n
  | _, _ => false
theorem tbOf_all {xs : List P} {kvs : List (P × P)} : ∀ {ps : List P} {r : Bool}, allEqT xs kvs ps = some r → (List.range ps.length).all (tbOf xs kvs ps) = r
  | [], r, h => by
    unfold allEqT at h
    cases h
    rfl
  | p :: ps, r, h => by
    cases p with
    | int k =>
      unfold allEqT at h
      rw [List.length_cons, List.range_succ_eq_map, List.all_cons, List.all_map]
      split at h
      · rename_i i j e1 e2
        cases e : allEqT xs kvs ps with
        | none => rw [e] at h; cases h
        | some b =>
          rw [e] at h
          cases h
          have ih := tbOf_all e
          have z : tbOf xs kvs (.int k :: ps) 0 = decide (i = j) := by
            show (match atI xs k, dlookP (.inl k) kvs with
              | some (.int i), some (.int j) => decide (i = j)
              | _, _ => false) = _
            rw [e1, e2]
          rw [z]
          show (decide (i = j) && (List.range ps.length).all (tbOf xs kvs (.int k :: ps) ∘ Nat.succ)) = _
          rw [← ih]
          rfl
      · cases h
    | _ => cases h
theorem tbOf_at {xs : List P} {kvs : List (P × P)} : ∀ {ps : List P} {r : Bool} {n : Nat} {p : P}, allEqT xs kvs ps = some r → ps[n]? = some p → ∃ k i j, p = .int k ∧ atI xs k = some (.int i) ∧ dlookP (.inl k) kvs = some (.int j) ∧ tbOf xs kvs ps n = decide (i = j)
  | [], r, n, p, h, e => by simp at e
  | q :: ps, r, n, p, h, e => by
    cases q with
    | int k =>
      unfold allEqT at h
      split at h
      · rename_i i j e1 e2
        cases e3 : allEqT xs kvs ps with
        | none => rw [e3] at h; cases h
        | some b =>
          cases n with
          | zero =>
            simp at e
            subst e
            refine ⟨k, i, j, rfl, e1, e2, ?_⟩
            show (match atI xs k, dlookP (.inl k) kvs with
              | some (.int i), some (.int j) => decide (i = j)
              | _, _ => false) = _
            rw [e1, e2]
          | succ n =>
            have e : ps[n]? = some p := by simpa using e
            exact tbOf_at (ps := ps) e3 e
      · cases h
    | _ => cases h
end
section
variable {X : Cx} {c : Cfg} {G : List (String × P)} {N : List Str} {sc : Scope} {fn : Str → Bool} {k : Nat}
def allEqM (a b : Nat) (ms : Env → M D) : Env → M D := fun env => do
  let s ← ms env
  let x ← need (env[a]?.join)
  let y ← need (env[b]?.join)
  let s ← vw s
  let x ← onlyP x
  let y ← onlyP y
  (fun b => .p (.bool b)) <$> need (allEqP x y s)
theorem slot_some {env : Env} {a : Nat} {d : D} (e : env[a]?.join = some d) : env[a]? = some (some d) := by
  cases z : env[a]? with
  | none => rw [z] at e; cases e
  | some o => rw [z] at e; exact congrArg some e
theorem cellB_of {sc : Scope} {y : Str} (h : cellB sc y = true) : sc.names.lookup y = some .cell ∨ sc.names.lookup y = some .free := by
  unfold cellB at h
  split at h
  · exact .inl (by assumption)
  · exact .inr (by assumption)
  · cases h
theorem r_allEq {ms : Env → M D} {a b : Nat} {x xa xb yi : Str} {q1 q2 q3 q4 q5 q6 q7 px qi gpos p pos : Pos} {gs : Scope} (C : Ctx X c G N sc fn k) (hg : c.gx = true) (hy : glB sc (Str.ofString "all") = true) (ok : genOk N sc gs a b x xa xb = true)
    (hi : PE X (.Name yi qi) (tM X ms)) :
    PE X (.Call (.Name (Str.ofString "all") p) [.GeneratorExp (.Compare (.Subscript (.Name xa q1) (.Name x q2) q3) [.Eq] [.Subscript (.Name xb q4) (.Name x q5) q6] q7) [⟨.Name x px, .Name yi qi, [], 0⟩] gs gpos] [] pos) (tM X (allEqM a b ms)) := by
  refine ⟨fun pins s σ H Q I q => ?_⟩
  obtain ⟨cc, P, hcode, TB, hP⟩ := C.gx hg
  obtain ⟨ρ, env, st, hE, hS, q⟩ := q
  have q : ((ms env st).bind fun s st => ((need (env[a]?.join) st).bind fun x st => ((need (env[b]?.join) st).bind fun y st => ((vw s st).bind fun s st => ((onlyP x st).bind fun x st => ((onlyP y st).bind fun y st => ((need (allEqP x y s) st).bind fun b st => .ok (.p (.bool b)) st))))))).holds (Post X.K ρ H Q) (Er X ρ H) := q
  unfold genOk at ok
  simp only [Bool.and_eq_true, decide_eq_true_eq, List.all_eq_true, Bool.or_eq_true, Bool.not_eq_true'] at ok
  obtain ⟨⟨⟨⟨⟨⟨⟨⟨⟨⟨⟨⟨⟨na, nb⟩, ca⟩, cb⟩, oa⟩, ob⟩, ox⟩, kd⟩, co⟩, nms⟩, dot⟩, lx⟩, la⟩, lb⟩ := ok
  have cells : ∀ z, cellB sc z = true → ∃ c, X.env.cells.lookup z = some c := fun z h => I.ok.has z (by
    show X.env.scope.names.lookup z = _ ∨ X.env.scope.names.lookup z = _
    rw [C.hsc]
    exact cellB_of h)
  have free : ∀ z ∈ gs.names, z.2 = .free → ∃ c, X.env.cells.lookup z.1 = some c := fun z hz e => by
    rcases (nms z hz).2 with h | h
    · exact absurd e h
    · exact cells _ h
  have GS : GxR.GenS X.env gs x := ⟨kd, co, fun z hz => (nms z hz).1, dot, lx, free⟩
  have hm : X.mg (Str.ofString "all") = none := C.gb.bl _ (by decide)
  have he : starEach [.GeneratorExp (.Compare (.Subscript (.Name xa q1) (.Name x q2) q3) [.Eq] [.Subscript (.Name xb q4) (.Name x q5) q6] q7) [⟨.Name x px, .Name yi qi, [], 0⟩] gs gpos] X.env = (false, eval (.GeneratorExp (.Compare (.Subscript (.Name xa q1) (.Name x q2) q3) [.Eq] [.Subscript (.Name xb q4) (.Name x q5) q6] q7) [⟨.Name x px, .Name yi qi, [], 0⟩] gs gpos) X.env) :: starEach [] X.env := by rfl
  refine wpAny_Call_Name_kw (ld_blt I (gl_of C hy) hm boot_all ?_)
  refine PyProof.Rows.callWith_builtin1 ?_ he (by rfl)
  rw [he]
  show wpAny _ _ (spliced ((false, eval (.GeneratorExp _ [⟨.Name x px, .Name yi qi, [], 0⟩] gs gpos) X.env) :: backTo pos (starEach [] X.env))) _ _ s
  refine Calls.spliced_cons (gen_tup (R := fun xs tb H1 => ∀ H2, Tabbed P H1 H2 → Q (.bl ((List.range xs.length).all tb)) H2) C.room TB hcode GS hi (fun _ => rfl) I (tM_mono (step (Now.start hE hS) q) ?_) fun xs tb H1 g s5 hR hG => ?_)
  · rintro v H1 ⟨ρ1, st1, d, n1, rv, e1, q⟩
    obtain ⟨dx, ex, q⟩ := needed q
    obtain ⟨dy, ey, q⟩ := needed q
    obtain ⟨sq, esq, q⟩ := seen q
    cases dx with
    | ref _ => exact q.elim
    | p dx =>
      have q : ((onlyP dy st1).bind fun y st => ((need (allEqP dx y sq) st).bind fun b st => .ok (.p (.bool b)) st)).holds (Post X.K ρ H Q) (Er X ρ H) := q
      cases dy with
      | ref _ => exact q.elim
      | p dy =>
        obtain ⟨r, er, q9⟩ := needed (show ((need (allEqP dx dy sq) st1).bind fun b st => .ok (.p (.bool b)) st).holds (Post X.K ρ H Q) (Er X ρ H) from q)
        obtain ⟨as, kvs, ps, rfl, rfl, rfl⟩ : ∃ as kvs ps, dx = .tuple as ∧ dy = .dict kvs ∧ sq = .tuple ps := by
          cases dx <;> cases dy <;> cases sq <;> first | exact ⟨_, _, _, rfl, rfl, rfl⟩ | cases er
        have er : allEqT as kvs ps = some r := er
        obtain ⟨xa', hxa, rxa⟩ := n1.re.sl a _ (slot_some ex)
        obtain ⟨xb', hxb, rxb⟩ := n1.re.sl b _ (slot_some ey)
        obtain ⟨p0, xs, rfl, hsq, rps⟩ : ∃ p0 xs, v = .ref p0 ∧ SqT X.K H1 p0 xs ∧ RPs X.K H1 ρ1 xs ps := by
          cases rv with
          | p rp =>
            cases esq
            cases rp with
            | tup h r => exact ⟨_, _, rfl, h.sq, r⟩
          | @ref aa l hl =>
            simp only [PB.view] at esq
            split at esq
            · cases ez : allP _ with
              | none => rw [ez] at esq; cases esq
              | some ds => rw [ez] at esq; cases esq
            · cases ez : allP _ with
              | none => rw [ez] at esq; cases esq
              | some ds => rw [ez] at esq; cases esq
            · cases esq
            · cases esq
        obtain ⟨pa, as', rfl, sa, ra⟩ : ∃ p0 xs, xa' = .ref p0 ∧ SqT X.K H1 p0 xs ∧ RPs X.K H1 ρ1 xs as := by
          cases rxa with
          | p rp => cases rp with
            | tup h r => exact ⟨_, _, rfl, h.sq, r⟩
        obtain ⟨pb, kv', rfl, sb, rb⟩ : ∃ p0 kv, xb' = .ref p0 ∧ Rd H1 p0 (.dK kv) ∧ RPk X.K H1 ρ1 kv kvs := by
          cases rxb with
          | p rp => cases rp with
            | dct h _ r => exact ⟨_, _, rfl, h, r⟩
        have hT := (n1.rs.tab P hP).1
        refine ⟨p0, xs, tbOf as kvs ps, rfl, hsq, hT, fun H2 T => ?_, fun s1 I1 => ?_⟩
        · rw [rps.length, tbOf_all er]
          exact q9 ρ1 H2 _ (n1.ext.trans (ext_tab (K := X.K) hT T)) (rs_tab n1.rs hP T) (.p (.bl r))
        · obtain ⟨ts, hPt, _⟩ := hT
          have cap : ∀ (i : Nat) (z : Str) (pz : Addr), N[i]? = some z → cellB sc z = true → gs.names.lookup z = some .free → σ[i]? = some (some (.ref pz)) → Cap X gs z (.ref pz) s1 P := by
            intro i z pz hN hz hl hσ
            obtain ⟨m, hns, lk⟩ := I1.loc
            obtain ⟨u, ru, L⟩ := lk i z (.ref pz) (by rw [C.hN]; exact hN) hσ (by
              rw [C.hsc]
              rcases cellB_of hz with h | h
              · exact .inr (.inl h)
              · exact .inr (.inr h))
            cases ru
            rcases L with ⟨h, _⟩ | ⟨_, cz, hcz, hIs⟩
            · have h : sc.names.lookup z = some .local := by
                rw [← C.hsc]
                exact h
              rcases cellB_of hz with h2 | h2
              · rw [h] at h2; cases h2
              · rw [h] at h2; cases h2
            · refine ⟨cz, NdefX.clo_has free (mem_of_lookup hl) hcz, hIs, ?_⟩
              rintro rfl
              have := I1.freeC z _ hcz
              rw [hPt] at this
              cases this
          refine elt_eq I1 ⟨ts, hPt⟩ (cap a xa pa na ca la hxa) (cap b xb pb nb cb lb hxb) sa sb kd la lb lx oa ob ox fun j y' hj => ?_
          have hjl : j < ps.length := by
            rw [← rps.length]
            exact (List.getElem?_eq_some_iff.mp hj).1
          obtain ⟨kk, i, i', e2, e3, e4, e5⟩ := tbOf_at er (List.getElem?_eq_getElem hjl)
          obtain ⟨z, hz, rz⟩ := rps.get (List.getElem?_eq_getElem hjl)
          rw [hj] at hz
          cases hz
          rw [e2] at rz
          cases rz
          obtain ⟨z2, h6, h7⟩ := ra.atI e3
          cases h7
          have z3 := RPk.dlook (k := .inl kk) rb
          rw [e4] at z3
          obtain ⟨z4, h8, h9⟩ := z3
          cases h9
          exact ⟨kk, i, i', rfl, h6, h8, e5⟩
  · obtain ⟨fp, wr, Gs, F, St, W, hst, htr, hI⟩ := hG
    refine Calls.spliced_nil ?_
    refine call_all_walkS (W.self 0 _ _ _ hst ⟨g, fp, wr, Gs, _, F, St, _, rfl, W, hst, htr, fun s' hmv => ?_⟩)
    obtain ⟨H2, hT, J⟩ := hI s' hmv
    exact ⟨.bl _, H2, J, rfl, hR H2 hT⟩
end
end PB
set_option maxRecDepth 100000
set_option maxHeartbeats 2000000
/-! Pb, part 19l: list(zip(v1, v2)). -/
namespace PB
open PySem PySem.Spec PyProof.Rows L2
theorem nolen_zip : typeLookup (.type "zip") "__len__" = pure none := by rw [typeLookup_type, builtinLookup_eq_fast]; kernel_rfl
theorem nohint_zip : typeLookup (.type "zip") "__length_hint__" = pure none := by rw [typeLookup_type, builtinLookup_eq_fast]; kernel_rfl
section
variable {prog : Program} {w : World} {A : Around} {E : Value → Shared → Prop} {s : Shared} {z TI TO i1 i2 : Addr} {fp1 fp2 : List Addr} {n1 n2 i : Nat} {P1 P2 : Nat → Value → Prop} {St1 St2 : Nat → Heap → Prop}
theorem pyNext_zipS {Q : Option Value → Shared → Prop} (S : ZipSep2 z TI TO i1 i2 fp1 fp2) (D1 : Draws prog w A.in1 i1 fp1 n1 P1 St1) (D2 : Draws prog w A.in1 i2 fp2 n2 P2 St2)
    (hz : ZSt z TI TO i1 i2 St1 St2 i s.heap) (hlt1 : i < n1) (hlt2 : i < n2)
    (hQ : ∀ x1 x2 h' tk, P1 i x1 → P2 i x2 → ZSt z TI TO i1 i2 St1 St2 (i + 1) h' → IsTupOf2 h' s.heap.objs.size x1 x2 → h'.objs.size = s.heap.objs.size + 1 →
      (∀ c o, c ≠ z → c ≠ TO → c ≠ i1 → c ≠ i2 → s.heap.get? c = some o → h'.get? c = some o) → Q (some (.ref s.heap.objs.size)) { s with heap := h', toks := tk }) :
    wpAny (model prog w) A (pyNext (.ref z)) Q E s := by
  have hT := hz.1.typ
  unfold pyNext
  exact wpAny_bind (wpAny_attempt (wpAny_callSpecial?_slot (name := Str.ofString "__next__") hT F.slot_zip_next
    (wpAny_call_entry F.slot_zip_next hT F.entry_zip_next
      (zipS_item S D1 D2 hz hlt1 hlt2 fun x1 x2 h' tk a b c d e f => wpAny_pure (hQ x1 x2 h' tk a b c d e f)) (F.args_zip_next_1 _))))
theorem pyNext_zipS_end {Q : Option Value → Shared → Prop} (S : ZipSep2 z TI TO i1 i2 fp1 fp2) (D1 : Draws prog w A.in1 i1 fp1 n1 P1 St1) (D2 : Draws prog w A.in1 i2 fp2 n2 P2 St2)
    (hz : ZSt z TI TO i1 i2 St1 St2 i s.heap) (hle1 : i ≤ n1) (hle2 : i ≤ n2) (hend : i = n1 ∨ i = n2)
    (hQ : ∀ h' tk, (∀ c o, c ≠ z → c ≠ TO → c ≠ i1 → c ≠ i2 → s.heap.get? c = some o → h'.get? c = some o) → Q none { s with heap := h', toks := tk }) :
    wpAny (model prog w) A (pyNext (.ref z)) Q E s := by
  have hT := hz.1.typ
  unfold pyNext
  refine wpAny_bind (wpAny_attempt (wpAny_callSpecial?_slot (name := Str.ofString "__next__") hT F.slot_zip_next
    (wpAny_call_entry F.slot_zip_next hT F.entry_zip_next (zipS_end S D1 D2 hz hle1 hle2 hend fun h' tk x hk hx => ?_) (F.args_zip_next_1 _))))
  obtain ⟨o, ho, hc⟩ := hx
  refine wpAny_bind (wpAny_isInstance (T := "StopIteration") (b := true) ⟨o, ho, hc⟩ isSubtype_stop ?_)
  exact wpAny_pure (hQ _ _ hk)
/-- the tuples handed out so far -/
structure ZlG (P1 P2 : Nat → Value → Prop) (lo : Addr) (h : Heap) (as : List Addr) : Prop where
  rise : as.Pairwise (· < ·)
  above : ∀ a ∈ as, lo < a
  pairs : ∀ (j : Nat) (a : Addr), as[j]? = some a → ∃ x1 x2, P1 j x1 ∧ P2 j x2 ∧ IsTupOf2 h a x1 x2
theorem ZlG.there {lo : Addr} {h : Heap} {as : List Addr} (g : ZlG P1 P2 lo h as) {a : Addr} (ha : a ∈ as) : a < h.objs.size := by
  obtain ⟨j, hj⟩ := List.mem_iff_getElem?.mp ha
  obtain ⟨_, _, _, _, e⟩ := g.pairs j a hj
  exact Heap.lt_size e
end
section
variable {prog : Program} {w : World} {A : Around} {s : Shared} {R : Result → Shared → Prop} {z TI TO i1 i2 : Addr} {fp1 fp2 : List Addr} {n1 n2 : Nat} {P1 P2 : Nat → Value → Prop} {St1 St2 : Nat → Heap → Prop}
/-- all that belongs to the zip lies below the list -/
structure ZlLow (S z TI TO i1 i2 : Addr) (fp1 fp2 : List Addr) : Prop where
  z : z < S
  TI : TI < S
  TO : TO < S
  i1 : i1 < S
  i2 : i2 < S
  f1 : ∀ b ∈ fp1, b < S
  f2 : ∀ b ∈ fp2, b < S
theorem ZlLow.ne {S z TI TO i1 i2 : Addr} {fp1 fp2 : List Addr} (L : ZlLow S z TI TO i1 i2 fp1 fp2) : ∀ b, (b = z ∨ b = TI ∨ b = TO ∨ b ∈ fp1 ∨ b ∈ fp2) → b ≠ S := by
  intro b h e
  subst e
  rcases h with h | h | h | h | h
  · exact absurd L.z (by rw [← h]; exact Nat.lt_irrefl _)
  · exact absurd L.TI (by rw [← h]; exact Nat.lt_irrefl _)
  · exact absurd L.TO (by rw [← h]; exact Nat.lt_irrefl _)
  · exact Nat.lt_irrefl _ (L.f1 _ h)
  · exact Nat.lt_irrefl _ (L.f2 _ h)
theorem zl_loop {S : Addr} (Sp : ZipSep2 z TI TO i1 i2 fp1 fp2) (L : ZlLow S z TI TO i1 i2 fp1 fp2) (D1 : Draws prog w A.in1.in1 i1 fp1 n1 P1 St1) (D2 : Draws prog w A.in1.in1 i2 fp2 n2 P2 St2) (hn : min n1 n2 ≤ sizeLine) (res : Value) {h₁ : Heap}
    (hR : ∀ h' tk acc c as, (∀ b o, b ≠ S → b ≠ z → b ≠ TO → b ≠ i1 → b ≠ i2 → h₁.get? b = some o → h'.get? b = some o) → h'.get? S = some { cls := .type "list", dict := none, data := .seq acc c, slots := #[] } → as.length = min n1 n2 → ZlG P1 P2 S h' as →
      acc.toList = as.map Value.ref → R (.ok (.ret res)) { s with heap := h', toks := tk }) :
    ∀ (k i : Nat) (h : Heap) (tk c : Nat) (acc : Array Value) (as : List Addr), min n1 n2 - i = k → i ≤ min n1 n2 → ZSt z TI TO i1 i2 St1 St2 i h → (∀ b o, b ≠ S → b ≠ z → b ≠ TO → b ≠ i1 → b ≠ i2 → h₁.get? b = some o → h.get? b = some o) →
      h.get? S = some { cls := .type "list", dict := none, data := .seq acc c, slots := #[] } → acc.toList = as.map Value.ref → as.length = i → ZlG P1 P2 S h as →
      codeAny (model prog w) A (.builtin "list.extend.loop" ⟨[.ref S, .ref z, res], []⟩) R { s with heap := h, toks := tk } := by
  have nz : S ≠ z := Nat.ne_of_gt L.z
  have nTO : S ≠ TO := Nat.ne_of_gt L.TO
  have n1' : S ≠ i1 := Nat.ne_of_gt L.i1
  have n2' : S ≠ i2 := Nat.ne_of_gt L.i2
  intro k
  induction k with
  | zero =>
    intro i h tk c acc as hk hi hst hkeep hS hacc hal hG
    have hin : i = min n1 n2 := by omega
    refine codeAny_builtin PySem.F.entry_extend_loop ?_
    rw [Around.under_plainId PySem.F.plain_extend_loop _]
    show wpAny _ A.in1 (pyNext (.ref z) >>= _) _ _ _
    refine wpAny_bind (pyNext_zipS_end (s := { s with heap := h, toks := tk }) (A := A.in1) Sp D1 D2 hst (by omega) (by omega) (by omega) fun h' tk' he => ?_)
    refine wpAny_pure (hR h' tk' acc c as (fun b o h1 h2 h3 h4 h5 e => he b o h2 h3 h4 h5 (hkeep b o h1 h2 h3 h4 h5 e)) (he S _ nz nTO n1' n2' hS) (by omega) ⟨hG.rise, hG.above, fun j a hj => ?_⟩ hacc)
    obtain ⟨x1, x2, e1, e2, e3⟩ := hG.pairs j a hj
    have hb := hG.above a (List.mem_of_getElem? hj)
    exact ⟨x1, x2, e1, e2, he a _ (Nat.ne_of_gt (Nat.lt_trans L.z hb)) (Nat.ne_of_gt (Nat.lt_trans L.TO hb)) (Nat.ne_of_gt (Nat.lt_trans L.i1 hb)) (Nat.ne_of_gt (Nat.lt_trans L.i2 hb)) e3⟩
  | succ k ih =>
    intro i h tk c acc as hk hi hst hkeep hS hacc hal hG
    have hsz : acc.size = i := by rw [← Array.length_toList, hacc, List.length_map, hal]
    refine codeAny_builtin PySem.F.entry_extend_loop ?_
    rw [Around.under_plainId PySem.F.plain_extend_loop _]
    show wpAny _ A.in1 (pyNext (.ref z) >>= _) _ _ _
    refine wpAny_bind (pyNext_zipS (s := { s with heap := h, toks := tk }) (A := A.in1) Sp D1 D2 hst (by omega) (by omega) fun x1 x2 h' tk' hx1 hx2 hst' ht hz hkp => ?_)
    dsimp only at ht hz hkp ⊢
    have hS' := hkp S _ nz nTO n1' n2' hS
    have up : ∀ b o, b ≠ S → h'.get? b = some o → (h'.update S (Obj.mapSeq (·.push (Value.ref h.objs.size)))).get? b = some o := fun b o hb e => (Heap.get?_update_other _ _ (Ne.symm hb)).trans e
    have hSl : S < h.objs.size := Heap.lt_size hS
    show wpAny _ A.in1 (updateSeq S (·.push (Value.ref h.objs.size)) >>= _) _ _ _
    refine wpAny_bind ?_
    refine wpAny_updateSeq hS' rfl (wpAny_pure ⟨plainId_quiet PySem.F.plain_extend_loop _, ih (i + 1) _ tk' _ (acc.push (Value.ref h.objs.size)) (as ++ [h.objs.size]) (by omega) (by omega) (hst'.keep Sp D1 D2 fun b hb o => up b o (L.ne b hb))
      (fun b o h1 h2 h3 h4 h5 e => up b o h1 (hkp b o h2 h3 h4 h5 (hkeep b o h1 h2 h3 h4 h5 e))) (Heap.get?_update_self _ hS' rfl) (by rw [Array.toList_push, hacc, List.map_append]; rfl) (by rw [List.length_append, hal]; rfl) ⟨?_, ?_, ?_⟩⟩) (by rw [hsz]; omega) (by show (acc.push (Value.ref h.objs.size)).size ≤ sizeLine + 1; rw [Array.size_push, hsz]; omega)
    · refine List.pairwise_append.mpr ⟨hG.rise, List.pairwise_singleton _ _, fun a ha b hb => ?_⟩
      rw [List.mem_singleton.mp hb]
      exact hG.there ha
    · intro a ha
      rcases List.mem_append.mp ha with ha | ha
      · exact hG.above a ha
      · rw [List.mem_singleton.mp ha]; exact hSl
    · intro j b hj
      rcases Nat.lt_trichotomy j as.length with q | q | q
      · rw [List.getElem?_append_left q] at hj
        obtain ⟨y1, y2, e1, e2, e3⟩ := hG.pairs j b hj
        have hb := hG.above b (List.mem_of_getElem? hj)
        exact ⟨y1, y2, e1, e2, up b _ (Nat.ne_of_gt hb) (hkp b _ (Nat.ne_of_gt (Nat.lt_trans L.z hb)) (Nat.ne_of_gt (Nat.lt_trans L.TO hb)) (Nat.ne_of_gt (Nat.lt_trans L.i1 hb)) (Nat.ne_of_gt (Nat.lt_trans L.i2 hb)) e3)⟩
      · subst q
        have hb : h.objs.size = b := by simpa using hj
        subst hb
        exact ⟨x1, x2, by rw [hal]; exact hx1, by rw [hal]; exact hx2, up _ _ (Nat.ne_of_gt hSl) ht⟩
      · have hnone : (as ++ [h.objs.size])[j]? = none := List.getElem?_eq_none (by rw [List.length_append, List.length_singleton]; omega)
        rw [hnone] at hj; cases hj
/-- list(z) -/
theorem zl_call {Q : Value → Shared → Prop} {E : Value → Shared → Prop} (Sp : ZipSep2 z TI TO i1 i2 fp1 fp2) (L : ZlLow s.heap.objs.size z TI TO i1 i2 fp1 fp2) (D1 : Draws prog w A.in1.in1.in1 i1 fp1 n1 P1 St1) (D2 : Draws prog w A.in1.in1.in1 i2 fp2 n2 P2 St2) (hn : min n1 n2 ≤ sizeLine)
    (hi : IsZip s.heap z TI TO .none) (hz : ZSt z TI TO i1 i2 St1 St2 0 s.heap)
    (hQ : ∀ h' tk acc c as, (∀ b o, b ≠ z → b ≠ TO → b ≠ i1 → b ≠ i2 → s.heap.get? b = some o → h'.get? b = some o) → h'.get? s.heap.objs.size = some { cls := .type "list", dict := none, data := .seq acc c, slots := #[] } → as.length = min n1 n2 → ZlG P1 P2 s.heap.objs.size h' as →
      acc.toList = as.map Value.ref → Q (.ref s.heap.objs.size) { s with heap := h', toks := tk }) :
    wpAny (model prog w) A (call (.type "list") [.ref z]) Q E s := by
  refine callType_codes (Q₁ := fun obj s₁ => obj = .ref s.heap.objs.size ∧ s₁ = { s with heap := s.heap.push { cls := .type "list", data := .seq #[] } }) F.called_list (F.typeCall_list_1 _) F.entry_list_init
    (code_list_new _ ⟨rfl, rfl⟩) fun obj s₁ h₁ => ?_
  obtain ⟨rfl, rfl⟩ := h₁
  have hS : (s.heap.push { cls := .type "list", data := .seq #[] }).get? s.heap.objs.size = some { cls := .type "list", data := .seq #[] } := Heap.get?_push_size _ rfl
  have hSz : s.heap.objs.size ≠ z := Nat.ne_of_gt L.z
  refine ⟨⟨_, hS, rfl⟩, F.args_list_init_2 _ _, ?_⟩
  show wpAny _ A.in1.in1 (do let old ← Builtin.List.listItems (.ref s.heap.objs.size); Builtin.List.listUpdate (.ref s.heap.objs.size) (fun _ => #[]); letGo old.toList.reverse; Builtin.List.listExtendWith (.ref s.heap.objs.size) (.ref z) .none) _ _ _
  refine wpAny_bind ?_
  unfold Builtin.List.listItems
  refine wpAny_bind (wpAny_seqItems hS rfl (wpAny_pure ?_))
  show wpAny _ A.in1.in1 (updateSeq s.heap.objs.size (fun _ => #[]) >>= fun _ => letGo (#[] : Array Value).toList.reverse >>= fun _ => Builtin.List.listExtendWith (.ref s.heap.objs.size) (.ref z) .none) _ _ _
  refine wpAny_bind (wpAny_updateSeq hS rfl ?_)
  have hS2 := Heap.get?_update_self (Obj.mapSeq (fun _ => (#[] : Array Value))) hS rfl
  refine wpAny_bind (wpAny_letGo ?_)
  unfold Builtin.List.listExtendWith
  have up : ∀ (h : Heap) (f : Obj → Obj), (∀ b o, s.heap.get? b = some o → h.get? b = some o) → ∀ b o, s.heap.get? b = some o → (h.update s.heap.objs.size f).get? b = some o := fun h f q b o e =>
    (Heap.get?_update_other _ _ (Ne.symm (Nat.ne_of_lt (Heap.lt_size e)))).trans (q b o e)
  have k1 : ∀ b o, s.heap.get? b = some o → (s.heap.push { cls := .type "list", data := .seq #[] }).get? b = some o := fun b o e => Heap.get?_push_of_some _ e
  have k2 := up _ (Obj.mapSeq (fun _ => (#[] : Array Value))) k1
  have zty : ∀ {h : Heap} {d : Shared}, (∀ b o, s.heap.get? b = some o → h.get? b = some o) → d.heap = h → d.TypeIs (.ref z) "zip" := fun {h d} q e => ⟨_, by rw [e]; exact q _ _ hi, rfl⟩
  refine wpAny_bind (wpAny_typeOf (zty k2 rfl) ?_)
  have h1 : Builtin.List.listSameRef (.ref s.heap.objs.size) (.ref z) = false := by simp [Builtin.List.listSameRef, hSz]
  have h2 : (Value.type "zip" == Value.type "list") = false := by decide
  have h3 : (Value.type "zip" == Value.type "tuple") = false := by decide
  simp only [h1, h2, h3, Bool.or_false, Bool.false_eq_true, if_false]
  refine wpAny_bind (wpAny_pyIter_zip (s := { s with heap := _ }) (k2 _ _ hi) ?_)
  refine wpAny_bind (wpAny_holding ?_)
  unfold Builtin.List.listLengthHint
  refine wpAny_bind (wpAny_specialOf (zty k2 rfl) nolen_zip ?_)
  show wpAny _ A.in1.in1 (specialOf (Value.ref z) (Str.ofString "__length_hint__") >>= _) _ _ _
  refine wpAny_bind (wpAny_specialOf (zty k2 rfl) nohint_zip ?_)
  refine wpAny_pure ?_
  show wpAny _ A.in1.in1 (rule "list.extend.makes-room" >>= fun _ => Builtin.List.listTouch (.ref s.heap.objs.size) >>= fun _ =>
    again (.builtin "list.extend.loop" ⟨[.ref s.heap.objs.size, .ref z, .none], []⟩)) _ _ _
  refine wpAny_bind (wpAny_rule ?_)
  refine wpAny_bind ?_
  show wpAny _ A.in1.in1 (updateSeq s.heap.objs.size (·.push .none) >>= fun _ => updateSeq s.heap.objs.size (·.pop)) _ _ _
  refine wpAny_bind (wpAny_updateSeq hS2 rfl ?_)
  have hS3 := Heap.get?_update_self (Obj.mapSeq (·.push Value.none)) hS2 rfl
  refine wpAny_updateSeq (hz := by seq_fits) hS3 rfl ?_
  have hS4 := Heap.get?_update_self (Obj.mapSeq (·.pop)) hS3 rfl
  have k4 := up _ (Obj.mapSeq (·.pop)) (up _ (Obj.mapSeq (·.push Value.none)) k2)
  refine wpAny_pure ⟨plainId_quiet F.plain_extend_loop _, ?_⟩
  refine zl_loop (s := s) (A := A.in1) (h₁ := s.heap) (P1 := P1) (P2 := P2) (St1 := St1) (St2 := St2) Sp L D1 D2 hn .none (fun h' tk acc c as hk hS' hl hG hacc => ⟨rfl, hQ h' tk acc c as (fun b o e2 e3 e4 e5 e => hk b o (Nat.ne_of_lt (Heap.lt_size e)) e2 e3 e4 e5 e) hS' hl hG hacc⟩)
    (min n1 n2) 0 _ _ _ #[] [] (Nat.sub_zero _) (Nat.zero_le _) (hz.keep Sp D1 D2 fun b hb o e => k4 b o e) (fun b o _ _ _ _ _ e => k4 b o e) hS4 rfl rfl ⟨List.Pairwise.nil, (fun _ ha => nomatch ha), (fun j a hj => by simp at hj)⟩
end
/-! ### the tuples tracked -/
def putZ : Hp → List Addr → List (V × V) → Hp
  | H, a :: as, p :: ps => putZ (upd H a (.tup [p.1, p.2])) as ps
  | H, _, _ => H
theorem putZ_off {b : Addr} : ∀ (as : List Addr) (ps : List (V × V)) (H : Hp), b ∉ as → putZ H as ps b = H b
  | [], _, _, _ => rfl
  | _ :: _, [], _, _ => rfl
  | a :: as, p :: ps, H, h => by
    show putZ (upd H a (.tup [p.1, p.2])) as ps b = H b
    rw [putZ_off as ps _ (fun z => h (List.mem_cons_of_mem _ z)), upd_ne (fun z => h (by rw [z]; exact List.mem_cons_self))]
theorem putZ_at : ∀ (as : List Addr) (ps : List (V × V)) (H : Hp), as.Nodup → ∀ (j : Nat) (a : Addr) (p : V × V), as[j]? = some a → ps[j]? = some p → putZ H as ps a = some (.tup [p.1, p.2])
  | [], _, _, _, j, a, p, h, _ => by cases h
  | _ :: _, [], _, _, j, a, p, _, h => by cases h
  | a0 :: as, p0 :: ps, H, hn, 0, a, p, h1, h2 => by
    have e1 : a0 = a := Option.some.inj h1
    have e2 : p0 = p := Option.some.inj h2
    subst e1
    subst e2
    have hn' := List.nodup_cons.mp hn
    show putZ (upd H a0 (.tup [p0.1, p0.2])) as ps a0 = _
    rw [putZ_off as ps _ hn'.1, upd_same]
  | a0 :: as, p0 :: ps, H, hn, j + 1, a, p, h1, h2 => putZ_at as ps _ (List.nodup_cons.mp hn).2 j a p h1 h2
theorem vals_refsZ : ∀ as : List Addr, Vals (as.map V.ref) (as.map Value.ref)
  | [] => .nil
  | _ :: as => .cons rfl (vals_refsZ as)
theorem rps_get {K : PySem.W.Frag} {H : Hp} {ρ : Pl} : ∀ {vs : List V} {ds : List P}, vs.length = ds.length → (∀ (j : Nat) (v : V) (d : P), vs[j]? = some v → ds[j]? = some d → RP K H ρ v d) → RPs K H ρ vs ds
  | [], [], _, _ => .nil
  | [], _ :: _, h, _ => by cases h
  | _ :: _, [], h, _ => by cases h
  | v :: vs, d :: ds, h, k => .cons (k 0 v d rfl rfl) (rps_get (Nat.succ.inj h) fun j v' d' h1 h2 => k (j + 1) v' d' h1 h2)
theorem rps_at {K : PySem.W.Frag} {H : Hp} {ρ : Pl} : ∀ {vs : List V} {ds : List P}, RPs K H ρ vs ds → vs.length = ds.length ∧ ∀ (j : Nat) (v : V) (d : P), vs[j]? = some v → ds[j]? = some d → RP K H ρ v d
  | _, _, .nil => ⟨rfl, fun j v d h => by cases h⟩
  | _, _, .cons r t => by
    obtain ⟨i1, i2⟩ := rps_at t
    refine ⟨by simp [i1], fun j v d h1 h2 => ?_⟩
    cases j with
    | zero =>
      have e1 := Option.some.inj h1
      have e2 := Option.some.inj h2
      subst e1
      subst e2
      exact r
    | succ j => exact i2 j v d h1 h2
theorem zipP_at {xs ys : List P} {j : Nat} {d : P} (h : (zipP xs ys)[j]? = some d) : ∃ x y, xs[j]? = some x ∧ ys[j]? = some y ∧ d = .tuple [x, y] := by
  unfold zipP at h
  rw [List.getElem?_zipWith] at h
  cases e1 : xs[j]? with
  | none => rw [e1] at h; cases h
  | some x =>
    cases e2 : ys[j]? with
    | none => rw [e1, e2] at h; cases h
    | some y => rw [e1, e2] at h; cases h; exact ⟨x, y, rfl, rfl, rfl⟩
theorem zipP_len' {xs ys : List P} : (zipP xs ys).length = min xs.length ys.length := by
  unfold zipP
  rw [List.length_zipWith]
theorem _root_.L2.Inv.turnedMany {X : Cx} {pins : List (Addr × Obj)} {σ : L2.St} {H H' : Hp} {s : Shared} {h' : Heap} {t' : Nat} {ch : List Addr} (I : Inv X pins σ H s) (k : ∀ b o, b ∉ ch → s.heap.get? b = some o → h'.get? b = some o) (hf : ∀ b ∈ ch, FpOk X pins H b)
    (old : ∀ b o, s.heap.get? b = some o → H' b = H b) (kp : ∀ b u, H b = some u → H' b = some u) (new : ∀ b u, H' b = some u → H b = none → ObjOk X.prog X.w H' h' b u) : Inv X pins σ H' { s with heap := h', toks := t' } := by
  have nit : ∀ b u, H b = some u → b ∉ ch := fun b u e z => by
    have q := (hf b z).1
    rw [q] at e; cases e
  refine I.step (g' := s.gens) (d' := s.drawn) (ch := ch) (fun b hb => ⟨(hf b hb).2.2.2.1, (hf b hb).2.1, (hf b hb).2.2.2.2.1, (hf b hb).2.2.2.2.2⟩) (fun b o _ _ hc e _ => k b o hc e) (fun b o _ _ hc e _ => ⟨o.slots, k b o hc e⟩)
    (fun b o _ e n => ?_) (fun b o hc e => ⟨o, k b o hc e⟩) (fun b xs e => kp b _ e) (fun b o u e => kp b _ e) (fun b ps e => ⟨#[], ?_⟩) (fun m hm => ?_) (fun b u e => ?_) I.bare
  · rw [old b o e]; exact n
  · rw [kp b _ e]; simp
  · obtain ⟨o, es, ep, ho, r⟩ := hm
    exact ⟨o, es, ep, k _ o (fun z => (hf _ z).2.1 rfl) ho, r⟩
  · cases hb : H b with
    | none => exact new b u e hb
    | some u' =>
      have e' := kp b u' hb
      rw [e] at e'
      cases e'
      refine (I.hok b u hb).stay (fun c v hc q => k c v ?_ q) (fun c q => kp c _ q) fun c xs q => kp c _ q
      rcases hc with z | z
      · rw [z]; exact nit b u hb
      · exact nit c _ z
def zipD (m : Env → M (List D)) : Env → M D := fun env => do
  let ds ← m env
  let items ← srcM .zip ds
  if items.1.length ≤ 16777216 then pure (.p (.list items.1)) else stop
theorem zip_holds {vs : List D} {st : Sto} {α : Type} {f : List P × (Sto → Prop) → Sto → R α} {Qf : α → Sto → Prop} {E : EE} (h : ((srcM .zip vs st).bind f).holds Qf E) : ∃ qs items, Views st vs qs ∧ srcP .zip qs = some items ∧ (f (items, stays st vs) st).holds Qf E := by
  unfold srcM at h
  rw [assoc_b] at h
  obtain ⟨qs, e1, h⟩ := seenL h
  cases e2 : srcK .zip st vs qs with
  | none => rw [e2] at h; exact h.elim
  | some items =>
    rw [e2] at h
    exact ⟨qs, items, vws_views e1, e2, h⟩
theorem only_zipD {m : Env → M (List D)} : OnlyP (zipD m) := by
  intro env st v st' h
  have h : ((m env st).bind fun ds st => ((srcM .zip ds st).bind fun items st => (if items.1.length ≤ 16777216 then pure (.p (.list items.1)) else stop : M D) st)) = .ok v st' := h
  cases e0 : m env st with
  | bad => rw [e0] at h; cases h
  | err _ _ _ => rw [e0] at h; cases h
  | ok ds st1 =>
    rw [e0] at h
    have h : ((srcM .zip ds st1).bind fun items st => (if items.1.length ≤ 16777216 then pure (.p (.list items.1)) else stop : M D) st) = .ok v st' := h
    cases e1 : srcM .zip ds st1 with
    | bad => rw [e1] at h; cases h
    | err _ _ _ => rw [e1] at h; cases h
    | ok items st2 =>
      rw [e1] at h
      have h : (if items.1.length ≤ 16777216 then pure (.p (.list items.1)) else stop : M D) st2 = .ok v st' := h
      split at h
      · cases h; exact ⟨_, rfl⟩
      · cases h
section
variable {X : Cx} {m : Env → M (List D)} {p p0 pos pos0 : Pos}
/-- what zip(e, f) comes to, with what is known of its parts -/
def ZipW (X : Cx) (pins : List (Addr × Obj)) (σ : L2.St) (ρ : Pl) (H : Hp) (st1 : Sto) (ds : List D) (xs ys : List P) (v : Value) (s1 : Shared) : Prop :=
  ∃ (H1 : Hp) (ρ1 : Pl) (z TI TO i1 i2 a b : Addr) (k1 k2 : Bool), v = .ref z ∧ IsZip s1.heap z TI TO .none ∧ IsTupOf2 s1.heap TI (.ref i1) (.ref i2) ∧ (∃ a1 a2, IsTupOf2 s1.heap TO a1 a2) ∧ itK k1 s1.heap i1 a 0 ∧ itK k2 s1.heap i2 b 0 ∧
    ZipSep2 z TI TO i1 i2 [i1, a] [i2, b] ∧ a ≠ i1 ∧ b ≠ i2 ∧ Inv X pins σ H1 s1 ∧ (∀ c ∈ [z, TI, TO, i1, i2, a, b], c < s1.heap.objs.size) ∧ (∀ c ∈ [z, TI, TO, i1, i2], FpOk X pins H1 c) ∧
    Ext ρ H ρ1 H1 ∧ RS X.K H1 ρ1 st1 ∧ Wk X.K k1 a xs (stays st1 ds) ρ1 H1 ∧ Wk X.K k2 b ys (stays st1 ds) ρ1 H1
theorem zip_evalW {e f : Expr} (hg : Gl X "zip") (hm : X.mg "zip" = none) (ha : PA X [e, f] (tL X m))
    (hs : starEach [e, f] X.env = (false, eval e X.env) :: starEach [f] X.env) (hpl : (backTo pos (starEach [f] X.env)).any (·.1) = false) {pins : List (Addr × Obj)} {s : Shared} {σ : L2.St} {H : Hp} {ρ : Pl} {env : Env} {st st1 : Sto} {d1 d2 : D} {q1 q2 : P} {xs ys : List P} (I : Inv X pins σ H s) (hE : RE X.K H ρ env σ) (hS : RS X.K H ρ st)
    (e0 : m env st = .ok [d1, d2] st1) (hv1 : view st1 d1 = some q1) (hv2 : view st1 d2 = some q2) (e3 : itemsP q1 = some xs) (e4 : itemsP q2 = some ys) :
    wpAny (model X.prog X.w) X.A (eval (.Call (.Name "zip" p) [e, f] [] pos) X.env) (ZipW X pins σ ρ H st1 [d1, d2] xs ys) X.xe s := by
  refine Call_ (ld_blt I hg hm PyProof.Rows.boot_zip (PyProof.Rows.callWith_type1 (thn (ha.run pos pins s σ H (fun vs H1 => ∃ ρ1, Ext ρ H ρ1 H1 ∧ RS X.K H1 ρ1 st1 ∧ RDs X.K H1 ρ1 vs [d1, d2]) I (args_ahead hE hS e0 fun ρ1 H1 vs e S r => ⟨ρ1, e, S, r⟩)) fun us s1 ⟨vs, H1, I1, r1, ρ1, e, S, r⟩ => ?_) hs hpl))
  cases r with
  | cons ra rr =>
    cases rr with
    | cons rb rr =>
      cases rr
      cases r1 with
      | cons u1 uu =>
        cases uu with
        | cons u2 uu =>
          cases uu
          obtain ⟨k1, a, rfl, w1⟩ := wk_of ra S hv1 e3
          obtain ⟨k2, b, rfl, w2⟩ := wk_of rb S hv2 e4
          cases u1
          cases u2
          have st12 : stays st1 [d1, d2] st1 := stays_self _
          have s1' : ∀ st, stays st1 [d1, d2] st → stays st1 [d1] st := fun st h => by cases d1 <;> cases d2 <;> simp_all [stays]
          have s2' : ∀ st, stays st1 [d1, d2] st → stays st1 [d2] st := fun st h => by cases d1 <;> cases d2 <;> simp_all [stays]
          have w1' := Wk.mono w1 s1'
          have w2' := Wk.mono w2 s2'
          obtain ⟨vs1, sq1, _⟩ := w1' ρ1 H1 st1 .refl S st12
          obtain ⟨vs2, sq2, _⟩ := w2' ρ1 H1 st1 .refl S st12
          obtain ⟨ws1, _, ik1⟩ := sqX_is I1 sq1
          obtain ⟨ws2, _, ik2⟩ := sqX_is I1 sq2
          have la := isK_lt ik1
          have lb := isK_lt ik2
          refine zip_begins2 (beginsK (its := ws1.toArray)) (beginsK (its := ws2.toArray)) ik1 ik2 fun h' hz hTI hTO h1 h2 hsz hk => ?_
          have I2 := I1.kept (t' := s1.toks) hk
          refine ⟨H1, ρ1, s1.heap.objs.size + 4, s1.heap.objs.size + 2, s1.heap.objs.size + 3, s1.heap.objs.size, s1.heap.objs.size + 1, a, b, k1, k2, rfl, hz, hTI, ⟨_, _, hTO⟩, itK_zero h1, itK_zero h2,
            (zip_sep2 (fp1 := [a]) (fp2 := [b]) (fun c hc => by rw [List.mem_singleton.mp hc]; exact la) (fun c hc => by rw [List.mem_singleton.mp hc]; exact lb)), (fun z => ?_), (fun z => ?_), I2, fun c hc => ?_, fun c hc => ?_, e, S, w1', w2'⟩
          · rw [z] at la
            exact absurd la (Nat.lt_irrefl _)
          · rw [z] at lb
            exact absurd lb (Nat.not_lt.mpr (Nat.le_succ _))
          · show c < h'.objs.size
            rw [hsz]
            simp only [List.mem_cons, List.not_mem_nil, or_false] at hc
            rcases hc with z | z | z | z | z | z | z
            · rw [z]; exact Nat.add_lt_add_left (by decide) _
            · rw [z]; exact Nat.add_lt_add_left (by decide) _
            · rw [z]; exact Nat.add_lt_add_left (by decide) _
            · rw [z]; exact Nat.lt_add_of_pos_right (by decide)
            · rw [z]; exact Nat.add_lt_add_left (by decide) _
            · rw [z]; exact Nat.lt_of_lt_of_le la (Nat.le_add_right _ _)
            · rw [z]; exact Nat.lt_of_lt_of_le lb (Nat.le_add_right _ _)
          · simp only [List.mem_cons, List.not_mem_nil, or_false] at hc
            have hle : s1.heap.objs.size ≤ c := by
              rcases hc with z | z | z | z | z
              · rw [z]; exact Nat.le_add_right _ _
              · rw [z]; exact Nat.le_add_right _ _
              · rw [z]; exact Nat.le_add_right _ _
              · rw [z]; exact Nat.le_refl _
              · rw [z]; exact Nat.le_add_right _ _
            exact I1.fpOk hle (I1.hok.fresh hle)
theorem r_listZip {e f : Expr} (hcm : X.calm = true) (h0 : Gl X "list") (hm0 : X.mg "list" = none) (hg : Gl X "zip") (hm : X.mg "zip" = none) (ha : PA X [e, f] (tL X m)) (hlen : ∀ env st ds st', m env st = .ok ds st' → ds.length = 2)
    (hs : starEach [e, f] X.env = (false, eval e X.env) :: starEach [f] X.env) (hpl : (backTo pos (starEach [f] X.env)).any (·.1) = false) :
    PE X (.Call (.Name "list" p0) [.Call (.Name "zip" p) [e, f] [] pos] [] pos0) (tR X (zipD m)) := by
  refine ⟨fun pins s σ H Q I q => ?_⟩
  have na : starEach [Expr.Call (.Name "zip" p) [e, f] [] pos] X.env = (false, eval (Expr.Call (.Name "zip" p) [e, f] [] pos) X.env) :: starEach [] X.env := rfl
  obtain ⟨ρ, env, st, hE, hS, q⟩ := q
  have q : ((m env st).bind fun ds st => ((srcM .zip ds st).bind fun items st => (if items.1.length ≤ 16777216 then pure (.p (.list items.1)) else stop : M D) st)).holds (PostR X.K ρ H Q) (Er X ρ H) := q
  cases e0 : m env st with
  | bad => rw [e0] at q; exact q.elim
  | err cE vE stE =>
    rw [e0] at q
    have q : Er X ρ H cE vE stE := q
    have inner : wpAny (model X.prog X.w) X.A (eval (Expr.Call (.Name "zip" p) [e, f] [] pos) X.env) (fun _ _ => False) X.xe s :=
      Call_ (ld_blt I hg hm PyProof.Rows.boot_zip (PyProof.Rows.callWith_type1 (thn (ha.run pos pins s σ H (fun _ _ => False) I (tL_err hE hS e0 q)) fun us s1 ⟨_, _, _, _, z⟩ => z.elim) hs hpl))
    exact Call_ (ld_blt I h0 hm0 boot_list (PyProof.Rows.callWith_type1 (args_cons (thn inner fun _ _ z => z.elim) na) na rfl) (by decide) (by decide)) rfl
  | ok ds st1 =>
    rw [e0] at q
    obtain ⟨qs, items, vi, e2, q⟩ := zip_holds (show ((srcM .zip ds st1).bind fun items st => (if items.1.length ≤ 16777216 then pure (.p (.list items.1)) else stop : M D) st).holds (PostR X.K ρ H Q) (Er X ρ H) from q)
    split at q
    · rename_i hlen2
      have hl := hlen _ _ _ _ e0
      match ds, qs, vi, hl with
      | [d1, d2], [q1, q2], .cons hv1 (.cons hv2 .nil), _ =>
        have e2 : ((itemsP q1).bind fun xs => (itemsP q2).map fun ys => zipP xs ys) = some items := e2
        cases e3 : itemsP q1 with
        | none => rw [e3] at e2; cases e2
        | some xs =>
          cases e4 : itemsP q2 with
          | none => rw [e3, e4] at e2; cases e2
          | some ys =>
            rw [e3, e4] at e2
            cases e2
            obtain ⟨r, er, q⟩ := (show PostR X.K ρ H Q (.p (.list (zipP xs ys))) st1 from q)
            cases er
            refine Call_ (ld_blt I h0 hm0 boot_list (PyProof.Rows.callWith_type1 (args_cons (thn (zip_evalW (p := p) hg hm ha hs hpl I hE hS e0 hv1 hv2 e3 e4) fun u s1 hx => args_nil ?_) na) na rfl) (by decide) (by decide)) rfl
            obtain ⟨H1, ρ1, z, TI, TO, i1, i2, a, b, k1, k2, rfl, hz, hTI, hTO, t1, t2, S, na', nb', I1, lt, fp, ex, SR, w1, w2⟩ := hx
            obtain ⟨vs1, sq1, rp1⟩ := w1 ρ1 H1 st1 .refl SR (stays_self _)
            obtain ⟨vs2, sq2, rp2⟩ := w2 ρ1 H1 st1 .refl SR (stays_self _)
            obtain ⟨ws1, rv1, ik1⟩ := sqX_is I1 sq1
            obtain ⟨ws2, rv2, ik2⟩ := sqX_is I1 sq2
            obtain ⟨ln1, at1⟩ := rps_at rp1
            obtain ⟨ln2, at2⟩ := rps_at rp2
            have hh : X.A.in1.in1.in1.handled = none := I1.ok.hd hcm
            have D1 := drawsK (prog := X.prog) (w := X.w) (A := X.A.in1.in1.in1) (k := k1) (it := i1) (a := a) hh na' ws1.toArray
            have D2 := drawsK (prog := X.prog) (w := X.w) (A := X.A.in1.in1.in1) (k := k2) (it := i2) (a := b) hh nb' ws2.toArray
            have sz1 : ws1.toArray.size = xs.length := by rw [List.size_toArray, ← rv1.length]; exact ln1
            have sz2 : ws2.toArray.size = ys.length := by rw [List.size_toArray, ← rv2.length]; exact ln2
            have zl : (zipP xs ys).length = min xs.length ys.length := zipP_len'
            have big : 16777216 ≤ sizeLine := by decide
            have hn : min ws1.toArray.size ws2.toArray.size ≤ sizeLine := by
              rw [sz1, sz2]
              have : (zipP xs ys).length ≤ 16777216 := hlen2
              omega
            have Lw : ZlLow s1.heap.objs.size z TI TO i1 i2 [i1, a] [i2, b] := ⟨lt z (by simp), lt TI (by simp), lt TO (by simp), lt i1 (by simp), lt i2 (by simp), fun c hc => by
              simp only [List.mem_cons, List.not_mem_nil, or_false] at hc
              rcases hc with x | x <;> rw [x]
              · exact lt i1 (by simp)
              · exact lt a (by simp), fun c hc => by
              simp only [List.mem_cons, List.not_mem_nil, or_false] at hc
              rcases hc with x | x <;> rw [x]
              · exact lt i2 (by simp)
              · exact lt b (by simp)⟩
            refine zl_call S Lw D1 D2 hn hz ⟨⟨_, _, hz, .inl rfl⟩, hTI, hTO, ⟨t1, ik1⟩, ⟨t2, ik2⟩⟩ fun h' tk acc c as hk hS' hal hG hacc => ?_
            have hal' : as.length = (zipP xs ys).length := by rw [hal, sz1, sz2, zl]
            have nd : as.Nodup := List.Pairwise.imp (fun {a b} (h : a < b) => Nat.ne_of_lt h) hG.rise
            have hSn : s1.heap.objs.size ∉ as := fun y => Nat.lt_irrefl _ (hG.above _ y)
            have new : ∀ t ∈ as, H1 t = none := fun t ht => I1.hok.fresh (Nat.le_of_lt (hG.above t ht))
            have newS : H1 s1.heap.objs.size = none := I1.hok.fresh (Nat.le_refl _)
            have kp2 : ∀ b u, H1 b = some u → putZ H1 as (vs1.zip vs2) b = some u := fun b u e => by
              rw [putZ_off as _ _ fun y => by rw [new b y] at e; cases e]
              exact e
            have nS2 : putZ H1 as (vs1.zip vs2) s1.heap.objs.size = none := by rw [putZ_off as _ _ hSn]; exact newS
            have low : ∀ b o, s1.heap.get? b = some o → b ∉ as ∧ b ≠ s1.heap.objs.size := fun b o e => ⟨fun y => absurd (Heap.lt_size e) (Nat.not_lt.mpr (Nat.le_of_lt (hG.above b y))), Nat.ne_of_lt (Heap.lt_size e)⟩
            have same : Same H1 (putZ H1 as (vs1.zip vs2)) := fun b u e => kp2 b u e
            have rel : RPs X.K (putZ H1 as (vs1.zip vs2)) ρ1 (as.map V.ref) (zipP xs ys) := by
              refine rps_get (by rw [List.length_map]; exact hal') fun j v d h1 h2 => ?_
              rw [List.getElem?_map] at h1
              cases e5 : as[j]? with
              | none => rw [e5] at h1; cases h1
              | some t =>
                rw [e5] at h1
                cases h1
                obtain ⟨x, y, hx, hy, rfl⟩ := zipP_at h2
                have lx := (List.getElem?_eq_some_iff.mp hx).1
                have ly := (List.getElem?_eq_some_iff.mp hy).1
                have hv1 : vs1[j]? = some (vs1[j]'(by omega)) := List.getElem?_eq_getElem (by omega)
                have hv2 : vs2[j]? = some (vs2[j]'(by omega)) := List.getElem?_eq_getElem (by omega)
                have hp : (vs1.zip vs2)[j]? = some (vs1[j]'(by omega), vs2[j]'(by omega)) := by rw [List.getElem?_zip_eq_some]; exact ⟨hv1, hv2⟩
                have ht := putZ_at as (vs1.zip vs2) H1 nd j t _ e5 hp
                exact .tup (.inl ⟨.inl ht, SR.fresh (new t (List.mem_of_getElem? e5))⟩) (.cons ((at1 j _ _ hv1 hx).ext (Ext.same same)) (.cons ((at2 j _ _ hv2 hy).ext (Ext.same same)) .nil))
            refine ⟨V.ref s1.heap.objs.size, upd (putZ H1 as (vs1.zip vs2)) s1.heap.objs.size (.lst (as.map V.ref)), ?_, rfl, (q ρ1 H1 ex SR) _ same _ _ rel nS2⟩
            refine I1.turnedMany (ch := [z, TO, i1, i2]) (fun c o hc e => ?_) (fun c hc => ?_) (fun b o e => ?_) (fun b u e => ?_) fun b u e hb => ?_
            · simp only [List.mem_cons, List.not_mem_nil, or_false, not_or] at hc
              exact hk c o hc.1 hc.2.1 hc.2.2.1 hc.2.2.2 e
            · simp only [List.mem_cons, List.not_mem_nil, or_false] at hc
              rcases hc with x | x | x | x <;> rw [x]
              · exact fp z (by simp)
              · exact fp TO (by simp)
              · exact fp i1 (by simp)
              · exact fp i2 (by simp)
            · obtain ⟨y1, y2⟩ := low b o e
              rw [upd_ne y2, putZ_off as _ _ y1]
            · rw [upd_ne (fun y => by rw [y, newS] at e; cases e)]
              exact kp2 b u e
            · by_cases hbS : b = s1.heap.objs.size
              · subst hbS
                rw [upd_same] at e
                cases e
                refine ⟨by rw [List.length_map]; omega, acc.toList, c, by rw [hacc]; exact vals_refsZ as, ?_⟩
                rw [Array.toArray_toList]
                exact hS'
              · rw [upd_ne hbS] at e
                by_cases hba : b ∈ as
                · obtain ⟨j, hj⟩ := List.mem_iff_getElem?.mp hba
                  obtain ⟨x1, x2, hx1, hx2, hT⟩ := hG.pairs j b hj
                  have hjl := (List.getElem?_eq_some_iff.mp hj).1
                  have f1 : ws1[j]? = some x1 := by simpa using hx1
                  have f2 : ws2[j]? = some x2 := by simpa using hx2
                  have hv1 : vs1[j]? = some (vs1[j]'(by omega)) := List.getElem?_eq_getElem (by omega)
                  have hv2 : vs2[j]? = some (vs2[j]'(by omega)) := List.getElem?_eq_getElem (by omega)
                  have hp : (vs1.zip vs2)[j]? = some (vs1[j]'(by omega), vs2[j]'(by omega)) := by rw [List.getElem?_zip_eq_some]; exact ⟨hv1, hv2⟩
                  rw [putZ_at as (vs1.zip vs2) H1 nd j b _ hj hp] at e
                  cases e
                  obtain ⟨w1', g1, ru1⟩ := rv1.get hv1
                  obtain ⟨w2', g2, ru2⟩ := rv2.get hv2
                  rw [f1] at g1
                  rw [f2] at g2
                  cases g1
                  cases g2
                  exact ⟨by show 2 ≤ sizeLine; decide, [x1, x2], .cons ru1 (.cons ru2 .nil), ⟨_, hT, rfl, _, rfl⟩⟩
                · rw [putZ_off as _ _ hba, hb] at e
                  cases e
    · exact q.elim
end
end PB
set_option maxRecDepth 100000
set_option maxHeartbeats 2000000
/-! Pb, part 12c: a chain of three comparisons. -/
namespace PB
open PySem PySem.Spec PyProof.Rows L2
section
variable {X : Cx} {a b c d : Expr} {ta tb tc td : TE} {pos : Pos}
def tChain3 (r r' r'' : R2) (ta tb tc td : TE) : TE := fun σ H Q => ta σ H fun x H1 => tb σ H1 fun y H2 => r x y H2 fun z H3 => ∃ k, z = .bl k ∧
  (if k = true then tc σ H3 fun w H4 => r' y w H4 fun z2 H5 => ∃ k2, z2 = .bl k2 ∧ (if k2 = true then td σ H5 fun u H6 => r'' w u H6 Q else Q (.bl false) H5) else Q (.bl false) H3)
theorem pe_chain3 {op op' op'' : CmpOp} {r r' r'' : R2} (ho : OpR X (compareOp op) r) (ho' : OpR X (compareOp op') r') (ho'' : OpR X (compareOp op'') r'') (ha : PE X a ta) (hb : PE X b tb) (hc : PE X c tc) (hd : PE X d td)
    (hm : lastMarks [op, op', op''] [b, c, d] = false) : PE X (.Compare a [op, op', op''] [b, c, d] pos) (tChain3 r r' r'' ta tb tc td) := by
  refine ⟨fun pins s σ H Q I h => ?_⟩
  refine Compare_chain (thn (ha.run pins s σ H _ I h) fun v s1 ⟨x, H1, I1, r1, q1⟩ => chain_link (thn (hb.run pins s1 σ H1 _ I1 q1) fun u s2 ⟨y, H2, I2, r2, q2⟩ =>
    thn (ho pins s2 σ H2 x y v u _ I2 r1 r2 q2) fun d' s3 ⟨z, H3, I3, r3, k, e, q3⟩ => ?_)) hm
  subst e
  cases r3
  refine wpAny_truthy_bool ?_
  cases k with
  | false => exact ite_ff ⟨.bl false, H3, I3, rfl, q3⟩
  | true =>
    refine ite_tt (chain_link (thn (hc.run pins s3 σ H3 _ I3 q3) fun w' s4 ⟨z', H4, I4, r4, q4⟩ => thn (ho' pins s4 σ H4 y z' u w' _ I4 r2 r4 q4) fun d2 s5 ⟨z2, H5, I5, r5, k2, e2, q5⟩ => ?_))
    subst e2
    cases r5
    refine wpAny_truthy_bool ?_
    cases k2 with
    | false => exact ite_ff ⟨.bl false, H5, I5, rfl, q5⟩
    | true => exact ite_tt (chain_last (thn (hd.run pins s5 σ H5 _ I5 q5) fun u' s6 ⟨z3, H6, I6, r6, q6⟩ => ho'' pins s6 σ H6 z' z3 w' u' Q I6 r4 r6 q6))
theorem pt_chain3 {op op' op'' : CmpOp} {r r' r'' : R2} (ho : OpR X (compareOp op) r) (ho' : OpR X (compareOp op') r') (ho'' : OpR X (compareOp op'') r'') (ha : PE X a ta) (hb : PE X b tb) (hc : PE X c tc) (hd : PE X d td)
    (hm : lastMarks [op, op', op''] [b, c, d] = false) : PT X (.Compare a [op, op', op''] [b, c, d] pos) (tTest (tChain3 r r' r'' ta tb tc td)) := by
  refine ⟨fun pins s σ H Q I h => ?_⟩
  refine isTrue_chain (thn (ha.run pins s σ H _ I h) fun v s1 ⟨x, H1, I1, r1, q1⟩ => test_link (thn (hb.run pins s1 σ H1 _ I1 q1) fun u s2 ⟨y, H2, I2, r2, q2⟩ =>
    thn (ho pins s2 σ H2 x y v u _ I2 r1 r2 q2) fun d' s3 ⟨z, H3, I3, r3, k, e, q3⟩ => ?_)) hm
  subst e
  cases r3
  refine wpAny_truthy_bool ?_
  cases k with
  | false =>
    obtain ⟨k', e', q'⟩ := q3
    cases e'
    exact ite_ff ⟨H3, I3, q'⟩
  | true =>
    refine ite_tt (test_link (thn (hc.run pins s3 σ H3 _ I3 q3) fun w' s4 ⟨z', H4, I4, r4, q4⟩ => thn (ho' pins s4 σ H4 y z' u w' _ I4 r2 r4 q4) fun d2 s5 ⟨z2, H5, I5, r5, k2, e2, q5⟩ => ?_))
    subst e2
    cases r5
    refine wpAny_truthy_bool ?_
    cases k2 with
    | false =>
      obtain ⟨k', e', q'⟩ := q5
      cases e'
      exact ite_ff ⟨H5, I5, q'⟩
    | true =>
      refine ite_tt (test_last (thn (hd.run pins s5 σ H5 _ I5 q5) fun u' s6 ⟨z3, H6, I6, r6, q6⟩ => thn (ho'' pins s6 σ H6 z' z3 w' u' _ I6 r4 r6 q6) fun d3 s7 ⟨z4, H7, I7, r7, k3, e3, q7⟩ => ?_))
      subst e3
      cases r7
      exact wpAny_truthy_bool ⟨H7, I7, q7⟩
end
section
variable {X : Cx} {ma mb md me : Env → M D} {ea eb ed ef : Expr} {pos : Pos}
def cmp3M (o1 o2 o3 : CmpOp) (ma mb md me : Env → M D) : Env → M Bool := fun env => do
  let x ← ma env
  let y ← mb env
  let x ← vw x
  let y ← onlyP y
  let k ← need (cmpP o1 x y)
  if k = true then (do
    let z ← md env
    let z ← onlyP z
    let k2 ← need (cmpP o2 y z)
    if k2 = true then (do
      let u ← me env
      let u ← vw u
      need (cmpP o3 z u)) else pure false) else pure false
theorem chain3_step {o1 o2 o3 : CmpOp} {σ : List (Option V)} {H0 H : Hp} {ρ0 ρ : Pl} {env : Env} {st : Sto} {α : Type} {f : Bool → Sto → R α} {Qf : α → Sto → Prop} {Q : VK} (n : Now X ρ0 H0 ρ H env σ st) (h : ((cmp3M o1 o2 o3 ma mb md me env st).bind f).holds Qf (Er X ρ0 H0))
    (q : ∀ b ρ1 H1 st1, Now X ρ0 H0 ρ1 H1 env σ st1 → (f b st1).holds Qf (Er X ρ0 H0) → Q (.bl b) H1) : tChain3 (rCmp X o1) (rCmp X o2) (rCmp X o3) (tM X ma) (tM X mb) (tM X md) (tM X me) σ H Q := by
  have h : ((ma env st).bind fun x st => ((mb env st).bind fun y st => ((vw x st).bind fun x st => ((onlyP y st).bind fun y st => ((need (cmpP o1 x y) st).bind fun k st =>
      ((if k = true then (do
        let z ← md env
        let z ← onlyP z
        let k2 ← need (cmpP o2 y z)
        if k2 = true then (do
          let u ← me env
          let u ← vw u
          need (cmpP o3 z u)) else pure false) else pure false : M Bool) st).bind f))))).holds Qf (Er X ρ0 H0) := by
    have h0 : (((ma env st).bind fun x st => ((mb env st).bind fun y st => ((vw x st).bind fun x st => ((onlyP y st).bind fun y st => ((need (cmpP o1 x y) st).bind fun k st => (if k = true then (do
        let z ← md env
        let z ← onlyP z
        let k2 ← need (cmpP o2 y z)
        if k2 = true then (do
          let u ← me env
          let u ← vw u
          need (cmpP o3 z u)) else pure false) else pure false : M Bool) st))))).bind f).holds Qf (Er X ρ0 H0) := h
    simp only [assoc_b] at h0
    exact h0
  refine tM_mono (step n h) ?_
  rintro x H1 ⟨ρ1, st1, v, n1, rx, e1, h⟩
  refine tM_mono (step n1 h) ?_
  rintro y H2 ⟨ρ2, st2, w, n2, ry, e2, h⟩
  obtain ⟨a, va, h⟩ := seen h
  obtain ⟨b, rfl, h⟩ := onlyP_holds h
  obtain ⟨r, er, h⟩ := needed h
  refine cmp_core n2.rs (rx.ext e2) ry va (show view st2 (.p b) = some b from rfl) er fun H3 s => ⟨r, rfl, ?_⟩
  have n3 : Now X ρ0 H0 ρ2 H3 env σ st2 := ⟨n2.ext.trans (Ext.same s), n2.re.ext (Ext.same s), n2.rs.same s⟩
  cases r with
  | false => exact q false ρ2 H3 st2 n3 h
  | true =>
    have h : ((md env st2).bind fun z st => ((onlyP z st).bind fun z st => ((need (cmpP o2 b z) st).bind fun k2 st => ((if k2 = true then (do
          let u ← me env
          let u ← vw u
          need (cmpP o3 z u)) else pure false : M Bool) st).bind f))).holds Qf (Er X ρ0 H0) := by
      have h0 : (((md env st2).bind fun z st => ((onlyP z st).bind fun z st => ((need (cmpP o2 b z) st).bind fun k2 st => (if k2 = true then (do
          let u ← me env
          let u ← vw u
          need (cmpP o3 z u)) else pure false : M Bool) st))).bind f).holds Qf (Er X ρ0 H0) := h
      simp only [assoc_b] at h0
      exact h0
    refine tM_mono (step n3 h) ?_
    rintro z H4 ⟨ρ4, st4, u, n4, rz, e4, h⟩
    obtain ⟨dd, rfl, h⟩ := onlyP_holds h
    obtain ⟨r2, er2, h⟩ := needed h
    refine cmp_core n4.rs ((ry.ext (Ext.same s)).ext e4) rz (show view st4 (.p b) = some b from rfl) (show view st4 (.p dd) = some dd from rfl) er2 fun H5 s5 => ⟨r2, rfl, ?_⟩
    have n5 : Now X ρ0 H0 ρ4 H5 env σ st4 := ⟨n4.ext.trans (Ext.same s5), n4.re.ext (Ext.same s5), n4.rs.same s5⟩
    cases r2 with
    | false => exact q false ρ4 H5 st4 n5 h
    | true =>
      have h : ((me env st4).bind fun z st => ((vw z st).bind fun z st => ((need (cmpP o3 dd z) st).bind f))).holds Qf (Er X ρ0 H0) := by
        have h0 : (((me env st4).bind fun z st => ((vw z st).bind fun z st => need (cmpP o3 dd z) st)).bind f).holds Qf (Er X ρ0 H0) := h
        simp only [assoc_b] at h0
        exact h0
      refine tM_mono (step n5 h) ?_
      rintro t H6 ⟨ρ6, st6, u6, n6, rt, e6, h⟩
      obtain ⟨d6, vd, h⟩ := seen h
      obtain ⟨r3, er3, h⟩ := needed h
      exact cmp_core n6.rs ((rz.ext (Ext.same s5)).ext e6) rt (show view st6 (.p dd) = some dd from rfl) vd er3 fun H7 s7 => q r3 ρ6 H7 st6 ⟨n6.ext.trans (Ext.same s7), n6.re.ext (Ext.same s7), n6.rs.same s7⟩ h
theorem lastMarks3 {o1 o2 o3 : CmpOp} (h : behindInMarks o3 ef = false) : lastMarks [o1, o2, o3] [eb, ed, ef] = false := by
  simp [lastMarks, h]
theorem r_cmp3 {o1 o2 o3 : CmpOp} (hu : X.A.units + 65 < cLine) (ha : PE X ea (tM X ma)) (hb : PE X eb (tM X mb)) (hd : PE X ed (tM X md)) (hf : PE X ef (tM X me)) (hm : behindInMarks o3 ef = false) : PE X (.Compare ea [o1, o2, o3] [eb, ed, ef] pos) (tM X (boolM (cmp3M o1 o2 o3 ma mb md me))) := by
  refine (pe_chain3 (cmp_ok o1 hu) (cmp_ok o2 hu) (cmp_ok o3 hu) ha hb hd hf (lastMarks3 hm)).imp fun σ H Q q => ?_
  obtain ⟨ρ, env, st, hE, hS, q⟩ := q
  exact chain3_step (Now.start hE hS) (show ((cmp3M o1 o2 o3 ma mb md me env st).bind fun b st => .ok (.p (.bool b)) st).holds (Post X.K ρ H Q) (Er X ρ H) from q) fun b ρ1 H1 st1 n1 q => post_bl n1 q
theorem t_cmp3 {o1 o2 o3 : CmpOp} (hu : X.A.units + 65 < cLine) (ha : PE X ea (tM X ma)) (hb : PE X eb (tM X mb)) (hd : PE X ed (tM X md)) (hf : PE X ef (tM X me)) (hm : behindInMarks o3 ef = false) : PT X (.Compare ea [o1, o2, o3] [eb, ed, ef] pos) (tT X (cmp3M o1 o2 o3 ma mb md me)) := by
  refine (pt_chain3 (cmp_ok o1 hu) (cmp_ok o2 hu) (cmp_ok o3 hu) ha hb hd hf (lastMarks3 hm)).imp fun σ H Q q => ?_
  obtain ⟨ρ, env, st, hE, hS, q⟩ := q
  rw [← ok_id (cmp3M o1 o2 o3 ma mb md me env st)] at q
  exact chain3_step (Now.start hE hS) q fun b ρ1 H1 st1 n1 q => ⟨b, rfl, q ρ1 H1 n1.ext n1.rs⟩
end
end PB
set_option maxRecDepth 100000
set_option maxHeartbeats 2000000
/-! Pb, part 18p: dict(a list of pairs), d.get(k, x). -/
namespace PB
open PySem PySem.Spec PyProof.Rows L2
def dictPM (m : Env → M D) : Env → M D := fun env => do
  let x ← m env
  let d ← onlyP x
  let r ← need ((listPairs d).bind dictP)
  pure (.p r)
section
variable {K : PySem.W.Frag} {ρ ρ' : Pl} {H H' : Hp}
theorem pairs_rel : ∀ {vs : List V} {ds : List P} {ps : List (Key × P)}, RPs K H ρ vs ds → pairsP ds = some ps →
    ∃ (as : List Addr) (kvs : List (Key × V)), vs = as.map V.ref ∧ Paired (fun p kv => SqT K H p [kV kv.1, kv.2]) as kvs ∧ RDk K H ρ kvs (ps.map fun kv => (kv.1, D.p kv.2))
  | _, _, ps, .nil, e => by
    cases e
    exact ⟨[], [], rfl, .nil, .nil⟩
  | _, _, ps, .cons (d := d) (ds := ds) r t, e => by
    unfold pairsP at e
    split at e
    · rename_i z; cases z
    · rename_i k v r' z
      cases z
      obtain ⟨kk, ek, e⟩ := Option.bind_eq_some_iff.mp e
      obtain ⟨ps', ep, rfl⟩ := Option.map_eq_some_iff.mp e
      obtain ⟨as, kvs, rfl, hp, hr⟩ := pairs_rel t ep
      cases r with
      | @tup a xs _ h rs =>
        cases rs with
        | @cons v1 _ _ _ r1 rs =>
          cases rs with
          | @cons v2 _ _ _ r2 rs =>
            cases rs
            have ev := key_rv r1.rv ek
            subst ev
            exact ⟨a :: as, (kk, v2) :: kvs, rfl, .cons h.sq hp, .cons (.p r2) hr⟩
    · cases e
theorem merge_rel : ∀ {ps : List (Key × P)} {kvs acc : List (Key × V)} {accD : List (Key × D)}, RDk K H ρ kvs (ps.map fun kv => (kv.1, D.p kv.2)) → RDk K H ρ acc accD → RDk K H ρ (mergeK acc kvs) (mergeD accD ps)
  | [], _, _, _, .nil, h => h
  | kv :: ps, _, _, _, .cons r t, h => by
    have z := merge_rel t (h.putD (k := kv.1) r)
    exact z
end
section
variable {X : Cx} {p0 pos : Pos} {e : Expr} {m : Env → M D}
theorem boot_dict' : bootBuiltins "dict" = some (.type "dict") := by decide +kernel
theorem r_dictP (hcm : X.calm = true) (hg : Gl X "dict") (hm : X.mg "dict" = none) (hst : notStar e = true) (ha : PE X e (tM X m)) : PE X (.Call (.Name "dict" p0) [e] [] pos) (tM X (dictPM m)) := by
  refine (pe_callTy (call_dictP hcm) hg hm boot_dict' (pa_cons ha pa_nil (star_of hst _ _)) (by decide) (by decide) (star_of hst _ _) rfl).imp fun σ H Q q => ?_
  obtain ⟨ρ, env, st, hE, hS, q⟩ := q
  refine tM_mono (step (Now.start hE hS) (show ((m env st).bind fun x st => ((onlyP x st).bind fun d st => ((need ((listPairs d).bind dictP) st).bind fun r st => .ok (.p r) st))).holds (Post X.K ρ H Q) (Er X ρ H) from q)) ?_
  rintro x H1 ⟨ρ1, st1, v, n1, rx, e1, q⟩
  cases v with
  | ref _ => exact q.elim
  | p d =>
    obtain ⟨r, er, q⟩ := needed (show ((need ((listPairs d).bind dictP) st1).bind fun r st => .ok (.p r) st).holds (Post X.K ρ H Q) (Er X ρ H) from q)
    obtain ⟨ps, ep, ed⟩ := Option.bind_eq_some_iff.mp er
    unfold listPairs at ep
    split at ep
    · rename_i ds
      cases rx with
      | p rx =>
        cases rx with
        | @lst a xs _ h rs =>
          obtain ⟨as, kvs, rfl, hp, hr⟩ := pairs_rel rs ep
          obtain ⟨es, ea, rfl⟩ := Option.map_eq_some_iff.mp ed
          refine ⟨a, as, kvs, rfl, h.sq, hp, fun p hn => ?_⟩
          have s2 := same_new (o := .dK (mergeK [] kvs)) hn
          have q : Post X.K ρ H Q (.p (.dict (((mergeD [] ps).map fun kv => keyP kv.1).zip es))) st1 := q
          exact q ρ1 _ _ (n1.ext.trans (Ext.same s2)) (n1.rs.same s2) (.p (.dct (.inl upd_same) (n1.rs.fresh hn) (((merge_rel hr .nil).ext (Ext.same s2)).toP ea)))
    · cases ep
end
/-! ### d.get(k, x) of a dict -/
def getM (ma mk mx : Env → M D) : Env → M D := fun env => do
  let d ← ma env
  dctOk d
  let k ← mk env
  let k ← onlyP k
  let x ← mx env
  let x ← onlyP x
  getDM d k x
theorem RDk.look0 {K : PySem.W.Frag} {H : Hp} {ρ : Pl} {k : Key} : ∀ {vs : List (Key × V)} {kvs : List (Key × D)}, RDk K H ρ vs kvs → lookK k kvs = none → valV vs k = none
  | _, _, .nil, _ => rfl
  | _, _, .cons (k := j) (d := d) h q, e => by
    unfold lookK at e
    split at e
    · cases e
    · rename_i hj
      have z := RDk.look0 q e
      unfold valV at z ⊢
      rw [List.find?_cons_of_neg (by simpa using hj)]
      exact z
section
variable {X : Cx} {apos pos : Pos} {ea ek ex : Expr} {ma mk mx : Env → M D}
theorem m2_of (hst : [ek, ex].all notStar = true) (hsup : noSuper ea = true) (hline : (apos.endLine == pos.line) = true) : M2 X ea "get" apos ek ex pos where
  base := super_of hsup _ X.env
  few := few_of (es := [ek, ex]) (plain_of hst) (by simp)
  line := hline
  trees := by
    have pl : Plain X [ek, ex] := plain_of hst
    rw [pl ek (by simp) [ex], pl.tail ex (by simp) []]
    rfl
theorem r_get2 (hu : X.A.units + 1 < cLine) (hst : [ek, ex].all notStar = true) (hsup : noSuper ea = true) (hline : (apos.endLine == pos.line) = true) (ha : PE X ea (tM X ma)) (hk : PE X ek (tM X mk)) (hx : PE X ex (tM X mx)) :
    PE X (.Call (.Attribute ea "get" apos) [ek, ex] [] pos) (tM X (getM ma mk mx)) := by
  refine (pe_dget2 hu ha hk hx (m2_of hst hsup hline)).imp fun σ H Q q => ?_
  obtain ⟨ρ, env, st, hE, hS, q⟩ := q
  refine tM_mono (step (Now.start hE hS) (show ((ma env st).bind fun d st => ((dctOk d st).bind fun _ st => ((mk env st).bind fun k st => ((onlyP k st).bind fun k st => ((mx env st).bind fun x st => ((onlyP x st).bind fun x st => getDM d k x st)))))).holds (Post X.K ρ H Q) (Er X ρ H) from q)) ?_
  rintro x H1 ⟨ρ1, st1, v, n1, rx, e1, q⟩
  have rest : ∀ a : Addr, x = .ref a → IsD H1 a → ((mk env st1).bind fun k st => ((onlyP k st).bind fun k st => ((mx env st).bind fun x st => ((onlyP x st).bind fun x st => getDM v k x st)))).holds (Post X.K ρ H Q) (Er X ρ H) →
      (∀ ρ3 H3 st3 k u z, Now X ρ H ρ3 H3 env σ st3 → Ext ρ1 H1 ρ3 H3 → RP X.K H3 ρ3 z u → (getDM v k u st3).holds (Post X.K ρ H Q) (Er X ρ H) → ∀ y, (∀ kk, keyOf k = some kk → y = kV kk) → ∃ o, DGet H3 a y o ∧ Q (o.getD z) H3) →
      ∃ a, x = .ref a ∧ IsD H1 a ∧ tM X mk σ H1 fun y H2 => tM X mx σ H2 fun z H3 => ∃ o, DGet H3 a y o ∧ Q (o.getD z) H3 := by
    intro a ea hd q fin
    refine ⟨a, ea, hd, ?_⟩
    refine tM_mono (step n1 q) ?_
    rintro y H2 ⟨ρ2, st2, w, n2, ry, e2, q⟩
    cases w with
    | ref _ => exact q.elim
    | p k =>
      have q : ((mx env st2).bind fun x st => ((onlyP x st).bind fun x st => getDM v k x st)).holds (Post X.K ρ H Q) (Er X ρ H) := q
      refine tM_mono (step n2 q) ?_
      rintro z H3 ⟨ρ3, st3, u, n3, rz, e3, q⟩
      cases u with
      | ref _ => exact q.elim
      | p u =>
        cases rz with
        | p rz =>
          refine fin ρ3 H3 st3 k u z n3 (e2.trans e3) rz q y fun kk ek => ?_
          cases ry with
          | p ry => exact key_rv ry.rv ek
  cases v with
  | p d =>
    cases d with
    | dict kvs =>
      cases rx with
      | p rx =>
        cases rx with
        | @dct a vs _ h1 hn r1 =>
          refine rest a rfl (.inl ⟨vs, h1⟩) q fun ρ3 H3 st3 k u z n3 e13 rz q y hy => ?_
          obtain ⟨r, er, q⟩ := needed (show ((need (getP (.dict kvs) k u) st3).bind fun r st => .ok (.p r) st).holds (Post X.K ρ H Q) (Er X ρ H) from q)
          obtain ⟨kk, ek, rfl⟩ := Option.map_eq_some_iff.mp (show (keyOf k).map (fun k => (dlookP k kvs).getD u) = some r from er)
          have ey := hy kk ek
          have rd : RP X.K H3 ρ3 (.ref a) (.dict kvs) := RP.ext e13 (.dct h1 hn r1)
          cases rd with
          | @dct _ vs3 _ h3 hn3 r3 =>
            have dl := RPk.dlook (k := kk) r3
            refine ⟨valV vs3 kk, .inl ⟨vs3, kk, h3, ey, rfl⟩, ?_⟩
            cases el : dlookP kk kvs with
            | none =>
              rw [el] at dl q
              have dl : valV vs3 kk = none := dl
              rw [dl]
              exact q ρ3 H3 _ n3.ext n3.rs (.p rz)
            | some g =>
              rw [el] at dl q
              obtain ⟨x3, e4, e5⟩ := dl
              rw [e4]
              exact q ρ3 H3 _ n3.ext n3.rs (.p e5)
    | _ => exact q.elim
  | ref l =>
    cases rx with
    | @ref a _ h =>
      have q : ((dctOk (.ref l) st1).bind fun _ st => ((mk env st).bind fun k st => ((onlyP k st).bind fun k st => ((mx env st).bind fun x st => ((onlyP x st).bind fun x st => getDM (.ref l) k x st))))).holds (Post X.K ρ H Q) (Er X ρ H) := q
      have go : ∀ {st : Sto} {o : O}, st[l]? = some o → getO l st = .ok o st := by intro st o h; unfold getO; rw [h]
      have gn : ∀ {st : Sto}, st[l]? = none → getO l st = .bad := by intro st h; unfold getO; rw [h]
      cases o : st1[l]? with
      | none =>
        have e0 : dctOk (.ref l) st1 = .bad := by show R.bind (getO l st1) _ = _; rw [gn o]; rfl
        rw [e0] at q
        exact q.elim
      | some o' =>
        cases o' with
        | lst _ =>
          have e0 : dctOk (.ref l) st1 = .bad := by show R.bind (getO l st1) _ = _; rw [go o]; rfl
          rw [e0] at q
          exact q.elim
        | tup _ =>
          have e0 : dctOk (.ref l) st1 = .bad := by show R.bind (getO l st1) _ = _; rw [go o]; rfl
          rw [e0] at q
          exact q.elim
        | dct w1 kvs1 =>
          have e0 : dctOk (.ref l) st1 = .ok () st1 := by show R.bind (getO l st1) _ = _; rw [go o]; rfl
          rw [e0] at q
          obtain ⟨⟨vs, r1, r2⟩, _⟩ := n1.rs.ob l a _ h o
          refine rest a rfl (.inl ⟨vs, r1.rd⟩) q fun ρ3 H3 st3 k u z n3 e13 rz q y hy => ?_
          have h3 := e13.get h
          cases o3 : st3[l]? with
          | none =>
            have e0 : getDM (.ref l) k u st3 = .bad := by show R.bind (getO l st3) _ = _; rw [gn o3]; rfl
            rw [e0] at q
            exact q.elim
          | some o3' =>
            cases o3' with
            | lst _ =>
              have e0 : getDM (.ref l) k u st3 = .bad := by show R.bind (getO l st3) _ = _; rw [go o3]; rfl
              rw [e0] at q
              exact q.elim
            | tup _ =>
              have e0 : getDM (.ref l) k u st3 = .bad := by show R.bind (getO l st3) _ = _; rw [go o3]; rfl
              rw [e0] at q
              exact q.elim
            | dct w kvs =>
              have e0 : getDM (.ref l) k u st3 = ((need (keyOf k) st3).bind fun kk st => .ok ((lookK kk kvs).getD (.p u)) st) := by show R.bind (getO l st3) _ = _; rw [go o3]; rfl
              rw [e0] at q
              obtain ⟨kk, ek, q⟩ := needed q
              have ey := hy kk ek
              obtain ⟨⟨vs3, r3, r4⟩, _⟩ := n3.rs.ob l a _ h3 o3
              refine ⟨valV vs3 kk, .inl ⟨vs3, kk, r3.rd, ey, rfl⟩, ?_⟩
              cases el : lookK kk kvs with
              | none =>
                rw [el] at q
                rw [r4.look0 el]
                exact q ρ3 H3 _ n3.ext n3.rs (.p rz)
              | some g =>
                rw [el] at q
                obtain ⟨x3, e4, e5⟩ := r4.look el
                rw [e4]
                exact q ρ3 H3 _ n3.ext n3.rs e5
end
end PB
set_option maxRecDepth 100000
set_option maxHeartbeats 2000000
/-! Pb, part 18z: dict(zip(a, b)). -/
namespace PB
open PySem PySem.Spec PyProof.Rows L2
section
variable {prog : Program} {w : World} {z TI TO i1 i2 : Addr} {fp1 fp2 : List Addr} {n1 n2 : Nat} {P1 P2 : Nat → Value → Prop} {St1 St2 : Nat → Heap → Prop}
def ZOk (z TI TO i1 i2 : Addr) (St1 St2 : Nat → Heap → Prop) (h : Heap) : Prop := IsZip h z TI TO .none ∧ ZSt z TI TO i1 i2 St1 St2 0 h
/-- zip over two things that are drawn from, as the argument of dict() -/
theorem argZip (A0 : Around) (hA0 : A0.handled = none) (S : ZipSep2 z TI TO i1 i2 fp1 fp2) (D1 : ∀ A : Around, A.handled = none → Draws prog w A i1 fp1 n1 P1 St1) (D2 : ∀ A : Around, A.handled = none → Draws prog w A i2 fp2 n2 P2 St2)
    (h1 : i1 ∈ fp1) (h2 : i2 ∈ fp2) (ex : ∀ h b, (b ∈ fp1 → St1 0 h → ∃ o, h.get? b = some o) ∧ (b ∈ fp2 → St2 0 h → ∃ o, h.get? b = some o)) :
    PairArg prog w "zip" z ([z, TI, TO] ++ fp1 ++ fp2) [z, TO, i1, i2] (min n1 n2) (fun i k v => P1 i k ∧ P2 i v) (ZOk z TI TO i1 i2 St1 St2) where
  type := fun s ok => ok.2.1.typ
  notDict := by decide
  keep := fun h h' ok hk => ⟨hk _ _ ok.1, ok.2.keep S (D1 A0 hA0) (D2 A0 hA0) fun b _ o e => hk b o e⟩
  there := fun h ok b hb => by
    obtain ⟨hz, hs, hTI, ⟨a1, a2, hTO⟩, st1, st2⟩ := ok
    simp only [List.mem_append, List.mem_cons, List.not_mem_nil, or_false] at hb
    rcases hb with ((rfl | rfl | rfl) | hb) | hb
    · exact ⟨_, hz⟩
    · exact ⟨_, hTI⟩
    · exact ⟨_, hTO⟩
    · exact (ex h b).1 hb st1
    · exact (ex h b).2 hb st2
  sub := fun b hb => by
    simp only [List.mem_cons, List.not_mem_nil, or_false] at hb
    rcases hb with rfl | rfl | rfl | rfl <;> simp [h1, h2]
  noKeys := fun A s Q E hA ok h => getAttrOr_miss_zip ok.1 rfl rfl rfl zip_no_keys (by decide +kernel) hA h
  iter := fun A s d Q E hA ok hd hdf h => by
    have ne : ∀ b, b = z ∨ b = TI ∨ b = TO ∨ b ∈ fp1 ∨ b ∈ fp2 → b ≠ d := fun b hb e => hdf (by
      subst e
      simp only [List.mem_append, List.mem_cons, List.not_mem_nil, or_false]
      rcases hb with hb | hb | hb | hb | hb
      · exact .inl (.inl (.inl hb))
      · exact .inl (.inl (.inr (.inl hb)))
      · exact .inl (.inl (.inr (.inr hb)))
      · exact .inl (.inr hb)
      · exact .inr hb)
    refine wpAny_pyIter_zip (s := s) ok.1 (h z [z, TO, i1, i2] (ZSt z TI TO i1 i2 St1 St2) s.heap s.toks ?_ ok.2 (fun b o e => e) fun b hb => .inl hb)
    have hA1 : A.in1.handled = none := hA
    exact {
      off := fun hm => by
        simp only [List.mem_cons, List.not_mem_nil, or_false] at hm
        rcases hm with hm | hm | hm | hm
        · exact ne z (.inl rfl) hm.symm
        · exact ne TO (.inr (.inr (.inl rfl))) hm.symm
        · exact ne i1 (.inr (.inr (.inr (.inl h1)))) hm.symm
        · exact ne i2 (.inr (.inr (.inr (.inr h2)))) hm.symm
      frame := fun i h h' st hk => st.keep S (D1 A0 hA0) (D2 A0 hA0) fun b hb o e => hk b o (ne b hb) e
      item := fun i s1 Q1 E1 hi st _ hQ => by
        refine pyNext_zipS (A := A) S (D1 _ hA1) (D2 _ hA1) st (by omega) (by omega) fun x1 x2 h' tk p1 p2 st' ht hsz hk => ?_
        exact hQ s1.heap.objs.size x1 x2 h' tk ⟨p1, p2⟩ (.inl ⟨_, ht, rfl, _, rfl⟩) st' fun b o hb e => by
          simp only [List.mem_cons, List.not_mem_nil, or_false, not_or] at hb
          exact hk b o hb.1 hb.2.1 hb.2.2.1 hb.2.2.2 e
      done := fun s1 Q1 E1 st hQ => by
        refine pyNext_zipS_end (A := A) S (D1 _ hA1) (D2 _ hA1) st (by omega) (by omega) (by omega) fun h' tk hk => ?_
        exact hQ h' tk fun b o hb e => by
          simp only [List.mem_cons, List.not_mem_nil, or_false, not_or] at hb
          exact hk b o hb.1 hb.2.1 hb.2.2.1 hb.2.2.2 e }
end
/-! ### the pairs -/
theorem zip_pairs (Pg : Program) (w : World) {K : PySem.W.Frag} {H : Hp} {ρ : Pl} : ∀ {vs1 vs2 : List V} {ws1 ws2 : List Value} {xs ys : List P} {ps : List (Key × P)}, RPs K H ρ vs1 xs → RPs K H ρ vs2 ys → Vals vs1 ws1 → Vals vs2 ws2 → pairsP (zipP xs ys) = some ps →
    ∃ (kvs : List (Key × V)) (prs : List (Key × Value)), KV kvs prs ∧ prs.length = min ws1.length ws2.length ∧ (∀ (j : Nat) (x1 x2 : Value), ws1[j]? = some x1 → ws2[j]? = some x2 → ∃ k, prs[j]? = some (k, x2) ∧ keyIs k x1 = true) ∧ RDk K H ρ kvs (ps.map fun kv => (kv.1, D.p kv.2))
  | _, _, _, _, _, _, ps, .nil, _, .nil, _, e => by
    cases e
    exact ⟨[], [], .nil, by simp, fun j _ _ h => by simp at h, .nil⟩
  | _, _, _, _, _, _, ps, .cons _ _, .nil, .cons _ _, .nil, e => by
    cases e
    exact ⟨[], [], .nil, by simp, fun j _ _ _ h => by simp at h, .nil⟩
  | _, _, _, _, _, _, ps, .cons (d := d1) r1 t1, .cons (d := d2) r2 t2, .cons u1 q1, .cons u2 q2, e => by
    have e : ((keyOf d1).bind fun kk => (pairsP (zipP _ _)).map fun t => (kk, d2) :: t) = some ps := e
    obtain ⟨kk, ek, e⟩ := Option.bind_eq_some_iff.mp e
    obtain ⟨ps', ep, rfl⟩ := Option.map_eq_some_iff.mp e
    obtain ⟨kvs, prs, a1, a2, a3, a4⟩ := zip_pairs Pg w t1 t2 q1 q2 ep
    have ev := key_rv r1.rv ek
    subst ev
    refine ⟨(kk, _) :: kvs, (kk, _) :: prs, .cons ⟨rfl, u2⟩ a1, by simp [a2], fun j x1 x2 h1 h2 => ?_, .cons (.p r2) a4⟩
    cases j with
    | zero =>
      have e1 := Option.some.inj h1
      have e2 := Option.some.inj h2
      subst e1
      subst e2
      exact ⟨kk, rfl, kV_is (P := Pg) (w := w) u1⟩
    | succ j => exact a3 j x1 x2 h1 h2
def dictZM (m : Env → M (List D)) : Env → M D := fun env => do
  let xs ← m env
  let items ← srcM .zip xs
  let r ← need ((pairsP items.1).bind PB.dictP)
  if items.1.length ≤ 16777216 then pure (.p r) else stop
theorem objK_there {k : Bool} {h : Heap} {it a : Addr} {i : Nat} {its : Array Value} (h1 : itK k h it a i) (h2 : isK k h a its) {b : Addr} (hb : b ∈ [it, a]) : ∃ o, h.get? b = some o := by
  simp only [List.mem_cons, List.not_mem_nil, or_false] at hb
  rcases hb with rfl | rfl
  · cases k with
    | true => obtain ⟨o, q, _⟩ := (show h.IsListIter _ _ _ from h1); exact ⟨o, q⟩
    | false => obtain ⟨o, q, _⟩ := (show h.IsTupleIter _ _ _ from h1); exact ⟨o, q⟩
  · cases k with
    | true => obtain ⟨o, q, _⟩ := (show h.IsList _ _ from h2); exact ⟨o, q⟩
    | false => obtain ⟨o, q, _⟩ := (show h.IsTuple _ _ from h2); exact ⟨o, q⟩
section
variable {X : Cx} {m : Env → M (List D)} {p p0 pos pos0 : Pos}
theorem r_dictZip {e f : Expr} (hcm : X.calm = true) (h0 : Gl X "dict") (hm0 : X.mg "dict" = none) (hg : Gl X "zip") (hm : X.mg "zip" = none) (ha : PA X [e, f] (tL X m)) (hlen : ∀ env st ds st', m env st = .ok ds st' → ds.length = 2)
    (hs : starEach [e, f] X.env = (false, eval e X.env) :: starEach [f] X.env) (hpl : (backTo pos (starEach [f] X.env)).any (·.1) = false) :
    PE X (.Call (.Name "dict" p0) [.Call (.Name "zip" p) [e, f] [] pos] [] pos0) (tM X (dictZM m)) := by
  refine ⟨fun pins s σ H Q I q => ?_⟩
  have na : starEach [Expr.Call (.Name "zip" p) [e, f] [] pos] X.env = (false, eval (Expr.Call (.Name "zip" p) [e, f] [] pos) X.env) :: starEach [] X.env := rfl
  obtain ⟨ρ, env, st, hE, hS, q⟩ := q
  have q : ((m env st).bind fun ds st => ((srcM .zip ds st).bind fun items st => ((need ((pairsP items.1).bind PB.dictP) st).bind fun r st => (if items.1.length ≤ 16777216 then pure (.p r) else stop : M D) st))).holds (Post X.K ρ H Q) (Er X ρ H) := q
  cases e0 : m env st with
  | bad => rw [e0] at q; exact q.elim
  | err cE vE stE =>
    rw [e0] at q
    have q : Er X ρ H cE vE stE := q
    have inner : wpAny (model X.prog X.w) X.A (eval (Expr.Call (.Name "zip" p) [e, f] [] pos) X.env) (fun _ _ => False) X.xe s :=
      Call_ (ld_blt I hg hm PyProof.Rows.boot_zip (PyProof.Rows.callWith_type1 (thn (ha.run pos pins s σ H (fun _ _ => False) I (tL_err hE hS e0 q)) fun us s1 ⟨_, _, _, _, z⟩ => z.elim) hs hpl))
    exact Call_ (ld_blt I h0 hm0 boot_dict' (PyProof.Rows.callWith_type1 (args_cons (thn inner fun _ _ z => z.elim) na) na rfl) (by decide) (by decide)) rfl
  | ok ds st1 =>
    rw [e0] at q
    obtain ⟨qs, items, vi, e2, q⟩ := zip_holds (show ((srcM .zip ds st1).bind fun items st => ((need ((pairsP items.1).bind PB.dictP) st).bind fun r st => (if items.1.length ≤ 16777216 then pure (.p r) else stop : M D) st)).holds (Post X.K ρ H Q) (Er X ρ H) from q)
    obtain ⟨r, er, q⟩ := needed q
    split at q
    · rename_i hlen2
      have hl := hlen _ _ _ _ e0
      match ds, qs, vi, hl with
      | [d1, d2], [q1, q2], .cons hv1 (.cons hv2 .nil), _ =>
        have e2 : ((itemsP q1).bind fun xs => (itemsP q2).map fun ys => zipP xs ys) = some items := e2
        cases e3 : itemsP q1 with
        | none => rw [e3] at e2; cases e2
        | some xs =>
          cases e4 : itemsP q2 with
          | none => rw [e3, e4] at e2; cases e2
          | some ys =>
            rw [e3, e4] at e2
            cases e2
            obtain ⟨ps, ep, ed⟩ := Option.bind_eq_some_iff.mp er
            obtain ⟨es, ea, rfl⟩ := Option.map_eq_some_iff.mp ed
            have q : Post X.K ρ H Q (.p (.dict (((mergeD [] ps).map fun kv => keyP kv.1).zip es))) st1 := q
            refine Call_ (ld_blt I h0 hm0 boot_dict' (PyProof.Rows.callWith_type1 (args_cons (thn (zip_evalW (p := p) hg hm ha hs hpl I hE hS e0 hv1 hv2 e3 e4) fun u s1 hx => args_nil ?_) na) na rfl) (by decide) (by decide)) rfl
            obtain ⟨H1, ρ1, z, TI, TO, i1, i2, a, b, k1, k2, rfl, hz, hTI, hTO, t1, t2, S, na', nb', I1, lt, fp, ex, SR, w1, w2⟩ := hx
            obtain ⟨vs1, sq1, rp1⟩ := w1 ρ1 H1 st1 .refl SR (stays_self _)
            obtain ⟨vs2, sq2, rp2⟩ := w2 ρ1 H1 st1 .refl SR (stays_self _)
            obtain ⟨ws1, rv1, ik1⟩ := sqX_is I1 sq1
            obtain ⟨ws2, rv2, ik2⟩ := sqX_is I1 sq2
            have hh : X.A.in1.in1.in1.handled = none := I1.ok.hd hcm
            obtain ⟨kvs, prs, hkv, hpl', hpr, hrd⟩ := zip_pairs X.prog X.w rp1 rp2 rv1 rv2 ep
            have sz1 : ws1.toArray.size = xs.length := by rw [List.size_toArray, ← rv1.length]; exact (rps_at rp1).1
            have sz2 : ws2.toArray.size = ys.length := by rw [List.size_toArray, ← rv2.length]; exact (rps_at rp2).1
            have zl : (zipP xs ys).length = min xs.length ys.length := zipP_len'
            have big : 16777216 ≤ sizeLine := by decide
            have hn : min ws1.toArray.size ws2.toArray.size ≤ sizeLine := by
              rw [sz1, sz2]
              have : (zipP xs ys).length ≤ 16777216 := hlen2
              omega
            have PA' := argZip (prog := X.prog) (w := X.w) X.A.in1.in1.in1 hh S (fun A hA => drawsK (prog := X.prog) (w := X.w) (A := A) (k := k1) (it := i1) (a := a) hA na' ws1.toArray)
              (fun A hA => drawsK (prog := X.prog) (w := X.w) (A := A) (k := k2) (it := i2) (a := b) hA nb' ws2.toArray) (by simp) (by simp) (fun h c => ⟨fun hc st => objK_there st.1 st.2 hc, fun hc st => objK_there st.1 st.2 hc⟩)
            refine PySem.call_dict_pairs (knd := mixKind X.prog X.w) (kvs := prs) PA' hh ⟨hz, ⟨⟨_, _, hz, .inl rfl⟩, hTI, hTO, ⟨t1, ik1⟩, ⟨t2, ik2⟩⟩⟩ ⟨by rw [hpl', List.size_toArray, List.size_toArray], fun i key v hr => hpr i key v (by simpa using hr.1) (by simpa using hr.2)⟩ hn fun h' tk hd' hk => ?_
            have hm' : (s1.heap.objs.size == sysModules) = false := beq_eq_false_iff_ne.mpr (Nat.ne_of_gt I1.big)
            have hlen : (mergeK [] kvs).length ≤ sizeLine := by
              refine Nat.le_trans (length_mergeK kvs []) ?_
              rw [List.length_nil, Nat.zero_add, hkv.length, hpl']
              simpa using hn
            have newS : H1 s1.heap.objs.size = none := I1.hok.fresh (Nat.le_refl _)
            have s2 := same_new (o := .dK (mergeK [] kvs)) newS
            refine ⟨V.ref s1.heap.objs.size, upd H1 s1.heap.objs.size (.dK (mergeK [] kvs)), ?_, rfl, q ρ1 _ _ (ex.trans (Ext.same s2)) (SR.same s2) (.p (.dct (.inl upd_same) (SR.fresh newS) (((merge_rel hrd .nil).ext (Ext.same s2)).toP ea)))⟩
            refine I1.turnedMany (ch := [z, TO, i1, i2]) (fun c o hc e => hk c o hc e) (fun c hc => ?_) (fun b o e => ?_) (fun b u e => ?_) fun b u e hb => ?_
            · simp only [List.mem_cons, List.not_mem_nil, or_false] at hc
              rcases hc with x | x | x | x <;> rw [x]
              · exact fp z (by simp)
              · exact fp TO (by simp)
              · exact fp i1 (by simp)
              · exact fp i2 (by simp)
            · rw [upd_ne (Nat.ne_of_lt (Heap.lt_size e))]
            · rw [upd_ne (fun y => by rw [y, newS] at e; cases e)]
              exact e
            · by_cases hbS : b = s1.heap.objs.size
              · subst hbS
                rw [upd_same] at e
                cases e
                exact ⟨hlen, hm', merged [] prs, KV.merge hkv .nil, hd'⟩
              · rw [upd_ne hbS, hb] at e
                cases e
    · exact q.elim
end
end PB
set_option maxRecDepth 100000
set_option maxHeartbeats 2000000
/-! Pb, part 17h: comprehensions whose items may be places. -/
namespace PB
open PySem PySem.Spec PyProof.Rows L2
section
variable {X : Cx} {c : Cfg} {G : List (String × P)} {N : List Str} {sc : Scope} {fn : Str → Bool} {k : Nat}
def compFH (tg : Tg) (mc : Env → M Bool) (me : Env → M D) (env0 : Env) (d : P) : M (Option D) := do
  let e1 ← need (asgP tg d env0)
  let k ← mc e1
  if k = true then (do
    let y ← me e1
    pure (some y)) else pure none
noncomputable def compHM (sk : SK) (ml : Env → M (List D)) (tg : Tg) (mc : Env → M Bool) (me : Env → M D) : Env → M D := fun env => do
  let xs ← ml env
  let items ← srcM sk xs
  let ys ← noErr (compLH items.2 (compFH tg mc me (wipeE env tg.slots)) items.1)
  line ys.length
  alloc (.lst ys)
theorem compFH_ok {tg : Tg} {mc : Env → M Bool} {me : Env → M D} {env0 : Env} {d : P} {st st' : Sto} {o : Option D} (h : compFH tg mc me env0 d st = .ok o st') :
    ∃ e1 b st1, asgP tg d env0 = some e1 ∧ mc e1 st = .ok b st1 ∧ ((b = true ∧ ∃ y, me e1 st1 = .ok y st' ∧ o = some y) ∨ (b = false ∧ o = none ∧ st' = st1)) := by
  obtain ⟨e1, st0, h1, h3⟩ := ok_bind h
  obtain ⟨h1, h4⟩ := ok_need h1
  rw [h4] at h3
  clear h
  obtain ⟨b, st1, h2, h⟩ := ok_bind h3
  refine ⟨e1, b, st1, h1, h2, ?_⟩
  cases b with
  | false =>
    have h : R.ok (none : Option D) st1 = .ok o st' := h
    cases h
    exact .inr ⟨rfl, rfl, rfl⟩
  | true =>
    have h : ((me e1 st1).bind fun y st => R.ok (some y) st) = .ok o st' := h
    obtain ⟨y, st2, h3, h⟩ := ok_bind h
    cases h
    exact .inl ⟨rfl, y, h3, rfl⟩
theorem compLH_nil {g : Sto → Prop} {f : P → M (Option D)} {st st' : Sto} {ys : List D} (h : compLH g f [] st = .ok ys st') : g st ∧ ys = [] ∧ st' = st := by
  unfold compLH at h
  split at h
  · cases h; exact ⟨by assumption, rfl, rfl⟩
  · cases h
theorem compLH_cons {g : Sto → Prop} {f : P → M (Option D)} {d : P} {r : List P} {st st' : Sto} {ys : List D} (h : compLH g f (d :: r) st = .ok ys st') :
    g st ∧ ∃ o st1 rest, f d st = .ok o st1 ∧ compLH g f r st1 = .ok rest st' ∧ ys = (match o with
      | some y => y :: rest
      | none => rest) := by
  unfold compLH at h
  split at h
  · obtain ⟨o, st1, h1, h⟩ := ok_bind h
    obtain ⟨rest, st2, h2, h⟩ := ok_bind h
    cases h
    exact ⟨by assumption, o, st1, rest, h1, h2, rfl⟩
  · cases h
theorem compH_core {sk : SK} {ml : Env → M (List D)} {tg : Tg} {mc : Env → M Bool} {me : Env → M D} {σ : List (Option V)} {H : Hp} {Q : VK} (q : tM X (compHM sk ml tg mc me) σ H Q) : tLc (tI X (srcW sk ml)) (gP X tg) (tTF X.K mc) (tMF X.K me) tg.slots σ H Q := by
  obtain ⟨ρ, env, st, hE, hS, q⟩ := q
  have q : ((srcW sk ml env st).bind fun items st => ((noErr (compLH items.2 (compFH tg mc me (wipeE env tg.slots)) items.1) st).bind fun ys st => ((line ys.length st).bind fun _ st => alloc (.lst ys) st))).holds (Post X.K ρ H Q) (Er X ρ H) := by
    show (((ml env st).bind fun xs st => srcM sk xs st).bind _).holds _ _
    rw [assoc_b]
    exact q
  refine ⟨ρ, env, st, hE, hS, holds_mono (holds_bind.mp q) (fun items st1 q ρ1 H1 J ex1 S1 src D hD => ?_) fun _ _ _ z => z⟩
  obtain ⟨ys, st2, hys, q⟩ := noErr_ok q
  obtain ⟨hz, q⟩ := line_holds q
  have fin : Post X.K ρ H Q (.ref st2.length) (st2 ++ [.lst ys]) := q
  have E1 : RE X.K H1 ρ1 env σ := hE.ext ex1
  refine ⟨fun i m H' => i ≤ items.1.length ∧ m = items.1.length - i ∧ ∃ ρi sti acc accP ysr, Ext ρ1 H1 ρi H' ∧ D ∈ ρi.z ∧ D ∉ ρi.l ∧ RS X.K H' ρi sti ∧ H' D = some (.lst acc) ∧ RDs X.K H' ρi acc accP ∧
    compLH items.2 (compFH tg mc me (wipeE env tg.slots)) (items.1.drop i) sti = .ok ysr st2 ∧ accP ++ ysr = ys, ⟨items.1.length, ?_⟩, ?_⟩
  · exact ⟨Nat.zero_le _, rfl, ρ1.res D, st1, [], [], ys, ext_res hD, List.mem_cons_self, fun z => S1.fresh hD (.inl z), S1.res hD, upd_same, .nil, hys, rfl⟩
  · rintro i m H' ⟨hle, rfl, ρi, sti, acc, accP, ysr, exi, dz, dl, Si, hHD, racc, hcl, hacc⟩
    by_cases hi : i < items.1.length
    · rw [List.drop_eq_getElem_cons hi] at hcl
      obtain ⟨hgi, o, st3, rest, hf, hrest, hysr⟩ := compLH_cons hcl
      refine .inr ⟨src.go ρi H' sti i exi Si hgi hi, fun H'' => _, fun H'' w => ⟨items.1.length - (i + 1), by omega, w⟩, fun x H2 hy => ?_⟩
      obtain ⟨same2, rx⟩ := src.yld ρi H' sti i _ x H2 exi Si hgi (List.getElem?_eq_getElem hi) hy
      obtain ⟨e1, b, st4, ha, hc, hb⟩ := compFH_ok hf
      have S2 := Si.same same2
      have ex2 : Ext ρ1 H1 ρi H2 := exi.trans (Ext.same same2)
      have racc2 := racc.ext (Ext.same same2)
      have hD2 : H2 D = some (.lst acc) := same2 _ _ hHD
      refine ⟨ρi, wipeE env tg.slots, sti, _, e1, (E1.ext ex2).wipe _, S2, rx, ha, fun σ2 hE2 b2 => ⟨(wipe_wipe.trans b2).wipe, ?_⟩⟩
      refine ⟨ρi, e1, sti, hE2, S2, ?_⟩
      rw [hc]
      intro ρ3 H3 ex3 S3
      have hD3 : H3 D = some (.lst acc) := ex3.keep _ _ hD2 dl fun _ z => (by cases z)
      rcases hb with ⟨rfl, y, hme, rfl⟩ | ⟨rfl, rfl, rfl⟩
      · refine ⟨ρ3, e1, st4, hE2.ext ex3, S3, ?_⟩
        rw [hme]
        intro ρ4 H4 y' ex4 S4 ry
        have dl3 := ex3.outL hD2 dl
        have dl4 := ex4.outL hD3 dl3
        have dz4 := ex4.memZ (ex3.memZ dz)
        have hD4 : H4 D = some (.lst acc) := ex4.keep _ _ hD3 dl3 fun _ z => (by cases z)
        have racc4 := (racc2.ext ex3).ext ex4
        subst hysr
        have hlen : acc.length < sizeLine := by
          rw [racc.length]
          rw [← hacc] at hz
          simp at hz
          omega
        have cg : Chg D ρ4 H4 ρ4 (upd H4 D (.lst (acc ++ [y']))) := chg_put dz4 dl4
        exact ⟨acc, hD4, hlen, hi, rfl, ρ4, st3, acc ++ [y'], accP ++ [y], rest, ((ex2.trans ex3).trans ex4).over hD hD4, dz4, dl4, S4.over dz4 dl4 hD4 (fun φ => by simp), upd_same, (racc4.append (.cons ry .nil)).chg cg, hrest, by rw [← hacc]; simp⟩
      · subst hysr
        exact ⟨hi, rfl, ρ3, _, acc, accP, ysr, ex2.trans ex3, ex3.memZ dz, ex3.outL hD2 dl, S3, hD3, racc2.ext ex3, hrest, hacc⟩
    · have e : i = items.1.length := by omega
      subst e
      rw [List.drop_length] at hcl
      obtain ⟨hgi, rfl, rfl⟩ := compLH_nil hcl
      refine .inl ⟨src.stop ρi H' _ exi Si hgi, ?_⟩
      rw [List.append_nil] at hacc
      subst hacc
      have cg : Chg D ρi H' (ρi.fre D) (rmv H' D) := chg_fre dz dl
      have nz : D ∉ ρ1.z := fun z => S1.fresh hD (.inr z)
      have nn := rmv_self (H := H') (p := D)
      have S5 := Si.fre dz dl hHD (fun φ => by simp)
      have r5 := racc.chg cg
      have g := fin ((ρi.fre D).add D) (upd (rmv H' D) D (.lst acc)) (.ref D) ((ex1.trans (exi.fre hD nz)).trans (ext_add nn)) (S5.add nn ⟨acc, upd_same, r5.ext (ext_add nn)⟩ (RDs.belows (Nat.le_of_eq S5.len) r5)) (.ref (by
        show ((ρi.fre D).l ++ [D])[_]? = some D
        rw [← S5.len, List.getElem?_append_right (Nat.le_refl _), Nat.sub_self]
        rfl))
      rw [rmv_put hHD] at g
      exact g
theorem r_compH {elt etg eit : Expr} {ifs : List Expr} {scope : Scope} {pos : Pos} {sk : SK} {ml : Env → M (List D)} {tg : Tg} {mc : Env → M Bool} {me : Env → M D} (C : Ctx X c G N sc fn k) (hi : PI X etg eit (tI X (srcW sk ml))) (ok : blkC N sc scope (ownOf N tg) = true)
    (hg : ∀ (s : Shared) (H : Hp) (Cc : Addr) (cl : List (Str × Addr)) (fp : List Addr), PG (X.blk s H scope (compEnvC scope cl Cc X.env) fp) etg (gP X tg)) (ht : ∀ (s : Shared) (H : Hp) (Cc : Addr) (cl : List (Str × Addr)) (fp : List Addr), PTs (X.blk s H scope (compEnvC scope cl Cc X.env) fp) ifs (tT (X.blk s H scope (compEnvC scope cl Cc X.env) fp) mc))
    (he : ∀ (s : Shared) (H : Hp) (Cc : Addr) (cl : List (Str × Addr)) (fp : List Addr), PE (X.blk s H scope (compEnvC scope cl Cc X.env) fp) elt (tM (X.blk s H scope (compEnvC scope cl Cc X.env) fp) me)) (hs : ∀ x, foldedSetIterable eit X.env x = pure x) :
    PE X (.ListComp elt [⟨etg, eit, ifs, 0⟩] scope pos) (tM X (compHM sk ml tg mc me)) := by
  refine (pe_lc (own := ownOf N tg) C.calm (by rw [C.hN]; exact C.nd) hi (by rw [C.hN, C.hsc]; exact blkOk_by ok) hg (fun s H Cc cl fp => ⟨fun pins s1 σ H1 Q I q => (ht s H Cc cl fp).run pins s1 σ H1 Q I (tTF_tT q)⟩) (fun s H Cc cl fp => (he s H Cc cl fp).imp fun _ _ _ q => tMF_tM q) hs).imp fun σ H Q q => by rw [own_slots]; exact compH_core q
end
end PB
set_option maxRecDepth 100000
set_option maxHeartbeats 2000000
/-! Pb, part 19k: a dict of the store is locked while an expression walks it. -/
namespace PB
open PySem PySem.Spec PyProof.Rows L2
section
variable {X : Cx} {ea : Expr} {ma : Env → M D}
def lockM (i : Nat) (me : Env → M D) : Env → M D := fun env st => match env[i]?.join with
  | some (.ref l) => (match st[l]? with
    | some (.dct true kvs) => ((me env (st.set l (.dct false kvs))).ne).bind fun v st' => unlock l v st'
    | _ => .bad)
  | _ => .bad
theorem ne_holds {α : Type} {r : R α} {β : Type} {f : α → Sto → R β} {Qf : β → Sto → Prop} {E E' : EE} (h : ((r.ne).bind f).holds Qf E) : r.holds (fun a st => (f a st).holds Qf E) E' := by
  cases r with
  | ok a st => exact h
  | err _ _ _ => exact h.elim
  | bad => exact h.elim
theorem lock_a {ρ : Pl} {H : Hp} {env : Env} {σ : List (Option V)} {st : Sto} {i l : Nat} {kvs : List (Key × D)} (hE : RE X.K H ρ env σ) (hS : RS X.K H ρ st) (hl : env[i]?.join = some (.ref l)) (ho : st[l]? = some (.dct true kvs)) :
    ∃ a vs, ρ.l[l]? = some a ∧ H a = some (.dK vs) ∧ ∀ od, Ext ρ H ρ (upd H a (.frz od (.dK vs))) ∧ RS X.K (upd H a (.frz od (.dK vs))) ρ (st.set l (.dct false kvs)) := by
  have hl' : env[i]? = some (some (.ref l)) := by
    cases e : env[i]? with
    | none => rw [e] at hl; cases hl
    | some o => rw [e] at hl; exact congrArg some hl
  obtain ⟨x, hx, rx⟩ := hE.sl i _ hl'
  cases rx with
  | @ref a _ hp =>
    obtain ⟨⟨vs, hd, rk⟩, hb⟩ := hS.ob l a _ hp ho
    have hd : H a = some (.dK vs) := hd
    refine ⟨a, vs, hp, hd, fun od => ?_⟩
    have ex : Ext ρ H ρ (upd H a (.frz od (.dK vs))) := ext_put (List.mem_of_getElem? hp) hd
    exact ⟨ex, hS.put hp hd ⟨vs, ⟨od, upd_same⟩, rk.ext ex⟩ hb⟩
theorem lock_z {ρ ρ1 : Pl} {H H1 : Hp} {st1 : Sto} {l : Nat} {a : Addr} {vs : List (Key × V)} {kvs1 : List (Key × D)} {od : Obj} (hp : ρ.l[l]? = some a) (hd : H a = some (.dK vs)) (e0 : Ext ρ H ρ1 H1) (h1 : H1 a = some (.frz od (.dK vs))) (S1 : RS X.K H1 ρ1 st1) (ho1 : st1[l]? = some (.dct false kvs1)) :
    Ext ρ H ρ1 (upd H1 a (.dK vs)) ∧ RS X.K (upd H1 a (.dK vs)) ρ1 (st1.set l (.dct true kvs1)) ∧ Ext0 ρ1 H1 ρ1 (upd H1 a (.dK vs)) := by
  have mem : a ∈ ρ.l := List.mem_of_getElem? hp
  have hp1 := e0.get hp
  obtain ⟨⟨vs1, ⟨ob, hd1⟩, rk1⟩, hb1⟩ := S1.ob l a _ hp1 ho1
  rw [h1] at hd1
  cases hd1
  have ex1 : Ext0 ρ1 H1 ρ1 (upd H1 a (.dK vs)) := ext0_put (List.mem_of_getElem? hp1) h1
  refine ⟨?_, S1.put hp1 h1 ⟨vs, upd_same, rk1.ext0 ex1⟩ hb1, ex1⟩
  refine ⟨⟨e0.grow, fun b o hb n t => ?_, fun b hb => ?_, fun b hb n => ?_⟩, fun b o u hb => ?_⟩
  · rw [upd_ne (show b ≠ a from fun z => n (z ▸ mem))]
    exact e0.keep b o hb n t
  · by_cases z : b = a
    · subst z; rw [upd_same] at hb; cases hb
    · rw [upd_ne z] at hb; exact e0.there b hb
  · obtain ⟨ps, y, t⟩ := e0.tbl b hb n
    exact ⟨ps, by rw [upd_ne (show b ≠ a from fun z => n (z ▸ mem))]; exact y, t⟩
  · rw [upd_ne (show b ≠ a from fun z => by subst z; rw [hd] at hb; cases hb)]
    exact e0.frz b o u hb
theorem r_lock (i : Nat) (ha : PE X ea (tM X ma)) : PE X ea (tM X (lockM i ma)) := by
  refine (pe_lock ha).imp fun σ H Q q => ?_
  obtain ⟨ρ, env, st, hE, hS, q⟩ := q
  unfold lockM at q
  split at q
  · rename_i l hl
    split at q
    · rename_i kvs ho
      obtain ⟨a, vs, hp, hd, z⟩ := lock_a hE hS hl ho
      refine ⟨a, .dK vs, hd, trivial, fun od => ?_⟩
      obtain ⟨ex, S2⟩ := z od
      refine ⟨ρ, env, st.set l (.dct false kvs), hE.ext ex, S2, holds_mono (ne_holds q) (fun v st1 q ρ1 H1 x1 e1 S1 r1 => ?_) fun _ _ _ z => z⟩
      have h1 : H1 a = some (.frz od (.dK vs)) := e1.frz _ _ _ upd_same
      refine ⟨h1, ?_⟩
      unfold unlock at q
      split at q
      · rename_i kvs1 ho1
        obtain ⟨back, S3, ex1⟩ := lock_z hp hd (ex.trans e1) h1 S1 ho1
        exact q ρ1 _ x1 back S3 (r1.ext0 ex1)
      · exact q.elim
    · exact q.elim
  · exact q.elim
def lockSM (i : Nat) (ms : Env → M (Fl × Env)) : Env → M (Fl × Env) := fun env st => match env[i]?.join with
  | some (.ref l) => (match st[l]? with
    | some (.dct true kvs) => ((ms env (st.set l (.dct false kvs))).ne).bind fun v st' => unlock l v st'
    | _ => .bad)
  | _ => .bad
theorem s_lock {es : Stmt} {ms : Env → M (Fl × Env)} (i : Nat) (hs : PS X es (tS X ms)) : PS X es (tS X (lockSM i ms)) := by
  have imp : ∀ {e : Stmt} {t t' : TS}, PS X e t → (∀ D σ H, t' D σ H → t D σ H) → PS X e t' := fun h q => ⟨fun pins s σ H D I z => h.run pins s σ H D I (q D σ H z)⟩
  refine imp (ps_lock hs) fun Dn σ H q => ?_
  obtain ⟨ρ, env, st, hE, hS, q⟩ := q
  unfold lockSM at q
  split at q
  · rename_i l hl
    split at q
    · rename_i kvs ho
      obtain ⟨a, vs, hp, hd, z⟩ := lock_a hE hS hl ho
      refine ⟨a, .dK vs, hd, trivial, fun od => ?_⟩
      obtain ⟨ex, S2⟩ := z od
      refine ⟨ρ, env, st.set l (.dct false kvs), hE.ext ex, S2, holds_mono (ne_holds q) (fun v st1 q ρ1 H1 σ1 e1 S1 r1 hl1 => ?_) fun _ _ _ z => z⟩
      have h1 : H1 a = some (.frz od (.dK vs)) := e1.frz _ _ _ upd_same
      unfold unlock at q
      split at q
      · rename_i kvs1 ho1
        obtain ⟨back, S3, ex1⟩ := lock_z hp hd (ex.trans e1) h1 S1 ho1
        have fin := q ρ1 _ σ1 back S3 (r1.ext0 ex1) hl1
        obtain ⟨fl, env1⟩ := v
        cases fl with
        | nx => exact ⟨h1, fin⟩
        | bk => exact ⟨h1, fin⟩
        | ct => exact ⟨h1, fin⟩
        | rt d => exact fun x rx => ⟨h1, fin x (rx.ext0 ex1)⟩
      · exact q.elim
    · exact q.elim
  · exact q.elim
end
end PB
set_option maxRecDepth 100000
set_option maxHeartbeats 4000000
/-! Pb, part 19w: set(xs) of a list of ints, as the tuple's rule tells it. -/
namespace PB
open PySem PySem.Spec PyProof.Rows L2 PySem.Calls
section
variable {P : Program} {w : World} {A : Around} {E : Value → Shared → Prop} {s : Shared}
/-- a new set -/
abbrev nset (w : World) : Obj := { cls := .type "set", dict := none, data := .set #[] 0 (.fresh 0 0 (!w.params.followText "set-order")) }
abbrev hset (w : World) (s : Shared) : Heap := s.heap.push (nset w)
theorem set_of_list {l : Addr} {vs : Array Value} (ns : List Int) {Q : Value → Shared → Prop} (nh : A.handled = none) (lst : s.heap.IsList l vs) (are : IntsAre vs.toList ns) (room : ns.length + 1 < scanBound)
    (fin : ∀ (g : Heap) (k m : Nat), SetR w g s.heap.objs.size (fun j => decide (j ∈ ns)) m → m ≤ ns.length → (∀ b o, s.heap.get? b = some o → g.get? b = some o) → Q (.ref s.heap.objs.size) { s with heap := g, toks := k }) :
    wpAny (model P w) A (call (.type "set") [.ref l]) Q E s := by
  have size : vs.size = ns.length := by simpa using IntsAre.length are
  obtain ⟨c0, c1, mro⟩ := F.called_set.mro; have hmade := F.called_set.made; have hsub := F.called_set.sub
  refine wpAny_call (codeAny_of_tree ?_); show wpAny _ _ (callAny (.type "set") _) _ _ _
  refine wpAny_pure ⟨Code.quiet_builtin _ (by decide +kernel), codeAny_builtin F.entry_type_call ?_⟩; rw [Around.under_plain (weight_type_call_type "set" [.ref l] []) rfl]
  have h1 := F.called_set.notType; have h2 := F.called_set.canCreate; have hct := F.typeCall_set_1 (.ref l)
  repeat (any_goals (first | assumption | wp_step))
  refine codeAny_mono (code_set_led1 (.ref l) (E := E) (Q₁ := fun x t => x = .ref s.heap.objs.size ∧ t = { s with heap := hset w s }) ⟨rfl, rfl⟩) fun r t hr => ?_
  rcases r with e | fl
  · exact hr
  rcases fl with _ | _ | _ | x
  all_goals first | exact hr.elim | skip
  obtain ⟨rfl, rfl⟩ := hr
  have new : (hset w s).get? s.heap.objs.size = some (nset w) := Heap.get?_push_size _ rfl
  have typ : Shared.TypeIs { s with heap := hset w s } (.ref s.heap.objs.size) "set" := ⟨_, new, rfl⟩
  have hli := F.called_set.init.lookup; have hbi := F.called_set.init.bind (.ref s.heap.objs.size)
  repeat (any_goals (first | assumption | wp_step))
  refine codeAny_mono (codeAny_call_builtin (R := wants (fun r t => r = .none ∧ ∃ g k m, t = { s with heap := g, toks := k } ∧ SetR w g s.heap.objs.size (fun j => decide (j ∈ ns)) m ∧ m ≤ ns.length ∧ (∀ b o, s.heap.get? b = some o → g.get? b = some o)) E) F.called_set.init.plain F.entry_set_init (check_set_init_1 typ ?_)) fun r2 t2 hr2 => ?_
  · obtain ⟨⟨cl, dc, dt, sl⟩, ho, hc, n, hd⟩ := lst
    simp only at hc hd; subst hc; subst hd
    have lS : l < s.heap.objs.size := Heap.lt_size ho
    have hol' : (hset w s).get? l = some { cls := .type "list", dict := dc, data := .seq vs n, slots := sl } := Heap.get?_push_of_some _ ho
    have hsls := F.sub_list_set; have hslf := F.sub_list_frozenset; have hne : (Value.type "list" == Value.type "dict") = false := by decide
    have isl : (hset w s).IsList l vs := ⟨_, hol', rfl, n, rfl⟩
    unfold Builtin.«set.__init__» noKeywords Builtin.Frozenset.updateFrom; generalize hPI : pyIter = PI; wp_walk; subst hPI
    refine wpAny_pyIter_list isl (wpAny_bind (wpAny_runValue ?_))
    have nh3 : A.in1.in1.in1.handled = none := by simp [nh]
    have sz : (hset w s).objs.size = s.heap.objs.size + 1 := Heap.size_push ..
    have ne : l ≠ (hset w s).objs.size := by rw [sz]; exact Nat.ne_of_lt (Nat.lt_succ_of_lt lS)
    have out : s.heap.objs.size ∉ [(hset w s).objs.size, l] := by
      rw [sz]; simp only [List.mem_cons, List.not_mem_nil, or_false, not_or]; exact ⟨Nat.ne_of_lt (Nat.lt_succ_self _), Nat.ne_of_gt lS⟩
    have val : ∀ (i : Nat) (v : Value), vs[i]? = some v → ∃ k t, ns[i]? = some k ∧ v = .int k t := fun i v hv => by
      have hi : i < ns.length := by rw [← size]; exact (Array.getElem?_eq_some_iff.mp hv).1
      obtain ⟨t, e⟩ := PyProof.Rows.IntsAre.int_at are i v (by rw [Array.getElem?_toList]; exact hv)
      exact ⟨ns[i], t, List.getElem?_eq_getElem hi, by rw [e, List.getD_eq_getElem?_getD, List.getElem?_eq_getElem hi] <;> rfl⟩
    refine set_update_ints ((Walks.list nh3 _ l ne vs).toS) s.heap.objs.size out ns size room val (vs.size - 0) 0 _ (by omega) (Nat.zero_le _) ⟨⟨_, Heap.get?_push_size _ rfl, rfl, rfl⟩, (isl.push _)⟩ ⟨0, Nat.le_refl 0, setR_new_at (Heap.get?_push_of_some _ new)⟩ ?_
    rintro ⟨g, g2, d2, k, o2⟩ m mv hm hS
    have eg : g2 = s.gens := mv.gens; have ed : d2 = s.drawn := mv.drawn; have eo : o2 = s.os := mv.os
    subst eg; subst ed; subst eo; show wpAny _ _ _ _ _ _
    refine wpAny_pure ?_; show wpAny _ _ (ret Value.none) _ _ _
    rw [size] at hm
    refine wpAny_pure ⟨rfl, g, k, m, rfl, hS, hm, fun b o e => ?_⟩
    have b0 : b < s.heap.objs.size := Heap.lt_size e
    have b1 : b ∉ [s.heap.objs.size, (hset w s).objs.size] := by
      rw [sz]; simp only [List.mem_cons, List.not_mem_nil, or_false, not_or]; exact ⟨Nat.ne_of_lt b0, Nat.ne_of_lt (Nat.lt_succ_of_lt b0)⟩
    exact mv.heap b o b1 (Heap.get?_push_of_some _ (Heap.get?_push_of_some _ e))
  · rcases r2 with e | fl
    · exact hr2
    rcases fl with _ | _ | _ | x
    all_goals first | exact hr2.elim | skip
    obtain ⟨rfl, g, k, m, rfl, hS, hm, hk⟩ := hr2
    repeat (any_goals (first | assumption | wp_step))
    exact fin _ _ _ hS hm hk
end
end PB
set_option maxRecDepth 100000
set_option maxHeartbeats 2000000
/-! Pb, part 19v: xs[-2::-1] of a list; sorted(set(..)) of a tuple of ints. -/
namespace PB
open PySem PySem.Spec PyProof.Rows L2
theorem down_bounds (n : Nat) : sliceBounds (some (-2)) none (some (-1)) n = (if 2 ≤ n then (n : Int) - 2 else -1, -1, -1) := by
  unfold sliceBounds
  by_cases h : 2 ≤ n
  · simp [h]; omega
  · simp [h]; omega
theorem down_range (n : Nat) : sliceRange (if 2 ≤ n then (n : Int) - 2 else -1) (-1) (-1) = (List.range (n - 1)).reverse := by
  unfold sliceRange
  by_cases h : 2 ≤ n
  · rw [if_pos h]
    have h1 : ((n : Int) - 2 > -1) := by omega
    have h2 : (((n : Int) - 2 - -1 - -1 - 1) / (- -1)).toNat = n - 1 := by
      rw [show (- -1 : Int) = 1 by decide, Int.ediv_one]; omega
    rw [if_neg (show ¬ ((-1 : Int) > 0) by decide), if_pos h1]
    show (List.range (((n : Int) - 2 - -1 - -1 - 1) / (- -1)).toNat).map _ = _
    rw [h2]
    apply List.ext_getElem
    · simp
    · intro i a b
      simp at a
      simp
      omega
  · rw [if_neg h]
    have : n - 1 = 0 := by omega
    rw [this]
    rfl
theorem down_pick (items : Array Value) : slicePick items (some (-2)) none (some (-1)) = items.toList.dropLast.reverse.toArray := by
  unfold slicePick
  rw [down_bounds]
  show ((sliceRange (if 2 ≤ items.size then (items.size : Int) - 2 else -1) (-1) (-1)).filterMap (items[·]?)).toArray = _
  rw [down_range, List.filterMap_reverse]
  congr 2
  have h := PySem.pick_run items 0 (items.size - 1)
  have e0 : (List.range (items.size - 1)).map (0 + ·) = List.range (items.size - 1) := by simp
  rw [e0] at h
  rw [List.dropLast_eq_take]
  simpa using h
section
variable {X : Cx} {ea : Expr} {ma : Env → M D}
def rev2M (ma : Env → M D) : Env → M D := fun env => do
  let x ← ma env
  let x ← vw x
  .p <$> need (rev2P x)
theorem only_rev2 : OnlyP (rev2M ma) := by
  intro env st v st' h
  obtain ⟨_, _, _, h⟩ := ok_bind h
  obtain ⟨_, _, _, h⟩ := ok_bind h
  obtain ⟨_, _, _, h⟩ := ok_bind h
  cases h
  exact ⟨_, rfl⟩
def tDownL (K : PySem.W.Frag) (te : TE) : TE := fun σ H Q => te σ H fun x H1 => ∃ a xs, x = .ref a ∧ SqL K H1 a xs ∧ ∀ p, H1 p = none → Q (.ref p) (upd H1 p (.lst xs.dropLast.reverse))
theorem vals_dropLast {xs : List V} {us : List Value} (r : Vals xs us) : Vals xs.dropLast us.dropLast := by
  rw [List.dropLast_eq_take, List.dropLast_eq_take, ← r.length]
  exact r.take _
theorem pe_downL {te : TE} {n n0 : Nat} {p0 p00 p1 p2 p3 pos : Pos} (he : PE X ea te) : PE X (.Subscript ea (.Slice (some (.UnaryOp .USub (.Constant (.int 2) n0 p0) p00)) none (some (.UnaryOp .USub (.Constant (.int 1) n p1) p2)) p3) pos) (tDownL X.K te) := by
  refine ⟨fun pins s σ H Q I h => Subscript_ (thn (he.run pins s σ H _ I h) ?_)⟩
  rintro v s1 ⟨x, H1, I1, r1, a, xs, rfl, hx, q⟩
  cases r1
  have stp : PO X (some (.UnaryOp .USub (.Constant (.int 1) n p1) p2)) (tPart (tUn (rU fun i => .int (-i)) (tC (.int 1)))) := po_some (pe_un un_neg pe_int)
  have low : PO X (some (.UnaryOp .USub (.Constant (.int 2) n0 p0) p00)) (tPart (tUn (rU fun i => .int (-i)) (tC (.int 2)))) := po_some (pe_un un_neg pe_int)
  refine wpAny_Slice (thn (low.run pins s1 σ H1 (fun o H2 => o = some (-2) ∧ H2 = H1) I1 ⟨2, rfl, -2, rfl, rfl, rfl⟩) ?_)
  rintro vl s2 ⟨l, H2, I2, pl, rfl, rfl⟩
  refine thn (po_none.run pins s2 σ H2 (fun o H3 => o = none ∧ H3 = H2) I2 ⟨rfl, rfl⟩) ?_
  rintro vu s3 ⟨u, H3, I3, pu, rfl, rfl⟩
  refine thn (stp.run pins s3 σ H3 (fun o H4 => o = some (-1) ∧ H4 = H3) I3 ⟨1, rfl, -1, rfl, rfl, rfl⟩) ?_
  rintro vs s4 ⟨o, H4, I4, ps, rfl, rfl⟩
  generalize hs5 : ({ s4 with heap := s4.heap.push { cls := .type "slice", data := .fields #[vl, vu, vs] } } : Shared) = s5
  have I5 : L2.Inv X pins σ H4 s5 := by
    rw [← hs5]
    exact I4.kept (t' := s4.toks) (fun b ob q => Heap.get?_push_of_some _ q)
  have isl : s5.heap.IsSliceOf s4.heap.objs.size vl vu vs := by
    rw [← hs5]
    exact Heap.IsSliceOf.new _ _ _ _
  obtain ⟨its, r, ht, hz⟩ := I5.list hx
  have hl := r.length
  show wpAny (model X.prog X.w) X.A (subscriptTail ea (.Slice (some (.UnaryOp .USub (.Constant (.int 2) n0 p0) p00)) none (some (.UnaryOp .USub (.Constant (.int 1) n p1) p2)) p3) (.ref a) (.ref s4.heap.objs.size)) (EP X pins σ Q) X.xe s5
  refine tail_any (ops := [.ref a, .ref s4.heap.objs.size]) ht.isList.typeIs PySem.slot_list_getitem.lookup ?_ (by with_unfolding_all rfl)
  refine wpAny_getItem_list_slice ht.isList isl pl pu ps (by decide) ?_ (by rw [List.size_toArray, ← hl]; exact hz)
  rw [down_pick]
  refine ⟨.ref s5.heap.objs.size, _, I5.laid (t' := s5.toks) (o := .lst xs.dropLast.reverse) (fun b ob q => Heap.get?_push_of_some _ q) (Nat.le_refl _) ?_, rfl, q _ (I5.hok.fresh (Nat.le_refl _))⟩
  refine ⟨?_, _, 0, (vals_dropLast r).reverse, Heap.get?_push_size _ rfl⟩
  rw [List.length_reverse, List.length_dropLast]
  omega
theorem r_rev2 {n n0 : Nat} {p0 p00 p1 p2 p3 pos : Pos} (ha : PE X ea (tM X ma)) : PE X (.Subscript ea (.Slice (some (.UnaryOp .USub (.Constant (.int 2) n0 p0) p00)) none (some (.UnaryOp .USub (.Constant (.int 1) n p1) p2)) p3) pos) (tR X (rev2M ma)) := by
  refine (pe_downL ha).imp fun σ H Q q => ?_
  obtain ⟨ρ, env, st, hE, hS, q⟩ := q
  refine tM_mono (step (Now.start hE hS) (show ((ma env st).bind fun x st => ((vw x st).bind fun x st => ((need (rev2P x) st).bind fun r st => .ok (.p r) st))).holds (PostR X.K ρ H Q) (Er X ρ H) from q)) ?_
  rintro x H1 ⟨ρ1, st1, v, n1, rx, e1, q⟩
  obtain ⟨d, vd, q⟩ := seen q
  obtain ⟨r, er, q⟩ := needed q
  obtain ⟨r', e', q⟩ := q
  cases e'
  have fp := q ρ1 H1 n1.ext n1.rs
  have rv := rx.view n1.rs vd
  cases rv with
  | @lst a xs ds h1 rs =>
    cases er
    refine ⟨_, _, rfl, h1.sq, fun p hn => fp H1 (Same.refl H1) _ p ?_ hn⟩
    have := (rs.take (xs.length - 1)).reverse
    rw [List.dropLast_eq_take, List.dropLast_eq_take, ← rs.length]
    exact this
  | _ => cases er
/-- set(t) of a tuple or a list of ints -/
def rSetTu (K : PySem.W.Frag) (w : World) : List V → Hp → VK → Prop := fun vs H Q => ∃ (a : Addr) (ns : List Int), vs = [V.ref a] ∧ (SqT K H a (ns.map V.int) ∨ SqL K H a (ns.map V.int)) ∧ ns.length < 64 ∧
  ∀ (p : Addr) (c : Nat), H p = none → c ≤ ns.length → Q (.ref p) (upd H p (SetO w p (fun j => decide (j ∈ ns)) c))
theorem cr_setTu (hc : X.calm = true) : CallR X (.type "set") (rSetTu X.K X.w) := by
  intro pins s σ H vs us Q I r h
  obtain ⟨a, ns, rfl, hs, hl, q⟩ := h
  rcases hs with hs | hs
  · obtain ⟨its, rv, ht, hz⟩ := I.tuple hs
    rw [Vals.ref1 r]
    refine call_set_tupI ns (I.ok.hd hc) (show s.heap.IsTuple a its.toArray from ht) rv.ints (by unfold scanBound; omega) fun h' tk c R hc k => ?_
    refine ⟨.ref _, upd H s.heap.objs.size (SetO X.w s.heap.objs.size (fun j => decide (j ∈ ns)) c), I.laid (t' := tk) k (Nat.le_refl _) (setO_new R), rfl, q _ c (I.hok.fresh (Nat.le_refl _)) hc⟩
  · obtain ⟨its, rv, ht, hz⟩ := I.list hs
    rw [Vals.ref1 r]
    refine set_of_list ns (I.ok.hd hc) ht.isList rv.ints (by unfold scanBound; omega) fun h' tk c R hc k => ?_
    refine ⟨.ref _, upd H s.heap.objs.size (SetO X.w s.heap.objs.size (fun j => decide (j ∈ ns)) c), I.laid (t' := tk) k (Nat.le_refl _) (setO_new R), rfl, q _ c (I.hok.fresh (Nat.le_refl _)) hc⟩
def ssetM (ma : Env → M D) : Env → M D := fun env => do
  let x ← ma env
  let q ← vw x
  let ns ← need (ssetP q)
  pure (.p (.list ns))
theorem only_sset : OnlyP (ssetM ma) := by
  intro env st v st' h
  obtain ⟨_, _, _, h⟩ := ok_bind h
  obtain ⟨_, _, _, h⟩ := ok_bind h
  obtain ⟨_, _, _, h⟩ := ok_bind h
  cases h
  exact ⟨_, rfl⟩
theorem rise_eq : ∀ {xs ys : List Int}, xs.Pairwise (· < ·) → ys.Pairwise (· < ·) → (∀ k, k ∈ xs ↔ k ∈ ys) → xs = ys
  | [], [], _, _, _ => rfl
  | [], y :: ys, _, _, h => absurd ((h y).mpr (by simp)) (by simp)
  | x :: xs, [], _, _, h => absurd ((h x).mp (by simp)) (by simp)
  | x :: xs, y :: ys, hx, hy, h => by
    have h1 := List.pairwise_cons.mp hx
    have h2 := List.pairwise_cons.mp hy
    have e : x = y := by
      have a := (h x).mp (by simp)
      have b := (h y).mpr (by simp)
      rcases List.mem_cons.mp a with a | a
      · exact a
      · rcases List.mem_cons.mp b with b | b
        · exact b.symm
        · have := h1.1 y b
          have := h2.1 x a
          omega
    subst e
    rw [rise_eq h1.2 h2.2 fun k => ⟨fun hk => ?_, fun hk => ?_⟩]
    · rcases List.mem_cons.mp ((h k).mp (List.mem_cons_of_mem _ hk)) with e | e
      · have := h1.1 k hk; omega
      · exact e
    · rcases List.mem_cons.mp ((h k).mpr (List.mem_cons_of_mem _ hk)) with e | e
      · have := h2.1 k hk; omega
      · exact e
theorem code_T : ∀ k : List Int, TS.code 64 k = codeT k
  | [] => rfl
  | d :: r => by
    show d * 64 ^ r.length + TS.code 64 r = d * 64 ^ r.length + codeT r
    rw [code_T r]
theorem code_inj : ∀ {k l : List Int}, k.length = l.length → TS.Bd 64 k → TS.Bd 64 l → TS.code 64 k = TS.code 64 l → k = l
  | [], [], _, _, _, _ => rfl
  | [], _ :: _, h, _, _, _ => by cases h
  | _ :: _, [], h, _, _, _ => by cases h
  | a :: r, b :: q, h, h1, h2, e => by
    have hl : r.length = q.length := by simpa using h
    rcases Int.lt_trichotomy a b with c | c | c
    · have := TS.code_lt (B := 64) hl h1.tail h2.tail c
      omega
    · subst c
      have e' : a * 64 ^ r.length + TS.code 64 r = a * 64 ^ q.length + TS.code 64 q := e
      rw [hl] at e'
      rw [code_inj hl h1.tail h2.tail (by omega)]
    · have := TS.code_lt (B := 64) hl.symm h2.tail h1.tail c
      omega
theorem insT_rise {a : List Int} : ∀ {r : List (List Int)}, (∀ x ∈ r, codeT x = codeT a → x = a) → r.Pairwise (fun x y => codeT x < codeT y) → (insT a r).Pairwise (fun x y => codeT x < codeT y)
  | [], _, _ => by simp [insT]
  | b :: r, hi, h => by
    have hb := List.pairwise_cons.mp h
    unfold insT
    split
    · rename_i hab
      refine List.pairwise_cons.mpr ⟨fun y hy => ?_, h⟩
      rcases List.mem_cons.mp hy with rfl | hy
      · exact hab
      · exact Int.lt_trans hab (hb.1 y hy)
    · split
      · exact h
      · rename_i h1 h2
        refine List.pairwise_cons.mpr ⟨fun y hy => ?_, insT_rise (fun x hx => hi x (List.mem_cons_of_mem _ hx)) hb.2⟩
        rcases mem_insT.mp hy with rfl | hy
        · rcases Int.lt_or_eq_of_le (Int.not_lt.mp h1) with c | c
          · exact c
          · exact absurd (hi b List.mem_cons_self c).symm h2
        · exact hb.1 y hy
theorem usortT_rise : ∀ {r : List (List Int)}, (∀ x ∈ r, ∀ y ∈ r, codeT x = codeT y → x = y) → (usortT r).Pairwise (fun x y => codeT x < codeT y)
  | [], _ => .nil
  | a :: r, h => insT_rise (fun x hx e => h x (List.mem_cons_of_mem _ (mem_usortT.mp hx)) a List.mem_cons_self e) (usortT_rise fun x hx y hy => h x (List.mem_cons_of_mem _ hx) y (List.mem_cons_of_mem _ hy))
theorem riseT_eq : ∀ {xs ys : List (List Int)}, xs.Pairwise (fun x y => codeT x < codeT y) → ys.Pairwise (fun x y => codeT x < codeT y) → (∀ k, k ∈ xs ↔ k ∈ ys) → xs = ys
  | [], [], _, _, _ => rfl
  | [], y :: ys, _, _, h => absurd ((h y).mpr (by simp)) (by simp)
  | x :: xs, [], _, _, h => absurd ((h x).mp (by simp)) (by simp)
  | x :: xs, y :: ys, hx, hy, h => by
    have h1 := List.pairwise_cons.mp hx
    have h2 := List.pairwise_cons.mp hy
    have e : x = y := by
      have a := (h x).mp (by simp)
      have b := (h y).mpr (by simp)
      rcases List.mem_cons.mp a with a | a
      · exact a
      · rcases List.mem_cons.mp b with b | b
        · exact b.symm
        · have := h1.1 y b
          have := h2.1 x a
          omega
    subst e
    rw [riseT_eq h1.2 h2.2 fun k => ⟨fun hk => ?_, fun hk => ?_⟩]
    · rcases List.mem_cons.mp ((h k).mp (List.mem_cons_of_mem _ hk)) with e | e
      · have := h1.1 k hk; subst e; omega
      · exact e
    · rcases List.mem_cons.mp ((h k).mpr (List.mem_cons_of_mem _ hk)) with e | e
      · have := h2.1 k hk; subst e; omega
      · exact e
/-- places of tuples of ints -/
theorem tups_some {K : PySem.W.Frag} {H : Hp} {ρ : Pl} : ∀ {ds : List P} {L : List (List Int)} {xs : List V}, tupsP ds = some L → RPs K H ρ xs ds → ∃ ks : List (Addr × List Int), xs = ks.map (fun p => V.ref p.1) ∧ ks.map (·.2) = L ∧ ∀ p ∈ ks, RP K H ρ (.ref p.1) (.tuple (p.2.map .int)) ∧ SqT K H p.1 (p.2.map V.int)
  | [], L, xs, e, r => by
    cases e
    cases r
    exact ⟨[], rfl, rfl, fun _ h => by cases h⟩
  | d :: ds, L, xs, e, r => by
    cases d with
    | tuple zs =>
      obtain ⟨ns, e1, e2⟩ := Option.bind_eq_some_iff.mp (show ((intsP zs).bind fun ns => (tupsP ds).map (ns :: ·)) = some L from e)
      obtain rfl := intsP_some e1
      cases e3 : tupsP ds with
      | none => rw [e3] at e2; cases e2
      | some L' =>
        rw [e3] at e2
        cases e2
        cases r with
        | cons r1 r2 =>
          obtain ⟨ks, h1, h2, h3⟩ := tups_some e3 r2
          cases r1 with
          | @tup a ys ds' h rs =>
            have hy := RPs.ints rs
            subst hy
            refine ⟨(a, ns) :: ks, by rw [h1]; rfl, by rw [List.map_cons, h2], fun p hp => ?_⟩
            rcases List.mem_cons.mp hp with rfl | hp
            · exact ⟨.tup h rs, h.sq⟩
            · exact h3 p hp
    | _ => cases e
theorem rps_of {K : PySem.W.Frag} {H : Hp} {ρ : Pl} : ∀ {ks : List (Addr × List Int)}, (∀ p ∈ ks, RP K H ρ (.ref p.1) (.tuple (p.2.map .int))) → RPs K H ρ (ks.map fun p => V.ref p.1) ((ks.map (·.2)).map fun k => PyData.tuple (k.map .int))
  | [], _ => .nil
  | p :: ks, h => .cons (h p List.mem_cons_self) (rps_of fun q hq => h q (List.mem_cons_of_mem _ hq))
def rSetAll (K : PySem.W.Frag) (Pg : Program) (w : World) : List V → Hp → VK → Prop := fun vs H Q => rSetTu K w vs H Q ∨ rSetOfT K Pg w vs H Q
theorem cr_setAll (hc : X.calm = true) (hu : X.A.units + 64 < cLine) : CallR X (.type "set") (rSetAll X.K X.prog X.w) := by
  intro pins s σ H vs us Q I r h
  rcases h with h | h
  · exact cr_setTu hc pins s σ H vs us Q I r h
  · exact cr_setOfT hc hu pins s σ H vs us Q I r h
def rSortAll (K : PySem.W.Frag) (Pg : Program) (w : World) : List V → Hp → VK → Prop := fun vs H Q => rSortedSet w vs H Q ∨ rSortedT K Pg w vs H Q
theorem cr_sortAll (hc : X.calm = true) : CallR X (.builtin "sorted") (rSortAll X.K X.prog X.w) := by
  intro pins s σ H vs us Q I r h
  rcases h with h | h
  · exact cr_sortedSet hc pins s σ H vs us Q I r h
  · exact cr_sortedT hc pins s σ H vs us Q I r h
theorem r_sset {p p2 pos pos2 : Pos} (hc : X.calm = true) (hu : X.A.units + 64 < cLine) (hg : Gl X "sorted") (hm : X.mg "sorted" = none) (hg2 : Gl X "set") (hm2 : X.mg "set" = none) (hst : notStar ea = true) (ha : PE X ea (tM X ma)) :
    PE X (.Call (.Name "sorted" p) [.Call (.Name "set" p2) [ea] [] pos2] [] pos) (tR X (ssetM ma)) := by
  have inner := pe_callTy (p := p2) (pos := pos2) (cr_setAll hc hu) hg2 hm2 PyProof.Rows.boot_set (pa_cons ha pa_nil (star_of hst _ _)) (by decide) (by decide) (star_of hst _ _) rfl
  refine (pe_callB (cr_sortAll hc) hg hm (by decide +kernel) (pa_cons inner pa_nil rfl) (by decide) (by decide) rfl rfl).imp fun σ H Q q => ?_
  obtain ⟨ρ, env, st, hE, hS, q⟩ := q
  refine tM_mono (step (Now.start hE hS) (show ((ma env st).bind fun x st => ((vw x st).bind fun q st => ((need (ssetP q) st).bind fun ns st => .ok (.p (.list ns)) st))).holds (PostR X.K ρ H Q) (Er X ρ H) from q)) ?_
  rintro x H1 ⟨ρ1, st1, v, n1, rx, e1, q⟩
  obtain ⟨d, vd, q⟩ := seen q
  obtain ⟨zs, er, q⟩ := needed q
  obtain ⟨r', e', q⟩ := q
  cases e'
  have fp := q ρ1 H1 n1.ext n1.rs
  have rv := rx.view n1.rs vd
  have intsQ : ∀ (a : Addr) (ns : List Int), zs = (usort ns).map .int → (SqT X.K H1 a (ns.map V.int) ∨ SqL X.K H1 a (ns.map V.int)) → ns.length < 64 → rSetAll X.K X.prog X.w [V.ref a] H1 fun x H2 => rSortAll X.K X.prog X.w [x] H2 Q := by
    intro a ns hz hs hl
    subst hz
    refine .inl ⟨a, ns, rfl, hs, hl, fun p c hp hcn => .inl ⟨p, _, c, rfl, upd_same, by omega, fun ks p' hk hm _ hn => ?_⟩⟩
    have e : ks = usort ns := rise_eq hk (usort_rise ns) fun k => by
      rw [hm k, mem_usort, decide_eq_true_eq]
    subst e
    have s2 := same_new (o := SetO X.w p (fun j => decide (j ∈ ns)) c) hp
    exact fp _ s2 _ p' (RPs.of_ints _) hn
  cases rv with
  | @tup a xs ds h1 rs =>
    obtain ⟨ns, hi, er⟩ := Option.bind_eq_some_iff.mp (show ((intsP ds).bind fun ns => if ns.length < 64 then some ((usort ns).map PyData.int) else none) = some zs from er)
    split at er
    · rename_i hl
      cases er
      obtain rfl := intsP_some hi
      rw [RPs.ints rs] at h1
      exact intsQ a ns rfl (.inl h1.sq) hl
    · cases er
  | @lst a xs ds h1 rs =>
    have er : (match intsP ds with
      | some ns => if ns.length < 64 then some ((usort ns).map PyData.int) else none
      | none => (tupsP ds).bind fun ks => if okTs ks = true then some ((usortT ks).map fun k => PyData.tuple (k.map PyData.int)) else none) = some zs := er
    cases hi : intsP ds with
    | some ns =>
      rw [hi] at er
      have er : (if ns.length < 64 then some ((usort ns).map PyData.int) else none) = some zs := er
      split at er
      · rename_i hl
        cases er
        obtain rfl := intsP_some hi
        rw [RPs.ints rs] at h1
        exact intsQ a ns rfl (.inr h1.sq) hl
      · cases er
    | none =>
      rw [hi] at er
      obtain ⟨ts, ht, er⟩ := Option.bind_eq_some_iff.mp (show ((tupsP ds).bind fun ks => if okTs ks = true then some ((usortT ks).map fun k => PyData.tuple (k.map PyData.int)) else none) = some zs from er)
      split at er
      · rename_i hok
        cases er
        obtain ⟨ks, rfl, rfl, hks⟩ := tups_some ht rs
        unfold okTs at hok
        simp only [Bool.and_eq_true, decide_eq_true_eq, List.all_eq_true, beq_iff_eq] at hok
        obtain ⟨hl, hall⟩ := hok
        have hin : ∀ p ∈ ks, p.2.length = ((ks.map (·.2)).headD []).length ∧ 1 ≤ p.2.length ∧ TS.Bd 64 p.2 := fun p hp => by
          obtain ⟨⟨g1, g2⟩, g3⟩ := hall p.2 (List.mem_map_of_mem hp)
          exact ⟨g1, g2, fun m hm => g3 m hm⟩
        have inj : ∀ x ∈ ks.map (·.2), ∀ y ∈ ks.map (·.2), codeT x = codeT y → x = y := fun x hx y hy e => by
          obtain ⟨p, hp, rfl⟩ := List.mem_map.mp hx
          obtain ⟨q, hq, rfl⟩ := List.mem_map.mp hy
          have g1 := hin p hp
          have g2 := hin q hq
          rw [← code_T, ← code_T] at e
          exact code_inj (g1.1.trans g2.1.symm) g1.2.2 g2.2.2 e
        have hne : ks ≠ [] := fun e => by
          subst e
          cases rs
          cases hi
        have hd1 : 1 ≤ ((ks.map (·.2)).headD []).length := by
          cases ks with
          | nil => exact absurd rfl hne
          | cons p r =>
            have := (hin p List.mem_cons_self)
            rw [this.1] at this
            exact this.2.1
        refine .inr ⟨a, ks, rfl, h1.sq, fun p hp => (hks p hp).2, by simpa using hl, fun a' L hn hsub hall' => .inr ?_⟩
        have s2 := same_new (o := SetTO X.prog X.w a' L) hn
        have up : ∀ p ∈ L, RP X.K (upd H1 a' (SetTO X.prog X.w a' L)) ρ1 (.ref p.1) (.tuple (p.2.map .int)) := fun p hp => (hks p (hsub p hp)).1.ext (Ext.same s2)
        refine ⟨a', L, _, 64, rfl, upd_same, fun p hp => ?_, hd1, fun p hp => ⟨(hin p (hsub p hp)).1, (hin p (hsub p hp)).2.2⟩, fun L' p' pm nd few pw hn' => ?_⟩
        · have r1 := up p hp
          cases r1 with
          | @tup _ ys _ h rs' =>
            have hy := RPs.ints rs'
            subst hy
            exact h.sq
        · have inL : ∀ p ∈ L', p ∈ ks := fun p hp => hsub p (pm.mem_iff.mp hp)
          have e : L'.map (·.2) = usortT (ks.map (·.2)) := by
            refine riseT_eq ?_ (usortT_rise inj) fun k => ?_
            · rw [List.pairwise_map]
              have nd' : L'.Pairwise fun p q => p.2 ≠ q.2 := List.pairwise_map.mp nd
              refine (List.Pairwise.and_mem.mp (pw.and nd')).imp ?_
              rintro p q ⟨hp, hq, h1, h2⟩
              rw [code_T, code_T] at h1
              rcases Int.lt_or_eq_of_le h1 with c | c
              · exact c
              · exact absurd (inj _ (List.mem_map_of_mem (inL p hp)) _ (List.mem_map_of_mem (inL q hq)) c) h2
            · rw [mem_usortT]
              constructor
              · intro hk
                obtain ⟨p, hp, rfl⟩ := List.mem_map.mp hk
                exact List.mem_map_of_mem (inL p hp)
              · intro hk
                obtain ⟨p, hp, rfl⟩ := List.mem_map.mp hk
                exact ((pm.map (·.2)).mem_iff).mpr (hall' p hp)
          have r2 := rps_of (K := X.K) (H := upd H1 a' (SetTO X.prog X.w a' L)) (ρ := ρ1) (ks := L') fun p hp => up p (pm.mem_iff.mp hp)
          rw [e] at r2
          exact fp _ s2 _ p' r2 hn'
      · cases er
  | _ => cases er
end
end PB
set_option maxRecDepth 100000
set_option maxHeartbeats 4000000
/-! Pb, part 20: expressions do what the interpreter says. -/
namespace PB
open PySem PySem.Spec PyProof.Rows L2
section
variable {X : Cx} {ea : Expr} {ma : Env → M D}
theorem r_rev {n : Nat} {p1 p2 p3 pos : Pos} (ha : PE X ea (tM X ma)) : PE X (.Subscript ea (.Slice none none (some (.UnaryOp .USub (.Constant (.int 1) n p1) p2)) p3) pos) (tR X (revM ma)) := by
  refine ⟨fun pins s σ H Q I q => ?_⟩
  obtain ⟨ρ, env, st, hE, hS, q⟩ := q
  have q : ((ma env st).bind fun x st => ((vw x st).bind fun x st => ((need (revP x) st).bind fun r st => .ok (.p r) st))).holds (PostR X.K ρ H Q) (Er X ρ H) := q
  cases e0 : ma env st with
  | bad => rw [e0] at q; exact q.elim
  | err _ _ _ => rw [e0] at q; exact (pe_revL ha).run pins s σ H Q I (tM_err hE hS e0 q)
  | ok v st1 =>
    rw [e0] at q
    obtain ⟨d, vd, q2⟩ := seen (show ((vw v st1).bind fun x st => ((need (revP x) st).bind fun r st => .ok (.p r) st)).holds (PostR X.K ρ H Q) (Er X ρ H) from q)
    obtain ⟨r, er, q3⟩ := needed q2
    obtain ⟨r', e', q4⟩ := q3
    cases e'
    cases d with
    | list ds =>
      cases er
      refine (pe_revL ha).run pins s σ H Q I ⟨ρ, env, st, hE, hS, ?_⟩
      rw [e0]
      intro ρ1 H1 x e S rx
      have rv := rx.view S vd
      cases rv with
      | lst h1 rs => exact ⟨_, _, rfl, h1.sq, fun p hn => (q4 ρ1 H1 e S) H1 (Same.refl H1) _ p rs.reverse hn⟩
    | tuple ds =>
      cases er
      refine (pe_backT ha).run pins s σ H Q I ⟨ρ, env, st, hE, hS, ?_⟩
      rw [e0]
      intro ρ1 H1 x e S rx
      have rv := rx.view S vd
      cases rv with
      | @tup a xs ds h1 rs =>
        refine ⟨a, xs, rfl, h1.sq, fun p hn => ?_⟩
        have s2 := same_new (o := .tup xs.reverse) hn
        exact (q4 ρ1 H1 e S) _ s2 _ (.tup (.inl ⟨.inl upd_same, S.fresh hn⟩) (rs.reverse.ext (Ext.same s2)))
    | _ => cases er
theorem only_rev : OnlyP (revM ma) := by
  intro env st v st' h
  obtain ⟨_, _, _, h⟩ := ok_bind h
  obtain ⟨_, _, _, h⟩ := ok_bind h
  obtain ⟨_, _, _, h⟩ := ok_bind h
  cases h
  exact ⟨_, rfl⟩
theorem folded_of {X : Cx} {e : Expr} (h : notSet e = true) : ∀ x, foldedSetIterable e X.env x = pure x := by
  intro x
  cases e <;> first | rfl | cases h
theorem marks_of {op : CmpOp} {e : Expr} (h : notSet e = true) : behindInMarks op e = false := by
  cases e <;> first | rfl | (cases op <;> rfl) | cases h
theorem PT.eqm {e : Expr} {m m' : Env → M Bool} (h : PT X e (tT X m)) (q : m = m') : PT X e (tT X m') := q ▸ h
theorem testM_bool (m : Env → M Bool) : testM (boolM m) = m := by
  funext env st
  show (((m env st).bind fun b st => R.ok (D.p (.bool b)) st).bind fun v st => asBM v st) = m env st
  rw [assoc_b]
  exact ok_id _
end
section
variable {c : Cfg} {G : List (String × P)} {N : List Str} {k : Nat} {sc : Scope} {fn : Str → Bool} {ee : Expr}
theorem rev2_of {a : Ex} (h : chkE c G N (.rev2 a) sc fn ee = true) : ∃ ea n0 p0 p00 n p1 p2 p3 pos, ee = .Subscript ea (.Slice (some (.UnaryOp .USub (.Constant (.int 2) n0 p0) p00)) none (some (.UnaryOp .USub (.Constant (.int 1) n p1) p2)) p3) pos ∧ chkE c G N a sc fn ea = true := by
  unfold chkE at h
  split at h <;> first | (rename_i z _; cases z; done) | skip
  all_goals first | (cases h; done) | skip
  all_goals (rename_i z; cases z)
  exact ⟨_, _, _, _, _, _, _, _, _, rfl, h⟩
theorem sset_of {a : Ex} (h : chkE c G N (.sset a) sc fn ee = true) : ∃ ea p p2 pos pos2, ee = .Call (.Name (Str.ofString "sorted") p) [.Call (.Name (Str.ofString "set") p2) [ea] [] pos2] [] pos ∧ glB sc (Str.ofString "sorted") = true ∧ glB sc (Str.ofString "set") = true ∧ notStar ea = true ∧ chkE c G N a sc fn ea = true := by
  unfold chkE at h
  split at h <;> first | (rename_i z _; cases z; done) | skip
  all_goals first | (cases h; done) | skip
  all_goals (rename_i z; cases z)
  simp only [Bool.and_eq_true, decide_eq_true_eq] at h
  obtain ⟨⟨⟨⟨⟨rfl, h2⟩, rfl⟩, h4⟩, h5⟩, h6⟩ := h
  exact ⟨_, _, _, _, _, rfl, h2, h4, h5, h6⟩
theorem rev_of {a : Ex} (h : chkE c G N (.rev a) sc fn ee = true) : ∃ ea n p1 p2 p3 pos, ee = .Subscript ea (.Slice none none (some (.UnaryOp .USub (.Constant (.int 1) n p1) p2)) p3) pos ∧ chkE c G N a sc fn ea = true := by
  unfold chkE at h
  split at h <;> first | (rename_i z _; cases z; done) | skip
  all_goals first | (cases h; done) | skip
  all_goals (rename_i z; cases z)
  exact ⟨_, _, _, _, _, _, rfl, h⟩
theorem lenH_of {a : Ex} (h : chkE c G N (.lenH a) sc fn ee = true) : ∃ ea p pos, ee = .Call (.Name (Str.ofString "len") p) [ea] [] pos ∧ glB sc (Str.ofString "len") = true ∧ notStar ea = true ∧ chkE c G N a sc fn ea = true := by
  unfold chkE at h
  split at h <;> first | (rename_i z _; cases z; done) | skip
  all_goals first | (cases h; done) | skip
  all_goals (rename_i z; cases z)
  simp only [Bool.and_eq_true, decide_eq_true_eq] at h
  obtain ⟨⟨⟨rfl, h2⟩, h4⟩, h5⟩ := h
  exact ⟨_, _, _, rfl, h2, h4, h5⟩
theorem isi_of {a : Ex} {t : String} (h : chkE c G N (.isi a t) sc fn ee = true) : ∃ ea p p2 pos, ee = .Call (.Name (Str.ofString "isinstance") p) [ea, .Name (Str.ofString t) p2] [] pos ∧ glB sc (Str.ofString "isinstance") = true ∧ t ∈ tyNames ∧ glB sc (Str.ofString t) = true ∧ notStar ea = true ∧ chkE c G N a sc fn ea = true := by
  unfold chkE at h
  split at h <;> first | (rename_i z _; cases z; done) | skip
  all_goals first | (cases h; done) | skip
  all_goals (rename_i z; cases z)
  simp only [Bool.and_eq_true, decide_eq_true_eq] at h
  obtain ⟨⟨⟨⟨⟨⟨rfl, h2⟩, rfl⟩, h4⟩, h5⟩, h6⟩, h7⟩ := h
  exact ⟨_, _, _, _, rfl, h2, by simpa using h4, h5, h6, h7⟩
theorem lof_of {sk : SK} {src : List Ex} (h : chkE c G N (.listOf sk src) sc fn ee = true) : ∃ p0 p es pos pos0, sk = .rng ∧ ee = .Call (.Name (Str.ofString "list") p0) [.Call (.Name (Str.ofString "range") p) es [] pos] [] pos0 ∧ glB sc (Str.ofString "list") = true ∧ glB sc (Str.ofString "range") = true ∧
    es.all notStar = true ∧ src.length ≤ 3 ∧ src ≠ [] ∧ chkL c G N src sc fn es = true := by
  unfold chkE at h
  split at h <;> first | (rename_i z _; cases z; done) | skip
  all_goals first | (cases h; done) | skip
  all_goals (rename_i z; cases z)
  simp only [Bool.and_eq_true, decide_eq_true_eq] at h
  obtain ⟨⟨⟨⟨⟨⟨rfl, rfl⟩, h2⟩, h3⟩, h4⟩, h5⟩, h6⟩ := h
  unfold rngForm at h3
  split at h3
  · simp only [Bool.and_eq_true, decide_eq_true_eq] at h3
    obtain ⟨⟨rfl, h7⟩, h8⟩ := h3
    exact ⟨_, _, _, _, _, rfl, rfl, h2, h7, h8, h4, by rintro rfl; simp at h5, h6⟩
  · cases h3
theorem lz_of {src : List Ex} (h : chkE c G N (.listZ src) sc fn ee = true) : ∃ p0 p e f pos pos0, ee = .Call (.Name (Str.ofString "list") p0) [.Call (.Name (Str.ofString "zip") p) [e, f] [] pos] [] pos0 ∧ glB sc (Str.ofString "list") = true ∧ glB sc (Str.ofString "zip") = true ∧
    notStar e = true ∧ notStar f = true ∧ chkL c G N src sc fn [e, f] = true := by
  unfold chkE at h
  split at h <;> first | (rename_i z _; cases z; done) | skip
  all_goals first | (cases h; done) | skip
  all_goals (rename_i z; cases z)
  simp only [Bool.and_eq_true, decide_eq_true_eq] at h
  obtain ⟨⟨⟨rfl, h2⟩, h3⟩, h6⟩ := h
  unfold zipForm at h3
  split at h3
  · simp only [Bool.and_eq_true, decide_eq_true_eq] at h3
    obtain ⟨⟨⟨rfl, h7⟩, h8⟩, h9⟩ := h3
    exact ⟨_, _, _, _, _, _, rfl, h2, h7, h8, h9, h6⟩
  · cases h3
theorem dz_of {src : List Ex} (h : chkE c G N (.dictZ src) sc fn ee = true) : ∃ p0 p e f pos pos0, ee = .Call (.Name (Str.ofString "dict") p0) [.Call (.Name (Str.ofString "zip") p) [e, f] [] pos] [] pos0 ∧ glB sc (Str.ofString "dict") = true ∧ glB sc (Str.ofString "zip") = true ∧
    notStar e = true ∧ notStar f = true ∧ chkL c G N src sc fn [e, f] = true := by
  unfold chkE at h
  split at h <;> first | (rename_i z _; cases z; done) | skip
  all_goals first | (cases h; done) | skip
  all_goals (rename_i z; cases z)
  simp only [Bool.and_eq_true, decide_eq_true_eq] at h
  obtain ⟨⟨⟨rfl, h2⟩, h3⟩, h6⟩ := h
  unfold zipForm at h3
  split at h3
  · simp only [Bool.and_eq_true, decide_eq_true_eq] at h3
    obtain ⟨⟨⟨rfl, h7⟩, h8⟩, h9⟩ := h3
    exact ⟨_, _, _, _, _, _, rfl, h2, h7, h8, h9, h6⟩
  · cases h3
theorem compH_chk {tg : Tg} {sk : SK} {src cond : List Ex} {elt : Ex} (h : chkE c G N (.compH tg sk src cond elt) sc fn ee = true) : chkE c G N (.comp tg sk src cond elt) sc fn ee = true := by
  unfold chkE at h
  split at h <;> first | (rename_i z _; cases z; done) | skip
  all_goals first | (cases h; done) | skip
  all_goals (rename_i z; cases z)
  unfold chkE
  exact h
theorem dp_of {e : Ex} (h : chkE c G N (.dictP e) sc fn ee = true) : ∃ p0 ea pos, ee = .Call (.Name (Str.ofString "dict") p0) [ea] [] pos ∧ glB sc (Str.ofString "dict") = true ∧ notStar ea = true ∧ chkE c G N e sc fn ea = true := by
  unfold chkE at h
  split at h <;> first | (rename_i z _; cases z; done) | skip
  all_goals first | (cases h; done) | skip
  all_goals (rename_i z; cases z)
  simp only [Bool.and_eq_true, decide_eq_true_eq] at h
  obtain ⟨⟨⟨rfl, h2⟩, h3⟩, h4⟩ := h
  exact ⟨_, _, _, rfl, h2, h3, h4⟩
theorem gd_of {d k x : Ex} (h : chkE c G N (.getD d k x) sc fn ee = true) : ∃ ea ek ex apos pos, ee = .Call (.Attribute ea (Str.ofString "get") apos) [ek, ex] [] pos ∧ noSuper ea = true ∧ [ek, ex].all notStar = true ∧ (apos.endLine == pos.line) = true ∧
    chkE c G N d sc fn ea = true ∧ chkE c G N k sc fn ek = true ∧ chkE c G N x sc fn ex = true := by
  unfold chkE at h
  split at h <;> first | (rename_i z _; cases z; done) | skip
  all_goals first | (cases h; done) | skip
  all_goals (rename_i z; cases z)
  rw [Bool.and_eq_true, Bool.and_eq_true, Bool.and_eq_true, Bool.and_eq_true, Bool.and_eq_true, Bool.and_eq_true, decide_eq_true_eq] at h
  obtain ⟨⟨⟨⟨⟨⟨rfl, h2⟩, h3⟩, h4⟩, h5⟩, h6⟩, h7⟩ := h
  exact ⟨_, _, _, _, _, rfl, h2, h3, h4, h5, h6, h7⟩
theorem tof_of {sk : SK} {src : List Ex} (h : chkE c G N (.tupOf sk src) sc fn ee = true) : ∃ p0 p es pos pos0, sk = .rng ∧ ee = .Call (.Name (Str.ofString "tuple") p0) [.Call (.Name (Str.ofString "range") p) es [] pos] [] pos0 ∧ glB sc (Str.ofString "tuple") = true ∧ glB sc (Str.ofString "range") = true ∧
    es.all notStar = true ∧ src.length ≤ 2 ∧ src ≠ [] ∧ chkL c G N src sc fn es = true := by
  unfold chkE at h
  split at h <;> first | (rename_i z _; cases z; done) | skip
  all_goals first | (cases h; done) | skip
  all_goals (rename_i z; cases z)
  simp only [Bool.and_eq_true, decide_eq_true_eq] at h
  obtain ⟨⟨⟨⟨⟨⟨rfl, rfl⟩, h2⟩, h3⟩, h4⟩, h5⟩, h6⟩ := h
  unfold rngForm at h3
  split at h3
  · simp only [Bool.and_eq_true, decide_eq_true_eq] at h3
    obtain ⟨⟨rfl, h7⟩, h8⟩ := h3
    exact ⟨_, _, _, _, _, rfl, rfl, h2, h7, h8, h4, by rintro rfl; simp at h5, h6⟩
  · cases h3
theorem comp_of {tg : Tg} {sk : SK} {src cond : List Ex} {elt : Ex} (h : chkE c G N (.comp tg sk src cond elt) sc fn ee = true) : ∃ eelt etg eit ifs scope pos, ee = .ListComp eelt [⟨etg, eit, ifs, 0⟩] scope pos ∧
    srcForm sc sk etg eit = true ∧ chkL c G N src sc fn (srcEs sk eit) = true ∧ notSet eit = true ∧ blkC N sc scope (ownOf N tg) = true ∧ chkTg N (relS scope sc) (blkFn scope) tg etg = true ∧ ifs.length ≤ 1 ∧ Ex.tsts cond = true ∧
    chkL c G N cond (relS scope sc) (blkFn scope) ifs = true ∧ chkE c G N elt (relS scope sc) (blkFn scope) eelt = true := by
  unfold chkE at h
  split at h <;> first | (rename_i z _; cases z; done) | skip
  all_goals first | (cases h; done) | skip
  all_goals (rename_i z; cases z)
  simp only [Bool.and_eq_true, decide_eq_true_eq] at h
  obtain ⟨⟨⟨⟨⟨⟨⟨⟨h1, h2⟩, h3⟩, h4⟩, h5⟩, h6⟩, h7⟩, h8⟩, h9⟩ := h
  exact ⟨_, _, _, _, _, _, rfl, h1, h2, h3, h4, h5, h6, h7, h8, h9⟩
theorem dcomp_of {tg : Tg} {sk : SK} {src : List Ex} {key val : Ex} (h : chkE c G N (.dcomp tg sk src key val) sc fn ee = true) : ∃ kx vx etg eit scope pos, ee = .DictComp kx vx [⟨etg, eit, [], 0⟩] scope pos ∧
    srcForm sc sk etg eit = true ∧ chkL c G N src sc fn (srcEs sk eit) = true ∧ notSet eit = true ∧ blkC N sc scope (ownOf N tg) = true ∧ chkTg N (relS scope sc) (blkFn scope) tg etg = true ∧
    chkE c G N key (relS scope sc) (blkFn scope) kx = true ∧ chkE c G N val (relS scope sc) (blkFn scope) vx = true := by
  unfold chkE at h
  split at h <;> first | (rename_i z _; cases z; done) | skip
  all_goals first | (cases h; done) | skip
  all_goals (rename_i z; cases z)
  simp only [Bool.and_eq_true, decide_eq_true_eq] at h
  obtain ⟨⟨⟨⟨⟨⟨h1, h2⟩, h3⟩, h4⟩, h5⟩, h6⟩, h7⟩ := h
  exact ⟨_, _, _, _, _, _, rfl, h1, h2, h3, h4, h5, h6, h7⟩
theorem allEq_of {a b i : Nat} {src : Ex} (h : chkE c G N (.allEq a b i src) sc fn ee = true) : ∃ p xa q1 q2 q3 xb q4 q5 q6 q7 x px yi qi gs gpos pos,
    ee = .Call (.Name (Str.ofString "all") p) [.GeneratorExp (.Compare (.Subscript (.Name xa q1) (.Name x q2) q3) [.Eq] [.Subscript (.Name xb q4) (.Name x q5) q6] q7) [⟨.Name x px, .Name yi qi, [], 0⟩] gs gpos] [] pos ∧
    c.gx = true ∧ glB sc (Str.ofString "all") = true ∧ genOk N sc gs a b x xa xb = true ∧ chkE c G N src sc fn (.Name yi qi) = true := by
  unfold chkE at h
  split at h <;> first | (rename_i z _; cases z; done) | skip
  all_goals first | (cases h; done) | skip
  all_goals (rename_i z; cases z)
  simp only [Bool.and_eq_true, decide_eq_true_eq] at h
  obtain ⟨⟨⟨⟨⟨⟨h1, rfl⟩, h3⟩, rfl⟩, rfl⟩, h6⟩, h7⟩ := h
  exact ⟨_, _, _, _, _, _, _, _, _, _, _, _, _, _, _, _, _, rfl, h1, h3, h6, h7⟩
end
section
variable {c : Cfg} {G : List (String × P)} {N : List Str} {k : Nat}
mutual
theorem ex_ok : ∀ (e : Ex) {X : Cx} {sc : Scope} {fn : Str → Bool} (C : Ctx X c G N sc fn k) (ee : Expr), chkE c G N e sc fn ee = true → EOk X c e ee
  | .var i, X, sc, fn, C, ee, h => by
    cases ee with
    | Name y pos => exact .val (r_var C (by unfold chkE at h; exact h)) rfl trivial
    | _ => unfold chkE at h; cases h
  | .glob x d, X, sc, fn, C, ee, h => by
    cases ee with
    | Name y pos => exact .val (r_glob C (by unfold chkE at h; exact h)) rfl trivial
    | _ => unfold chkE at h; cases h
  | .cst d, X, sc, fn, C, ee, h => by
    cases ee with
    | Constant q n pos => exact .not (r_cst (by unfold chkE at h; exact h)) rfl (by rw [Ex.tst])
    | _ => unfold chkE at h; cases h
  | .bin op a b, X, sc, fn, C, ee, h => by
    cases ee with
    | BinOp ea op' eb pos =>
      unfold chkE at h
      simp only [Bool.and_eq_true, decide_eq_true_eq] at h
      obtain ⟨⟨rfl, h1⟩, h2⟩ := h
      have o : OnlyP (evE c (.bin op a b)) := by
        rw [fun_of fun env => by rw [evE]]
        exact only_bin
      refine .raw o ?_ trivial
      rw [fun_of fun env => by rw [evE]]
      exact r_bin (ex_ok a C ea h1).pe (ex_ok b C eb h2).pe
    | _ => unfold chkE at h; cases h
  | .neg a, X, sc, fn, C, ee, h => by
    cases ee with
    | UnaryOp op ea pos =>
      cases op with
      | USub =>
        unfold chkE at h
        have h := (ex_ok a C ea h).pe
        refine ⟨?_, fun z => (by cases z), fun _ => ?_⟩
        · rw [fun_of fun env => by rw [evE]]
          exact r_neg h
        · rw [fun_of fun env => by rw [evE]]
          exact t_val (r_neg h) fun _ => rfl
      | _ => unfold chkE at h; cases h
    | _ => unfold chkE at h; cases h
  | .not a, X, sc, fn, C, ee, h => by
    cases ee with
    | UnaryOp op ea pos =>
      cases op with
      | Not =>
        unfold chkE at h
        have h := ex_ok a C ea h
        refine ⟨?_, fun z => (by cases z), fun z => ?_⟩
        · rw [fun_of fun env => by rw [evE]]
          exact r_not h.pe
        · rw [Ex.tst] at z
          rw [fun_of fun env => by rw [evE]]
          exact t_not (h.tt z)
      | _ => unfold chkE at h; cases h
    | _ => unfold chkE at h; cases h
  | .and l, X, sc, fn, C, ee, h => by
    cases ee with
    | BoolOp op es pos =>
      cases op with
      | And =>
        unfold chkE at h
        rw [Bool.and_eq_true] at h
        have L := exs_ok l C es h.2
        have l0 : l ≠ [] := by
          intro e
          rw [e] at h
          simp at h
        refine ⟨?_, fun z => (by cases z), fun z => ?_⟩
        · rw [fun_of fun env => by rw [evE]]
          exact L.an l0 pos
        · rw [Ex.tst] at z
          rw [fun_of fun env => by rw [evE]]
          exact (L.ant l0 z pos).pt
      | _ => unfold chkE at h; cases h
    | _ => unfold chkE at h; cases h
  | .or l, X, sc, fn, C, ee, h => by
    cases ee with
    | BoolOp op es pos =>
      cases op with
      | Or =>
        unfold chkE at h
        rw [Bool.and_eq_true] at h
        have L := exs_ok l C es h.2
        have l0 : l ≠ [] := by
          intro e
          rw [e] at h
          simp at h
        refine ⟨?_, fun z => (by cases z), fun z => ?_⟩
        · rw [fun_of fun env => by rw [evE]]
          exact L.ro l0 pos
        · rw [Ex.tst] at z
          rw [fun_of fun env => by rw [evE]]
          exact (L.rot l0 z pos).pt
      | _ => unfold chkE at h; cases h
    | _ => unfold chkE at h; cases h
  | .ife t a b, X, sc, fn, C, ee, h => by
    cases ee with
    | IfExp et ea eb pos =>
      unfold chkE at h
      simp only [Bool.and_eq_true] at h
      obtain ⟨⟨⟨h0, h1⟩, h2⟩, h3⟩ := h
      refine .not ?_ rfl (by rw [Ex.tst])
      rw [fun_of fun env => by rw [evE]]
      exact r_ife ((ex_ok t C et h1).tt h0) (ex_ok a C ea h2).pe (ex_ok b C eb h3).pe
    | _ => unfold chkE at h; cases h
  | .cmp op a b, X, sc, fn, C, ee, h => by
    cases ee with
    | Compare ea ops es pos =>
      rcases ops with _ | ⟨op', _ | ⟨_, _⟩⟩ <;> rcases es with _ | ⟨eb, _ | ⟨_, _⟩⟩ <;> first | (unfold chkE at h; cases h; done) | skip
      unfold chkE at h
      simp only [Bool.and_eq_true, decide_eq_true_eq] at h
      obtain ⟨⟨⟨rfl, h0⟩, h1⟩, h2⟩ := h
      have e : evE c (.cmp op a b) = boolM (cmpM op (evE c a) (evE c b)) := by
        funext env st
        rw [evE]
        show ((evE c a env st).bind fun x st => ((evE c b env st).bind fun y st => ((vw x st).bind fun x st => ((vw y st).bind fun y st => ((need (cmpP op x y) st).bind fun b st => R.ok (D.p (.bool b)) st))))) = (((evE c a env st).bind fun x st => ((evE c b env st).bind fun y st => ((vw x st).bind fun x st => ((vw y st).bind fun y st => need (cmpP op x y) st)))).bind fun b st => R.ok (D.p (.bool b)) st)
        simp only [assoc_b]
      have u := C.units
      refine ⟨?_, fun z => (by cases z), fun _ => ?_⟩
      · rw [e]
        exact r_cmp (by omega) (ex_ok a C ea h1).pe (ex_ok b C eb h2).pe (marks_of h0)
      · rw [e, testM_bool]
        exact t_cmp (by omega) (ex_ok a C ea h1).pe (ex_ok b C eb h2).pe (marks_of h0)
    | _ => unfold chkE at h; cases h
  | .cmp2 o1 o2 a b d, X, sc, fn, C, ee, h => by
    cases ee with
    | Compare ea ops es pos =>
      rcases ops with _ | ⟨op1, _ | ⟨op2, _ | ⟨_, _⟩⟩⟩ <;> rcases es with _ | ⟨eb, _ | ⟨ed, _ | ⟨_, _⟩⟩⟩ <;> first | (unfold chkE at h; cases h; done) | skip
      unfold chkE at h
      simp only [Bool.and_eq_true, decide_eq_true_eq] at h
      obtain ⟨⟨⟨⟨⟨⟨rfl, rfl⟩, h0⟩, _⟩, h1⟩, h2⟩, h3⟩ := h
      have e : evE c (.cmp2 o1 o2 a b d) = boolM (cmp2M o1 o2 (evE c a) (evE c b) (evE c d)) := by
        funext env st
        rw [evE]
        show ((evE c a env st).bind fun x st => ((evE c b env st).bind fun y st => ((vw x st).bind fun x st => ((onlyP y st).bind fun y st => ((need (cmpP o1 x y) st).bind fun k st => (if k = true then (do
            let z ← evE c d env
            let z ← vw z
            (fun b => .p (.bool b)) <$> need (cmpP o2 y z)) else pure (.p (.bool false)) : M D) st))))) = (((evE c a env st).bind fun x st => ((evE c b env st).bind fun y st => ((vw x st).bind fun x st => ((onlyP y st).bind fun y st => ((need (cmpP o1 x y) st).bind fun k st => (if k = true then (do
            let z ← evE c d env
            let z ← vw z
            need (cmpP o2 y z)) else pure false : M Bool) st))))).bind fun b st => R.ok (D.p (.bool b)) st)
        simp only [assoc_b]
        refine congrArg (R.bind _) (funext fun x => funext fun st1 => ?_)
        refine congrArg (R.bind _) (funext fun y => funext fun st2 => ?_)
        refine congrArg (R.bind _) (funext fun x' => funext fun st3 => ?_)
        refine congrArg (R.bind _) (funext fun y' => funext fun st4 => ?_)
        refine congrArg (R.bind _) (funext fun kk => funext fun st5 => ?_)
        cases kk with
        | false => rfl
        | true =>
          show ((evE c d env st5).bind fun z st => ((vw z st).bind fun z st => ((need (cmpP o2 y' z) st).bind fun b st => R.ok (D.p (.bool b)) st))) = (((evE c d env st5).bind fun z st => ((vw z st).bind fun z st => need (cmpP o2 y' z) st)).bind fun b st => R.ok (D.p (.bool b)) st)
          simp only [assoc_b]
      have u := C.units
      refine ⟨?_, fun z => (by cases z), fun _ => ?_⟩
      · rw [e]
        exact r_cmp2 (by omega) (ex_ok a C ea h1).pe (ex_ok b C eb h2).pe (ex_ok d C ed h3).pe (marks_of h0)
      · rw [e, testM_bool]
        exact t_cmp2 (by omega) (ex_ok a C ea h1).pe (ex_ok b C eb h2).pe (ex_ok d C ed h3).pe (marks_of h0)
    | _ => unfold chkE at h; cases h
  | .cmp3 o1 o2 o3 a b d e3, X, sc, fn, C, ee, h => by
    cases ee with
    | Compare ea ops es pos =>
      rcases ops with _ | ⟨op1, _ | ⟨op2, _ | ⟨op3, _ | ⟨_, _⟩⟩⟩⟩ <;> rcases es with _ | ⟨eb, _ | ⟨ed, _ | ⟨ef, _ | ⟨_, _⟩⟩⟩⟩ <;> first | (unfold chkE at h; cases h; done) | skip
      unfold chkE at h
      simp only [Bool.and_eq_true, decide_eq_true_eq] at h
      obtain ⟨⟨⟨⟨⟨⟨⟨rfl, rfl⟩, rfl⟩, h0⟩, h1⟩, h2⟩, h3⟩, h4⟩ := h
      have e : evE c (.cmp3 o1 o2 o3 a b d e3) = boolM (cmp3M o1 o2 o3 (evE c a) (evE c b) (evE c d) (evE c e3)) := by
        funext env st
        rw [evE]
        show ((evE c a env st).bind fun x st => ((evE c b env st).bind fun y st => ((vw x st).bind fun x st => ((onlyP y st).bind fun y st => ((need (cmpP o1 x y) st).bind fun k st => (if k = true then (do
            let z ← evE c d env
            let z ← onlyP z
            let k2 ← need (cmpP o2 y z)
            if k2 = true then (do
              let u ← evE c e3 env
              let u ← vw u
              (fun b => .p (.bool b)) <$> need (cmpP o3 z u)) else pure (.p (.bool false))) else pure (.p (.bool false)) : M D) st))))) = (((evE c a env st).bind fun x st => ((evE c b env st).bind fun y st => ((vw x st).bind fun x st => ((onlyP y st).bind fun y st => ((need (cmpP o1 x y) st).bind fun k st => (if k = true then (do
            let z ← evE c d env
            let z ← onlyP z
            let k2 ← need (cmpP o2 y z)
            if k2 = true then (do
              let u ← evE c e3 env
              let u ← vw u
              need (cmpP o3 z u)) else pure false) else pure false : M Bool) st))))).bind fun b st => R.ok (D.p (.bool b)) st)
        simp only [assoc_b]
        refine congrArg (R.bind _) (funext fun x => funext fun st1 => ?_)
        refine congrArg (R.bind _) (funext fun y => funext fun st2 => ?_)
        refine congrArg (R.bind _) (funext fun x' => funext fun st3 => ?_)
        refine congrArg (R.bind _) (funext fun y' => funext fun st4 => ?_)
        refine congrArg (R.bind _) (funext fun kk => funext fun st5 => ?_)
        cases kk with
        | false => rfl
        | true =>
          show ((evE c d env st5).bind fun z st => ((onlyP z st).bind fun z st => ((need (cmpP o2 y' z) st).bind fun k2 st => (if k2 = true then (do
              let u ← evE c e3 env
              let u ← vw u
              (fun b => .p (.bool b)) <$> need (cmpP o3 z u)) else pure (.p (.bool false)) : M D) st))) = (((evE c d env st5).bind fun z st => ((onlyP z st).bind fun z st => ((need (cmpP o2 y' z) st).bind fun k2 st => (if k2 = true then (do
              let u ← evE c e3 env
              let u ← vw u
              need (cmpP o3 z u)) else pure false : M Bool) st))).bind fun b st => R.ok (D.p (.bool b)) st)
          simp only [assoc_b]
          refine congrArg (R.bind _) (funext fun z => funext fun st6 => ?_)
          refine congrArg (R.bind _) (funext fun z' => funext fun st7 => ?_)
          refine congrArg (R.bind _) (funext fun k2 => funext fun st8 => ?_)
          cases k2 with
          | false => rfl
          | true =>
            show ((evE c e3 env st8).bind fun z st => ((vw z st).bind fun z st => ((need (cmpP o3 z' z) st).bind fun b st => R.ok (D.p (.bool b)) st))) = (((evE c e3 env st8).bind fun z st => ((vw z st).bind fun z st => need (cmpP o3 z' z) st)).bind fun b st => R.ok (D.p (.bool b)) st)
            simp only [assoc_b]
      have u := C.units
      refine ⟨?_, fun z => (by cases z), fun _ => ?_⟩
      · rw [e]
        exact r_cmp3 (by omega) (ex_ok a C ea h1).pe (ex_ok b C eb h2).pe (ex_ok d C ed h3).pe (ex_ok e3 C ef h4).pe (marks_of h0)
      · rw [e, testM_bool]
        exact t_cmp3 (by omega) (ex_ok a C ea h1).pe (ex_ok b C eb h2).pe (ex_ok d C ed h3).pe (ex_ok e3 C ef h4).pe (marks_of h0)
    | _ => unfold chkE at h; cases h
  | .tup l, X, sc, fn, C, ee, h => by
    cases ee with
    | Tuple es kk pos =>
      unfold chkE at h
      rw [Bool.and_eq_true] at h
      refine .not ?_ rfl (by rw [Ex.tst])
      rw [fun_of fun env => by rw [evE]]
      exact r_tup ((exs_ok l C es h.2).pa h.1)
    | _ => unfold chkE at h; cases h
  | .lst l, X, sc, fn, C, ee, h => by
    cases ee with
    | List es pos =>
      unfold chkE at h
      rw [Bool.and_eq_true] at h
      have o : OnlyP (evE c (.lst l)) := by
        rw [fun_of fun env => by rw [evE]]
        exact only_lst
      have p : PE X (.List es pos) (tR X (evE c (.lst l))) := by
        rw [fun_of fun env => by rw [evE]]
        exact r_lst ((exs_ok l C es h.2).pa h.1)
      exact .raw o p trivial
    | _ => unfold chkE at h; cases h
  | .new e, X, sc, fn, C, ee, h => by
    unfold chkE at h
    rw [Bool.and_eq_true] at h
    refine .not ?_ rfl (by rw [Ex.tst])
    rw [fun_of fun env => by rw [evE]]
    exact PE.new ((ex_ok e C ee h.2).fr h.1)
  | .lstH l, X, sc, fn, C, ee, h => by
    cases ee with
    | List es pos =>
      unfold chkE at h
      rw [Bool.and_eq_true] at h
      refine .not ?_ rfl (by rw [Ex.tst])
      rw [fun_of fun env => by rw [evE]]
      exact r_lstH ((exs_ok l C es h.2).pa h.1)
    | _ => unfold chkE at h; cases h
  | .tupH l, X, sc, fn, C, ee, h => by
    cases ee with
    | Tuple es k pos =>
      unfold chkE at h
      rw [Bool.and_eq_true] at h
      refine .not ?_ rfl (by rw [Ex.tst])
      rw [fun_of fun env => by rw [evE]]
      exact r_tupH ((exs_ok l C es h.2).pa h.1)
    | _ => unfold chkE at h; cases h
  | .rev2 a, X, sc, fn, C, ee, h => by
    obtain ⟨ea, n0, p0, p00, n, p1, p2, p3, pos, rfl, h⟩ := rev2_of h
    have o : OnlyP (evE c (.rev2 a)) := by
      rw [fun_of fun env => by rw [evE]]
      exact only_rev2
    refine .raw o ?_ trivial
    rw [fun_of fun env => by rw [evE]]
    exact r_rev2 (ex_ok a C ea h).pe
  | .lock i e, X, sc, fn, C, ee, h => by
    have h : chkE c G N e sc fn ee = true := by
      unfold chkE at h
      rw [Bool.and_eq_true] at h
      exact h.2
    refine .not ?_ rfl (by rw [Ex.tst])
    have e1 : evE c (.lock i e) = lockM i (evE c e) := by
      funext env
      rw [evE]
      rfl
    rw [e1]
    exact r_lock i (ex_ok e C ee h).pe
  | .dct ks vs, X, sc, fn, C, ee, h => by
    cases ee with
    | Dict keys es pos =>
      unfold chkE at h
      simp only [Bool.and_eq_true, decide_eq_true_eq] at h
      obtain ⟨⟨⟨h1, h2⟩, h3⟩, h4⟩ := h
      have L := exs_ok vs C es h2
      refine .not ?_ rfl (by rw [Ex.tst])
      rw [fun_of fun env => by rw [evE]]
      exact r_dct (L.pr pos) h1 h3 h4 L.len L.h0
    | _ => unfold chkE at h; cases h
  | .dctH ks vs, X, sc, fn, C, ee, h => by
    cases ee with
    | Dict keys es pos =>
      unfold chkE at h
      simp only [Bool.and_eq_true, decide_eq_true_eq] at h
      obtain ⟨⟨⟨h1, h2⟩, h3⟩, h4⟩ := h
      have L := exs_ok vs C es h2
      refine .not ?_ rfl (by rw [Ex.tst])
      rw [fun_of fun env => by rw [evE]]
      exact r_dctH (L.pr pos) h1 h3 h4 L.len L.h0
    | _ => unfold chkE at h; cases h
  | .idx a i, X, sc, fn, C, ee, h => by
    cases ee with
    | Subscript ea ei pos =>
      unfold chkE at h
      simp only [Bool.and_eq_true] at h
      obtain ⟨⟨h1, h2⟩, h3⟩ := h
      have u := C.units
      refine .val ?_ rfl trivial
      rw [fun_of fun env => by rw [evE]]
      exact r_idx (by omega) (ex_ok a C ea h2).pe (ex_ok i C ei h3).pe h1
    | _ => unfold chkE at h; cases h
  | .slc a lo hi, X, sc, fn, C, ee, h => by
    cases ee with
    | Subscript ea ei pos =>
      cases ei with
      | Slice elo ehi est p2 =>
        cases est with
        | some _ => unfold chkE at h; cases h
        | none =>
          unfold chkE at h
          simp only [Bool.and_eq_true] at h
          obtain ⟨⟨h1, h2⟩, h3⟩ := h
          have o : OnlyP (evE c (.slc a lo hi)) := by
            rw [fun_of fun env => by rw [evE]]
            exact only_slc
          refine .raw o ?_ trivial
          rw [fun_of fun env => by rw [evE]]
          exact r_slc (ex_ok a C ea h1).pe (exo_ok lo C elo h2) (exo_ok hi C ehi h3)
      | _ => unfold chkE at h; cases h
    | _ => unfold chkE at h; cases h
  | .rev a, X, sc, fn, C, ee, h => by
    obtain ⟨ea, n, p1, p2, p3, pos, rfl, h⟩ := rev_of h
    have o : OnlyP (evE c (.rev a)) := by
      rw [fun_of fun env => by rw [evE]]
      exact only_rev
    refine .raw o ?_ trivial
    rw [fun_of fun env => by rw [evE]]
    exact r_rev (ex_ok a C ea h).pe
  | .call f args, X, sc, fn, C, ee, h => by
    cases ee with
    | Call ef es kws pos =>
      rcases kws with _ | ⟨kw0, kwr⟩
      rotate_left
      · exfalso
        cases ef <;> (unfold chkE at h; cases h)
      cases ef with
      | Name y p =>
        unfold chkE at h
        simp only [Bool.and_eq_true, decide_eq_true_eq] at h
        obtain ⟨⟨⟨⟨⟨rfl, h2⟩, h3⟩, h4⟩, h5⟩, h6⟩ := h
        have L := exs_ok args C es h5
        refine .val ?_ rfl trivial
        rw [fun_of fun env => by rw [evE]]
        exact pe_callG C.gb C.room C.gd (gl_of C h2) (L.pa h4) (plain_of h4) (nameOk_of h3).1 L.len L.h0 h6
      | _ => unfold chkE at h; cases h
    | _ => unfold chkE at h; cases h
  | .callK f args ks kargs π, X, sc, fn, C, ee, h => by
    cases ee with
    | Call ef es kws pos =>
      cases ef with
      | Name y p =>
        unfold chkE at h
        simp only [Bool.and_eq_true, decide_eq_true_eq, List.any_eq_true] at h
        obtain ⟨⟨⟨⟨⟨⟨⟨rfl, h2⟩, h3⟩, h4⟩, h5⟩, h6⟩, h7⟩, q, hq, rfl⟩ := h
        have L := exs_ok args C es h5
        have LK := exs_ok kargs C (kws.map fun k => k.value) h7
        refine .val ?_ rfl trivial
        rw [fun_of fun env => by rw [evE]]
        exact pe_callKG C.gb C.room C.gd (gl_of C h2) (L.pa h4) (LK.pk kws rfl) (plain_of h4) (nameOk_of h3).1 L.len L.h0 (fun env st ds st' e => by rw [LK.len env st ds st' e, List.length_map, kws_len h6]) hq (fun pos => (kws_facts h6).1) (fun pos => (kws_facts h6).2.1) (fun pos => (kws_facts h6).2.2)
      | _ => unfold chkE at h; cases h
    | _ => unfold chkE at h; cases h
  | .bif f args, X, sc, fn, C, ee, h => by
    cases ee with
    | Call ef es kws pos =>
      rcases kws with _ | ⟨kw0, kwr⟩
      rotate_left
      · exfalso
        cases ef <;> (unfold chkE at h; cases h)
      cases ef with
      | Name y p =>
        unfold chkE at h
        simp only [Bool.and_eq_true, decide_eq_true_eq] at h
        obtain ⟨⟨⟨⟨⟨⟨rfl, h2⟩, h3⟩, h4⟩, h5⟩, h6⟩, h7⟩ := h
        have h2 : f ∈ bifNames := by simpa using h2
        have L := exs_ok args C es h7
        have u := C.units
        have o : OnlyP (evE c (.bif f args)) := by
          rw [fun_of fun env => by rw [evE]]
          exact only_bif
        refine .raw o ?_ trivial
        rw [fun_of fun env => by rw [evE]]
        exact r_bif h2 C.calm C.gd (by omega) (gl_of C h3) (bl_of C (by simp [h2])) (by rintro rfl; simp at h6) h5 (L.pa h5)
      | _ => unfold chkE at h; cases h
    | _ => unfold chkE at h; cases h
  | .lenH a, X, sc, fn, C, ee, h => by
    obtain ⟨ea, p, pos, rfl, h2, h4, h5⟩ := lenH_of h
    refine .val ?_ rfl trivial
    rw [fun_of fun env => by rw [evE]]
    exact r_lenH (gl_of C h2) (bl_of C (by simp [bifNames])) h4 (ex_ok a C ea h5).pe
  | .isi a t, X, sc, fn, C, ee, h => by
    obtain ⟨ea, p, p2, pos, rfl, h2, ht, h3, h4, h5⟩ := isi_of h
    refine .val ?_ rfl trivial
    rw [fun_of fun env => by rw [evE]]
    exact r_isi ht (gl_of C h2) (bl_of C (by simp)) (gl_of C h3) (bl_of C (by simp [ht])) h4 (ex_ok a C ea h5).pe
  | .mth m a args, X, sc, fn, C, ee, h => by
    cases ee with
    | Call ef es kws pos =>
      rcases kws with _ | ⟨kw0, kwr⟩
      rotate_left
      · exfalso
        cases ef <;> (unfold chkE at h; cases h)
      cases ef with
      | Attribute ea y apos =>
        unfold chkE at h
        simp only [Bool.and_eq_true, decide_eq_true_eq] at h
        obtain ⟨⟨⟨⟨⟨⟨⟨rfl, h2⟩, h3⟩, h4⟩, h5⟩, hmo⟩, h6⟩, h7⟩ := h
        have L := exs_ok args C es h7
        refine .val ?_ rfl trivial
        rw [fun_of fun env => by rw [evE]]
        exact r_mth (ex_ok a C ea h6).pe (L.pa h3) h3 h2 h4 h5 hmo L.len L.h0
      | _ => unfold chkE at h; cases h
    | _ => unfold chkE at h; cases h
  | .comp tg sk src cond elt, X, sc, fn, C, ee, h => by
    obtain ⟨eelt, etg, eit, ifs, scope, pos, rfl, h1, h2, h3, h4, h5, h6, h7, h8, h9⟩ := comp_of h
    have L := exs_ok src C (srcEs sk eit) h2
    have o : OnlyP (evE c (.comp tg sk src cond elt)) := by
      rw [fun_of fun env => by rw [evE]]
      exact only_comp
    have ht : ∀ (s : Shared) (H : Hp) (Cc : Addr) (cl : List (Str × Addr)) (fp : List Addr), PTs (X.blk s H scope (compEnvC scope cl Cc X.env) fp) ifs (tT (X.blk s H scope (compEnvC scope cl Cc X.env) fp) (evAll c cond)) := by
      intro s H Cc cl fp
      have LC := exs_ok cond (blk_ctx C h4 s H Cc cl fp) ifs h8
      have hl := LC.ln
      match cond, ifs, hl, h6, h7, LC with
      | [], [], _, _, _, _ =>
        refine ⟨fun pins s1 σ H1 Q I q => pts_nil.run pins s1 σ H1 Q I ?_⟩
        obtain ⟨ρ, env, st, hE, hS, q⟩ := q
        rw [evAll] at q
        exact q ρ H1 .refl hS
      | [e], [i], _, _, h7, LC =>
        have t := (LC.hd e [] i [] rfl rfl).tt (by unfold Ex.tsts at h7; rw [Bool.and_eq_true] at h7; exact h7.1)
        refine pts_one (PT.eqm t ?_)
        funext env st
        rw [evAll]
        show ((evE c e env st).bind fun x st => asBM x st) = ((evE c e env st).bind fun x st => ((asBM x st).bind fun k st => (if k = true then evAll c [] env else pure false : M Bool) st))
        refine congrArg (R.bind _) (funext fun x => funext fun st1 => ?_)
        rw [← ok_id (asBM x st1)]
        rw [assoc_b]
        refine congrArg (R.bind _) (funext fun b => funext fun st2 => ?_)
        cases b with
        | false => rfl
        | true => rw [evAll]; rfl
      | _ :: _ :: _, _ :: _ :: _, _, h6, _, _ => simp at h6
      | [], _ :: _, hl, _, _, _ => simp at hl
      | _ :: _, [], hl, _, _, _ => simp at hl
      | [_], _ :: _ :: _, hl, _, _, _ => simp at hl
      | _ :: _ :: _, [_], hl, _, _, _ => simp at hl
    refine .raw o ?_ trivial
    rw [fun_of fun env => by rw [evE]]
    exact r_comp C (src_pi C h1 L) h4 (fun s H Cc cl fp => pg_ok (blk_ctx C h4 s H Cc cl fp) tg etg h5) ht (fun s H Cc cl fp => (ex_ok elt (blk_ctx C h4 s H Cc cl fp) eelt h9).pe) (folded_of h3)
  | .compH tg sk src cond elt, X, sc, fn, C, ee, h => by
    obtain ⟨eelt, etg, eit, ifs, scope, pos, rfl, h1, h2, h3, h4, h5, h6, h7, h8, h9⟩ := comp_of (compH_chk h)
    have L := exs_ok src C (srcEs sk eit) h2
    have ht : ∀ (s : Shared) (H : Hp) (Cc : Addr) (cl : List (Str × Addr)) (fp : List Addr), PTs (X.blk s H scope (compEnvC scope cl Cc X.env) fp) ifs (tT (X.blk s H scope (compEnvC scope cl Cc X.env) fp) (evAll c cond)) := by
      intro s H Cc cl fp
      have LC := exs_ok cond (blk_ctx C h4 s H Cc cl fp) ifs h8
      have hl := LC.ln
      match cond, ifs, hl, h6, h7, LC with
      | [], [], _, _, _, _ =>
        refine ⟨fun pins s1 σ H1 Q I q => pts_nil.run pins s1 σ H1 Q I ?_⟩
        obtain ⟨ρ, env, st, hE, hS, q⟩ := q
        rw [evAll] at q
        exact q ρ H1 .refl hS
      | [e], [i], _, _, h7, LC =>
        have t := (LC.hd e [] i [] rfl rfl).tt (by unfold Ex.tsts at h7; rw [Bool.and_eq_true] at h7; exact h7.1)
        refine pts_one (PT.eqm t ?_)
        funext env st
        rw [evAll]
        show ((evE c e env st).bind fun x st => asBM x st) = ((evE c e env st).bind fun x st => ((asBM x st).bind fun k st => (if k = true then evAll c [] env else pure false : M Bool) st))
        refine congrArg (R.bind _) (funext fun x => funext fun st1 => ?_)
        rw [← ok_id (asBM x st1)]
        rw [assoc_b]
        refine congrArg (R.bind _) (funext fun b => funext fun st2 => ?_)
        cases b with
        | false => rfl
        | true => rw [evAll]; rfl
      | _ :: _ :: _, _ :: _ :: _, _, h6, _, _ => simp at h6
      | [], _ :: _, hl, _, _, _ => simp at hl
      | _ :: _, [], hl, _, _, _ => simp at hl
      | [_], _ :: _ :: _, hl, _, _, _ => simp at hl
      | _ :: _ :: _, [_], hl, _, _, _ => simp at hl
    refine .not ?_ rfl (by rw [Ex.tst])
    rw [fun_of fun env => by rw [evE]]
    exact r_compH C (src_pi C h1 L) h4 (fun s H Cc cl fp => pg_ok (blk_ctx C h4 s H Cc cl fp) tg etg h5) ht (fun s H Cc cl fp => (ex_ok elt (blk_ctx C h4 s H Cc cl fp) eelt h9).pe) (folded_of h3)
  | .listOf sk src, X, sc, fn, C, ee, h => by
    obtain ⟨p0, p, es, pos, pos0, rfl, rfl, h1, h2, h3, h4, h5, h6⟩ := lof_of h
    have o : OnlyP (evE c (.listOf .rng src)) := by
      rw [fun_of fun env => by rw [evE]]
      exact only_rngD
    refine .raw o ?_ trivial
    rw [fun_of fun env => by rw [evE]]
    by_cases h2' : src.length ≤ 2
    · exact r_listRg C.calm (gl_of C h1) (bl_of C (by simp [bifNames])) (exs_ok src C es h6) h3 h2' h5 (gl_of C h2) (bl_of C (by simp))
    · exact r_listRg3 C.calm (gl_of C h1) (bl_of C (by simp [bifNames])) (exs_ok src C es h6) h3 (by omega) (gl_of C h2) (bl_of C (by simp))
  | .listZ src, X, sc, fn, C, ee, h => by
    obtain ⟨p0, p, e, f, pos, pos0, rfl, h1, h2, h3, h4, h5⟩ := lz_of h
    have o : OnlyP (evE c (.listZ src)) := by
      rw [fun_of fun env => by rw [evE]]
      exact only_zipD
    refine .raw o ?_ trivial
    rw [fun_of fun env => by rw [evE]]
    have L := exs_ok src C [e, f] h5
    exact r_listZip C.calm (gl_of C h1) (bl_of C (by simp [bifNames])) (gl_of C h2) (bl_of C (by simp)) (L.pa (by simp [h3, h4])) L.len (star_of h3 _ _) (plain_of (X := X) (es := [_]) (by simp [h4])).none
  | .dictP e, X, sc, fn, C, ee, h => by
    obtain ⟨p0, ea, pos, rfl, h1, h2, h3⟩ := dp_of h
    refine .val ?_ rfl trivial
    rw [fun_of fun env => by rw [evE]]
    exact r_dictP C.calm (gl_of C h1) (bl_of C (by simp [tyNames])) h2 (ex_ok e C ea h3).pe
  | .dictZ src, X, sc, fn, C, ee, h => by
    obtain ⟨p0, p, e, f, pos, pos0, rfl, h1, h2, h3, h4, h5⟩ := dz_of h
    refine .val ?_ rfl trivial
    rw [fun_of fun env => by rw [evE]]
    have L := exs_ok src C [e, f] h5
    exact r_dictZip C.calm (gl_of C h1) (bl_of C (by simp [tyNames])) (gl_of C h2) (bl_of C (by simp)) (L.pa (by simp [h3, h4])) L.len (star_of h3 _ _) (plain_of (X := X) (es := [_]) (by simp [h4])).none
  | .getD d kk x, X, sc, fn, C, ee, h => by
    obtain ⟨ea, ek, ex, apos, pos, rfl, h1, h2, h3, h4, h5, h6⟩ := gd_of h
    have u := C.units
    refine .val ?_ rfl trivial
    rw [fun_of fun env => by rw [evE]]
    exact r_get2 (by omega) h2 h1 h3 (ex_ok d C ea h4).pe (ex_ok kk C ek h5).pe (ex_ok x C ex h6).pe
  | .tupOf sk src, X, sc, fn, C, ee, h => by
    obtain ⟨p0, p, es, pos, pos0, rfl, rfl, h1, h2, h3, h4, h5, h6⟩ := tof_of h
    refine .val ?_ rfl trivial
    rw [fun_of fun env => by rw [evE]]
    exact r_tupRg C.calm (gl_of C h1) (bl_of C (by simp [bifNames])) (exs_ok src C es h6) h3 h4 h5 (gl_of C h2) (bl_of C (by simp))
  | .allEq a b i src, X, sc, fn, C, ee, h => by
    obtain ⟨p, xa, q1, q2, q3, xb, q4, q5, q6, q7, x, px, yi, qi, gs, gpos, pos, rfl, h1, h3, h6, h7⟩ := allEq_of h
    have z := r_allEq (q1 := q1) (q2 := q2) (q3 := q3) (q4 := q4) (q5 := q5) (q6 := q6) (q7 := q7) (px := px) (gpos := gpos) (p := p) (pos := pos) C h1 h3 h6 (ex_ok src C _ h7).pe
    refine EOk.val ?_ rfl trivial
    rw [fun_of fun env => by rw [evE]]
    exact z
  | .sset e, X, sc, fn, C, ee, h => by
    obtain ⟨ea, p, p2, pos, pos2, rfl, h1, h2, h3, h4⟩ := sset_of h
    have o : OnlyP (evE c (.sset e)) := by
      rw [fun_of fun env => by rw [evE]]
      exact only_sset
    refine .raw o ?_ trivial
    rw [fun_of fun env => by rw [evE]]
    have u := C.units
    exact r_sset C.calm (by omega) (gl_of C h1) (bl_of C (by simp [bifNames])) (gl_of C h2) (bl_of C (by simp)) h3 (ex_ok e C ea h4).pe
  | .dcomp tg sk src key val, X, sc, fn, C, ee, h => by
    obtain ⟨kx, vx, etg, eit, scope, pos, rfl, h1, h2, h3, h4, h5, h6, h7⟩ := dcomp_of h
    have L := exs_ok src C (srcEs sk eit) h2
    refine .not ?_ rfl (by rw [Ex.tst])
    rw [fun_of fun env => by rw [evE]]
    exact r_dcomp C (src_pi C h1 L) h4 (fun s H Cc cl fp => pg_ok (blk_ctx C h4 s H Cc cl fp) tg etg h5) (fun s H Cc cl fp => (ex_ok key (blk_ctx C h4 s H Cc cl fp) kx h6).pe) (fun s H Cc cl fp => (ex_ok val (blk_ctx C h4 s H Cc cl fp) vx h7).pe) (folded_of h3)
theorem exo_ok : ∀ (o : Option Ex) {X : Cx} {sc : Scope} {fn : Str → Bool} (C : Ctx X c G N sc fn k) (e : Option Expr), chkO c G N o sc fn e = true → PO X e (tO X (evO c o))
  | none, X, sc, fn, C, e, h => by
    cases e with
    | none =>
      have e : evO c none = fun _ => pure none := by funext env; rw [evO]
      rw [e]
      exact o_none
    | some _ => unfold chkO at h; cases h
  | some x, X, sc, fn, C, e, h => by
    cases e with
    | none => unfold chkO at h; cases h
    | some e =>
      unfold chkO at h
      have e1 : evO c (some x) = partM (evE c x) := by funext env; rw [evO]; rfl
      rw [e1]
      exact o_some (ex_ok x C e h).pe
theorem exs_ok : ∀ (l : List Ex) {X : Cx} {sc : Scope} {fn : Str → Bool} (C : Ctx X c G N sc fn k) (es : List Expr), chkL c G N l sc fn es = true → LOk X c l es
  | [], X, sc, fn, C, es, h => by
    cases es with
    | nil => exact l_none
    | cons _ _ => unfold chkL at h; cases h
  | x :: l, X, sc, fn, C, es, h => by
    cases es with
    | nil => unfold chkL at h; cases h
    | cons e es =>
      unfold chkL at h
      rw [Bool.and_eq_true] at h
      exact l_two (ex_ok x C e h.1) (exs_ok l C es h.2)
end
end
end PB
set_option maxRecDepth 100000
set_option maxHeartbeats 2000000
/-! Pb, part 21: what statement of the text answers to what of the language. -/
namespace PB
open PySem PySem.Spec PyProof.Rows L2
/-- a value that a store takes as it is made -/
def swapB (sc : Scope) (v t : Expr) : Bool := match v, t with
  | .ListComp _ _ scope p, .Name y py => sc.names.lookup y == some .local && py.line == p.line && !(scope.names.any fun (n, k) => n == y && (k == .local || k == .cell))
  | _, _ => false
def notComp : Expr → Bool
  | .ListComp _ _ _ _ => false
  | .SetComp _ _ _ _ => false
  | .DictComp _ _ _ _ _ => false
  | _ => true
def notSC : Expr → Bool
  | .SetComp _ _ _ _ => false
  | .DictComp _ _ _ _ _ => false
  | _ => true
/-- no pair for a pair -/
def isTL : Expr → Bool
  | .Tuple _ _ _ => true
  | .List _ _ => true
  | _ => false
def folded : Expr → Bool
  | .Tuple vs _ _ => vs.all (foldedForSure 8)
  | _ => false
/-- a target that is no plain local name -/
def notLoc (sc : Scope) : Expr → Bool
  | .Name y _ => !(sc.names.lookup y == some .local)
  | _ => true
def anyCell (sc : Scope) : Expr → Bool
  | .Tuple ts _ _ => ts.any (notLoc sc)
  | _ => false
/-- four names and more -/
def many4 : Expr → Bool
  | .Tuple ts _ _ => !(ts.length == 2 || ts.length == 3)
  | _ => false
def noPair (sc : Scope) (v t : Expr) : Bool := !(isTL t && isTup v) || folded v || anyCell sc t || many4 t
def locals (N : List Str) (sc : Scope) : List Nat → List Expr → Nat → Bool
  | [], [], _ => true
  | i :: is, .Name y p :: es, l => decide (N[i]? = some y) && (sc.names.lookup y == some .local) && (p.line == l) && locals N sc is es l
  | _, _, _ => false
/-- a pair whose names are no plain locals: a tuple is made and taken apart -/
def parC (N : List Str) (sc : Scope) (fn : Str → Bool) (ts : List Nat) (t v : Expr) : Bool := match ts, t, v with
  | [i, j], .Tuple [x, y] _ _, .Tuple [a, b] _ _ => noPair sc v t && chkTg N sc fn (.tup [.one i, .one j]) t && notStar a && notStar b
  | [i, j, k, l], .Tuple [x, y, z, w] _ _, .Tuple [a, b, d, e] _ _ => noPair sc v t && chkTg N sc fn (.tup [.one i, .one j, .one k, .one l]) t && notStar a && notStar b && notStar d && notStar e
  | _, _, _ => false
mutual
def chkX (c : Cfg) (sc : Scope) (x : String) (n : Str) : Sx → Expr → Bool
  | .cst d, .Constant k _ _ => constIs d k
  | .fld, .Attribute (.Name y _) f _ => decide (y = n) && decide (f = fldOf (Str.ofString x)) && !(x == "TornError")
  | .isi d, .Call (.Name y _) [.Name z _, .Name u _] [] _ => decide (y = Str.ofString "isinstance") && glB sc y && decide (z = n) && decide (u = Str.ofString d) && glB sc u && nameOk u && c.xs.any fun q => q.1 == d
  | .lst l, .List es _ => es.all notStar && decide (l.length ≤ 100) && chkXs c sc x n l es
  | .ife (.isi d) a b, .IfExp et ea eb _ => chkX c sc x n (.isi d) et && chkX c sc x n a ea && chkX c sc x n b eb
  | _, _ => false
def chkXs (c : Cfg) (sc : Scope) (x : String) (n : Str) : List Sx → List Expr → Bool
  | [], [] => true
  | s :: l, e :: es => chkX c sc x n s e && chkXs c sc x n l es
  | _, _ => false
end
mutual
def chkS (c : Cfg) (G : List (String × P)) (N : List Str) (sc : Scope) (fn : Str → Bool) : St → Stmt → Bool
  | .set tg e, .Assign [t] v _ => notSC v && noPair sc v t && chkTg N sc fn tg t && chkE c G N e sc fn v
  | .par ts es, .Assign [.Tuple tes kt pt] (.Tuple ves k2 p2) _ => ((decide (ts.Nodup) && locals N sc ts tes ((tes.head?.map (·.pos.line)).getD 0) && (decide (ts.length = 2) || decide (ts.length = 3)) && decide (tes.length = ves.length) && ves.all notStar &&
      !(ves.all (foldedForSure 8)) && !(ves.all (constantsAlone 8))) || parC N sc fn ts (.Tuple tes kt pt) (.Tuple ves k2 p2)) && chkL c G N es sc fn ves
  | .seti o i e, .Assign [.Subscript eo ei _] v _ => notSlice ei && notSC v && chkE c G N e sc fn v && chkE c G N o sc fn eo && chkE c G N i sc fn ei
  | .expr e, .Expr v _ => notComp v && chkE c G N e sc fn v
  | .ret e, .Return (some v) _ => chkE c G N e sc fn v
  | .retN, .Return none _ => true
  | .ite t a b, .If et ea eb _ => t.tst && chkE c G N t sc fn et && chkSs c G N sc fn a ea && chkSs c G N sc fn b eb
  | .for tg k src body, .For etg eit eb [] _ => srcForm sc k etg eit && notSet eit && chkL c G N src sc fn (srcEs k eit) && chkTg N sc fn tg etg && chkSs c G N sc fn body eb
  | .while _ t body, .While et eb [] _ => t.tst && chkE c G N t sc fn et && chkSs c G N sc fn body eb
  | .brk, .Break _ => true
  | .cont, .Continue _ => true
  | .pass, .Pass _ => true
  | .raise x [e], .Raise (some (.Call (.Name y _) [ee] [] _)) none _ => decide (y = Str.ofString x) && glB sc y && nameOk y && notStar ee && c.xs.contains (x, true) && chkL c G N [e] sc fn [ee]
  | .raise x [], .Raise (some (.Call (.Name y _) [] [] _)) none _ => decide (y = Str.ofString x) && glB sc y && nameOk y && c.xs.contains (x, false)
  | .tryR body x none (.cst d), .Try eb [.ExceptHandler (some (.Name y _)) none [.Return (some (.Constant k _ _)) _] _] [] [] _ =>
    decide (y = Str.ofString x) && glB sc y && nameOk y && (c.xs.any fun q => q.1 == x) && constIs d k && chkSs c G N sc fn body eb
  | .tryR body x (some i) sx, .Try eb [.ExceptHandler (some (.Name y _)) (some n) [.Return (some es) _] _] [] [] _ =>
    decide (y = Str.ofString x) && glB sc y && nameOk y && (c.xs.any fun q => q.1 == x) && decide (N[i]? = some n) && (sc.names.lookup n == some .local) && nameOk n && chkX c sc x n sx es && chkSs c G N sc fn body eb
  | .hole, _ => true
  | .lockS _ s, e => chkS c G N sc fn s e
  | .pass, .Expr (.Constant (.str _) _ _) _ => true
  | _, _ => false
def chkSs (c : Cfg) (G : List (String × P)) (N : List Str) (sc : Scope) (fn : Str → Bool) : List St → List Stmt → Bool
  | [], [] => true
  | s :: r, e :: es => chkS c G N sc fn s e && chkSs c G N sc fn r es
  | _, _ => false
end
section
variable {X : Cx} {c : Cfg} {G : List (String × P)} {N : List Str} {sc : Scope} {fn : Str → Bool} {k : Nat}
theorem _root_.L2.PS.imp {X : Cx} {e : Stmt} {t t' : TS} (h : PS X e t) (q : ∀ D σ H, t' D σ H → t D σ H) : PS X e t' := ⟨fun pins s σ H D I z => h.run pins s σ H D I (q D σ H z)⟩
theorem _root_.L2.PSs.imp {X : Cx} {e : List Stmt} {t t' : TS} (h : PSs X e t) (q : ∀ D σ H, t' D σ H → t D σ H) : PSs X e t' := ⟨fun pins s σ H D I z => h.run pins s σ H D I (q D σ H z)⟩
theorem swaps_is (C : Ctx X c G N sc fn k) {v t : Expr} {l : Nat} (h : notSC v = true) : swapsWith v (some t) l X.env = pure (swapB sc v t) := by
  cases v with
  | ListComp a b scope p =>
    cases t with
    | Name y py =>
      have hb : X.env.blockKind = .function := by
        unfold Env.blockKind
        rw [C.hsc, C.kind]
        rfl
      have hk : X.env.kindOf y = sc.names.lookup y := by
        rw [← C.hsc]
        rfl
      unfold swapsWith swapB
      simp only [hb, hk]
      rfl
    | _ => rfl
  | SetComp _ _ _ _ => cases h
  | DictComp _ _ _ _ _ => cases h
  | _ => rfl
theorem pair_folded {t : Expr} {vs : List Expr} {k : Nat} {p : Pos} {env : PySem.Env} (h : vs.all (foldedForSure 8) = true) : swappedStores [t] (.Tuple vs k p) env = pure none := by
  cases t with
  | Tuple _ _ _ =>
    unfold swappedStores
    simp only [h]
    repeat (first | rfl | split)
  | List _ _ =>
    unfold swappedStores
    simp only [h]
    repeat (first | rfl | split)
  | _ => rfl
theorem fm_lt {α β : Type} {f : α → Option β} : ∀ {l : List α}, (l.any fun x => (f x).isNone) = true → (l.filterMap f).length < l.length
  | [], h => by simp at h
  | x :: r, h => by
    cases e : f x with
    | none =>
      rw [List.filterMap_cons_none e]
      have := List.length_filterMap_le f r
      simp
      omega
    | some y =>
      rw [List.filterMap_cons_some e]
      have : (r.any fun x => (f x).isNone) = true := by simpa [e] using h
      have hlt := fm_lt this
      show (r.filterMap f).length + 1 < r.length + 1
      omega
theorem pair_cell {ts vs : List Expr} {k k2 : Nat} {p p2 : Pos} {env : PySem.Env} (h : ts.any (notLoc env.scope) = true) : swappedStores [.Tuple ts k2 p2] (.Tuple vs k p) env = pure none := by
  have hn : ∀ l : Nat, (ts.filterMap fun
    | .Name id pos => if env.kindOf id == some .local && pos.line == l then some id else none
    | _ => none).length ≠ ts.length := fun l => by
    refine Nat.ne_of_lt (fm_lt ?_)
    obtain ⟨x, hx, hy⟩ := List.any_eq_true.mp h
    refine List.any_eq_true.mpr ⟨x, hx, ?_⟩
    cases x with
    | Name id pos =>
      have hk : (env.kindOf id == some .local) = false := by
        show (env.scope.names.lookup id == some .local) = false
        simpa [notLoc] using hy
      simp only [hk, Bool.false_and]
      rfl
    | _ => rfl
  have hn := hn ((ts.head?.map (·.pos.line)).getD 0)
  unfold swappedStores
  dsimp only
  split
  · rfl
  · split
    · rfl
    · split
      · rfl
      · rename_i h3
        exact absurd (by rw [Bool.or_eq_true]; exact .inl (bne_iff_ne.mpr hn)) h3
theorem pair_many {ts vs : List Expr} {k k2 : Nat} {p p2 : Pos} {env : PySem.Env} (h : (!(ts.length == 2 || ts.length == 3)) = true) : swappedStores [.Tuple ts k2 p2] (.Tuple vs k p) env = pure none := by
  unfold swappedStores
  dsimp only
  rw [if_pos (by rw [h]; rfl)]
theorem pair_none {v t : Expr} {env : PySem.Env} {sc : Scope} (hs : env.scope = sc) (h : noPair sc v t = true) : swappedStores [t] v env = pure none := by
  subst hs
  cases t with
  | Tuple ts k2 p2 =>
    cases v with
    | Tuple vs k p =>
      have h : (vs.all (foldedForSure 8) = true ∨ ts.any (notLoc env.scope) = true) ∨ (!(ts.length == 2 || ts.length == 3)) = true := by
        unfold noPair at h
        rw [Bool.or_eq_true, Bool.or_eq_true, Bool.or_eq_true] at h
        rcases h with ((h | h) | h) | h
        · simp [isTL, isTup] at h
        · exact .inl (.inl h)
        · exact .inl (.inr h)
        · exact .inr h
      rcases h with (h | h) | h
      · exact pair_folded h
      · exact pair_cell h
      · exact pair_many h
    | _ => rfl
  | List _ _ =>
    cases v with
    | Tuple _ _ _ => exact pair_folded (by simpa [noPair, isTL, isTup, folded, anyCell, many4] using h)
    | _ => rfl
  | _ => cases v <;> rfl
end
end PB
set_option maxRecDepth 100000
set_option maxHeartbeats 4000000
/-! Pb, part 22: statements do what the interpreter says. -/
namespace PB
open PySem PySem.Spec PyProof.Rows L2
section
variable {X : Cx} {c : Cfg} {G : List (String × P)} {N : List Str} {sc : Scope} {fn : Str → Bool} {k : Nat} {pos : Pos}
/-- statements, then the rest -/
theorem stepS {m : Env → M (Fl × Env)} {α : Type} {f : Fl × Env → Sto → R α} {Qf : α → Sto → Prop} {ρ0 ρ : Pl} {H0 H : Hp} {env : Env} {σ : List (Option V)} {st : Sto} {D : Ends} (n : Now X ρ0 H0 ρ H env σ st) (h : ((m env st).bind f).holds Qf (Er X ρ0 H0))
    (z : ∀ q st1 ρ1 H1 σ1, Now X ρ0 H0 ρ1 H1 q.2 σ1 st1 → Ext ρ H ρ1 H1 → σ1.length = σ.length → (f q st1).holds Qf (Er X ρ0 H0) → match q.1 with
      | .nx => D.nx σ1 H1
      | .bk => D.bk σ1 H1
      | .ct => D.ct σ1 H1
      | .rt d => ∀ x, RD X.K H1 ρ1 x d → D.rt x H1) : tS X m D σ H :=
  ⟨ρ, env, st, n.re, n.rs, holds_mono (holds_bind.mp h) (fun q st1 h1 ρ1 H1 σ1 e S E l => z q st1 ρ1 H1 σ1 ⟨n.ext.trans e, E, S⟩ e l h1) fun _ _ _ h1 => h1.ext n.ext⟩
theorem new_core {m : Env → M D} {σ : List (Option V)} {H : Hp} {Q : VK} (q : tM X (fun env => do
    let x ← m env
    newM x) σ H Q) : tR X m σ H Q := by
  obtain ⟨ρ, env, st, hE, hS, q⟩ := q
  refine ⟨ρ, env, st, hE, hS, ?_⟩
  have q : ((m env st).bind fun x st => newM x st).holds (Post X.K ρ H Q) (Er X ρ H) := q
  cases e0 : m env st with
  | bad => rw [e0] at q; exact q.elim
  | err _ _ _ => rw [e0] at q; exact q
  | ok v st1 =>
    rw [e0] at q
    obtain ⟨ds, rfl, q⟩ := newM_holds (show (newM v st1).holds (Post X.K ρ H Q) (Er X ρ H) from q)
    refine ⟨.list ds, rfl, fun ρ1 H1 e S H2 sm xs p r n => ?_⟩
    have S2 := S.same sm
    have e2 : Ext ρ H (ρ1.add p) (upd H2 p (.lst xs)) := (e.trans (Ext.same sm)).trans (ext_add n)
    refine q _ _ (.ref p) e2 (S2.add n ⟨xs, upd_same, RDs.ofP (r.ext (ext_add n))⟩ fun d hd => ?_) (.ref ?_)
    · obtain ⟨x, _, rfl⟩ := List.mem_map.mp hd
      trivial
    · show (ρ1.l ++ [p])[st1.length]? = some p
      rw [← S2.len]
      simp
/-! ### stores -/
variable {ev et : Expr} {m : Env → M D} {tg : Tg}
def setS (tg : Tg) (m : Env → M D) : Env → M (Fl × Env) := fun env => do
  let x ← m env
  let env' ← need (asgD tg x env)
  pure (.nx, env')
theorem set_core {Dn : Ends} {σ : List (Option V)} {H : Hp} (q : tS X (setS tg m) Dn σ H) : tAsg (tM X m) (gT X tg) Dn σ H := by
  obtain ⟨ρ, env, st, hE, hS, q⟩ := q
  refine tM_mono (step (Now.start hE hS) (show ((m env st).bind fun x st => ((need (asgD tg x env) st).bind fun e st => .ok (Fl.nx, e) st)).holds (PostS X.K ρ H σ.length Dn) (Er X ρ H) from q)) ?_
  rintro x H1 ⟨ρ1, st1, v, n1, rx, e1, q⟩
  obtain ⟨env', ee, q⟩ := needed q
  exact ⟨ρ1, env, st1, v, env', n1.re, n1.rs, rx, ee, fun σ' h b => q ρ1 H1 σ' n1.ext n1.rs h b.1⟩
theorem s_set (C : Ctx X c G N sc fn k) (h : PE X ev (tM X m)) (hg : chkTg N sc fn tg et = true) (h1 : notSC ev = true) (h2 : noPair sc ev et = true) (h3 : swapB sc ev et = false) : PS X (.Assign [et] ev pos) (tS X (setS tg m)) := by
  refine (ps_asg (pos := pos) h (pd_ok C tg et hg) ?_ (pair_none C.hsc h2) (by rw [asg_each hg]; rfl)).imp fun Dn σ H q => set_core q
  show swapsWith ev (some et) pos.line X.env = _
  rw [swaps_is C h1, h3]
/-- name = [..], stored as it is made -/
theorem s_setLc (C : Ctx X c G N sc fn k) {elt etg eit : Expr} {ifs : List Expr} {scope : Scope} {p : Pos} {i : Nat} {y : Str} {py : Pos} {wi : TI} {g : TG} {tt : TT} {te : TE} {own : List (Str × Nat)}
    (hsw : swapB sc (.ListComp elt [⟨etg, eit, ifs, 0⟩] scope p) (.Name y py) = true) (hy : N[i]? = some y) (hi : PI X etg eit wi) (ok : BlkOk X.N X.env.scope scope own)
    (hg : ∀ (s : Shared) (H : Hp) (Cc : Addr) (cl : List (Str × Addr)) (fp : List Addr), PG (X.blk s H scope (compEnvC scope cl Cc X.env) fp) etg g) (ht : ∀ (s : Shared) (H : Hp) (Cc : Addr) (cl : List (Str × Addr)) (fp : List Addr), PTs (X.blk s H scope (compEnvC scope cl Cc X.env) fp) ifs tt)
    (he : ∀ (s : Shared) (H : Hp) (Cc : Addr) (cl : List (Str × Addr)) (fp : List Addr), PE (X.blk s H scope (compEnvC scope cl Cc X.env) fp) elt te) (hs : ∀ x, foldedSetIterable eit X.env x = pure x) :
    PS X (.Assign [.Name y py] (.ListComp elt [⟨etg, eit, ifs, 0⟩] scope p) pos) (tAsg (tLc wi g tt te (own.map (·.2))) (gName i)) := by
  have hl : sc.names.lookup y = some .local := by
    unfold swapB at hsw
    simp only [Bool.and_eq_true, beq_iff_eq] at hsw
    exact hsw.1.1
  exact ps_setLc C.calm (by rw [C.hN]; exact C.nd) (by rw [C.hN]; exact hy) (by rw [C.hsc]; exact hl) (by rw [swaps_is C rfl, hsw]) hi ok hg ht he hs
theorem name_core {i : Nat} {Dn : Ends} {σ : List (Option V)} {H : Hp} (q : tS X (setS (.one i) m) Dn σ H) : tM X m σ H fun x H1 => gName i x σ H1 Dn.nx := by
  refine tM_mono (set_core q) fun x H1 q => ?_
  obtain ⟨ρ, env, st, d, env', hE, hS, r, e, q⟩ := q
  unfold asgD at e
  have e : (if i < env.length then some (env.set i (some d)) else none) = some env' := by
    cases d <;> exact e
  split at e
  · cases e
    exact q _ (hE.set r) (But'.set (by rw [slots_one]; simp))
  · cases e
/-! ### a, b = x, y -/
def parS (ts : List Nat) (ml : Env → M (List D)) : Env → M (Fl × Env) := fun env => do
  let xs ← ml env
  let env' ← need (setAll ts xs env)
  pure (.nx, env')
variable {ml : Env → M (List D)}
theorem par_core {ts : List Nat} {Dn : Ends} {σ : List (Option V)} {H : Hp} (q : tS X (parS ts ml) Dn σ H) : tL X ml σ H fun vs H1 => ∃ ρ1 ds env env', RE X.K H1 ρ1 env σ ∧ RDs X.K H1 ρ1 vs ds ∧ setAll ts ds env = some env' ∧ ∀ σ', RE X.K H1 ρ1 env' σ' → σ'.length = σ.length → Dn.nx σ' H1 := by
  obtain ⟨ρ, env, st, hE, hS, q⟩ := q
  refine tL_mono (stepL (Now.start hE hS) (show ((ml env st).bind fun x st => ((need (setAll ts x env) st).bind fun e st => .ok (Fl.nx, e) st)).holds (PostS X.K ρ H σ.length Dn) (Er X ρ H) from q)) ?_
  rintro x H1 ⟨ρ1, st1, v, n1, rx, e1, q⟩
  obtain ⟨env', ee, q⟩ := needed q
  exact ⟨ρ1, v, env, env', n1.re, rx, ee, fun σ' h l => q ρ1 H1 σ' n1.ext n1.rs h l⟩
theorem setAll_cons {i : Nat} {is : List Nat} {d : D} {ds : List D} {env env' : Env} (h : setAll (i :: is) (d :: ds) env = some env') : i < env.length ∧ setAll is ds (env.set i (some d)) = some env' := by
  unfold setAll at h
  split at h
  · exact ⟨by assumption, h⟩
  · cases h
theorem setAll_nil {ds : List D} {env env' : Env} (h : setAll [] ds env = some env') : ds = [] ∧ env' = env := by
  cases ds with
  | nil => unfold setAll at h; cases h; exact ⟨rfl, rfl⟩
  | cons _ _ => unfold setAll at h; cases h
theorem setAll_ne {i : Nat} {is : List Nat} {ds : List D} {env env' : Env} (h : setAll (i :: is) ds env = some env') : ∃ d r, ds = d :: r := by
  cases ds with
  | nil => unfold setAll at h; cases h
  | cons d r => exact ⟨d, r, rfl⟩
theorem noStarE {e : Expr} : notStar e = true → (match e with
    | .Starred .. => true
    | _ => false) = false := by
  cases e <;> first | (intro; rfl) | (intro h; cases h)
theorem dups2 {x y : Str} (h : x ≠ y) : [x, y].eraseDups.length = 2 := by
  have e : (y == x) = false := by simpa using Ne.symm h
  simp [List.eraseDups_cons, e]
theorem dups3 {x y z : Str} (h : x ≠ y) (h2 : x ≠ z) (h3 : y ≠ z) : [x, y, z].eraseDups.length = 3 := by
  have e : (y == x) = false := by simpa using Ne.symm h
  have e2 : (z == x) = false := by simpa using Ne.symm h2
  have e3 : (z == y) = false := by simpa using Ne.symm h3
  simp [List.eraseDups_cons, e, e2, e3]
theorem swap2 (C : Ctx X c G N sc fn k) {x y : Str} {a b : Expr} {px py pt pt2 : Pos} {kt k2 : Nat} (hx : sc.names.lookup x = some .local) (hy : sc.names.lookup y = some .local) (hxy : x ≠ y) (hl : px.line = py.line) (ha : notStar a = true) (hb : notStar b = true)
    (hf : [a, b].all (foldedForSure 8) = false) (hcn : [a, b].all (constantsAlone 8) = false) : swappedStores [.Tuple [.Name x px, .Name y py] kt pt] (.Tuple [a, b] k2 pt2) X.env = pure (some [x, y]) := by
  have hbk : X.env.blockKind = .function := by
    unfold Env.blockKind
    rw [C.hsc, C.kind]
    rfl
  have kx : X.env.kindOf x = some .local := by rw [← hx, ← C.hsc]; rfl
  have ky : X.env.kindOf y = some .local := by rw [← hy, ← C.hsc]; rfl
  have na := noStarE ha
  have nb := noStarE hb
  unfold swappedStores
  simp only [List.any_cons, List.any_nil, na, nb, hbk, kx, ky, hf, hcn]
  have e1 : (px.line == px.line) = true := by simp
  have e2 : (py.line == px.line) = true := by simp [hl]
  simp [kx, ky, Expr.pos, hl, dups2 hxy]
  intro h
  exfalso
  rcases h with h | h
  · exact Bool.false_ne_true (na.symm.trans h)
  · exact Bool.false_ne_true (nb.symm.trans h)
theorem swap3 (C : Ctx X c G N sc fn k) {x y z : Str} {a b d : Expr} {px py pz pt pt2 : Pos} {kt k2 : Nat} (hx : sc.names.lookup x = some .local) (hy : sc.names.lookup y = some .local) (hz : sc.names.lookup z = some .local) (hxy : x ≠ y) (hxz : x ≠ z) (hyz : y ≠ z) (hl : py.line = px.line) (hl2 : pz.line = px.line)
    (ha : notStar a = true) (hb : notStar b = true) (hd : notStar d = true)
    (hf : [a, b, d].all (foldedForSure 8) = false) (hcn : [a, b, d].all (constantsAlone 8) = false) : swappedStores [.Tuple [.Name x px, .Name y py, .Name z pz] kt pt] (.Tuple [a, b, d] k2 pt2) X.env = pure (some [x, y, z]) := by
  have hbk : X.env.blockKind = .function := by
    unfold Env.blockKind
    rw [C.hsc, C.kind]
    rfl
  have kx : X.env.kindOf x = some .local := by rw [← hx, ← C.hsc]; rfl
  have ky : X.env.kindOf y = some .local := by rw [← hy, ← C.hsc]; rfl
  have kz : X.env.kindOf z = some .local := by rw [← hz, ← C.hsc]; rfl
  have na := noStarE ha
  have nb := noStarE hb
  have nd := noStarE hd
  unfold swappedStores
  simp only [List.any_cons, List.any_nil, na, nb, nd, hbk, kx, ky, kz, hf, hcn]
  simp [kx, ky, kz, Expr.pos, hl, hl2, dups3 hxy hxz hyz]
  intro h
  exfalso
  rcases h with h | h | h
  · exact Bool.false_ne_true (na.symm.trans h)
  · exact Bool.false_ne_true (nb.symm.trans h)
  · exact Bool.false_ne_true (nd.symm.trans h)
theorem s_par2 (C : Ctx X c G N sc fn k) {i j : Nat} {x y : Str} {a b : Expr} {px py pt pt2 : Pos} {kt k2 : Nat} (hN : N[i]? = some x) (hN2 : N[j]? = some y) (hij : i ≠ j) (hx : sc.names.lookup x = some .local) (hy : sc.names.lookup y = some .local) (hl : py.line = px.line) (ha : notStar a = true) (hb : notStar b = true)
    (hf : [a, b].all (foldedForSure 8) = false) (hcn : [a, b].all (constantsAlone 8) = false) (h : PA X [a, b] (tL X ml)) :
    PS X (.Assign [.Tuple [.Name x px, .Name y py] kt pt] (.Tuple [a, b] k2 pt2) pos) (tS X (parS [i, j] ml)) := by
  have hxy : x ≠ y := fun e => hij (nodup_ix (C.nd) hN (by rw [e]; exact hN2))
  refine (ps_par (pos := pos) C.calm (by rw [C.hN]; exact C.nd) (by rw [C.hN]; exact hN) (by rw [C.hN]; exact hN2) hij (by rw [C.hsc]; exact hx) (by rw [C.hsc]; exact hy) h (swap2 C hx hy hxy hl.symm ha hb hf hcn)).imp fun Dn σ H q => ?_
  refine tL_mono (par_core q) ?_
  rintro vs H1 ⟨ρ1, ds, env, env', hE, rs, es, q⟩
  obtain ⟨d1, r1, rfl⟩ := setAll_ne es
  obtain ⟨l1, es⟩ := setAll_cons es
  obtain ⟨d2, r2, rfl⟩ := setAll_ne es
  obtain ⟨l2, es⟩ := setAll_cons es
  obtain ⟨rfl, rfl⟩ := setAll_nil es
  cases rs with
  | cons a1 rs =>
    cases rs with
    | cons a2 rs =>
      cases rs
      exact ⟨_, _, rfl, q _ ((hE.set a1).set a2) (by simp)⟩
theorem s_par3 (C : Ctx X c G N sc fn k) {i j l : Nat} {x y z : Str} {a b d : Expr} {px py pz pt pt2 : Pos} {kt k2 : Nat} (hN : N[i]? = some x) (hN2 : N[j]? = some y) (hN3 : N[l]? = some z) (hij : i ≠ j) (hil : i ≠ l) (hjl : j ≠ l) (hx : sc.names.lookup x = some .local) (hy : sc.names.lookup y = some .local) (hz : sc.names.lookup z = some .local)
    (hl : py.line = px.line) (hl2 : pz.line = px.line) (ha : notStar a = true) (hb : notStar b = true) (hd : notStar d = true)
    (hf : [a, b, d].all (foldedForSure 8) = false) (hcn : [a, b, d].all (constantsAlone 8) = false) (h : PA X [a, b, d] (tL X ml)) :
    PS X (.Assign [.Tuple [.Name x px, .Name y py, .Name z pz] kt pt] (.Tuple [a, b, d] k2 pt2) pos) (tS X (parS [i, j, l] ml)) := by
  have hxy : x ≠ y := fun e => hij (nodup_ix (C.nd) hN (by rw [e]; exact hN2))
  have hxz : x ≠ z := fun e => hil (nodup_ix (C.nd) hN (by rw [e]; exact hN3))
  have hyz : y ≠ z := fun e => hjl (nodup_ix (C.nd) hN2 (by rw [e]; exact hN3))
  refine (ps_par3 (pos := pos) C.calm (by rw [C.hN]; exact C.nd) (by rw [C.hN]; exact hN) (by rw [C.hN]; exact hN2) (by rw [C.hN]; exact hN3) hij hil hjl (by rw [C.hsc]; exact hx) (by rw [C.hsc]; exact hy) (by rw [C.hsc]; exact hz) h (swap3 C hx hy hz hxy hxz hyz hl hl2 ha hb hd hf hcn)).imp fun Dn σ H q => ?_
  refine tL_mono (par_core q) ?_
  rintro vs H1 ⟨ρ1, ds, env, env', hE, rs, es, q⟩
  obtain ⟨d1, r1, rfl⟩ := setAll_ne es
  obtain ⟨l1, es⟩ := setAll_cons es
  obtain ⟨d2, r2, rfl⟩ := setAll_ne es
  obtain ⟨l2, es⟩ := setAll_cons es
  obtain ⟨d3, r3, rfl⟩ := setAll_ne es
  obtain ⟨l3, es⟩ := setAll_cons es
  obtain ⟨rfl, rfl⟩ := setAll_nil es
  cases rs with
  | cons a1 rs =>
    cases rs with
    | cons a2 rs =>
      cases rs with
      | cons a3 rs =>
        cases rs
        exact ⟨_, _, _, rfl, q _ (((hE.set a1).set a2).set a3) (by simp)⟩
/-- a, b = x, y where a tuple is made -/
theorem s_parC (C : Ctx X c G N sc fn k) {i j : Nat} {x y a b : Expr} {pt1 pt2 : Pos} {kt k2 : Nat} (hp : parC N sc fn [i, j] (.Tuple [x, y] kt pt1) (.Tuple [a, b] k2 pt2) = true) (h : PA X [a, b] (tL X ml)) (hlen : ∀ env st ds st', ml env st = .ok ds st' → ds.length = 2) :
    PS X (.Assign [.Tuple [x, y] kt pt1] (.Tuple [a, b] k2 pt2) pos) (tS X (parS [i, j] ml)) := by
  unfold parC at hp
  simp only [Bool.and_eq_true] at hp
  obtain ⟨⟨⟨h2, hg⟩, ha⟩, hb⟩ := hp
  have hg0 := hg
  unfold chkTg chkTgs at hg
  simp only [Bool.and_eq_true] at hg
  obtain ⟨g1, g2⟩ := hg
  unfold chkTgs at g2
  simp only [Bool.and_eq_true] at g2
  obtain ⟨g2, _⟩ := g2
  have nm : ∀ {i : Nat} {e : Expr}, chkTg N sc fn (.one i) e = true → PG X e (gName i) := fun {i e} g => by
    cases e with
    | Name z p => exact tg_name C (by unfold chkTg at g; exact g)
    | _ => unfold chkTg at g; cases g
  have each1 := asg_each g1 [y] X.env
  have each2 := asg_each g2 [] X.env
  have p2 : PGs X [x, y] (gCons (gName i) (gCons (gName j) gNil)) := pgs_cons (nm g1) (pgs_cons (nm g2) pgs_nil (by rw [each2]; rfl)) (by rw [each1]; rfl)
  have ptt := pg_tup (k := kt) (pos := pt1) C.calm p2 (n := 2) (by rw [each1, each2]; rfl) (by rw [each1, each2]; rfl)
  have hsw : swapsWith (.Tuple [a, b] k2 pt2) (some (.Tuple [x, y] kt pt1)) pos.line X.env = pure false := (swaps_is C rfl).trans rfl
  refine (ps_asg (pos := pos) (pe_tup h) ptt hsw (pair_none C.hsc h2) (by rw [asg_each hg0]; rfl)).imp fun Dn σ H q => ?_
  · obtain ⟨ρ, env, st, hE, hS, q⟩ := q
    refine tL_mono (stepL (Now.start hE hS) (show ((ml env st).bind fun x st => ((need (setAll [i, j] x env) st).bind fun e st => .ok (Fl.nx, e) st)).holds (PostS X.K ρ H σ.length Dn) (Er X ρ H) from q)) ?_
    rintro vs H1 ⟨ρ1, st1, ds, n1, rs, e1, q⟩
    obtain ⟨env', es, q⟩ := needed q
    obtain ⟨d1, r1, rfl⟩ := setAll_ne es
    obtain ⟨l1, es⟩ := setAll_cons es
    obtain ⟨d2, r2, rfl⟩ := setAll_ne es
    obtain ⟨l2, es⟩ := setAll_cons es
    obtain ⟨rfl, rfl⟩ := setAll_nil es
    cases rs with
    | @cons v1 _ _ _ a1 rs =>
      cases rs with
      | @cons v2 _ _ _ a2 rs =>
        cases rs
        have two : (2 : Nat) ≤ sizeLine := by decide
        refine ⟨two, fun p hn => ?_⟩
        have s2 := same_new (o := .tup [v1, v2]) hn
        refine ⟨p, _, rfl, .of upd_same, rfl, _, _, rfl, ?_⟩
        refine ⟨_, _, rfl, ?_⟩
        refine ⟨rfl, ?_⟩
        have hE1 := n1.re.ext (Ext.same s2)
        exact q ρ1 _ _ (n1.ext.trans (Ext.same s2)) (n1.rs.same s2) ((hE1.set (a1.ext (Ext.same s2))).set (a2.ext (Ext.same s2))) (by simp)
theorem s_parC4 (C : Ctx X c G N sc fn k) {i j l m : Nat} {x y z w a b d e : Expr} {pt1 pt2 : Pos} {kt k2 : Nat} (hp : parC N sc fn [i, j, l, m] (.Tuple [x, y, z, w] kt pt1) (.Tuple [a, b, d, e] k2 pt2) = true) (h : PA X [a, b, d, e] (tL X ml)) :
    PS X (.Assign [.Tuple [x, y, z, w] kt pt1] (.Tuple [a, b, d, e] k2 pt2) pos) (tS X (parS [i, j, l, m] ml)) := by
  unfold parC at hp
  simp only [Bool.and_eq_true] at hp
  obtain ⟨⟨⟨⟨⟨h2, hg⟩, ha⟩, hb⟩, hd⟩, he⟩ := hp
  have hg0 := hg
  unfold chkTg chkTgs at hg
  simp only [Bool.and_eq_true] at hg
  obtain ⟨g1, hg⟩ := hg
  unfold chkTgs at hg
  simp only [Bool.and_eq_true] at hg
  obtain ⟨g2, hg⟩ := hg
  unfold chkTgs at hg
  simp only [Bool.and_eq_true] at hg
  obtain ⟨g3, hg⟩ := hg
  unfold chkTgs at hg
  simp only [Bool.and_eq_true] at hg
  obtain ⟨g4, _⟩ := hg
  have nm : ∀ {i : Nat} {e : Expr}, chkTg N sc fn (.one i) e = true → PG X e (gName i) := fun {i e} g => by
    cases e with
    | Name z p => exact tg_name C (by unfold chkTg at g; exact g)
    | _ => unfold chkTg at g; cases g
  have each1 := asg_each g1 [y, z, w] X.env
  have each2 := asg_each g2 [z, w] X.env
  have each3 := asg_each g3 [w] X.env
  have each4 := asg_each g4 [] X.env
  have p2 : PGs X [x, y, z, w] (gCons (gName i) (gCons (gName j) (gCons (gName l) (gCons (gName m) gNil)))) := pgs_cons (nm g1) (pgs_cons (nm g2) (pgs_cons (nm g3) (pgs_cons (nm g4) pgs_nil (by rw [each4]; rfl)) (by rw [each3]; rfl)) (by rw [each2]; rfl)) (by rw [each1]; rfl)
  have ptt := pg_tup (k := kt) (pos := pt1) C.calm p2 (n := 4) (by rw [each1, each2, each3, each4]; rfl) (by rw [each1, each2, each3, each4]; rfl)
  have hsw : swapsWith (.Tuple [a, b, d, e] k2 pt2) (some (.Tuple [x, y, z, w] kt pt1)) pos.line X.env = pure false := (swaps_is C rfl).trans rfl
  refine (ps_asg (pos := pos) (pe_tup h) ptt hsw (pair_none C.hsc h2) (by rw [asg_each hg0]; rfl)).imp fun Dn σ H q => ?_
  · obtain ⟨ρ, env, st, hE, hS, q⟩ := q
    refine tL_mono (stepL (Now.start hE hS) (show ((ml env st).bind fun x st => ((need (setAll [i, j, l, m] x env) st).bind fun e st => .ok (Fl.nx, e) st)).holds (PostS X.K ρ H σ.length Dn) (Er X ρ H) from q)) ?_
    rintro vs H1 ⟨ρ1, st1, ds, n1, rs, e1, q⟩
    obtain ⟨env', es, q⟩ := needed q
    obtain ⟨d1, r1, rfl⟩ := setAll_ne es
    obtain ⟨l1, es⟩ := setAll_cons es
    obtain ⟨d2, r2, rfl⟩ := setAll_ne es
    obtain ⟨l2, es⟩ := setAll_cons es
    obtain ⟨d3, r3, rfl⟩ := setAll_ne es
    obtain ⟨l3, es⟩ := setAll_cons es
    obtain ⟨d4, r4, rfl⟩ := setAll_ne es
    obtain ⟨l4, es⟩ := setAll_cons es
    obtain ⟨rfl, rfl⟩ := setAll_nil es
    cases rs with
    | @cons v1 _ _ _ a1 rs =>
      cases rs with
      | @cons v2 _ _ _ a2 rs =>
        cases rs with
        | @cons v3 _ _ _ a3 rs =>
          cases rs with
          | @cons v4 _ _ _ a4 rs =>
            cases rs
            have four : (4 : Nat) ≤ sizeLine := by decide
            refine ⟨four, fun p hn => ?_⟩
            have s2 := same_new (o := .tup [v1, v2, v3, v4]) hn
            refine ⟨p, _, rfl, .of upd_same, rfl, _, _, rfl, ?_⟩
            refine ⟨_, _, rfl, ?_⟩
            refine ⟨_, _, rfl, ?_⟩
            refine ⟨_, _, rfl, ?_⟩
            refine ⟨rfl, ?_⟩
            have hE1 := n1.re.ext (Ext.same s2)
            exact q ρ1 _ _ (n1.ext.trans (Ext.same s2)) (n1.rs.same s2) ((((hE1.set (a1.ext (Ext.same s2))).set (a2.ext (Ext.same s2))).set (a3.ext (Ext.same s2))).set (a4.ext (Ext.same s2))) (by simp)
/-! ### o[i] = v -/
variable {eo ei : Expr} {mo mi : Env → M D}
def setiS (mo mi m : Env → M D) : Env → M (Fl × Env) := fun env => do
  let v ← m env
  let x ← mo env
  let k ← mi env
  setM x k v
  pure (.nx, env)
theorem rdk_any {K : PySem.W.Frag} {H : Hp} {ρ : Pl} {k : Key} : ∀ {vs : List (Key × V)} {kvs : List (Key × D)}, RDk K H ρ vs kvs → (vs.any fun kv => decide (kv.1 = k)) = (kvs.any fun kv => decide (kv.1 = k))
  | _, _, .nil => rfl
  | _, _, .cons _ q => by simp [rdk_any q]
theorem rdk_map {K : PySem.W.Frag} {H : Hp} {ρ : Pl} {k : Key} {v : V} {d : D} (r : RD K H ρ v d) : ∀ {vs : List (Key × V)} {kvs : List (Key × D)}, RDk K H ρ vs kvs → RDk K H ρ (vs.map fun kv => if kv.1 = k then (kv.1, v) else kv) (kvs.map fun kv => if kv.1 = k then (kv.1, d) else kv)
  | _, _, .nil => .nil
  | _, _, .cons (k := j) h q => by
    simp only [List.map_cons]
    by_cases e : j = k
    · rw [if_pos e, if_pos e]
      exact .cons r (rdk_map r q)
    · rw [if_neg e, if_neg e]
      exact .cons h (rdk_map r q)
theorem rdk_snoc {K : PySem.W.Frag} {H : Hp} {ρ : Pl} {k : Key} {v : V} {d : D} (r : RD K H ρ v d) : ∀ {vs : List (Key × V)} {kvs : List (Key × D)}, RDk K H ρ vs kvs → RDk K H ρ (vs ++ [(k, v)]) (kvs ++ [(k, d)])
  | _, _, .nil => .cons r .nil
  | _, _, .cons h q => .cons h (rdk_snoc r q)
theorem RDk.put {K : PySem.W.Frag} {H : Hp} {ρ : Pl} {k : Key} {v : V} {d : D} (r : RD K H ρ v d) {vs : List (Key × V)} {kvs : List (Key × D)} (h : RDk K H ρ vs kvs) : RDk K H ρ (L2.putK vs k v) (PB.putK k d kvs) := by
  unfold L2.putK PB.putK
  rw [rdk_any h]
  split
  · exact rdk_map r h
  · exact rdk_snoc r h
theorem RDk.length {K : PySem.W.Frag} {H : Hp} {ρ : Pl} : ∀ {vs : List (Key × V)} {kvs : List (Key × D)}, RDk K H ρ vs kvs → vs.length = kvs.length
  | _, _, .nil => rfl
  | _, _, .cons _ q => by simp [RDk.length q]
theorem putK_mem {k : Key} {d : D} {kvs : List (Key × D)} {kv : Key × D} (h : kv ∈ PB.putK k d kvs) : kv.2 = d ∨ kv ∈ kvs := by
  unfold PB.putK at h
  split at h
  · obtain ⟨a, ha, e⟩ := List.mem_map.mp h
    split at e
    · subst e; exact .inl rfl
    · subst e; exact .inr ha
  · rcases List.mem_append.mp h with h | h
    · exact .inr h
    · rw [List.mem_singleton.mp h]; exact .inl rfl
theorem s_seti (C : Ctx X c G N sc fn k) {tpos : Pos} (h : PE X ev (tM X m)) (ho : PE X eo (tM X mo)) (hi : PE X ei (tM X mi)) (hs : notSlice ei = true) (h1 : notSC ev = true) : PS X (.Assign [.Subscript eo ei tpos] ev pos) (tS X (setiS mo mi m)) := by
  have u := C.units
  have rule : ∀ {t : TSet}, PSet X t → PS X (.Assign [.Subscript eo ei tpos] ev pos) (tAsg (tM X m) (gSub (tM X mo) (tM X mi) t)) := fun hst =>
    ps_asg h (pg_sub ho hi hst (by intro v; cases ei <;> first | rfl | cases hs)) (by cases ev <;> first | rfl | cases h1) (by cases ev <;> rfl)
  refine ⟨fun pins s σ H Dn I q => ?_⟩
  obtain ⟨ρ, env, st, hE, hS, q⟩ := q
  have q : ((m env st).bind fun v st => ((mo env st).bind fun x st => ((mi env st).bind fun k st => ((setM x k v st).bind fun _ st => .ok (Fl.nx, env) st)))).holds (PostS X.K ρ H σ.length Dn) (Er X ρ H) := q
  cases e0 : m env st with
  | bad => rw [e0] at q; exact q.elim
  | err _ _ _ => rw [e0] at q; exact (rule set_list).run pins s σ H Dn I (tM_err hE hS e0 q)
  | ok v st1 =>
    rw [e0] at q
    have q : ((mo env st1).bind fun x st => ((mi env st).bind fun k st => ((setM x k v st).bind fun _ st => .ok (Fl.nx, env) st))).holds (PostS X.K ρ H σ.length Dn) (Er X ρ H) := q
    cases e1 : mo env st1 with
    | bad => rw [e1] at q; exact q.elim
    | err _ _ _ =>
      rw [e1] at q
      refine (rule set_list).run pins s σ H Dn I ⟨ρ, env, st, hE, hS, ?_⟩
      rw [e0]
      intro ρ1 H1 x1 ex1 S1 r1
      exact tM_err (hE.ext ex1) S1 e1 (q.ext ex1)
    | ok x st2 =>
      rw [e1] at q
      have q : ((mi env st2).bind fun k st => ((setM x k v st).bind fun _ st => .ok (Fl.nx, env) st)).holds (PostS X.K ρ H σ.length Dn) (Er X ρ H) := q
      cases e2 : mi env st2 with
      | bad => rw [e2] at q; exact q.elim
      | err _ _ _ =>
        rw [e2] at q
        refine (rule set_list).run pins s σ H Dn I ⟨ρ, env, st, hE, hS, ?_⟩
        rw [e0]
        intro ρ1 H1 x1 ex1 S1 r1
        refine ⟨ρ1, env, st1, hE.ext ex1, S1, ?_⟩
        rw [e1]
        intro ρ2 H2 x2 ex2 S2 r2
        exact tM_err ((hE.ext ex1).ext ex2) S2 e2 ((q.ext ex1).ext ex2)
      | ok w st3 =>
        rw [e2] at q
        have q : (((vw w st3).bind fun i st => setD x i v st).bind fun _ st => R.ok (Fl.nx, env) st).holds (PostS X.K ρ H σ.length Dn) (Er X ρ H) := q
        rw [assoc_b] at q
        obtain ⟨i, vi, q⟩ := seen q
        cases x with
        | p _ => exact q.elim
        | ref l =>
          cases v with
          | ref _ => exact q.elim
          | p d =>
            have q : (((getO l st3).bind fun o st => setO l o i d st).bind fun _ st => R.ok (Fl.nx, env) st).holds (PostS X.K ρ H σ.length Dn) (Er X ρ H) := q
            unfold getO at q
            -- three values, known ahead
            have three : ∀ {t : TSet}, PSet X t → (∀ ρ3 H3 x y z, Ext ρ H ρ3 H3 → RS X.K H3 ρ3 st3 → RE X.K H3 ρ3 env σ → RD X.K H3 ρ3 x (.ref l) → RV X.K H3 ρ3 y i → RP X.K H3 ρ3 z d → t x y z H3 fun H4 => Dn.nx σ H4) →
                wpAny (model X.prog X.w) X.A (exec (.Assign [.Subscript eo ei tpos] ev pos) X.env) (SP X pins Dn) X.xe s := by
              intro t hst z
              refine (rule hst).run pins s σ H Dn I ⟨ρ, env, st, hE, hS, ?_⟩
              rw [e0]
              intro ρ1 H1 x1 ex1 S1 r1
              refine ⟨ρ1, env, st1, hE.ext ex1, S1, ?_⟩
              rw [e1]
              intro ρ2 H2 x2 ex2 S2 r2
              refine ⟨ρ2, env, st2, (hE.ext ex1).ext ex2, S2, ?_⟩
              rw [e2]
              intro ρ3 H3 x3 ex3 S3 r3
              have ex := (ex1.trans ex2).trans ex3
              have r1' := (r1.ext ex2).ext ex3
              cases r1' with
              | p r1' => exact z ρ3 H3 x2 x3 x1 ex S3 (hE.ext ex) (r2.ext ex3) (r3.view S3 vi) r1'
            cases eo : st3[l]? with
            | none => rw [eo] at q; exact q.elim
            | some o =>
              rw [eo] at q
              cases o with
              | tup _ => exact q.elim
              | lst xs =>
                cases i with
                | int kk =>
                  have q : (((need (ixN xs.length kk) st3).bind fun j st => R.ok () (st.set l (.lst (xs.set j (.p d))))).bind fun _ st => R.ok (Fl.nx, env) st).holds (PostS X.K ρ H σ.length Dn) (Er X ρ H) := q
                  rw [assoc_b] at q
                  obtain ⟨j, ej, q⟩ := needed q
                  refine three set_list fun ρ3 H3 x y z ex S3 E3 rx ry rz => ?_
                  cases ry
                  cases rx with
                  | @ref a _ hl =>
                    obtain ⟨⟨vs, h1, h2⟩, hb⟩ := S3.ob l _ _ hl eo
                    refine ⟨a, vs, kk, j, rfl, rfl, h1, by rw [h2.length]; exact ej, ?_⟩
                    have e5 : Ext ρ3 H3 ρ3 (upd H3 a (.lst (vs.set j z))) := ext_put (List.mem_of_getElem? hl) h1
                    refine q ρ3 _ σ (ex.trans e5) (put_list S3 hl h1 ((h2.set (.p rz) j).ext e5) (mem_below hb fun y hy => ?_)) (E3.ext e5) rfl
                    rcases List.mem_or_eq_of_mem_set hy with hy | hy
                    · exact .inl hy
                    · exact .inr ⟨d, hy⟩
                | _ => exact q.elim
              | dct w kvs =>
                cases w with
                | false => exact q.elim
                | true =>
                have q : (((need (keyOf i) st3).bind fun kk st => (if kvs.length < sizeLine then putO l (.dct true (PB.putK kk (.p d) kvs)) else stop : M Unit) st).bind fun _ st => R.ok (Fl.nx, env) st).holds (PostS X.K ρ H σ.length Dn) (Er X ρ H) := q
                rw [assoc_b] at q
                obtain ⟨kk, ek, q⟩ := needed q
                split at q
                · rename_i hlt
                  refine three (set_dict (by omega)) fun ρ3 H3 x y z ex S3 E3 rx ry rz => ?_
                  have ry := key_rv ry ek
                  cases rx with
                  | @ref a _ hl =>
                    obtain ⟨⟨vs, h1, h2⟩, hb⟩ := S3.ob l _ _ hl eo
                    refine ⟨a, _, rfl, by rw [ry]; exact DPut.k h1 (by rw [h2.length]; exact hlt), ?_⟩
                    have e5 : Ext ρ3 H3 ρ3 (upd H3 a (.dK (L2.putK vs kk z))) := ext_put (List.mem_of_getElem? hl) h1
                    refine q ρ3 _ σ (ex.trans e5) (S3.put hl h1 ⟨_, upd_same, (h2.put (.p rz)).ext e5⟩ fun kv hkv => ?_) (E3.ext e5) rfl
                    rcases putK_mem hkv with hy | hy
                    · rw [hy]; trivial
                    · exact hb kv hy
                · exact q.elim
end
end PB
set_option maxRecDepth 100000
set_option maxHeartbeats 4000000
/-! Pb, part 23: loops; statements do what the interpreter says. -/
namespace PB
open PySem PySem.Spec PyProof.Rows L2
section
variable {X : Cx} {c : Cfg} {G : List (String × P)} {N : List Str} {sc : Scope} {fn : Str → Bool} {k : Nat} {pos : Pos} {ev et : Expr} {m : Env → M D}
def exprS (m : Env → M D) : Env → M (Fl × Env) := fun env => do
  let _ ← m env
  pure (.nx, env)
theorem s_expr (h : PE X ev (tM X m)) (h1 : notComp ev = true) : PS X (.Expr ev pos) (tS X (exprS m)) := by
  refine (ps_expr h (by cases ev <;> first | rfl | cases h1)).imp fun Dn σ H q => ?_
  obtain ⟨ρ, env, st, hE, hS, q⟩ := q
  refine tM_mono (step (Now.start hE hS) (show ((m env st).bind fun _ st => .ok (Fl.nx, env) st).holds (PostS X.K ρ H σ.length Dn) (Er X ρ H) from q)) ?_
  rintro x H1 ⟨ρ1, st1, v, n1, rx, e1, q⟩
  exact q ρ1 H1 σ n1.ext n1.rs n1.re rfl
def retS (m : Env → M D) : Env → M (Fl × Env) := fun env => do
  let x ← m env
  pure (.rt x, env)
theorem s_ret (h : PE X ev (tM X m)) : PS X (.Return (some ev) pos) (tS X (retS m)) := by
  refine (ps_ret h).imp fun Dn σ H q => ?_
  obtain ⟨ρ, env, st, hE, hS, q⟩ := q
  refine tM_mono (step (Now.start hE hS) (show ((m env st).bind fun x st => .ok (Fl.rt x, env) st).holds (PostS X.K ρ H σ.length Dn) (Er X ρ H) from q)) ?_
  rintro x H1 ⟨ρ1, st1, v, n1, rx, e1, q⟩
  exact q ρ1 H1 σ n1.ext n1.rs n1.re rfl x rx
theorem flow_of {m : Env → M (Fl × Env)} {f : Fl} (hm : ∀ env st, m env st = .ok (f, env) st) {st : Stmt} {t : TS} (h : PS X st t) (z : ∀ {Dn : Ends} {σ H ρ env st}, RE X.K H ρ env σ → RS X.K H ρ st → PostS X.K ρ H σ.length Dn (f, env) st → t Dn σ H) : PS X st (tS X m) := h.imp fun Dn σ H q => by
  obtain ⟨ρ, env, st, hE, hS, q⟩ := q
  rw [hm] at q
  exact z hE hS q
def iteS (mt : Env → M D) (a b : Env → M (Fl × Env)) : Env → M (Fl × Env) := fun env => do
  let x ← mt env
  let k ← asBM x
  if k = true then a env else b env
theorem lastS {ρ0 ρ : Pl} {H0 H : Hp} {env : Env} {σ : List (Option V)} {st : Sto} {m : Env → M (Fl × Env)} {D : Ends} {n0 : Nat} (n : Now X ρ0 H0 ρ H env σ st) (hl : σ.length = n0) (h : (m env st).holds (PostS X.K ρ0 H0 n0 D) (Er X ρ0 H0)) : tS X m D σ H :=
  ⟨ρ, env, st, n.re, n.rs, holds_mono h (fun q st1 h1 ρ1 H1 σ1 e S E l => h1 ρ1 H1 σ1 (n.ext.trans e) S E (l.trans hl)) fun _ _ _ z => z.ext n.ext⟩
theorem s_ite {mt : Env → M D} {ma mb : Env → M (Fl × Env)} {a b : List Stmt} (ht : PT X et (tT X (testM mt))) (ha : PSs X a (tS X ma)) (hb : PSs X b (tS X mb)) : PS X (.If et a b pos) (tS X (iteS mt ma mb)) := by
  refine (ps_if ht ha hb).imp fun Dn σ H q => ?_
  obtain ⟨ρ, env, st, hE, hS, q⟩ := q
  have q : ((testM mt env st).bind fun k st => (if k = true then ma env else mb env : M (Fl × Env)) st).holds (PostS X.K ρ H σ.length Dn) (Er X ρ H) := by
    show (((mt env st).bind fun x st => asBM x st).bind _).holds _ _
    rw [assoc_b]
    exact q
  refine tT_mono (stepT (Now.start hE hS) q) ?_
  rintro kk H1 ⟨ρ1, st1, n1, e1, q⟩
  cases kk with
  | true => exact lastS n1 rfl q
  | false => exact lastS n1 rfl q
noncomputable def forS (sk : SK) (ml : Env → M (List D)) (tg : Tg) (mb : Env → M (Fl × Env)) : Env → M (Fl × Env) := fun env => do
  let xs ← ml env
  let items ← srcM sk xs
  forL items.2 (fun d env => do
    let e1 ← need (asgP tg d env)
    mb e1) items.1 env
theorem forL_nil {g : Sto → Prop} {f : P → Env → M (Fl × Env)} {env : Env} {st : Sto} {Qf : Fl × Env → Sto → Prop} {E : EE} (h : (forL g f [] env st).holds Qf E) : g st ∧ Qf (.nx, env) st := by
  unfold forL at h
  split at h
  · exact ⟨by assumption, h⟩
  · exact h.elim
theorem forL_cons {g : Sto → Prop} {f : P → Env → M (Fl × Env)} {d : P} {r : List P} {env : Env} {st : Sto} {Qf : Fl × Env → Sto → Prop} {E : EE} (h : (forL g f (d :: r) env st).holds Qf E) : g st ∧ ((f d env st).bind fun q st => match q with
    | (.nx, env') => forL g f r env' st
    | (.ct, env') => forL g f r env' st
    | (.bk, env') => .ok (.nx, env') st
    | (.rt v, env') => .ok (.rt v, env') st).holds Qf E := by
  unfold forL at h
  split at h
  · exact ⟨by assumption, h⟩
  · exact h.elim
theorem s_for (C : Ctx X c G N sc fn k) (hp : PassesOwn (model X.prog X.w) X.A X.env X.xe) {etg eit : Expr} {body : List Stmt} {sk : SK} {ml : Env → M (List D)} {tg : Tg} {mb : Env → M (Fl × Env)} (hi : PI X etg eit (tI X (srcW sk ml))) (hg : PG X etg (gP X tg)) (hb : PSs X body (tS X mb))
    (hs : ∀ x, foldedSetIterable eit X.env x = pure x) : PS X (.For etg eit body [] pos) (tS X (forS sk ml tg mb)) := by
  refine (ps_for hp C.calm hi hg hb hs).imp fun Dn σ H q => ?_
  obtain ⟨ρ, env, st, hE, hS, q⟩ := q
  have q : ((srcW sk ml env st).bind fun items st => forL items.2 (fun d env => do
      let e1 ← need (asgP tg d env)
      mb e1) items.1 env st).holds (PostS X.K ρ H σ.length Dn) (Er X ρ H) := by
    show (((ml env st).bind fun xs st => srcM sk xs st).bind _).holds _ _
    rw [assoc_b]
    exact q
  refine ⟨ρ, env, st, hE, hS, holds_mono (holds_bind.mp q) (fun items st1 q ρ1 H1 J ex1 S1 src => ?_) fun _ _ _ z => z⟩
  refine ⟨fun i m σ' H' => i ≤ items.1.length ∧ m = items.1.length - i ∧ σ'.length = σ.length ∧ ∃ ρi envi sti, Ext ρ1 H1 ρi H' ∧ RE X.K H' ρi envi σ' ∧ RS X.K H' ρi sti ∧
    (forL items.2 (fun d env => do
      let e1 ← need (asgP tg d env)
      mb e1) (items.1.drop i) envi sti).holds (PostS X.K ρ H σ.length Dn) (Er X ρ H), ⟨items.1.length, ?_⟩, ?_⟩
  · exact ⟨Nat.zero_le _, rfl, rfl, ρ1, env, st1, .refl, hE.ext ex1, S1, q⟩
  · rintro i m σ' H' ⟨hle, rfl, hlen, ρi, envi, sti, exi, Ei, Si, q⟩
    by_cases hi : i < items.1.length
    · rw [List.drop_eq_getElem_cons hi] at q
      obtain ⟨hgi, q⟩ := forL_cons q
      refine .inr ⟨src.go ρi H' sti i exi Si hgi hi, fun σ'' H'' => _, fun σ'' H'' w => ⟨items.1.length - (i + 1), by omega, w⟩, fun x H2 hy => ?_⟩
      obtain ⟨same2, rx⟩ := src.yld ρi H' sti i _ x H2 exi Si hgi (List.getElem?_eq_getElem hi) hy
      have q : (((need (asgP tg items.1[i] envi) sti).bind fun e1 st => mb e1 st).bind _).holds (PostS X.K ρ H σ.length Dn) (Er X ρ H) := q
      rw [assoc_b] at q
      obtain ⟨e1, ha, q⟩ := needed q
      have S2 := Si.same same2
      have ex2 : Ext ρ1 H1 ρi H2 := exi.trans (Ext.same same2)
      refine ⟨ρi, envi, sti, _, e1, Ei.ext (Ext.same same2), S2, rx, ha, fun σ2 hE2 b2 => ?_⟩
      have l2 : σ2.length = σ.length := b2.1.trans hlen
      have n2 : Now X ρ H ρi H2 e1 σ2 sti := ⟨ex1.trans ex2, hE2, S2⟩
      refine stepS n2 q fun fq st3 ρ3 H3 σ3 n3 ex3 l3 q => ?_
      obtain ⟨fl, env3⟩ := fq
      cases fl with
      | nx => exact ⟨hi, rfl, l3.trans l2, ρ3, env3, st3, ex2.trans ex3, n3.re, n3.rs, q⟩
      | ct => exact ⟨hi, rfl, l3.trans l2, ρ3, env3, st3, ex2.trans ex3, n3.re, n3.rs, q⟩
      | bk => exact q ρ3 H3 σ3 n3.ext n3.rs n3.re (l3.trans l2)
      | rt v => exact q ρ3 H3 σ3 n3.ext n3.rs n3.re (l3.trans l2)
    · have e : i = items.1.length := by omega
      subst e
      rw [List.drop_length] at q
      obtain ⟨hgi, q⟩ := forL_nil q
      exact .inl ⟨src.stop ρi H' _ exi Si hgi, q ρi H' σ' (ex1.trans exi) Si Ei hlen⟩
noncomputable def whileS (n : Nat) (mt : Env → M D) (mb : Env → M (Fl × Env)) : Env → M (Fl × Env) := fun env => whileL (testM mt) mb n env
theorem whileL_succ {c : Env → M Bool} {f : Env → M (Fl × Env)} {n : Nat} {env : Env} {st : Sto} : whileL c f (n + 1) env st = (c env st).bind fun b st => (if b = true then (do
      let q ← f env
      match q with
      | (.nx, env') => whileL c f n env'
      | (.ct, env') => whileL c f n env'
      | (.bk, env') => pure (.nx, env')
      | (.rt v, env') => pure (.rt v, env')) else pure (.nx, env) : M (Fl × Env)) st := by
  rw [whileL]
  rfl
theorem s_while (hp : PassesOwn (model X.prog X.w) X.A X.env X.xe) {body : List Stmt} {mt : Env → M D} {mb : Env → M (Fl × Env)} (n : Nat) (ht : PT X et (tT X (testM mt))) (hb : PSs X body (tS X mb)) : PS X (.While et body [] pos) (tS X (whileS n mt mb)) := by
  refine (ps_while hp ht hb).imp fun Dn σ H q => ?_
  obtain ⟨ρ, env, st, hE, hS, q⟩ := q
  refine ⟨fun i σ' H' => σ'.length = σ.length ∧ ∃ ρi envi sti, Now X ρ H ρi H' envi σ' sti ∧ (whileL (testM mt) mb i envi sti).holds (PostS X.K ρ H σ.length Dn) (Er X ρ H), ⟨n, rfl, ρ, env, st, Now.start hE hS, q⟩, ?_⟩
  rintro i σ' H' ⟨hl, ρi, envi, sti, ni, q⟩
  cases i with
  | zero => rw [whileL] at q; exact q.elim
  | succ i =>
    rw [whileL_succ] at q
    refine tT_mono (stepT ni q) ?_
    rintro b H1 ⟨ρ1, st1, n1, e1, q⟩
    cases b with
    | false => exact q ρ1 H1 σ' n1.ext n1.rs n1.re hl
    | true =>
      rw [if_pos rfl]
      refine ⟨fun σ'' H'' => _, fun σ'' H'' w => ⟨i, Nat.lt_succ_self i, w⟩, ?_⟩
      have q : ((mb envi st1).bind fun q st => (match q with
        | (.nx, env') => whileL (testM mt) mb i env'
        | (.ct, env') => whileL (testM mt) mb i env'
        | (.bk, env') => pure (.nx, env')
        | (.rt v, env') => pure (.rt v, env') : M (Fl × Env)) st).holds (PostS X.K ρ H σ.length Dn) (Er X ρ H) := q
      refine stepS n1 q fun fq st3 ρ3 H3 σ3 n3 ex3 l3 q => ?_
      obtain ⟨fl, env3⟩ := fq
      cases fl with
      | nx => exact ⟨l3.trans hl, ρ3, env3, st3, n3, q⟩
      | ct => exact ⟨l3.trans hl, ρ3, env3, st3, n3, q⟩
      | bk => exact q ρ3 H3 σ3 n3.ext n3.rs n3.re (l3.trans hl)
      | rt v => exact q ρ3 H3 σ3 n3.ext n3.rs n3.re (l3.trans hl)
def seqS (m mr : Env → M (Fl × Env)) : Env → M (Fl × Env) := fun env => do
  let q ← m env
  match q with
  | (.nx, env') => mr env'
  | (f, env') => pure (f, env')
theorem ss_nil : PSs X [] (tS X fun env => pure (.nx, env)) := pss_nil.imp fun Dn σ H q => by
  obtain ⟨ρ, env, st, hE, hS, q⟩ := q
  exact q ρ H σ .refl hS hE rfl
theorem ss_cons {s : Stmt} {r : List Stmt} {m mr : Env → M (Fl × Env)} (h : PS X s (tS X m)) (hr : PSs X r (tS X mr)) : PSs X (s :: r) (tS X (seqS m mr)) := by
  refine (pss_cons h hr).imp fun Dn σ H q => ?_
  obtain ⟨ρ, env, st, hE, hS, q⟩ := q
  have q : ((m env st).bind fun q st => (match q with
    | (.nx, env') => mr env'
    | (f, env') => pure (f, env') : M (Fl × Env)) st).holds (PostS X.K ρ H σ.length Dn) (Er X ρ H) := q
  refine stepS (Now.start hE hS) q fun fq st3 ρ3 H3 σ3 n3 ex3 l3 q => ?_
  obtain ⟨fl, env3⟩ := fq
  cases fl with
  | nx => exact lastS n3 l3 q
  | ct => exact q ρ3 H3 σ3 n3.ext n3.rs n3.re l3
  | bk => exact q ρ3 H3 σ3 n3.ext n3.rs n3.re l3
  | rt v => exact q ρ3 H3 σ3 n3.ext n3.rs n3.re l3
end
end PB
set_option maxRecDepth 100000
set_option maxHeartbeats 4000000
/-! Pb, part 23x: raise and try. -/
namespace PB
open PySem PySem.Spec PyProof.Rows L2
theorem Xw.len {X : Cx} {W : WX} (t : Takes X W) {cls : Value} {d : Option Addr} {H : Hp} (h : ∀ σ : L2.St, σ.length = X.N.length → W cls d σ H) : Xw X cls d H :=
  fun u s' ⟨a, B, sI, pins, σ, H0, cls', d', e, I, nb, up, sky, na, os, ag, e1, e2, e3⟩ => by
    subst e1
    subst e2
    subst e3
    exact t u s' ⟨a, B, sI, pins, σ, _, _, _, e, I, nb, up, sky, na, os, ag, h σ I.len⟩
section
variable {X : Cx} {c : Cfg} {G : List (String × P)} {N : List Str} {sc : Scope} {fn : Str → Bool} {k : Nat}
theorem s_raise (C : Ctx X c G N sc fn k) {x : String} {e : Ex} {ee : Expr} {p pos pos' : Pos} (hx : (x, true) ∈ c.xs) (hg : glB sc (Str.ofString x) = true) (hn : nameOk (Str.ofString x) = true) (hst : notStar ee = true)
    (L : PA X [ee] (tL X (evL c [e]))) : PS X (.Raise (some (.Call (.Name (Str.ofString x) p) [ee] [] pos)) none pos') (tS X (evS c (.raise x [e]))) := by
  obtain ⟨Ca, hm, _, _, _, _, hb, _⟩ := (C.gb.xc x true hx).ok
  obtain ⟨T, fI, fd, a, j, h1, h2, hj, F, hB⟩ := hb rfl
  refine (ps_raise C.calm (takes_Xw X) (pmk_oex (CX := L2.CX0) (dvs := []) (ds := []) T h1 h2 F (C.room.mono hj) hB .nil pass0 (gl_of C hg) hm L (nameOk_of hn).1 (star_of hst _ _) rfl)).imp fun Dn σ H q => ?_
  obtain ⟨ρ, env, st, hE, hS, q⟩ := q
  rw [evS] at q
  refine tL_mono (stepL (Now.start hE hS) (show ((evL c [e] env st).bind fun ds st => ((onlyPs ds st).bind fun ds st => (match ds with
      | [] => if ([e] : List Ex).isEmpty = true ∧ c.xs.contains (x, false) = true then .err (Str.ofString x) none st else .bad
      | [d] => if c.xs.contains (x, true) = true then .err (Str.ofString x) (some d) st else .bad
      | _ => .bad : R (Fl × Env)))).holds (PostS X.K ρ H σ.length Dn) (Er X ρ H) from q)) ?_
  rintro vs H1 ⟨ρ1, st1, ds, n1, rs, e1, q⟩
  obtain ⟨qs, ed, q2⟩ := onlyPs_holds q
  clear q
  subst ed
  cases qs with
  | nil => exact q2.elim
  | cons d qs =>
    cases qs with
    | cons _ _ => exact q2.elim
    | nil =>
      cases rs with
      | @cons xv _ _ _ r0 r1 =>
        cases r1
        cases r0 with
        | p r0 =>
          have q : (if c.xs.contains (x, true) = true then R.err (Str.ofString x) (some d) st1 else .bad : R (Fl × Env)).holds (PostS X.K ρ H σ.length Dn) (Er X ρ H) := q2
          rw [if_pos (by simpa using hx)] at q
          refine ⟨by simp, fun a ha => ⟨a, xv, rfl, upd_same, fun dx hdx hne => ⟨rfl, dx, [(fldOf (Str.ofString x), xv)], upd_same, ?_, ?_, ?_⟩⟩⟩
          · rw [upd_ne hne, upd_same]
          · rw [upd_ne hne] at hdx
            exact hdx
          · rw [upd_ne hne] at hdx
            have eq : upd (del (upd (upd (upd H1 a (exo a Ca none)) dx (exd dx [(fldOf (Str.ofString x), xv)])) a (exo a Ca (some dx))) a) dx (.xd [(fldOf (Str.ofString x), xv)]) = upd H1 dx (.xd [(fldOf (Str.ofString x), xv)]) := by
              funext b
              by_cases hb : b = dx
              · subst hb
                rw [upd_same, upd_same]
              · rw [upd_ne hb, upd_ne hb]
                by_cases h2 : b = a
                · subst h2
                  rw [del_same, ha]
                · rw [del_ne h2, upd_ne h2, upd_ne hb, upd_ne h2]
            rw [eq]
            have s2 := same_new (o := .xd [(fldOf (Str.ofString x), xv)]) hdx
            exact q ρ1 _ _ _ (n1.ext.trans (Ext.same s2)) (n1.rs.same s2) ⟨Ca, hm, rfl, dx, xv, rfl, upd_same, r0.ext (Ext.same s2)⟩
theorem s_raise0 (C : Ctx X c G N sc fn k) {x : String} {p pos pos' : Pos} (hx : (x, false) ∈ c.xs) (hg : glB sc (Str.ofString x) = true) (hn : nameOk (Str.ofString x) = true) :
    PS X (.Raise (some (.Call (.Name (Str.ofString x) p) [] [] pos)) none pos') (tS X (evS c (.raise x []))) := by
  obtain ⟨Ca, hm, _, _, _, _, _, hb⟩ := (C.gb.xc x false hx).ok
  obtain ⟨h1, h2, h3, h4⟩ := hb rfl
  refine (ps_raise C.calm (takes_Xw X) (pmk_own0 PySem.F.excBase_ValueError h1 hm h2 (raises_own h3 h4) (gl_of C hg) (nameOk_of hn).1)).imp fun Dn σ H q => ?_
  obtain ⟨ρ, env, st, hE, hS, q⟩ := q
  rw [evS] at q
  have e0 : evL c [] env st = .ok [] st := by rw [evL]; rfl
  have q : ((evL c [] env st).bind fun ds st => ((onlyPs ds st).bind fun ds st => (match ds with
      | [] => if ([] : List Ex).isEmpty = true ∧ c.xs.contains (x, false) = true then .err (Str.ofString x) none st else .bad
      | [d] => if c.xs.contains (x, true) = true then .err (Str.ofString x) (some d) st else .bad
      | _ => .bad : R (Fl × Env)))).holds (PostS X.K ρ H σ.length Dn) (Er X ρ H) := q
  rw [e0] at q
  have q : (if ([] : List Ex).isEmpty = true ∧ c.xs.contains (x, false) = true then R.err (Str.ofString x) none st else .bad : R (Fl × Env)).holds (PostS X.K ρ H σ.length Dn) (Er X ρ H) := q
  rw [if_pos ⟨rfl, by simpa using hx⟩] at q
  exact q ρ H _ _ .refl hS ⟨Ca, hm, rfl, rfl⟩
end
/-- what an except suite's expression gives: the exception stands in slot i at a -/
def tX (K : PySem.W.Frag) (mg : Str → Option Value) (xs : List (String × Bool)) (x : String) (i : Nat) (a : Addr) (cls : Value) (d : Option Addr) (sx : Sx) : TE := fun σ H Q => ∃ (ρ : Pl) (st : Sto) (y : String) (b : Bool) (v : Option P) (q : P),
  σ[i]? = some (some (.ref a)) ∧ RS K H ρ st ∧ (y, b) ∈ xs ∧ IsX K mg H ρ (Str.ofString y) v cls d ∧ isX (Str.ofString y) x = true ∧ sxE (Str.ofString y) v sx = some q ∧ ∀ H' z, Same H H' → RP K H' ρ z q → Q z H'
def tXs (K : PySem.W.Frag) (mg : Str → Option Value) (xs : List (String × Bool)) (x : String) (i : Nat) (a : Addr) (cls : Value) (d : Option Addr) (l : List Sx) : TA := fun σ H Q => ∃ (ρ : Pl) (st : Sto) (y : String) (b : Bool) (v : Option P) (qs : List P),
  σ[i]? = some (some (.ref a)) ∧ RS K H ρ st ∧ (y, b) ∈ xs ∧ IsX K mg H ρ (Str.ofString y) v cls d ∧ isX (Str.ofString y) x = true ∧ sxL (Str.ofString y) v l = some qs ∧ ∀ H' zs, Same H H' → RPs K H' ρ zs qs → Q zs H'
theorem IsX.same {K : PySem.W.Frag} {mg : Str → Option Value} {H H' : Hp} {ρ : Pl} {c : Str} {v : Option P} {cls : Value} {d : Option Addr} (h : IsX K mg H ρ c v cls d) (s : Same H H') : IsX K mg H' ρ c v cls d := by
  obtain ⟨C, h1, h2, h3⟩ := h
  refine ⟨C, h1, h2, ?_⟩
  cases v with
  | none => exact h3
  | some q =>
    obtain ⟨dd, x, e1, e2, e3⟩ := h3
    exact ⟨dd, x, e1, s _ _ e2, e3.ext (Ext.same s)⟩
section
variable {X : Cx} {c : Cfg} {G : List (String × P)} {N : List Str} {sc : Scope} {fn : Str → Bool} {k : Nat}
theorem isX_self {y x : String} (h : isX (Str.ofString y) x = true) (hx : (x == "TornError") = false) : Str.ofString y = Str.ofString x := by
  unfold isX at h
  rw [hx, Bool.or_false, decide_eq_true_eq] at h
  exact h
/-- isinstance of the exception that the suite holds, with its dict -/
theorem call_isX {X : Cx} {a D : Addr} {oe : Obj} {cls : Value} {d : Option Addr} {pn : List (Addr × Obj)} (hz : Zc cls d oe) (hf : ∃ vs, oe.data = .fields vs) :
    CallR (X.suite a ((a, oe) :: pn)) (.builtin "isinstance") (fun xs H Q => ∃ (D Dt : Addr) (b : Bool), xs = [.ref a, .ref Dt] ∧ cls = .ref D ∧ ExcC X.K D ∧ (d = none ∨ ∃ dd fs, d = some dd ∧ H dd = some (.xd fs)) ∧ PySem.W.kitOne X.K (.ref D) (.ref Dt) = some b ∧ Q (.bl b) H) := by
  intro pins s σ H xs us Q I r h
  obtain ⟨D, Dt, b, rfl, ec, E, hd, e, q⟩ := h
  subst ec
  obtain ⟨u0, u1, rfl, rx, rt⟩ := vals2 r
  obtain rfl : u0 = Value.ref a := rx
  obtain rfl : u1 = Value.ref Dt := rt
  obtain ⟨hget, _⟩ := I.pin (a, oe) (List.mem_append.mpr (.inl List.mem_cons_self))
  obtain ⟨vs, hv⟩ := hf
  have hcl : (PySem.W.clsIn X.K D).isSome = true := by
    obtain ⟨cdD, hcD, _⟩ := PySem.W.any_some E.hd
    rw [hcD]
    rfl
  have fin : ∀ od, PySem.W.InstAt s.heap a oe D od → wpAny (model X.prog X.w) (X.suite a ((a, oe) :: pn)).A (call (.builtin "isinstance") [.ref a, .ref Dt]) (EP (X.suite a ((a, oe) :: pn)) pins σ Q) (X.suite a ((a, oe) :: pn)).xe s := fun od J =>
    PySem.W.kia_one (PySem.W.kitx_exc (od := od) hcl E.hg E.hk E.hs E.ha E.hn E.ht E.hm) I.kIn J e (fun z => nomatch z) fun tk => ⟨.bl b, H, I.kept (t' := tk) fun _ _ z => z, rfl, q⟩
  obtain ⟨oc, odc, oda, osl⟩ := oe
  obtain ⟨h1, h2⟩ := hz
  dsimp only at h1 h2 hv
  subst h1 h2 hv
  rcases hd with rfl | ⟨dd, fs, rfl, ea⟩
  · exact fin none ⟨hget, rfl, rfl, trivial⟩
  · have hx : ObjOk X.prog X.w H s.heap dd (.xd fs) := I.hok dd _ ea
    obtain ⟨mA, hns, hr⟩ := hx
    obtain ⟨od, ho, hl⟩ := lookIn_ns hns
    exact fin (some od) ⟨hget, rfl, rfl, ho⟩
theorem isX_d {K : PySem.W.Frag} {mg : Str → Option Value} {H : Hp} {ρ : Pl} {y : Str} {v : Option P} {cls : Value} {d : Option Addr} (h : IsX K mg H ρ y v cls d) : d = none ∨ ∃ dd fs, d = some dd ∧ H dd = some (.xd fs) := by
  obtain ⟨C, _, _, h3⟩ := h
  cases v with
  | none => exact .inl h3
  | some q =>
    obtain ⟨dd, x, e1, e2, _⟩ := h3
    exact .inr ⟨dd, _, e1, e2⟩
/-- isinstance(n, T) in the suite -/
theorem xx_isi (C : Ctx X c G N sc fn k) {x d0 : String} {n : Str} {i : Nat} (hi : N[i]? = some n) (hln : sc.names.lookup n = some .local) (hn : nameOk n = true) (hg : glB sc (Str.ofString "isinstance") = true) (hg2 : glB sc (Str.ofString d0) = true) (hn2 : nameOk (Str.ofString d0) = true)
    (hd : ∃ b, (d0, b) ∈ c.xs) {p p2 p3 pos : Pos} {a : Addr} {oe : Obj} {cls : Value} {d : Option Addr} {pn : List (Addr × Obj)} (hz : Zc cls d oe) (hf : ∃ vs, oe.data = .fields vs) :
    PE (X.suite a ((a, oe) :: pn)) (.Call (.Name (Str.ofString "isinstance") p) [.Name n p2, .Name (Str.ofString d0) p3] [] pos) (tX X.K X.mg c.xs x i a cls d (.isi d0)) := by
  obtain ⟨b0, hd⟩ := hd
  obtain ⟨D0, hm0, _⟩ := (C.gb.xc d0 b0 hd).ok
  have hv : PE (X.suite a ((a, oe) :: pn)) (.Name n p2) (tVar i) := pe_var (X := X.suite a ((a, oe) :: pn)) (by show X.N[i]? = _; rw [C.hN]; exact hi) (.inl (by show X.env.scope.names.lookup n = _; rw [C.hsc]; exact hln)) (nameOk_of hn).1 (nameOk_of hn).2
  have hg' : Gl (X.suite a ((a, oe) :: pn)) (Str.ofString "isinstance") := gl_of C hg
  have hg2' : Gl (X.suite a ((a, oe) :: pn)) (Str.ofString d0) := gl_of C hg2
  have h2 : PE (X.suite a ((a, oe) :: pn)) (.Name (Str.ofString d0) p3) (tC (.ref D0)) := pe_glob (X := X.suite a ((a, oe) :: pn)) hg2' hm0 rfl (nameOk_of hn2).1
  refine (pe_callB (X := X.suite a ((a, oe) :: pn)) (call_isX (D := D0) hz hf) hg' (bl_of C (by simp)) (by decide +kernel) (pa_cons hv (pa_cons h2 pa_nil)) (by decide) (by decide) rfl rfl).imp fun σ H Q q => ?_
  obtain ⟨ρ, st, y, b, v, q0, hs, S, hy, hX, hx, he, q⟩ := q
  obtain ⟨Cy, hmy, _, E, _, rel, _⟩ := (C.gb.xc y b hy).ok
  obtain ⟨D', hD', _, r2⟩ := rel d0 b0 hd
  have e1 : D' = D0 := by
    have := hD'.symm.trans hm0
    cases this
    rfl
  subst e1
  obtain ⟨C', h1, h2', _⟩ := id hX
  have e2 : C' = Cy := by
    have := h1.symm.trans hmy
    cases this
    rfl
  subst e2
  have e3 : q0 = .bool (isX (Str.ofString y) d0) := by
    have := he.symm
    rw [sxE] at this
    cases this
    rfl
  subst e3
  exact ⟨.ref a, hs, C', D', _, rfl, h2', E, isX_d hX, r2, q _ _ (Same.refl H) (.bl _)⟩
theorem sxL_len {c : Str} {v : Option P} : ∀ {l : List Sx} {qs : List P}, sxL c v l = some qs → qs.length = l.length
  | [], qs, h => by rw [sxL] at h; cases h; rfl
  | s :: l, qs, h => by
    rw [sxL] at h
    cases e1 : sxE c v s with
    | none => rw [e1] at h; cases h
    | some d0 =>
      cases e2 : sxL c v l with
      | none => rw [e1, e2] at h; cases h
      | some ds =>
        rw [e1, e2] at h
        cases h
        simp [sxL_len e2]
mutual
theorem xx_ok (C : Ctx X c G N sc fn k) {x : String} {n : Str} {i : Nat} {b0 : Bool} (hxx : (x, b0) ∈ c.xs) (hi : N[i]? = some n) (hln : sc.names.lookup n = some .local) (hn : nameOk n = true) {a : Addr} {oe : Obj} {cls : Value} {d : Option Addr} {pn : List (Addr × Obj)} (hz : Zc cls d oe) (hf : ∃ vs, oe.data = .fields vs) :
    ∀ (sx : Sx) (e : Expr), chkX c sc x n sx e = true → PE (X.suite a ((a, oe) :: pn)) e (tX X.K X.mg c.xs x i a cls d sx)
  | .cst d0, e, h => by
    cases e with
    | Constant q0 j p =>
      unfold chkX at h
      have fin : ∀ {z : V} {e : Expr}, PE (X.suite a ((a, oe) :: pn)) e (tC z) → (∀ H ρ, RP X.K H ρ z d0) → PE (X.suite a ((a, oe) :: pn)) e (tX X.K X.mg c.xs x i a cls d (.cst d0)) := by
        intro z e hp hr
        refine hp.imp fun σ H Q q => ?_
        obtain ⟨ρ, st, y, b, v, q1, hs, S, hy, hX, hx, he, q⟩ := q
        rw [sxE] at he
        cases he
        exact q _ _ (Same.refl H) (hr H ρ)
      cases d0 with
      | none => cases q0 <;> first | exact fin pe_non fun H ρ => .non | cases h
      | bool b =>
        cases q0 <;> first | (cases h; done) | skip
        rename_i b'
        obtain rfl : b = b' := by simpa [constIs] using h
        exact fin pe_bl fun H ρ => .bl b
      | int b =>
        cases q0 <;> first | (cases h; done) | skip
        rename_i b'
        obtain rfl : b = b' := by simpa [constIs] using h
        exact fin pe_int fun H ρ => .int b
      | str b =>
        cases q0 <;> first | (cases h; done) | skip
        rename_i b'
        obtain rfl : b = b' := by simpa [constIs] using h
        exact fin pe_str fun H ρ => .str b
      | _ => cases q0 <;> cases h
    | _ => unfold chkX at h; cases h
  | .fld, e, h => by
    cases e with
    | Attribute o f p =>
      cases o with
      | Name y p2 =>
        unfold chkX at h
        simp only [Bool.and_eq_true, decide_eq_true_eq, Bool.not_eq_true'] at h
        obtain ⟨⟨rfl, rfl⟩, hT⟩ := h
        obtain ⟨Cx0, hm, T, _, hno, _⟩ := (C.gb.xc x b0 hxx).ok
        have hv : PE (X.suite a ((a, oe) :: pn)) (.Name y p2) (tVar i) := pe_var (X := X.suite a ((a, oe) :: pn)) (by show X.N[i]? = _; rw [C.hN]; exact hi) (.inl (by show X.env.scope.names.lookup y = _; rw [C.hsc]; exact hln)) (nameOk_of hn).1 (nameOk_of hn).2
        refine (pe_xf T hno hz hf hv).imp fun σ H Q q => ?_
        obtain ⟨ρ, st, y', b, v, q0, hs, S, hy, hX, hx, he, q⟩ := q
        have ey := isX_self hx hT
        rw [sxE] at he
        subst he
        obtain ⟨C', h1, h2', dd, xv, e1, e2, e3⟩ := hX
        rw [ey] at h1 e2
        have : C' = Cx0 := by
          have := h1.symm.trans hm
          cases this
          rfl
        subst this
        exact ⟨.ref a, hs, rfl, h2', dd, _, xv, e1, e2, by simp [List.lookup], q _ _ (Same.refl H) e3⟩
      | _ => unfold chkX at h; cases h
    | _ => unfold chkX at h; cases h
  | .isi d0, e, h => by
    cases e with
    | Call f args kws pos =>
      cases f with
      | Name y p =>
        rcases args with _ | ⟨a1, _ | ⟨a2, _ | ⟨_, _⟩⟩⟩
        · unfold chkX at h; cases h
        · cases a1 <;> (unfold chkX at h; cases h)
        · cases a1 with
          | Name z p2 =>
            cases a2 with
            | Name u p3 =>
              cases kws with
              | nil =>
                unfold chkX at h
                simp only [Bool.and_eq_true, decide_eq_true_eq, List.any_eq_true, beq_iff_eq] at h
                obtain ⟨⟨⟨⟨⟨⟨rfl, h2⟩, rfl⟩, rfl⟩, h5⟩, h6⟩, q, h7, h8⟩ := h
                exact xx_isi C hi hln hn h2 h5 h6 ⟨q.2, by rw [← h8]; exact h7⟩ hz hf
              | cons _ _ => unfold chkX at h; cases h
            | _ => unfold chkX at h; cases h
          | _ => cases a2 <;> (unfold chkX at h; cases h)
        · cases a1 <;> first | (unfold chkX at h; cases h; done) | (cases a2 <;> (unfold chkX at h; cases h))
      | _ => unfold chkX at h; cases h
    | _ => unfold chkX at h; cases h
  | .lst l, e, h => by
    cases e with
    | List es p =>
      unfold chkX at h
      simp only [Bool.and_eq_true, decide_eq_true_eq] at h
      refine (pe_lst (xxs_ok C hxx hi hln hn hz hf l es h.1.1 h.2)).imp fun σ H Q q => ?_
      obtain ⟨ρ, st, y, b, v, q1, hs, S, hy, hX, hx, he, q⟩ := q
      rw [sxE] at he
      cases el : sxL (Str.ofString y) v l with
      | none => rw [el] at he; cases he
      | some qs =>
        rw [el] at he
        cases he
        refine ⟨ρ, st, y, b, v, qs, hs, S, hy, hX, hx, el, fun H' zs sm r => ⟨?_, fun p hp => ?_⟩⟩
        · rw [r.length, sxL_len el, sizeLine_eq]
          have := h.1.2
          omega
        · have s2 := same_new (o := .lst zs) hp
          exact q _ _ (sm.trans s2) (.lst (.inl ⟨.inl upd_same, (S.same sm).fresh hp⟩) (r.ext (Ext.same s2)))
    | _ => unfold chkX at h; cases h
  | .ife t u w, e, h => by
    cases e with
    | IfExp et ea eb p =>
      cases t with
      | isi d0 =>
        unfold chkX at h
        simp only [Bool.and_eq_true] at h
        obtain ⟨⟨h1, h2⟩, h3⟩ := h
        have ht : PE (X.suite a ((a, oe) :: pn)) et (tX X.K X.mg c.xs x i a cls d (.isi d0)) := xx_ok C hxx hi hln hn hz hf (.isi d0) et h1
        have plain : ∀ whole, isTrue et (X.suite a ((a, oe) :: pn)).env whole = (do let v ← whole; standAt et.pos; holding [v] (truthy v)) := by
          intro whole
          cases et <;> first | rfl | (unfold chkX at h1; cases h1)
        refine (pe_ifExp (pt_truth ht plain) (xx_ok C hxx hi hln hn hz hf u ea h2) (xx_ok C hxx hi hln hn hz hf w eb h3)).imp fun σ H Q q => ?_
        obtain ⟨ρ, st, y, b, v, q1, hs, S, hy, hX, hx, he, q⟩ := q
        rw [sxE, sxE] at he
        refine ⟨ρ, st, y, b, v, .bool (isX (Str.ofString y) d0), hs, S, hy, hX, hx, by rw [sxE], fun H' z sm r => ?_⟩
        cases r with
        | bl k0 =>
          refine ⟨_, rfl, ?_⟩
          cases hk : isX (Str.ofString y) d0 with
          | true =>
            rw [hk] at he
            exact ⟨ρ, st, y, b, v, q1, hs, S.same sm, hy, hX.same sm, hx, he, fun H2 z2 sm2 r2 => q _ _ (sm.trans sm2) r2⟩
          | false =>
            rw [hk] at he
            exact ⟨ρ, st, y, b, v, q1, hs, S.same sm, hy, hX.same sm, hx, he, fun H2 z2 sm2 r2 => q _ _ (sm.trans sm2) r2⟩
      | _ => unfold chkX at h; cases h
    | _ => cases t <;> (unfold chkX at h; cases h)
theorem xxs_ok (C : Ctx X c G N sc fn k) {x : String} {n : Str} {i : Nat} {b0 : Bool} (hxx : (x, b0) ∈ c.xs) (hi : N[i]? = some n) (hln : sc.names.lookup n = some .local) (hn : nameOk n = true) {a : Addr} {oe : Obj} {cls : Value} {d : Option Addr} {pn : List (Addr × Obj)} (hz : Zc cls d oe) (hf : ∃ vs, oe.data = .fields vs) :
    ∀ (l : List Sx) (es : List Expr), es.all notStar = true → chkXs c sc x n l es = true → PA (X.suite a ((a, oe) :: pn)) es (tXs X.K X.mg c.xs x i a cls d l)
  | [], es, hst, h => by
    cases es with
    | nil =>
      refine pa_nil.imp fun σ H Q q => ?_
      obtain ⟨ρ, st, y, b, v, q1, hs, S, hy, hX, hx, he, q⟩ := q
      rw [sxL] at he
      cases he
      exact q _ _ (Same.refl H) .nil
    | cons _ _ => unfold chkXs at h; cases h
  | s :: l, es, hst, h => by
    cases es with
    | nil => unfold chkXs at h; cases h
    | cons e es =>
      unfold chkXs at h
      rw [Bool.and_eq_true] at h
      simp only [List.all_cons, Bool.and_eq_true] at hst
      refine (pa_cons (xx_ok C hxx hi hln hn hz hf s e h.1) (xxs_ok C hxx hi hln hn hz hf l es hst.2 h.2) (star_of hst.1 _ _)).imp fun σ H Q q => ?_
      obtain ⟨ρ, st, y, b, v, q1, hs, S, hy, hX, hx, he, q⟩ := q
      rw [sxL] at he
      cases e1 : sxE (Str.ofString y) v s with
      | none => rw [e1] at he; cases he
      | some d0 =>
        cases e2 : sxL (Str.ofString y) v l with
        | none => rw [e1, e2] at he; cases he
        | some ds =>
          rw [e1, e2] at he
          cases he
          exact ⟨ρ, st, y, b, v, d0, hs, S, hy, hX, hx, e1, fun H' z sm r => ⟨ρ, st, y, b, v, ds, hs, S.same sm, hy, hX.same sm, hx, e2, fun H2 zs sm2 r2 => q _ _ (sm.trans sm2) (.cons (r.ext (Ext.same sm2)) r2)⟩⟩
end
/-- try: body; except x as n: return suite's expression -/
def tTb (X : Cx) (c : Cfg) (b : List St) (W : WX) : TS := fun Dn σ H => ∃ ρ env st, RE X.K H ρ env σ ∧ RS X.K H ρ st ∧ (evSs c b env st).holds (PostS X.K ρ H σ.length Dn) (ErK X.K X.mg ρ H fun cls d H' => ∀ σ' : L2.St, σ'.length = X.N.length → W cls d σ' H')
theorem s_try (C : Ctx X c G N sc fn k) (hs : X.stack = X.env :: X.outer ∧ X.env.frame = some X.env.locals) {x : String} {i : Nat} {n : Str} {sx : Sx} {es : Expr} {b : List St} {eb : List Stmt} {p p2 p3 pos : Pos} {b0 : Bool} (hxx : (x, b0) ∈ c.xs)
    (hg : glB sc (Str.ofString x) = true) (hnx : nameOk (Str.ofString x) = true) (hi : N[i]? = some n) (hln : sc.names.lookup n = some .local) (hn : nameOk n = true) (hX : chkX c sc x n sx es = true)
    (hb : ∀ (pn : List (Addr × Obj)) (xe : Value → Shared → Prop), PassesOwn (model X.prog X.w) X.A X.env xe → PSs (X.tr pn xe) eb (tS (X.tr pn xe) (evSs c b))) :
    PS X (.Try eb [.ExceptHandler (some (.Name (Str.ofString x) p)) (some n) [.Return (some es) p2] p3] [] [] pos) (tS X (evS c (.tryR b x (some i) sx))) := by
  obtain ⟨Cx0, hm, _⟩ := (C.gb.xc x b0 hxx).ok
  refine (ps_try_as (c := .ref Cx0) (Wout := fun cls d _ H => Xw X cls d H) (tb := tTb X c b) (ts := fun a cls d => tRet (tX X.K X.mg c.xs x i a cls d sx)) (i := i) hs.1 hs.2 (by rw [C.hN]; exact C.nd) (by rw [C.hN]; exact hi) (by show X.env.scope.names.lookup n = _; rw [C.hsc]; exact hln)
    ⟨gl_of C hg, (nameOk_of hnx).1, .inl hm⟩ (takes_Xw X) (fun W pn xe tk po => ?_) (fun a oe cls d pn hz hf => ?_)).imp fun Dn σ H q => ?_
  · refine (hb pn xe po).imp fun Dn σ H q => ?_
    obtain ⟨ρ, env, st, hE, hS, q⟩ := q
    exact ⟨ρ, env, st, hE, hS, holds_mono q (fun _ _ z => z) fun cv v st1 z ρ1 H1 cls d e1 S1 x1 => Xw.len tk (z ρ1 H1 cls d e1 S1 x1)⟩
  · exact pss_one (ps_ret (xx_ok C hxx hi hln hn hz hf sx es hX))
  · obtain ⟨ρ, env, st, hE, hS, q⟩ := q
    refine ⟨ρ, env, st, hE, hS, ?_⟩
    rw [evS] at q
    have q : (match evSs c b env st with | .err kx v st1 => (if c.hasX kx = true then (if isX kx x = true then (match sxE kx v sx with | some q => .ok (.rt (.p q), List.replicate env.length none) st1 | none => .bad) else .err kx v st1) else .bad : R (Fl × Env)) | r => r).holds (PostS X.K ρ H σ.length Dn) (Er X ρ H) := q
    cases e0 : evSs c b env st with
    | bad => rw [e0] at q; exact q.elim
    | ok a0 st1 => rw [e0] at q; exact q
    | err kx v st1 =>
      rw [e0] at q
      have q : (if c.hasX kx = true then (if isX kx x = true then (match sxE kx v sx with
        | some q => .ok (.rt (.p q), List.replicate env.length none) st1
        | none => .bad) else .err kx v st1) else .bad : R (Fl × Env)).holds (PostS X.K ρ H σ.length Dn) (Er X ρ H) := q
      intro ρ1 H1 cls d e1 S1 x1 σ1 l1
      split at q
      · rename_i hk
        obtain ⟨⟨y, by0⟩, hy, hky⟩ := List.any_eq_true.mp hk
        have hky : Str.ofString y = kx := by simpa using hky
        subst hky
        obtain ⟨Cy, hmy, _, _, _, rel, _⟩ := (C.gb.xc y by0 hy).ok
        obtain ⟨D', hD', r1, _⟩ := rel x b0 hxx
        have e2 : D' = Cx0 := by
          have := hD'.symm.trans hm
          cases this
          rfl
        subst e2
        obtain ⟨C', h1, h2, _⟩ := id x1
        have e3 : C' = Cy := by
          have := h1.symm.trans hmy
          cases this
          rfl
        subst e3
        subst h2
        refine ⟨_, r1, fun hyes a na => ?_, fun hno => ?_⟩
        · rw [if_pos hyes] at q
          cases e4 : sxE (Str.ofString y) v sx with
          | none => rw [e4] at q; exact q.elim
          | some q0 =>
            rw [e4] at q
            have il : i < σ1.length := by
              rw [l1, C.hN]
              exact (List.getElem?_eq_some_iff.mp hi).1
            refine ⟨ρ1, st1, y, by0, v, q0, by rw [List.getElem?_set_self il], S1, hy, x1, hyes, e4, fun H' z sm r => ?_⟩
            have z0 := q ρ1 H' σ (e1.trans (Ext.same sm)) (S1.same sm) ⟨by simpa using hE.len, fun j dd hj => ?_⟩ rfl
            · exact z0 z (.p r)
            · rw [List.getElem?_replicate] at hj
              split at hj <;> cases hj
        · rw [if_neg (by rw [hno]; exact Bool.false_ne_true)] at q
          exact q ρ1 H1 _ d e1 S1 x1
      · exact q.elim
/-- try: body; except x: return a constant -/
theorem s_try0 (C : Ctx X c G N sc fn k) (hs : X.stack = X.env :: X.outer ∧ X.env.frame = some X.env.locals) {x : String} {d : P} {kc : Const} {b : List St} {eb : List Stmt} {p p2 p3 p4 pos : Pos} {j : Nat} {b0 : Bool} (hxx : (x, b0) ∈ c.xs)
    (hg : glB sc (Str.ofString x) = true) (hnx : nameOk (Str.ofString x) = true) (hX : constIs d kc = true)
    (hb : ∀ (pn : List (Addr × Obj)) (xe : Value → Shared → Prop), PassesOwn (model X.prog X.w) X.A X.env xe → PSs (X.tr pn xe) eb (tS (X.tr pn xe) (evSs c b))) :
    PS X (.Try eb [.ExceptHandler (some (.Name (Str.ofString x) p)) none [.Return (some (.Constant kc j p4)) p2] p3] [] [] pos) (tS X (evS c (.tryR b x none (.cst d)))) := by
  obtain ⟨Cx0, hm, _⟩ := (C.gb.xc x b0 hxx).ok
  have rel : ∃ z : V, (∀ X : Cx, PE X (.Constant kc j p4) (tC z)) ∧ ∀ (K : PySem.W.Frag) (H : Hp) (ρ : Pl), RP K H ρ z d := by
    cases d with
    | none => cases kc <;> first | exact ⟨_, fun _ => pe_non, fun _ _ _ => .non⟩ | cases hX
    | bool b =>
      cases kc <;> first | (cases hX; done) | skip
      rename_i b'
      obtain rfl : b = b' := by simpa [constIs] using hX
      exact ⟨_, fun _ => pe_bl, fun _ _ _ => .bl b⟩
    | int b =>
      cases kc <;> first | (cases hX; done) | skip
      rename_i b'
      obtain rfl : b = b' := by simpa [constIs] using hX
      exact ⟨_, fun _ => pe_int, fun _ _ _ => .int b⟩
    | str b =>
      cases kc <;> first | (cases hX; done) | skip
      rename_i b'
      obtain rfl : b = b' := by simpa [constIs] using hX
      exact ⟨_, fun _ => pe_str, fun _ _ _ => .str b⟩
    | _ => cases kc <;> cases hX
  obtain ⟨z, hz, rz⟩ := rel
  refine (ps_try_only (c := .ref Cx0) (Wout := fun cls d _ H => Xw X cls d H) (tb := tTb X c b) (ts := fun a cls d => tRet (tC z)) hs.1 hs.2
    ⟨gl_of C hg, (nameOk_of hnx).1, .inl hm⟩ (takes_Xw X) (fun W pn xe tk po => ?_) (fun a oe cls d pn _ _ => pss_one (ps_ret (hz _)))).imp fun Dn σ H q => ?_
  · refine (hb pn xe po).imp fun Dn σ H q => ?_
    obtain ⟨ρ, env, st, hE, hS, q⟩ := q
    exact ⟨ρ, env, st, hE, hS, holds_mono q (fun _ _ z => z) fun cv v st1 z ρ1 H1 cls d e1 S1 x1 => Xw.len tk (z ρ1 H1 cls d e1 S1 x1)⟩
  · obtain ⟨ρ, env, st, hE, hS, q⟩ := q
    refine ⟨ρ, env, st, hE, hS, ?_⟩
    rw [evS] at q
    have q : (match evSs c b env st with | .err kx v st1 => (if c.hasX kx = true then (if isX kx x = true then (match sxE kx v (.cst d) with | some q => .ok (.rt (.p q), List.replicate env.length none) st1 | none => .bad) else .err kx v st1) else .bad : R (Fl × Env)) | r => r).holds (PostS X.K ρ H σ.length Dn) (Er X ρ H) := q
    cases e0 : evSs c b env st with
    | bad => rw [e0] at q; exact q.elim
    | ok a0 st1 => rw [e0] at q; exact q
    | err kx v st1 =>
      rw [e0] at q
      have q : (if c.hasX kx = true then (if isX kx x = true then (match sxE kx v (.cst d) with
        | some q => .ok (.rt (.p q), List.replicate env.length none) st1
        | none => .bad) else .err kx v st1) else .bad : R (Fl × Env)).holds (PostS X.K ρ H σ.length Dn) (Er X ρ H) := q
      intro ρ1 H1 cls dd e1 S1 x1 σ1 l1
      split at q
      · rename_i hk
        obtain ⟨⟨y, by0⟩, hy, hky⟩ := List.any_eq_true.mp hk
        have hky : Str.ofString y = kx := by simpa using hky
        subst hky
        obtain ⟨Cy, hmy, _, _, _, rel, _⟩ := (C.gb.xc y by0 hy).ok
        obtain ⟨D', hD', r1, _⟩ := rel x b0 hxx
        have e2 : D' = Cx0 := by
          have := hD'.symm.trans hm
          cases this
          rfl
        subst e2
        obtain ⟨C', h1, h2, _⟩ := id x1
        have e3 : C' = Cy := by
          have := h1.symm.trans hmy
          cases this
          rfl
        subst e3
        subst h2
        refine ⟨_, r1, fun hyes a na => ?_, fun hno => ?_⟩
        · rw [if_pos hyes, sxE] at q
          have z0 := q ρ1 H1 σ e1 S1 ⟨by simpa using hE.len, fun j dd hj => ?_⟩ rfl
          · exact z0 z (.p (rz _ _ _))
          · rw [List.getElem?_replicate] at hj
            split at hj <;> cases hj
        · rw [if_neg (by rw [hno]; exact Bool.false_ne_true)] at q
          exact q ρ1 H1 _ dd e1 S1 x1
      · exact q.elim
end
end PB
set_option maxRecDepth 100000
set_option maxHeartbeats 4000000
/-! Pb, part 24: statements do what the interpreter says. -/
namespace PB
open PySem PySem.Spec PyProof.Rows L2
section
variable {X : Cx} {c : Cfg} {G : List (String × P)} {N : List Str} {sc : Scope} {fn : Str → Bool} {k : Nat}
structure LcOk (X : Cx) (c : Cfg) (N : List Str) (sc : Scope) (tg : Tg) (sk : SK) (src cond : List Ex) (elt : Ex) (eelt etg eit : Expr) (ifs : List Expr) (scope : Scope) : Prop where
  hi : PI X etg eit (tI X (srcW sk (evL c src)))
  ok : blkC N sc scope (ownOf N tg) = true
  hg : ∀ (s : Shared) (H : Hp) (Cc : Addr) (cl : List (Str × Addr)) (fp : List Addr), PG (X.blk s H scope (compEnvC scope cl Cc X.env) fp) etg (gP X tg)
  ht : ∀ (s : Shared) (H : Hp) (Cc : Addr) (cl : List (Str × Addr)) (fp : List Addr), PTs (X.blk s H scope (compEnvC scope cl Cc X.env) fp) ifs (tT (X.blk s H scope (compEnvC scope cl Cc X.env) fp) (evAll c cond))
  he : ∀ (s : Shared) (H : Hp) (Cc : Addr) (cl : List (Str × Addr)) (fp : List Addr), PE (X.blk s H scope (compEnvC scope cl Cc X.env) fp) eelt (tM (X.blk s H scope (compEnvC scope cl Cc X.env) fp) (evE c elt))
  hs : ∀ x, foldedSetIterable eit X.env x = pure x
theorem LcOk.htF {X : Cx} {c : Cfg} {N : List Str} {sc : Scope} {tg : Tg} {sk : SK} {src cond : List Ex} {elt : Ex} {eelt etg eit : Expr} {ifs : List Expr} {scope : Scope} (L : LcOk X c N sc tg sk src cond elt eelt etg eit ifs scope) (s : Shared) (H : Hp) (Cc : Addr) (cl : List (Str × Addr)) (fp : List Addr) :
    PTs (X.blk s H scope (compEnvC scope cl Cc X.env) fp) ifs (tTF X.K (evAll c cond)) := ⟨fun pins s1 σ H1 Q I q => (L.ht s H Cc cl fp).run pins s1 σ H1 Q I (tTF_tT q)⟩
theorem LcOk.heF {X : Cx} {c : Cfg} {N : List Str} {sc : Scope} {tg : Tg} {sk : SK} {src cond : List Ex} {elt : Ex} {eelt etg eit : Expr} {ifs : List Expr} {scope : Scope} (L : LcOk X c N sc tg sk src cond elt eelt etg eit ifs scope) (s : Shared) (H : Hp) (Cc : Addr) (cl : List (Str × Addr)) (fp : List Addr) :
    PE (X.blk s H scope (compEnvC scope cl Cc X.env) fp) eelt (tMF X.K (evE c elt)) := (L.he s H Cc cl fp).imp fun _ _ _ q => tMF_tM q
theorem lc_ok (C : Ctx X c G N sc fn k) {tg : Tg} {sk : SK} {src cond : List Ex} {elt : Ex} {ee : Expr} (h : chkE c G N (.comp tg sk src cond elt) sc fn ee = true) : ∃ eelt etg eit ifs scope pos, ee = .ListComp eelt [⟨etg, eit, ifs, 0⟩] scope pos ∧ LcOk X c N sc tg sk src cond elt eelt etg eit ifs scope := by
  obtain ⟨eelt, etg, eit, ifs, scope, pos, rfl, h1, h2, h3, h4, h5, h6, h7, h8, h9⟩ := comp_of h
  have L := exs_ok src C (srcEs sk eit) h2
  have ht : ∀ (s : Shared) (H : Hp) (Cc : Addr) (cl : List (Str × Addr)) (fp : List Addr), PTs (X.blk s H scope (compEnvC scope cl Cc X.env) fp) ifs (tT (X.blk s H scope (compEnvC scope cl Cc X.env) fp) (evAll c cond)) := by
    intro s H Cc cl fp
    have LC := exs_ok cond (blk_ctx C h4 s H Cc cl fp) ifs h8
    have hl := LC.ln
    match cond, ifs, hl, h6, h7, LC with
    | [], [], _, _, _, _ =>
      refine ⟨fun pins s1 σ H1 Q I q => pts_nil.run pins s1 σ H1 Q I ?_⟩
      obtain ⟨ρ, env, st, hE, hS, q⟩ := q
      rw [evAll] at q
      exact q ρ H1 .refl hS
    | [e], [i], _, _, h7, LC =>
      have t := (LC.hd e [] i [] rfl rfl).tt (by unfold Ex.tsts at h7; rw [Bool.and_eq_true] at h7; exact h7.1)
      refine pts_one (PT.eqm t ?_)
      funext env st
      rw [evAll]
      show ((evE c e env st).bind fun x st => asBM x st) = ((evE c e env st).bind fun x st => ((asBM x st).bind fun k st => (if k = true then evAll c [] env else pure false : M Bool) st))
      refine congrArg (R.bind _) (funext fun x => funext fun st1 => ?_)
      rw [← ok_id (asBM x st1)]
      rw [assoc_b]
      refine congrArg (R.bind _) (funext fun b => funext fun st2 => ?_)
      cases b with
      | false => rfl
      | true => rw [evAll]; rfl
    | _ :: _ :: _, _ :: _ :: _, _, h6, _, _ => simp at h6
    | [], _ :: _, hl, _, _, _ => simp at hl
    | _ :: _, [], hl, _, _, _ => simp at hl
    | [_], _ :: _ :: _, hl, _, _, _ => simp at hl
    | _ :: _ :: _, [_], hl, _, _, _ => simp at hl
  exact ⟨eelt, etg, eit, ifs, scope, pos, rfl, ⟨src_pi C h1 L, h4, fun s H Cc cl fp => pg_ok (blk_ctx C h4 s H Cc cl fp) tg etg h5, ht, fun s H Cc cl fp => (ex_ok elt (blk_ctx C h4 s H Cc cl fp) eelt h9).pe, folded_of h3⟩⟩
theorem lc_forms {e : Ex} {a : Expr} {b : List Comprehension} {s : Scope} {p : Pos} (h : chkE c G N e sc fn (.ListComp a b s p) = true) : (∃ tg sk src cond elt, e = .comp tg sk src cond elt) ∨ (∃ tg sk src cond elt, e = .new (.comp tg sk src cond elt) ∧ chkE c G N (.comp tg sk src cond elt) sc fn (.ListComp a b s p) = true) ∨ ∃ tg sk src cond elt, e = .compH tg sk src cond elt ∧ chkE c G N (.comp tg sk src cond elt) sc fn (.ListComp a b s p) = true := by
  cases e with
  | comp tg sk src cond elt => exact .inl ⟨_, _, _, _, _, rfl⟩
  | compH tg sk src cond elt => exact .inr (.inr ⟨_, _, _, _, _, rfl, compH_chk h⟩)
  | new e =>
    unfold chkE at h
    rw [Bool.and_eq_true] at h
    cases e with
    | comp tg sk src cond elt => exact .inr (.inl ⟨_, _, _, _, _, rfl, h.2⟩)
    | _ => obtain ⟨h0, h⟩ := h; first | (unfold chkE at h; cases h; done) | cases h0
  | lock i e => unfold chkE at h; rw [Bool.and_eq_true] at h; exact absurd h.1 (by simp [lcForm])
  | _ => unfold chkE at h; cases h
theorem set_ok (C : Ctx X c G N sc fn k) {tg : Tg} {e : Ex} {t v : Expr} {pos : Pos} (h1 : notSC v = true) (h2 : noPair sc v t = true) (h3 : chkTg N sc fn tg t = true) (h4 : chkE c G N e sc fn v = true) : PS X (.Assign [t] v pos) (tS X (setS tg (evE c e))) := by
  by_cases hsw : swapB sc v t = true
  · cases v with
    | ListComp a b s p =>
      cases t with
      | Name y py =>
        cases tg with
        | tup l => unfold chkTg at h3; cases h3
        | one i =>
          have hi : N[i]? = some y := by
            unfold chkTg at h3
            simp only [Bool.and_eq_true, decide_eq_true_eq] at h3
            exact h3.1.1
          rcases lc_forms h4 with ⟨tg, sk, src, cond, elt, rfl⟩ | ⟨tg, sk, src, cond, elt, rfl, h5⟩ | ⟨tg, sk, src, cond, elt, rfl, h5⟩
          · obtain ⟨eelt, etg, eit, ifs, scope, pos2, ev, L⟩ := lc_ok C h4
            cases ev
            refine (s_setLc C hsw hi L.hi (by rw [C.hN, C.hsc]; exact blkOk_by L.ok) L.hg L.htF L.heF L.hs).imp fun Dn σ H q => ?_
            have q := name_core q
            rw [fun_of fun env => by rw [evE]] at q
            show tLc _ _ _ _ _ σ H _
            rw [own_slots]
            exact comp_core (tM_tR only_comp q)
          · obtain ⟨eelt, etg, eit, ifs, scope, pos2, ev, L⟩ := lc_ok C h5
            cases ev
            refine (s_setLc C hsw hi L.hi (by rw [C.hN, C.hsc]; exact blkOk_by L.ok) L.hg L.htF L.heF L.hs).imp fun Dn σ H q => ?_
            have q := name_core q
            rw [fun_of fun env => by rw [evE]] at q
            have q := new_core q
            rw [fun_of fun env => by rw [evE]] at q
            show tLc _ _ _ _ _ σ H _
            rw [own_slots]
            exact comp_core q
          · obtain ⟨eelt, etg, eit, ifs, scope, pos2, ev, L⟩ := lc_ok C h5
            cases ev
            refine (s_setLc C hsw hi L.hi (by rw [C.hN, C.hsc]; exact blkOk_by L.ok) L.hg L.htF L.heF L.hs).imp fun Dn σ H q => ?_
            have q := name_core q
            rw [fun_of fun env => by rw [evE]] at q
            show tLc _ _ _ _ _ σ H _
            rw [own_slots]
            exact compH_core q
      | _ => unfold swapB at hsw; cases hsw
    | _ => unfold swapB at hsw; cases hsw
  · exact s_set C (ex_ok e C v h4).pe h3 h1 h2 (by simpa using hsw)
theorem locals_cons {i : Nat} {is : List Nat} {e : Expr} {es : List Expr} {l : Nat} (h : locals N sc (i :: is) (e :: es) l = true) : ∃ y p, e = .Name y p ∧ N[i]? = some y ∧ sc.names.lookup y = some .local ∧ p.line = l ∧ locals N sc is es l = true := by
  cases e with
  | Name y p =>
    unfold locals at h
    simp only [Bool.and_eq_true, decide_eq_true_eq, beq_iff_eq] at h
    exact ⟨y, p, rfl, h.1.1.1, h.1.1.2, h.1.2, h.2⟩
  | _ => unfold locals at h; cases h
theorem par_ok (C : Ctx X c G N sc fn k) {ts : List Nat} {es : List Ex} {tes ves : List Expr} {kt k2 : Nat} {pt pt2 pos : Pos} (h1 : ts.Nodup) (h2 : locals N sc ts tes ((tes.head?.map (·.pos.line)).getD 0) = true) (h3 : ts.length = 2 ∨ ts.length = 3) (h4 : tes.length = ves.length) (h5 : ves.all notStar = true)
    (h6 : ves.all (foldedForSure 8) = false) (h7 : ves.all (constantsAlone 8) = false) (h8 : chkL c G N es sc fn ves = true) : PS X (.Assign [.Tuple tes kt pt] (.Tuple ves k2 pt2) pos) (tS X (parS ts (evL c es))) := by
  have L := exs_ok es C ves h8
  have lt : ∀ {ts : List Nat} {tes : List Expr} {l : Nat}, locals N sc ts tes l = true → tes.length = ts.length := by
    intro ts
    induction ts with
    | nil => intro tes l h; cases tes with
      | nil => rfl
      | cons _ _ => unfold locals at h; cases h
    | cons i ts ih => intro tes l h; cases tes with
      | nil => unfold locals at h; cases h
      | cons e tes => obtain ⟨y, p, rfl, _, _, _, h⟩ := locals_cons h; simp [ih h]
  have l1 := lt h2
  rcases h3 with h3 | h3
  · match ts, tes, ves, h3, l1, h4 with
    | [i, j], [e1, e2], [a, b], _, _, _ =>
      obtain ⟨x, px, rfl, n1, lx, ll, h2⟩ := locals_cons h2
      obtain ⟨y, py, rfl, n2, ly, ll2, _⟩ := locals_cons h2
      have st : notStar a = true ∧ notStar b = true := by simpa using h5
      exact s_par2 C n1 n2 (by simpa using h1) lx ly ll2 st.1 st.2 h6 h7 (L.pa h5)
  · match ts, tes, ves, h3, l1, h4 with
    | [i, j, l], [e1, e2, e3], [a, b, d], _, _, _ =>
      obtain ⟨x, px, rfl, n1, lx, ll, h2⟩ := locals_cons h2
      obtain ⟨y, py, rfl, n2, ly, ll2, h2⟩ := locals_cons h2
      obtain ⟨z, pz, rfl, n3, lz, ll3, _⟩ := locals_cons h2
      have st : notStar a = true ∧ notStar b = true ∧ notStar d = true := by simpa using h5
      have nd : (i ≠ j ∧ i ≠ l) ∧ j ≠ l := by simpa using h1
      exact s_par3 C n1 n2 n3 nd.1.1 nd.1.2 nd.2 lx ly lz ll2 ll3 st.1 st.2.1 st.2.2 h6 h7 (L.pa h5)
theorem parC_ok (C : Ctx X c G N sc fn k) {ts : List Nat} {es : List Ex} {tes ves : List Expr} {kt k2 : Nat} {pt pt2 pos : Pos} (h : parC N sc fn ts (.Tuple tes kt pt) (.Tuple ves k2 pt2) = true) (h8 : chkL c G N es sc fn ves = true) :
    PS X (.Assign [.Tuple tes kt pt] (.Tuple ves k2 pt2) pos) (tS X (parS ts (evL c es))) := by
  have L := exs_ok es C ves h8
  have h0 := h
  unfold parC at h
  split at h
  · rename_i i j x y _ _ a b _ _ e1 e2
    cases e1
    cases e2
    simp only [Bool.and_eq_true] at h
    exact s_parC C h0 (L.pa (by simp [h.1.2, h.2])) (fun env st ds st' e => by have := L.len env st ds st' e; simpa using this)
  · rename_i i j l m x y z w _ _ a b d e _ _ e1 e2
    cases e1
    cases e2
    simp only [Bool.and_eq_true] at h
    exact s_parC4 C h0 (L.pa (by simp [h.1.1.1.2, h.1.1.2, h.1.2, h.2]))
  · cases h
theorem fun_ofS {m : Env → M (Fl × Env)} {e : St} (h : ∀ env, evS c e env = m env) : evS c e = m := funext h
mutual
theorem st_ok {X : Cx} (C : Ctx X c G N sc fn k) (hs : X.stack = X.env :: X.outer ∧ X.env.frame = some X.env.locals) (hp : PassesOwn (model X.prog X.w) X.A X.env X.xe) : ∀ (s : St) (ee : Stmt), chkS c G N sc fn s ee = true → PS X ee (tS X (evS c s))
  | .lockS i s, ee, h => by
    have h : chkS c G N sc fn s ee = true := by unfold chkS at h; exact h
    have e1 : evS c (.lockS i s) = lockSM i (evS c s) := by
      funext env
      rw [evS]
      rfl
    rw [e1]
    exact s_lock i (st_ok C hs hp s ee h)
  | .set tg e, ee, h => by
    cases ee with
    | Assign ts v pos =>
      rcases ts with _ | ⟨t, _ | ⟨_, _⟩⟩ <;> first | (unfold chkS at h; cases h; done) | skip
      unfold chkS at h
      simp only [Bool.and_eq_true] at h
      obtain ⟨⟨⟨h1, h2⟩, h3⟩, h4⟩ := h
      rw [fun_ofS fun env => by rw [evS]]
      exact set_ok C h1 h2 h3 h4
    | _ => unfold chkS at h; cases h
  | .par ts es, ee, h => by
    cases ee with
    | Assign tt v pos =>
      rcases tt with _ | ⟨t, _ | ⟨_, _⟩⟩ <;> first | (unfold chkS at h; cases h; done) | (cases t <;> (unfold chkS at h; cases h); done) | skip
      cases t with
      | Tuple tes kt pt =>
        cases v with
        | Tuple ves k2 pt2 =>
          unfold chkS at h
          simp only [Bool.and_eq_true, decide_eq_true_eq, Bool.or_eq_true, Bool.not_eq_true'] at h
          obtain ⟨h, h8⟩ := h
          rw [fun_ofS fun env => by rw [evS]]
          rcases h with h | h
          · obtain ⟨⟨⟨⟨⟨⟨h1, h2⟩, h3⟩, h4⟩, h5⟩, h6⟩, h7⟩ := h
            exact par_ok C h1 h2 h3 h4 h5 h6 h7 h8
          · exact parC_ok C h h8
        | _ => unfold chkS at h; cases h
      | _ => unfold chkS at h; cases h
    | _ => unfold chkS at h; cases h
  | .seti o i e, ee, h => by
    cases ee with
    | Assign ts v pos =>
      rcases ts with _ | ⟨t, _ | ⟨_, _⟩⟩ <;> first | (unfold chkS at h; cases h; done) | (cases t <;> (unfold chkS at h; cases h); done) | skip
      cases t with
      | Subscript eo ei tpos =>
        unfold chkS at h
        simp only [Bool.and_eq_true] at h
        obtain ⟨⟨⟨⟨h1, h2⟩, h3⟩, h4⟩, h5⟩ := h
        rw [fun_ofS fun env => by rw [evS]]
        exact s_seti C (ex_ok e C v h3).pe (ex_ok o C eo h4).pe (ex_ok i C ei h5).pe h1 h2
      | _ => unfold chkS at h; cases h
    | _ => unfold chkS at h; cases h
  | .expr e, ee, h => by
    cases ee with
    | Expr v pos =>
      unfold chkS at h
      rw [Bool.and_eq_true] at h
      rw [fun_ofS fun env => by rw [evS]]
      exact s_expr (ex_ok e C v h.2).pe h.1
    | _ => unfold chkS at h; cases h
  | .ret e, ee, h => by
    cases ee with
    | Return v pos =>
      cases v with
      | none => unfold chkS at h; cases h
      | some v =>
        unfold chkS at h
        rw [fun_ofS fun env => by rw [evS]]
        exact s_ret (ex_ok e C v h).pe
    | _ => unfold chkS at h; cases h
  | .retN, ee, h => by
    cases ee with
    | Return v pos =>
      cases v with
      | some _ => unfold chkS at h; cases h
      | none => exact flow_of (f := .rt (.p .none)) (fun env st => by rw [evS]; rfl) ps_retN fun hE hS q => q _ _ _ .refl hS hE rfl _ (.p .non)
    | _ => unfold chkS at h; cases h
  | .ite t a b, ee, h => by
    cases ee with
    | If et ea eb pos =>
      unfold chkS at h
      simp only [Bool.and_eq_true] at h
      obtain ⟨⟨⟨h1, h2⟩, h3⟩, h4⟩ := h
      rw [fun_ofS fun env => by rw [evS]]
      exact s_ite ((ex_ok t C et h2).tt h1) (sts_ok C hs hp a ea h3) (sts_ok C hs hp b eb h4)
    | _ => unfold chkS at h; cases h
  | .for tg sk src body, ee, h => by
    cases ee with
    | For etg eit eb orelse pos =>
      rcases orelse with _ | ⟨_, _⟩
      rotate_left
      · unfold chkS at h; cases h
      unfold chkS at h
      simp only [Bool.and_eq_true] at h
      obtain ⟨⟨⟨⟨h1, h2⟩, h3⟩, h4⟩, h5⟩ := h
      rw [fun_ofS fun env => by rw [evS]]
      exact s_for C hp (src_pi C h1 (exs_ok src C _ h3)) (pg_ok C tg etg h4) (sts_ok C hs hp body eb h5) (folded_of h2)
    | _ => unfold chkS at h; cases h
  | .while n t body, ee, h => by
    cases ee with
    | While et eb orelse pos =>
      rcases orelse with _ | ⟨_, _⟩
      rotate_left
      · unfold chkS at h; cases h
      unfold chkS at h
      simp only [Bool.and_eq_true] at h
      obtain ⟨⟨h1, h2⟩, h3⟩ := h
      rw [fun_ofS fun env => by rw [evS]]
      exact s_while hp n ((ex_ok t C et h2).tt h1) (sts_ok C hs hp body eb h3)
    | _ => unfold chkS at h; cases h
  | .brk, ee, h => by
    cases ee with
    | Break pos => exact flow_of (f := .bk) (fun env st => by rw [evS]; rfl) ps_break fun hE hS q => q _ _ _ .refl hS hE rfl
    | _ => unfold chkS at h; cases h
  | .cont, ee, h => by
    cases ee with
    | Continue pos => exact flow_of (f := .ct) (fun env st => by rw [evS]; rfl) ps_continue fun hE hS q => q _ _ _ .refl hS hE rfl
    | _ => unfold chkS at h; cases h
  | .pass, ee, h => by
    cases ee with
    | Pass pos => exact flow_of (f := .nx) (fun env st => by rw [evS]; rfl) ps_pass fun hE hS q => q _ _ _ .refl hS hE rfl
    | Expr v pos =>
      cases v with
      | Constant q n p =>
        cases q with
        | str x => exact flow_of (f := .nx) (fun env st => by rw [evS]; rfl) ps_doc fun hE hS q => q _ _ _ .refl hS hE rfl
        | _ => unfold chkS at h; cases h
      | _ => unfold chkS at h; cases h
    | _ => unfold chkS at h; cases h
  | .hole, ee, h => by
    refine ⟨fun pins s σ H D I z => ?_⟩
    obtain ⟨ρ, env, st, hE, hS, q⟩ := z
    rw [evS] at q
    exact q.elim
  | .raise x a, ee, h => by
    cases ee with
    | Raise v w pos =>
      rcases a with _ | ⟨e, _ | ⟨_, _⟩⟩
      · cases v with
        | none => unfold chkS at h; cases h
        | some v =>
          cases v with
          | Call f es kws p2 =>
            cases f with
            | Name y p =>
              cases es with
              | cons _ _ => unfold chkS at h; cases h
              | nil =>
                cases kws with
                | cons _ _ => unfold chkS at h; cases h
                | nil =>
                  cases w with
                  | some _ => unfold chkS at h; cases h
                  | none =>
                    unfold chkS at h
                    simp only [Bool.and_eq_true, decide_eq_true_eq] at h
                    obtain ⟨⟨⟨rfl, h2⟩, h3⟩, h4⟩ := h
                    exact s_raise0 C (by simpa using h4) h2 h3
            | _ => unfold chkS at h; cases h
          | _ => unfold chkS at h; cases h
      · cases v with
        | none => unfold chkS at h; cases h
        | some v =>
          cases v with
          | Call f es kws p2 =>
            cases f with
            | Name y p =>
              rcases es with _ | ⟨e1, _ | ⟨_, _⟩⟩
              · unfold chkS at h; cases h
              · cases kws with
                | cons _ _ => unfold chkS at h; cases h
                | nil =>
                  cases w with
                  | some _ => unfold chkS at h; cases h
                  | none =>
                    unfold chkS at h
                    simp only [Bool.and_eq_true, decide_eq_true_eq] at h
                    obtain ⟨⟨⟨⟨⟨rfl, h2⟩, h3⟩, h4⟩, h5⟩, h6⟩ := h
                    exact s_raise C (by simpa using h5) h2 h3 h4 ((exs_ok [e] C [e1] h6).pa (by simp [h4]))
              · unfold chkS at h; cases h
            | _ => unfold chkS at h; cases h
          | _ => unfold chkS at h; cases h
      · unfold chkS at h; cases h
    | _ => rcases a with _ | ⟨e, _ | ⟨_, _⟩⟩ <;> (unfold chkS at h; cases h)
  | .tryR body x nm sx, ee, h => by
    cases nm with
    | none =>
      cases sx with
      | cst d =>
        unfold chkS at h
        split at h <;> rename_i heq <;> first | (cases h; done) | (cases heq; done) | skip
        injection heq with e1 e2 e3 e4
        injection e4 with e4
        subst e1 e2 e4
        simp only [Bool.and_eq_true, decide_eq_true_eq, beq_iff_eq, List.any_eq_true] at h
        obtain ⟨⟨⟨⟨⟨rfl, h2⟩, h3⟩, q, h4, h5⟩, h6⟩, h7⟩ := h
        refine s_try0 C hs (b0 := q.2) (by rw [← h5]; exact h4) h2 h3 h6 fun pn xe po => ?_
        have C' : Ctx (X.tr pn xe) c G N sc fn k := ⟨C.hN, C.nd, C.hsc, C.calm, C.gd, C.room, C.gb, C.hfn, C.kind, C.gx⟩
        exact sts_ok C' hs po body _ h7
      | _ => unfold chkS at h; cases h
    | some i =>
      unfold chkS at h
      split at h <;> rename_i heq <;> first | (cases h; done) | (cases heq; done) | skip
      injection heq with e1 e2 e3 e4
      injection e3 with e3
      subst e1 e2 e3 e4
      simp only [Bool.and_eq_true, decide_eq_true_eq, beq_iff_eq, List.any_eq_true] at h
      obtain ⟨⟨⟨⟨⟨⟨⟨⟨rfl, h2⟩, h3⟩, q, h4, h5⟩, h6⟩, h7⟩, h8⟩, h9⟩, h10⟩ := h
      refine s_try C hs (b0 := q.2) (by rw [← h5]; exact h4) h2 h3 h6 h7 h8 h9 fun pn xe po => ?_
      have C' : Ctx (X.tr pn xe) c G N sc fn k := ⟨C.hN, C.nd, C.hsc, C.calm, C.gd, C.room, C.gb, C.hfn, C.kind, C.gx⟩
      exact sts_ok C' hs po body _ h10
theorem sts_ok {X : Cx} (C : Ctx X c G N sc fn k) (hs : X.stack = X.env :: X.outer ∧ X.env.frame = some X.env.locals) (hp : PassesOwn (model X.prog X.w) X.A X.env X.xe) : ∀ (l : List St) (es : List Stmt), chkSs c G N sc fn l es = true → PSs X es (tS X (evSs c l))
  | [], es, h => by
    cases es with
    | nil =>
      have e : evSs c [] = fun env => pure (.nx, env) := by funext env; rw [evSs]
      rw [e]
      exact ss_nil
    | cons _ _ => unfold chkSs at h; cases h
  | s :: r, es, h => by
    cases es with
    | nil => unfold chkSs at h; cases h
    | cons e es =>
      unfold chkSs at h
      rw [Bool.and_eq_true] at h
      have e1 : evSs c (s :: r) = seqS (evS c s) (evSs c r) := by funext env; rw [evSs]; rfl
      rw [e1]
      exact ss_cons (st_ok C hs hp s e h.1) (sts_ok C hs hp r es h.2)
end
end
end PB
set_option maxRecDepth 100000
set_option maxHeartbeats 4000000
/-! Pb, part 25: functions by their bodies. -/
namespace PB
open PySem PySem.Spec PyProof.Rows L2
section
variable {K : PySem.W.Frag} {ρ ρ' : Pl} {H H' : Hp} {st : Sto}
theorem Ext.cut (e : Ext ρ H ρ' H') : Ext ρ H (ρ'.cut ρ.l.length) H' := by
  obtain ⟨new, nz, g1, g2, g3, g4⟩ := e.grow
  have l : (ρ'.cut ρ.l.length).l = ρ.l := by
    show ρ'.l.take ρ.l.length = ρ.l
    rw [g1]
    simp
  refine ⟨⟨⟨[], nz, by rw [l]; simp, g2, fun a h => (by cases h), g4⟩, e.keep, e.there, e.tbl⟩, e.frz⟩
theorem out_cut {a : Addr} {l n : Nat} (S : RS K H' ρ' st) (h : ρ'.l[l]? = some a) (hn : n ≤ l) : a ∉ ρ'.cut n := by
  intro z
  rcases z with z | z
  · have z : a ∈ ρ'.l.take n := z
    obtain ⟨i, hi, e⟩ := List.getElem_of_mem z
    have hi' : i < n ∧ i < ρ'.l.length := by simp at hi; omega
    rw [List.getElem_take] at e
    obtain ⟨hl, e2⟩ := List.getElem?_eq_some_iff.mp h
    have := (List.getElem_inj S.nd).mp (e.trans e2.symm)
    omega
  · exact S.dj a (List.mem_of_getElem? h) z
theorem frz_ok (S : RS K H' ρ' st) {n : Nat} : ∀ {k : Nat} {d : D} {x : V} {q : P}, RD K H' ρ' x d → frzD k n st d = some q → RP K H' (ρ'.cut n) x q
  | 0, .p q, x, _, r, e => by
    cases e
    cases r with
    | p r => exact r.less Pl.cut_sub
  | 0, .ref l, x, q, r, e => by cases e
  | k + 1, .p q, x, _, r, e => by
    cases e
    cases r with
    | p r => exact r.less Pl.cut_sub
  | k + 1, .ref l, x, q, r, e => by
    have all : ∀ {xs : List V} {ds : List D} {qs : List P}, RDs K H' ρ' xs ds → frzL (frzD k n st) ds = some qs → RPs K H' (ρ'.cut n) xs qs := by
      intro xs ds
      induction ds generalizing xs with
      | nil => intro qs h e; cases h; cases e; exact .nil
      | cons d ds ih =>
        intro qs h e
        cases h with
        | cons h t =>
          obtain ⟨q1, e1, e⟩ := Option.bind_eq_some_iff.mp (show ((frzD k n st d).bind fun q => (frzL (frzD k n st) ds).map fun t => q :: t) = some qs from e)
          obtain ⟨t1, e2, rfl⟩ := Option.map_eq_some_iff.mp e
          exact .cons (frz_ok S h e1) (ih t e2)
    have allk : ∀ {xs : List (Key × V)} {ds : List (Key × D)} {qs : List P}, RDk K H' ρ' xs ds → frzL (frzD k n st) (ds.map Prod.snd) = some qs → RPk K H' (ρ'.cut n) xs ((ds.map fun kv => keyP kv.1).zip qs) := by
      intro xs ds
      induction ds generalizing xs with
      | nil => intro qs h e; cases h; cases e; exact .nil
      | cons d ds ih =>
        intro qs h e
        cases h with
        | cons h t =>
          obtain ⟨q1, e1, e⟩ := Option.bind_eq_some_iff.mp (show ((frzD k n st _).bind fun q => (frzL (frzD k n st) (ds.map Prod.snd)).map fun t => q :: t) = some qs from e)
          obtain ⟨t1, e2, rfl⟩ := Option.map_eq_some_iff.mp e
          exact .cons (frz_ok S h e1) (ih t e2)
    unfold frzD at e
    dsimp only at e
    split at e
    · cases e
    · rename_i hl
      cases r with
      | @ref a _ r =>
        have oc : a ∉ ρ'.cut n := out_cut S r (by omega)
        cases o : st[l]? with
        | none => rw [o] at e; cases e
        | some o' =>
          rw [o] at e
          obtain ⟨r1, _⟩ := S.ob l a o' r o
          cases o' with
          | lst xs =>
            obtain ⟨vs, r1, r2⟩ := r1
            obtain ⟨qs, e1, rfl⟩ := Option.map_eq_some_iff.mp e
            exact .lst (.inl ⟨.inl r1, oc⟩) (all r2 e1)
          | tup xs =>
            obtain ⟨vs, r1, r2⟩ := r1
            obtain ⟨qs, e1, rfl⟩ := Option.map_eq_some_iff.mp e
            exact .tup (.inl ⟨.inl r1, oc⟩) (all r2 e1)
          | dct w xs =>
            obtain ⟨vs, r1, r2⟩ := r1
            obtain ⟨qs, e1, rfl⟩ := Option.map_eq_some_iff.mp e
            exact .dct r1.rd oc (allk r2 e1)
theorem leave_ok {frz : Bool} {n : Nat} {d : D} {x : V} {Q : VK} (hn : ρ.l.length = n) {EE0 : EE} (h : (leave frz n d st).holds (Post K ρ H Q) EE0) (e : Ext ρ H ρ' H') (S : RS K H' ρ' st) (r : RD K H' ρ' x d) : Q x H' := by
  subst hn
  cases d with
  | p q =>
    have h : Post K ρ H Q (.p q) (st.take ρ.l.length) := h
    cases r with
    | p r => exact h _ _ x e.cut (S.cut _) (.p (r.less Pl.cut_sub))
  | ref l =>
    unfold leave at h
    dsimp only at h
    split at h
    · rename_i hl
      have h : Post K ρ H Q (.ref l) (st.take ρ.l.length) := h
      cases r with
      | ref r => exact h _ _ _ e.cut (S.cut _) (.ref (by show (ρ'.l.take _)[l]? = _; rw [List.getElem?_take_of_lt hl]; exact r))
    · rename_i hl
      split at h
      · cases ev : frzD 4 ρ.l.length st (.ref l) with
        | none => rw [ev] at h; exact h.elim
        | some q =>
          rw [ev] at h
          have h : Post K ρ H Q (.p q) (st.take ρ.l.length) := h
          exact h _ _ x e.cut (S.cut _) (.p (frz_ok S r ev))
      · have h : Post K ρ H Q (.ref l) st := h
        exact h _ _ x e S r
end
section
variable {Pg : Program} {w : World} {K : PySem.W.Frag} {mg : Str → Option Value} {base : Heap} {k : Nat} {c : Cfg} {G : List (String × P)}
/-- a function of the text does what the interpreter says -/
theorem fn_G {f : Addr} {name qual : Str} {params : Arguments} {body : List Stmt} {scope : Scope} {dV kV doc pm cdv ct oc : Value} {an od : Option Addr} {osl : Array (Option Value)} {N ps : List Str} {b : List St}
    (frz : Bool) (gb : Glb Pg w K mg base k c G) (lk : K.lookup f = some ⟨oc, od, .func (PySem.W.fnOf name qual params body scope dV kV doc pm an cdv ct), osl⟩) (hcd : PySem.W.codeIn K cdv qual = true) (hgx : c.gx = true → ∃ cc P, cdv = .ref cc ∧ GxR.TabB base mg cc P ∧ P ∈ tabsK K) (S : FnScope N ps scope)
    (chk : chkSs c G N scope (fun _ => true) b body = true) : FnG Pg w K mg base (k + 1) f (PySem.W.fnOf name qual params body scope dV kV doc pm an cdv ct) ps (runF c N.length frz b) := by
  refine ⟨fun A outer s H args us vs ds ρ st Q E room gd env0 bt vals rd S0 hl h => ?_⟩
  have hlv : vs.length = ps.length := rd.length.trans hl
  have kin : K.In s.heap := env0.mod.kin.keeps (fun a o e => (env0.bs a o e).1)
  have nl : s.heap.NoLimit := env0.mod.nolimit.keeps (fun a o e => (env0.bs a o e).1)
  have kinds : ∀ y ∈ ps.zip us, scope.names.lookup y.1 = some .local ∨ (scope.names.lookup y.1 = some .cell ∧ ((cellsFrom (s.heap.objs.size + 1) scope.names []).lookup y.1).isSome = true) := by
    rintro ⟨n, v⟩ hy
    exact (S.par n (List.of_mem_zip hy).1).imp id (fun q => And.intro q (PySem.W.cellsFrom_some _ _ _ (Or.inl q)))
  refine codeAny_call_function room.depth (kin _ _ lk) rfl S.co S.gen rfl (PySem.W.codeRec_of kin hcd) (bt _ _ _ _ ?_)
  refine wpAny_newFunctionEnv_cells S.kind kinds ?_
  intro en hen s1 made
  subst hen
  refine And.intro (nl.keeps made.toInCall.keep) (codeAny_func ?_)
  have I : Inv (cxOf (L2.CX Pg w) Pg w K mg base N qual scope f cdv A outer s H E) [] (L2.start N vs) H s1 := inv_start S room.hd env0 hlv vals made
  have C : Ctx (cxOf (L2.CX Pg w) Pg w K mg base N qual scope f cdv A outer s H E) c G N scope (fun _ => true) k :=
    { hN := rfl, nd := S.nd, hsc := rfl, calm := rfl, gd := gd, room := room.deeper _, gb := gb, hfn := fun _ _ => rfl, kind := S.kind, gx := hgx }
  have own : PassesOwn (model Pg w) (cxOf (L2.CX Pg w) Pg w K mg base N qual scope f cdv A outer s H E).A (cxOf (L2.CX Pg w) Pg w K mg base N qual scope f cdv A outer s H E).env (cxOf (L2.CX Pg w) Pg w K mg base N qual scope f cdv A outer s H E).xe := passes_of rfl
  have body_ok := sts_ok C ⟨rfl, rfl⟩ own b body chk
  have hps : ps.length ≤ N.length := by
    have := congrArg List.length S.pre
    simp at this
    omega
  have dl : ds.length = vs.length := by rw [hl, hlv]
  have E0' : RE K H ρ (ds.map some ++ List.replicate (N.length - ds.length) none) (L2.start N vs) := by
    unfold L2.start
    refine ⟨by simp [dl], fun i d e => ?_⟩
    by_cases hi : i < ds.length
    · rw [List.getElem?_append_left (by simpa using hi), List.getElem?_map] at e
      rw [List.getElem?_append_left (by simpa [← dl] using hi), List.getElem?_map]
      cases e2 : ds[i]? with
      | none => rw [e2] at e; cases e
      | some d' =>
        rw [e2] at e
        cases e
        obtain ⟨x, h1, h2⟩ := rd.get e2
        exact ⟨x, by rw [h1]; rfl, h2⟩
    · rw [List.getElem?_append_right (by simpa using hi), List.getElem?_replicate] at e
      split at e <;> cases e
  have want : tS (cxOf (L2.CX Pg w) Pg w K mg base N qual scope f cdv A outer s H E) (evSs c b) { nx := fun _ H' => Q .non H', rt := Q } (L2.start N vs) H := by
    refine ⟨ρ, _, st, E0', S0, ?_⟩
    have h : ((evSs c b (ds.map some ++ List.replicate (N.length - ds.length) none) st).bind fun q st' => match q.1 with
      | .rt d => leave frz st.length d st'
      | .nx => leave frz st.length (.p .none) st'
      | _ => .bad).holds (Post K ρ H Q) (ErK K mg ρ H E) := h
    refine holds_mono (holds_bind.mp h) (fun q st1 h1 ρ1 H1 σ1 e S1 E1 l1 => ?_) fun _ _ _ z ρ1 H1 cls d e1 S1 x1 => Xw.of (takes_of rfl rfl rfl rfl) (z ρ1 H1 cls d e1 S1 x1)
    obtain ⟨fl, env1⟩ := q
    cases fl with
    | nx => exact leave_ok S0.len h1 e S1 (.p .non)
    | rt d => exact fun x rx => leave_ok S0.len h1 e S1 rx
    | bk => exact h1.elim
    | ct => exact h1.elim
  refine wpAny_mono (body_ok.run [] s1 (L2.start N vs) H _ I want) (fun fl s' hs => ?_) (fun _ _ z => z)
  have done : ∀ {σ' : List (Option V)} {H' : Hp} {v : V} {u : Value}, Inv (cxOf (L2.CX Pg w) Pg w K mg base N qual scope f cdv A outer s H E) [] σ' H' s' → RelV v u → Q v H' → CE outer Pg w H s Q u s' := by
    intro σ' H' v u J rv q
    exact ⟨v, H', J.os, J.bare, J.base, J.hok, rv, q⟩
  cases fl with
  | ret u =>
    obtain ⟨v, σ', H', J, rv, q⟩ := hs
    exact done J rv q
  | next =>
    obtain ⟨σ', H', J, q⟩ := hs
    exact done (v := V.non) (u := Value.none) J rfl q
  | brk => exact hs.elim fun _ z => z.elim fun _ z => z.2.elim
  | cont => exact hs.elim fun _ z => z.elim fun _ z => z.2.elim
end
end PB
set_option maxRecDepth 100000
set_option maxHeartbeats 4000000
/-! Pb, part 26: the end of a law. -/
namespace PB
open PySem PySem.Spec PyProof.Rows L2
/-- the abstract heap at a law's call: the table of modules, the script (where it is no object of the module) -/
noncomputable def lawH (K : PySem.W.Frag) (a : Addr) (o0 oL : Obj) (xs : List V) : Hp := fun b =>
  if b = sysModules then some (.ext fun h => h.get? sysModules = some o0)
  else if b ∈ tabsK K then some (.tbl #[])
  else if b = a ∧ K.lookup a = none then some (.frz oL (.lst xs)) else none
theorem law_G {Pg : Program} {w : World} {K : PySem.W.Frag} {mg mb : Str → Option Value} {k : Nat} {fa a : Addr} {fd : FuncData} {x : Str} {m : List D → M D} {s1 : Shared} {vs : List Value} {ns : List Int} {o0 : Obj} {es0 : Array DictEntry} {n0 : Nat}
    (inK : K.In s1.heap) (nsG : s1.heap.Ns mainGlobals mg) (nsB : s1.heap.Ns builtinsNs mb) (bb : ∀ x : Str, x ≠ "__name__" → mb x = bootBuiltins x) (nl : s1.heap.NoLimit) (ng : s1.gens = #[])
    (sysO : s1.heap.get? sysModules = some o0) (sysD : o0.data = .dict es0 n0) (sysK : K.lookup sysModules = none)
    (obj : s1.heap.get? a = some { cls := .type "list", data := .seq vs.toArray }) (hints0 : IntsAre vs ns) (short : ns.length ≤ sizeLine) (room : Room k callerA)
    (hT : ∀ x c P, x ∈ gnx → PySem.W.tabIn K x = some (c, P) → PySem.W.CodeHd s1.heap c P ∧ s1.heap.get? P = some (PySem.W.tabObj #[])) (nT : ∀ P ∈ tabsK K, K.lookup P = none)
    (hbm : ∃ (bm : Addr) (ob : Obj), mg "__builtins__" = some (.ref bm) ∧ bm ≠ builtinsNs ∧ s1.heap.get? bm = some ob ∧ ob.cls = .type "module" ∧ ob.dict = some builtinsNs ∧ ob.data = .plain)
    (F : ∀ base : Heap, K.In base → base.Ns mainGlobals mg → (∀ x c P, x ∈ gnx → PySem.W.tabIn K x = some (c, P) → GxR.TabB base mg c P) → FnG Pg w K mg base k fa fd [x] m) (bd : ∀ (s : Shared) (u : Value), BindsTo s fd ⟨[u], []⟩ [(x, u)])
    (run : ∃ st, m [.p (.list (ns.map .int))] [] = .ok (.p (.bool true)) st) :
    codeAny (model Pg w) callerA (.call (.ref fa) ⟨[.ref a], []⟩) (fun r s' => r = .ok (.ret (.bool true)) ∧ OldK s1.heap s'.heap ∧ s'.os = s1.os ∧ AllBare s'.gens) s1 := by
  have rv := vals_ints hints0
  have hlen := hints0.length
  generalize hoL : ({ cls := .type "list", data := .seq vs.toArray } : Obj) = oL at obj
  generalize hHH : lawH K a o0 oL (ns.map V.int) = H
  have hsys : H sysModules = some (.ext fun h => h.get? sysModules = some o0) := by
    rw [← hHH]
    exact if_pos rfl
  have ane : a ≠ sysModules := by
    rintro rfl
    rw [sysO] at obj
    cases obj
    rw [← hoL] at sysD
    cases sysD
  have tobj : ∀ P ∈ tabsK K, (∃ c, PySem.W.CodeHd s1.heap c P) ∧ s1.heap.get? P = some (PySem.W.tabObj #[]) := by
    intro P hP
    obtain ⟨q, hq, rfl⟩ := List.mem_map.mp hP
    obtain ⟨x, hx, e⟩ := List.mem_filterMap.mp hq
    obtain ⟨h1, h2⟩ := hT x q.1 q.2 hx e
    exact ⟨⟨_, h1⟩, h2⟩
  have tdat : ∀ {P : Addr} {o : Obj}, P ∈ tabsK K → s1.heap.get? P = some o → o.cls = .none ∧ o.data = .fields #[] := by
    intro P o hP e
    rw [(tobj P hP).2] at e
    cases e
    exact ⟨rfl, rfl⟩
  have tsys : ∀ P ∈ tabsK K, P ≠ sysModules := by
    rintro P hP rfl
    have z := (tdat hP sysO).2
    rw [sysD] at z
    cases z
  have ta : a ∉ tabsK K := by
    intro hP
    have z := (tdat hP obj).2
    rw [← hoL] at z
    cases z
  have atT : ∀ P ∈ tabsK K, H P = some (.tbl #[]) := by
    intro P hP
    rw [← hHH]
    exact (if_neg (tsys P hP)).trans (if_pos hP)
  have other : ∀ b, b ≠ sysModules → b ∉ tabsK K → H b = if b = a ∧ K.lookup a = none then some (.frz oL (.lst (ns.map V.int))) else none := by
    intro b hb hb2
    rw [← hHH]
    exact (if_neg hb).trans (if_neg hb2)
  have noA : ∀ {b : Addr} {o : Obj} {es : Array DictEntry} {ep : Nat}, s1.heap.get? b = some o → o.data = .dict es ep → b ≠ sysModules → H b = none := by
    intro b o es ep e d hb
    have hb2 : b ∉ tabsK K := fun z => by
      have z := (tdat z e).2
      rw [d] at z
      cases z
    rw [other b hb hb2]
    refine if_neg ?_
    rintro ⟨rfl, _⟩
    rw [obj] at e
    cases e
    rw [← hoL] at d
    cases d
  have nsH : ∀ {b : Addr} {mm : Str → Option Value}, b ≠ sysModules → s1.heap.Ns b mm → (hidT s1.heap H).Ns b mm := by
    rintro b mm hb ⟨o, es, ep, e, d, r⟩
    exact ⟨o, es, ep, hidT_get e (noA e d hb), d, r⟩
  have kin : K.In (hidT s1.heap H) := by
    intro b o e
    refine hidT_get (inK b o e) ?_
    have hb : b ≠ sysModules := by
      rintro rfl
      rw [sysK] at e
      cases e
    have hb2 : b ∉ tabsK K := fun z => by
      rw [nT b z] at e
      cases e
    rw [other b hb hb2]
    refine if_neg ?_
    rintro ⟨rfl, z⟩
    rw [z] at e
    cases e
  have hMod : Mod K mg (hidT s1.heap H) := by
    obtain ⟨mc, h1, h2⟩ := nl
    exact ⟨kin, nsH (by decide) nsG, ⟨mb, nsH (by decide) nsB, bb⟩, ⟨mc, nsH (by decide) h1, h2⟩⟩
  have hok : HOk Pg w H s1.heap := by
    intro b u e
    by_cases hb : b = sysModules
    · subst hb
      rw [hsys] at e
      cases e
      exact ⟨sysO, ⟨_, sysO⟩, fun h1 h2 q r => r _ q⟩
    · by_cases hb2 : b ∈ tabsK K
      · rw [atT b hb2] at e
        cases e
        exact (tobj b hb2).2
      rw [other b hb hb2] at e
      split at e
      · rename_i hc
        obtain ⟨rfl, _⟩ := hc
        cases e
        rw [← hoL] at obj ⊢
        exact ⟨obj, by rw [List.length_map]; exact short, vs, _, rv, obj⟩
      · cases e
  have env0 : Env0 Pg w K mg (hidT s1.heap H) callerA [] s1 H := ⟨rfl, hMod, fun b o e => of_hidT e, Nat.le_of_eq (hidT_size _ _), trivial, fun b hb => absurd hb (by simp [frs]), hok, .of_eq ng⟩
  have rl : LsA K H ⟨[], []⟩ a (ns.map V.int) := by
    cases hk : K.lookup a with
    | none => exact .inl ⟨.inr ⟨oL, by rw [other a ane ta]; exact if_pos ⟨rfl, hk⟩⟩, fun z => by rcases z with z | z <;> cases z⟩
    | some o =>
      have e := inK a o hk
      rw [obj] at e
      cases e
      rw [← hoL] at hk
      exact .inr ⟨vs, _, hk, rv, by rw [List.length_map]; exact short⟩
  have S0 : RS K H ⟨[], []⟩ [] := ⟨rfl, List.nodup_nil, fun a h => (by cases h), fun a h => (by cases h), ⟨_, hsys⟩, fun P hP => ⟨⟨#[], atT P hP, trivial⟩, fun z => by rcases z with z | z <;> cases z⟩, fun i a o h => by simp at h⟩
  have noD : ∀ {b : Addr} {o : Obj}, s1.heap.get? b = some o → b ≠ sysModules → (∀ vs n, o.data ≠ .seq vs n) → o.data ≠ .fields #[] → H b = none := fun {b o} e hb h1 h2 => by
    have hb2 : b ∉ tabsK K := fun z => h2 (tdat z e).2
    rw [other b hb hb2]
    refine if_neg ?_
    rintro ⟨rfl, _⟩
    rw [obj] at e
    cases e
    rw [← hoL] at h1
    exact h1 _ _ rfl
  have TB : ∀ x c P, x ∈ gnx → PySem.W.tabIn K x = some (c, P) → GxR.TabB (hidT s1.heap H) mg c P := by
    intro x c P hx hi
    obtain ⟨C, hTp⟩ := hT x c P hx hi
    have sysF : ∀ {b : Addr} {o : Obj}, s1.heap.get? b = some o → (∀ es n, o.data ≠ .dict es n) → b ≠ sysModules := by
      rintro b o e h rfl
      rw [sysO] at e
      cases e
      exact h _ _ sysD
    refine ⟨?_, ?_, fun z => ?_⟩
    · obtain ⟨o, us, file, tf, flags, tg, inF, text, tt, e1, r1, r2, r3, r4, r5, r6, r7, r8, hne⟩ := C
      refine ⟨o, us, file, tf, flags, tg, inF, text, tt, hidT_get e1 (noD e1 (sysF e1 fun es n z => ?_) (fun vs n z => ?_) fun z => ?_), r1, r2, r3, r4, r5, r6, r7, r8, hne⟩
      · rw [r2] at z
        cases z
      · rw [r2] at z
        cases z
      · rw [r2] at z
        cases z
        simp at r3
    · obtain ⟨bm, ob, b1, b2, b3, b4, b5, b6⟩ := hbm
      have nG : bm ≠ mainGlobals := fun q => by
        obtain ⟨o, es, ep, e, hd, _⟩ := nsG
        rw [q, e] at b3
        cases b3
        rw [hd] at b6
        cases b6
      have nP : bm ≠ P := fun q => by
        rw [q, hTp] at b3
        cases b3
        cases b6
      refine ⟨bm, ob, b1, b2, nG, nP, hidT_get b3 (noD b3 (sysF b3 fun es n z => ?_) (fun vs n z => ?_) fun z => ?_), b4, b5, b6⟩
      · rw [b6] at z
        cases z
      · rw [b6] at z
        cases z
      · rw [b6] at z
        cases z
    · obtain ⟨o, es, ep, e, hd, _⟩ := nsG
      rw [z, hTp] at e
      cases e
      cases hd
  obtain ⟨st, run⟩ := run
  refine codeAny_mono ((F _ kin (nsH (by decide) nsG) TB).run callerA [] s1 H ⟨[.ref a], []⟩ [.ref a] [.ref a] [.p (.list (ns.map .int))] ⟨[], []⟩ [] (fun v H' => v = .bl true ∧ H' sysModules = H sysModules) (fun _ _ _ => False) room rfl env0 (bd s1 (.ref a)) (.cons rfl .nil)
    (.cons (.p (.lst rl (RPs.of_ints ns))) .nil) S0 rfl ?_) fun r s' h => ?_
  · rw [run]
    intro ρ' H' v e S r
    refine ⟨rv_bl (by cases r with | p r => exact r.rv), ?_⟩
    rw [hsys]
    exact e.keep _ _ hsys (by simp) fun _ z => (by cases z)
  · cases r with
    | error e =>
      obtain ⟨_, _, _, _, _, _, _, _, _, _, _, _, z⟩ := h
      exact z.elim
    | ok fl =>
      cases fl with
      | next => exact h.elim
      | brk => exact h.elim
      | cont => exact h.elim
      | ret u =>
        obtain ⟨v, H', os, bare, un, hok', r', q1, q2⟩ := h
        subst q1
        obtain rfl : u = Value.bool true := r'
        have key : ∀ b o, b ∉ tabsK K → s1.heap.get? b = some o → s'.heap.get? b = some o := by
          intro b o hb2 e
          by_cases hb : b = sysModules
          · subst hb
            rw [hsys] at q2
            obtain ⟨z, _⟩ := hok' _ _ q2
            rw [sysO] at e
            cases e
            exact z
          · cases q : H b with
            | none => exact un.keep b o e q (by simp [frs]) (by simp)
            | some u =>
              have q0 := q
              rw [other b hb hb2] at q
              split at q
              · cases q
                have z2 := un.frzs b _ _ q0
                obtain ⟨e1, _⟩ := hok b _ q0
                obtain ⟨e2, _⟩ := hok' b _ z2
                rw [e] at e1
                cases e1
                exact e2
              · cases q
        have grown : ∀ P ∈ tabsK K, ∃ more : Array Value, s'.heap.get? P = some (PySem.W.tabObj more) := fun P hP => by
          obtain ⟨more, z⟩ := un.tbls P #[] (atT P hP)
          exact ⟨_, hok' P _ z⟩
        refine ⟨rfl, ⟨fun b o e => ?_, fun b o e => ?_⟩, os, bare⟩
        · by_cases hb : b ∈ tabsK K
          · obtain ⟨more, hm⟩ := grown b hb
            obtain ⟨⟨c, C⟩, e2⟩ := tobj b hb
            rw [e2] at e
            cases e
            exact .inr (.inl ⟨(C.tab e2).isCodeTable, rfl, #[], more, rfl, by rw [Array.empty_append]; exact hm⟩)
          · exact .inl (key b o hb e)
        · by_cases hb : b ∈ tabsK K
          · obtain ⟨more, hm⟩ := grown b hb
            exact ⟨_, hm⟩
          · exact ⟨o, key b o hb e⟩
/-- the walk of a law, by what the interpreter says of it -/
theorem walk_G {l : PySem.W.OpenLaw} {n k : Nat} {q : Program} {loose : List Str} {XP : (Str → Option Value) → Heap → Prop} {YP : World → Heap → Prop} {d : DefRec} {K : Params → PySem.W.Frag} {x : Str} {m : List D → M D}
    (hn : l.most = some n) (hn2 : n ≤ sizeLine) (hdf : d.params.defaults = []) (room : Room k callerA) (hi : importsNone q = true) (hY : ∀ (w : World) (h : Heap), YP w h → (K w.params).In h) (sysK : ∀ w : World, (K w.params).lookup sysModules = none) (noT : ∀ w : World, PySem.W.noTabs (K w.params) = true)
    (hrec : ∀ (w : World) (x : Str), x ∈ gnx → PySem.W.tabIn (K w.params) x = none ∨ ∃ d, (recsOf q).find? (fun e => e.name == x) = some d)
    (F : ∀ (w : World) (mg : Str → Option Value) (fa : Addr) (h : Heap), (K w.params).In h → h.Ns mainGlobals mg → mg d.name = some (.ref fa) →
      ∃ fd : FuncData, (∀ (s : Shared) (u : Value), BindsTo s fd ⟨[u], []⟩ [(x, u)]) ∧ ∀ base : Heap, (K w.params).In base → base.Ns mainGlobals mg → (∀ x c P, x ∈ gnx → PySem.W.tabIn (K w.params) x = some (c, P) → GxR.TabB base mg c P) → FnG l.prog w (K w.params) mg base k fa fd [x] m)
    (run : ∀ ns : List Int, ns.length ≤ n → ∃ st, m [.p (.list (ns.map .int))] [] = .ok (.p (.bool true)) st) : PySem.W.WalkO q loose XP YP l.row.toRowW d [] (fun f vs => PySem.call f vs) := by
  refine Att.attach_call hn hdf ?_
  intro w s0 s1 mg mb fa o pm cd doc a vs ns Gr Y ho hd hcd hmg hobj hints hlen hg
  have KX := hY w _ Y
  obtain ⟨fd, bd, hF⟩ := F w mg fa _ KX Gr.T.g hmg
  obtain ⟨mm, ⟨o0, es0, n0, e0, d0, _⟩, _⟩ := (Gr.T.seer hi).mods
  have hT : ∀ x c P, x ∈ gnx → PySem.W.tabIn (K w.params) x = some (c, P) → PySem.W.CodeHd s1.heap c P ∧ s1.heap.get? P = some (PySem.W.tabObj #[]) := by
    intro x c P hx hi
    rcases hrec w x hx with z | ⟨d, z⟩
    · rw [z] at hi; cases hi
    · exact PySem.W.tab_of Gr.T KX z hi
  have nT : ∀ P ∈ tabsK (K w.params), (K w.params).lookup P = none := by
    intro P hP
    cases e : (K w.params).lookup P with
    | none => rfl
    | some o =>
      obtain ⟨q, hq, rfl⟩ := List.mem_map.mp hP
      obtain ⟨x, hx, hi⟩ := List.mem_filterMap.mp hq
      have e2 := (hT x q.1 q.2 hx hi).2
      rw [KX _ _ e] at e2
      cases e2
      have z := List.all_eq_true.mp (noT w) _ (PySem.W.mem_of_lookupK e)
      exact absurd (show false = true from z) Bool.false_ne_true
  exact law_G KX Gr.T.g Gr.T.b Gr.T.builtins Gr.T.nolimit hg e0 d0 (sysK w) hobj hints (Nat.le_trans hlen hn2) room hT nT Gr.T.bmain hF bd (run ns hlen)
end PB
set_option maxRecDepth 100000
set_option maxHeartbeats 4000000
/-! Pb, part 27: one function more. -/
namespace PB
open PySem PySem.Spec PyProof.Rows L2
def Cfg.add (c : Cfg) (f : String) (m : List D → M D) : Cfg := { c with T := fun g => if g = f then some m else c.T g }
theorem Cfg.add_self {c : Cfg} {f : String} {m : List D → M D} : (c.add f m).T f = some m := if_pos rfl
theorem Cfg.add_ne {c : Cfg} {f g : String} {m : List D → M D} (h : g ≠ f) : (c.add f m).T g = c.T g := if_neg h
theorem Glb.gx {Pg : Program} {w : World} {K : PySem.W.Frag} {mg : Str → Option Value} {base : Heap} {k : Nat} {c : Cfg} {G : List (String × P)} (gb : Glb Pg w K mg base k c G) : Glb Pg w K mg base k { c with gx := true } G := ⟨gb.fn, gb.gl, gb.bl, gb.xc⟩
theorem Glb.add {Pg : Program} {w : World} {K : PySem.W.Frag} {mg : Str → Option Value} {base : Heap} {k : Nat} {c : Cfg} {G : List (String × P)} (gb : Glb Pg w K mg base k c G) {f : String} {a : Addr} {fd : FuncData} {ps : List Str} {m : List D → M D}
    (hm : mg (Str.ofString f) = some (.ref a)) (kp : PySem.W.keepIn K (.ref a) = true) (hl : ps.length = c.ar f) (bd : Binds K fd ps []) (F : FnG Pg w K mg base (k + 1) a fd ps m) (hk : ∀ n ks π, (f, n, ks, π) ∈ c.kw → KwOk K fd ps n ks π) :
    Glb Pg w K mg base (k + 1) (c.add f m) G where
  fn := fun g m' h => by
    by_cases e : g = f
    · subst e
      rw [Cfg.add_self] at h
      cases h
      exact ⟨a, fd, ps, hm, kp, hl, bd, F, hk⟩
    · rw [Cfg.add_ne e] at h
      obtain ⟨a', fd', ps', h1, h2, h3, h4, h5, h6⟩ := gb.fn g m' h
      exact ⟨a', fd', ps', h1, h2, h3, h4, h5.mono (Nat.le_succ k), h6⟩
  gl := gb.gl
  bl := gb.bl
  xc := fun x b h => (gb.xc x b h).mono (Nat.le_succ k)
end PB
set_option maxRecDepth 100000
set_option maxHeartbeats 4000000
/-! Pb, part 27x: the exception classes of a text, by what its written part says. -/
set_option maxRecDepth 100000
set_option maxHeartbeats 4000000
/-! Pb, part 27r: functions that call themselves: what is found at each depth. -/
namespace PB
open PySem PySem.Spec PyProof.Rows L2
/-- one function more, at the level of all -/
theorem Glb.put {Pg : Program} {w : World} {K : PySem.W.Frag} {mg : Str → Option Value} {base : Heap} {k : Nat} {c : Cfg} {G : List (String × P)} (gb : Glb Pg w K mg base k c G) {f : String} {a : Addr} {fd : FuncData} {ps : List Str} {m : List D → M D}
    (hm : mg (Str.ofString f) = some (.ref a)) (kp : PySem.W.keepIn K (.ref a) = true) (hl : ps.length = c.ar f) (bd : Binds K fd ps []) (F : FnG Pg w K mg base k a fd ps m) (hk : ∀ n ks π, (f, n, ks, π) ∈ c.kw → KwOk K fd ps n ks π) :
    Glb Pg w K mg base k (c.add f m) G where
  fn := fun g m' h => by
    by_cases e : g = f
    · subst e
      rw [Cfg.add_self] at h
      cases h
      exact ⟨a, fd, ps, hm, kp, hl, bd, F, hk⟩
    · rw [Cfg.add_ne e] at h
      exact gb.fn g m' h
  gl := gb.gl
  bl := gb.bl
  xc := gb.xc
end PB
set_option maxRecDepth 100000
set_option maxHeartbeats 4000000
/-! Pb, part 28: what the interpreter computes, row by row (for simp). -/
namespace PB
open PySem PySem.Spec PyProof.Rows L2
section
variable {c : Cfg} {env : Env} {st : Sto}
@[simp] theorem x_var {i : Nat} : evE c (.var i) env st = need (env[i]?.join) st := by rw [evE]
@[simp] theorem x_glob {x : String} {d : P} : evE c (.glob x d) env st = .ok (.p d) st := by rw [evE]; rfl
@[simp] theorem x_cst {d : P} : evE c (.cst d) env st = .ok (.p d) st := by rw [evE]; rfl
@[simp] theorem x_bin {op : Operator} {a b : Ex} : evE c (.bin op a b) env st = (evE c a env st).bind fun x st => (evE c b env st).bind fun y st => (vw x st).bind fun x st => (vw y st).bind fun y st => (need (binP op x y) st).bind fun r st => .ok (.p r) st := by rw [evE]; rfl
@[simp] theorem x_neg {a : Ex} : evE c (.neg a) env st = (evE c a env st).bind fun x st => negM x st := by rw [evE]; rfl
@[simp] theorem x_not {a : Ex} : evE c (.not a) env st = (evE c a env st).bind fun x st => (asBM x st).bind fun b st => .ok (.p (.bool (!b))) st := by rw [evE]; rfl
@[simp] theorem x_and {l : List Ex} : evE c (.and l) env st = evAnd c l env st := by rw [evE]
@[simp] theorem x_or {l : List Ex} : evE c (.or l) env st = evOr c l env st := by rw [evE]
@[simp] theorem x_and1 {e : Ex} : evAnd c [e] env st = evE c e env st := by rw [evAnd]
@[simp] theorem x_and2 {e e' : Ex} {r : List Ex} : evAnd c (e :: e' :: r) env st = (evE c e env st).bind fun x st => (asBM x st).bind fun k st => if k = true then evAnd c (e' :: r) env st else .ok (.p (.bool false)) st := by
  rw [evAnd]
  rw [m_bind]
  refine congrArg (R.bind _) (funext fun x => funext fun st1 => congrArg (R.bind _) (funext fun k => funext fun st2 => ?_))
  cases k <;> rfl
@[simp] theorem x_or1 {e : Ex} : evOr c [e] env st = evE c e env st := by rw [evOr]
@[simp] theorem x_or2 {e e' : Ex} {r : List Ex} : evOr c (e :: e' :: r) env st = (evE c e env st).bind fun x st => (asBM x st).bind fun k st => if k = true then .ok (.p (.bool true)) st else evOr c (e' :: r) env st := by
  rw [evOr]
  rw [m_bind]
  refine congrArg (R.bind _) (funext fun x => funext fun st1 => congrArg (R.bind _) (funext fun k => funext fun st2 => ?_))
  cases k <;> rfl
@[simp] theorem x_ife {t a b : Ex} : evE c (.ife t a b) env st = (evE c t env st).bind fun x st => (asBM x st).bind fun k st => if k = true then evE c a env st else evE c b env st := by
  rw [evE]
  rw [m_bind]
  refine congrArg (R.bind _) (funext fun x => funext fun st1 => congrArg (R.bind _) (funext fun k => funext fun st2 => ?_))
  cases k <;> rfl
@[simp] theorem x_cmp {op : CmpOp} {a b : Ex} : evE c (.cmp op a b) env st = (evE c a env st).bind fun x st => (evE c b env st).bind fun y st => (vw x st).bind fun x st => (vw y st).bind fun y st => (need (cmpP op x y) st).bind fun r st => .ok (.p (.bool r)) st := by rw [evE]; rfl
@[simp] theorem x_cmp2 {o1 o2 : CmpOp} {a b d : Ex} : evE c (.cmp2 o1 o2 a b d) env st = (evE c a env st).bind fun x st => (evE c b env st).bind fun y st => (vw x st).bind fun x st => (onlyP y st).bind fun y st => (need (cmpP o1 x y) st).bind fun k st =>
    if k = true then ((evE c d env st).bind fun z st => (vw z st).bind fun z st => (need (cmpP o2 y z) st).bind fun r st => .ok (.p (.bool r)) st) else .ok (.p (.bool false)) st := by
  rw [evE]
  rw [m_bind]
  refine congrArg (R.bind _) (funext fun x => funext fun st1 => congrArg (R.bind _) (funext fun y => funext fun st2 => congrArg (R.bind _) (funext fun x2 => funext fun st3 => congrArg (R.bind _) (funext fun y2 => funext fun st4 => congrArg (R.bind _) (funext fun k => funext fun st5 => ?_)))))
  cases k <;> rfl
@[simp] theorem x_cmp3 {o1 o2 o3 : CmpOp} {a b d e : Ex} : evE c (.cmp3 o1 o2 o3 a b d e) env st = (evE c a env st).bind fun x st => (evE c b env st).bind fun y st => (vw x st).bind fun x st => (onlyP y st).bind fun y st => (need (cmpP o1 x y) st).bind fun k st =>
    if k = true then ((evE c d env st).bind fun z st => (onlyP z st).bind fun z st => (need (cmpP o2 y z) st).bind fun k2 st => if k2 = true then ((evE c e env st).bind fun u st => (vw u st).bind fun u st => (need (cmpP o3 z u) st).bind fun r st => .ok (.p (.bool r)) st) else .ok (.p (.bool false)) st) else .ok (.p (.bool false)) st := by
  rw [evE]
  rw [m_bind]
  refine congrArg (R.bind _) (funext fun x => funext fun st1 => congrArg (R.bind _) (funext fun y => funext fun st2 => congrArg (R.bind _) (funext fun x2 => funext fun st3 => congrArg (R.bind _) (funext fun y2 => funext fun st4 => congrArg (R.bind _) (funext fun k => funext fun st5 => ?_)))))
  cases k
  · rfl
  · rw [if_pos rfl, if_pos rfl]
    rw [m_bind]
    refine congrArg (R.bind _) (funext fun z => funext fun st6 => congrArg (R.bind _) (funext fun z2 => funext fun st7 => congrArg (R.bind _) (funext fun k2 => funext fun st8 => ?_)))
    cases k2 <;> rfl
@[simp] theorem x_tup {l : List Ex} : evE c (.tup l) env st = (evL c l env st).bind fun ds st => (onlyPs ds st).bind fun ds st => (line ds.length st).bind fun _ st => .ok (.p (.tuple ds)) st := by rw [evE]; rfl
@[simp] theorem x_lst {l : List Ex} : evE c (.lst l) env st = (evL c l env st).bind fun ds st => (onlyPs ds st).bind fun ds st => (line ds.length st).bind fun _ st => .ok (.p (.list ds)) st := by rw [evE]; rfl
@[simp] theorem x_new {e : Ex} : evE c (.new e) env st = (evE c e env st).bind fun x st => newM x st := by rw [evE]; rfl
@[simp] theorem x_lstH {l : List Ex} : evE c (.lstH l) env st = (evL c l env st).bind fun ds st => (line ds.length st).bind fun _ st => .ok (.ref st.length) (st ++ [.lst ds]) := by rw [evE]; rfl
@[simp] theorem x_dct {ks : List Key} {vs : List Ex} : evE c (.dct ks vs) env st = (evL c vs env st).ne.bind fun ds st => (onlyPs ds st).bind fun ds st => if ks.Nodup ∧ ks.length = ds.length ∧ ks.length ≤ 15 then .ok (.p (.dict ((ks.map keyP).zip ds))) st else .bad := by
  rw [evE]
  rw [m_bind]
  refine congrArg (R.bind _) (funext fun x => funext fun st1 => ?_)
  rw [m_bind]
  refine congrArg (R.bind _) (funext fun k => funext fun st2 => ?_)
  split <;> rfl
@[simp] theorem x_dcomp {tg : Tg} {k : SK} {src : List Ex} {key val : Ex} : evE c (.dcomp tg k src key val) env st = (evL c src env st).bind fun xs st => (srcM k xs st).bind fun items st => (dcompL items.2 (dcompF tg (evE c key) (evE c val) (wipeE env tg.slots)) items.1 [] st).ne.bind fun kvs st => (need (allP (kvs.map Prod.snd)) st).bind fun ds st => .ok (.p (.dict ((kvs.map fun kv => keyP kv.1).zip ds))) st := by rw [evE]; rfl
@[simp] theorem x_allEq {a b i : Nat} {src : Ex} : evE c (.allEq a b i src) env st = (evE c src env st).bind fun s st => (need (env[a]?.join) st).bind fun x st => (need (env[b]?.join) st).bind fun y st => (vw s st).bind fun s st => (onlyP x st).bind fun x st => (onlyP y st).bind fun y st => (need (allEqP x y s) st).bind fun b st => .ok (.p (.bool b)) st := by rw [evE]; rfl
@[simp] theorem x_idx {a i : Ex} : evE c (.idx a i) env st = (evE c a env st).bind fun x st => (evE c i env st).bind fun y st => idxM x y st := by rw [evE]; rfl
@[simp] theorem x_slc {a : Ex} {lo hi : Option Ex} : evE c (.slc a lo hi) env st = (evE c a env st).bind fun x st => (evO c lo env st).bind fun l st => (evO c hi env st).bind fun h st => (vw x st).bind fun x st => (need (slcP x l h) st).bind fun r st => .ok (.p r) st := by rw [evE]; rfl
@[simp] theorem x_rev {a : Ex} : evE c (.rev a) env st = (evE c a env st).bind fun x st => (vw x st).bind fun x st => (need (revP x) st).bind fun r st => .ok (.p r) st := by rw [evE]; rfl
@[simp] theorem x_call {f : String} {args : List Ex} : evE c (.call f args) env st = (need (c.T f) st).bind fun m st => (evL c args env st).bind fun ds st => m ds st := by rw [evE]; rfl
@[simp] theorem x_callK {f : String} {args kargs : List Ex} {ks : List String} {π : List Nat} : evE c (.callK f args ks kargs π) env st = (need (c.T f) st).bind fun m st => (evL c args env st).bind fun ds st => (evL c kargs env st).bind fun es st => m (ds ++ pick π es) st := by rw [evE]; rfl
@[simp] theorem x_bif {f : String} {args : List Ex} : evE c (.bif f args) env st = (evL c args env st).bind fun ds st => (vws ds st).bind fun ds st => (need (bifP f ds) st).bind fun r st => .ok (.p r) st := by rw [evE]; rfl
@[simp] theorem x_lenH {a : Ex} : evE c (.lenH a) env st = (evE c a env st).bind fun x st => lenM x st := by rw [evE]; rfl
@[simp] theorem lenM_p {q : P} {st : Sto} : lenM (.p q) st = (need (bifP "len" [q]) st).bind fun r st => .ok (.p r) st := rfl
@[simp] theorem x_isi {a : Ex} {t : String} : evE c (.isi a t) env st = (evE c a env st).bind fun x st => (vw x st).bind fun x st => .ok (.p (.bool (isiP t x))) st := by rw [evE]; rfl
@[simp] theorem x_mth {m : String} {a : Ex} {args : List Ex} : evE c (.mth m a args) env st = (evE c a env st).bind fun x st => (kindM x st).bind fun _ st => (evL c args env st).bind fun ds st => (onlyPs ds st).bind fun ds st => mthM m x ds st := by rw [evE]; rfl
@[simp] theorem x_comp {tg : Tg} {k : SK} {src cond : List Ex} {elt : Ex} : evE c (.comp tg k src cond elt) env st = (evL c src env st).bind fun xs st => (srcM k xs st).bind fun items st => (noErr (compL items.2 (compF tg (evAll c cond) (evE c elt) (wipeE env tg.slots)) items.1) st).bind fun ys st => (line ys.length st).bind fun _ st => .ok (.p (.list ys)) st := by rw [evE]; rfl
@[simp] theorem x_nil : evL c [] env st = .ok [] st := by rw [evL]; rfl
@[simp] theorem x_cons {e : Ex} {r : List Ex} : evL c (e :: r) env st = (evE c e env st).bind fun x st => (evL c r env st).bind fun xs st => .ok (x :: xs) st := by rw [evL]; rfl
@[simp] theorem x_all0 : evAll c [] env st = .ok true st := by rw [evAll]; rfl
@[simp] theorem x_all1 {e : Ex} {r : List Ex} : evAll c (e :: r) env st = (evE c e env st).bind fun x st => (asBM x st).bind fun k st => if k = true then evAll c r env st else .ok false st := by
  rw [evAll]
  rw [m_bind]
  refine congrArg (R.bind _) (funext fun x => funext fun st1 => congrArg (R.bind _) (funext fun k => funext fun st2 => ?_))
  cases k <;> rfl
@[simp] theorem x_o0 : evO c none env st = .ok none st := by rw [evO]; rfl
@[simp] theorem x_o1 {e : Ex} : evO c (some e) env st = (evE c e env st).bind fun x st => (intM x st).bind fun i st => .ok (some i) st := by rw [evO]; rfl
@[simp] theorem s_set' {tg : Tg} {e : Ex} : evS c (.set tg e) env st = (evE c e env st).bind fun x st => (need (asgD tg x env) st).bind fun e st => .ok (.nx, e) st := by rw [evS]; rfl
@[simp] theorem s_par' {ts : List Nat} {es : List Ex} : evS c (.par ts es) env st = (evL c es env st).bind fun x st => (need (setAll ts x env) st).bind fun e st => .ok (.nx, e) st := by rw [evS]; rfl
@[simp] theorem s_seti' {o i e : Ex} : evS c (.seti o i e) env st = (evE c e env st).bind fun v st => (evE c o env st).bind fun x st => (evE c i env st).bind fun k st => (setM x k v st).bind fun _ st => .ok (.nx, env) st := by rw [evS]; rfl
@[simp] theorem s_expr' {e : Ex} : evS c (.expr e) env st = (evE c e env st).bind fun _ st => .ok (.nx, env) st := by rw [evS]; rfl
@[simp] theorem s_ret' {e : Ex} : evS c (.ret e) env st = (evE c e env st).bind fun x st => .ok (.rt x, env) st := by rw [evS]; rfl
@[simp] theorem s_retN' : evS c .retN env st = .ok (.rt (.p .none), env) st := by rw [evS]; rfl
@[simp] theorem s_ite' {t : Ex} {a b : List PB.St} : evS c (.ite t a b) env st = (evE c t env st).bind fun x st => (asBM x st).bind fun k st => if k = true then evSs c a env st else evSs c b env st := by
  rw [evS]
  rw [m_bind]
  refine congrArg (R.bind _) (funext fun x => funext fun st1 => congrArg (R.bind _) (funext fun k => funext fun st2 => ?_))
  cases k <;> rfl
/-- a for's turn -/
noncomputable def turnF (c : Cfg) (tg : Tg) (body : List PB.St) (d : P) (env : Env) : M (Fl × Env) := do
  let e1 ← need (asgP tg d env)
  evSs c body e1
@[simp] theorem s_for' {tg : Tg} {k : SK} {src : List Ex} {body : List PB.St} : evS c (.for tg k src body) env st = (evL c src env st).bind fun xs st => (srcM k xs st).bind fun items st => forL items.2 (turnF c tg body) items.1 env st := by rw [evS]; rfl
theorem turnF_st {tg : Tg} {body : List PB.St} {d : P} : turnF c tg body d env st = (need (asgP tg d env) st).bind fun e st => evSs c body e st := rfl
@[simp] theorem s_nil' : evSs c [] env st = .ok (.nx, env) st := by rw [evSs]; rfl
noncomputable def after (c : Cfg) (r : List PB.St) (q : Fl × Env) (st : Sto) : R (Fl × Env) := match q.1 with
  | .nx => evSs c r q.2 st
  | f => .ok (f, q.2) st
@[simp] theorem after_nx {r : List PB.St} : after c r (.nx, env) st = evSs c r env st := rfl
@[simp] theorem after_rt {r : List PB.St} {d : D} : after c r (.rt d, env) st = .ok (.rt d, env) st := rfl
@[simp] theorem after_bk {r : List PB.St} : after c r (.bk, env) st = .ok (.bk, env) st := rfl
@[simp] theorem after_ct {r : List PB.St} : after c r (.ct, env) st = .ok (.ct, env) st := rfl
@[simp] theorem s_cons' {s : PB.St} {r : List PB.St} : evSs c (s :: r) env st = (evS c s env st).bind fun q st => after c r q st := by
  rw [evSs]
  rw [m_bind]
  refine congrArg (R.bind _) (funext fun x => funext fun st1 => ?_)
  obtain ⟨f, e⟩ := x
  cases f <;> rfl
@[simp] theorem vws0 : vws [] st = .ok [] st := rfl
@[simp] theorem asBM_b {b : Bool} : asBM (.p (.bool b)) st = .ok b st := rfl
@[simp] theorem line_ok {n : Nat} (h : n ≤ sizeLine) : line n st = .ok () st := by simp [line, h]
@[simp] theorem onlyPs_map {ds : List P} : onlyPs (ds.map D.p) st = .ok ds st := by
  induction ds with
  | nil => rfl
  | cons d r ih => simp [ih]
@[simp] theorem onlyPs0 : onlyPs [] st = .ok [] st := rfl
@[simp] theorem negM_i {i : Int} : negM (.p (.int i)) st = .ok (.p (.int (-i))) st := rfl
@[simp] theorem intM_i {i : Int} : intM (.p (.int i)) st = .ok i st := rfl
@[simp] theorem newM_l {ds : List P} : newM (.p (.list ds)) st = .ok (.ref st.length) (st ++ [.lst (ds.map .p)]) := rfl
/-- a function's end -/
def endF (frz : Bool) (n : Nat) (q : Fl × Env) (st : Sto) : R D := match q.1 with
  | .rt d => leave frz n d st
  | .nx => leave frz n (.p .none) st
  | _ => .bad
@[simp] theorem endF_rt {frz : Bool} {n : Nat} {d : P} : endF frz n (.rt (.p d), env) st = .ok (.p d) (st.take n) := rfl
@[simp] theorem endF_nx {frz : Bool} {n : Nat} : endF frz n (.nx, env) st = .ok (.p .none) (st.take n) := rfl
theorem runF_st {slots : Nat} {frz : Bool} {body : List PB.St} {ds : List D} : runF c slots frz body ds st = (evSs c body (ds.map some ++ List.replicate (slots - ds.length) none) st).bind fun q st' => endF frz st.length q st' := rfl
@[simp] theorem b_addI {i j : Int} : binP .Add (.int i) (.int j) = some (.int (i + j)) := rfl
@[simp] theorem b_subI {i j : Int} : binP .Sub (.int i) (.int j) = some (.int (i - j)) := rfl
@[simp] theorem b_mulR {i j : Int} (h : -(2 ^ 64) < j ∧ j < 2 ^ 64) : binP .Mult (.int i) (.int j) = some (.int (i * j)) := if_pos (.inl (.inr h))
theorem b_mulL {i j : Int} (h : -(2 ^ 64) < i ∧ i < 2 ^ 64) : binP .Mult (.int i) (.int j) = some (.int (i * j)) := if_pos (.inl (.inl h))
@[simp] theorem b_mod {i j : Int} (h : 0 < j) : binP .Mod (.int i) (.int j) = some (.int (i % j)) := if_pos h
@[simp] theorem b_div {i j : Int} (h : 0 < j ∧ j < 1073741824) : binP .FloorDiv (.int i) (.int j) = some (.int (i / j)) := if_pos (.inl h)
@[simp] theorem b_pow {i j : Int} (h : 0 ≤ j ∧ j ≤ 1000000 ∧ i.natAbs < 2 ^ 64) : binP .Pow (.int i) (.int j) = some (.int (i ^ j.toNat)) := if_pos h
@[simp] theorem b_addL {xs ys : List P} (h : xs.length + ys.length ≤ sizeLine) : binP .Add (.list xs) (.list ys) = some (.list (xs ++ ys)) := if_pos h
@[simp] theorem b_addT {xs ys : List P} (h : xs.length + ys.length ≤ sizeLine) : binP .Add (.tuple xs) (.tuple ys) = some (.tuple (xs ++ ys)) := if_pos h
@[simp] theorem b_mulT {xs : List P} {k : Int} (h : xs ≠ [] ∧ 2 ≤ k ∧ k ≤ 1000 ∧ xs.length ≤ 1000) : binP .Mult (.tuple xs) (.int k) = some (.tuple (List.replicate k.toNat xs).flatten) := if_pos h
@[simp] theorem c_lt {i j : Int} : cmpP .Lt (.int i) (.int j) = some (decide (i < j)) := rfl
@[simp] theorem c_le {i j : Int} : cmpP .LtE (.int i) (.int j) = some (decide (i ≤ j)) := rfl
@[simp] theorem c_gt {i j : Int} : cmpP .Gt (.int i) (.int j) = some (decide (j < i)) := rfl
@[simp] theorem c_ge {i j : Int} : cmpP .GtE (.int i) (.int j) = some (decide (j ≤ i)) := rfl
@[simp] theorem c_is {a : P} : cmpP .Is a .none = some (isN a) := rfl
@[simp] theorem c_isn {a : P} : cmpP .IsNot a .none = some (!isN a) := rfl
@[simp] theorem c_eqS {x y : Str} : cmpP .Eq (.str x) (.str y) = some (decide (x = y)) := rfl
@[simp] theorem c_neS {x y : Str} : cmpP .NotEq (.str x) (.str y) = some (!decide (x = y)) := rfl
theorem c_eq {a b : P} (n : ∀ x, a ≠ .str x) (h : shaped a = true ∧ shaped b = true) : cmpP .Eq a b = some (PyData.eqv a b) := by
  cases a with
  | tuple xs =>
    cases b with
    | tuple ys =>
      cases ys with
      | nil =>
        show some xs.isEmpty = _
        cases xs <;> simp [PyData.eqv, PyData.eqvAll]
      | cons y ys => exact if_pos h
    | _ => exact if_pos h
  | list xs =>
    cases b with
    | list ys =>
      cases ys with
      | nil =>
        show some xs.isEmpty = _
        cases xs <;> simp [PyData.eqv, PyData.eqvAll]
      | cons y ys => exact if_pos h
    | _ => exact if_pos h
  | str z => exact absurd rfl (n _)
  | _ => exact if_pos h
theorem c_ne {a b : P} (n : ∀ x, a ≠ .str x) (h : shaped a = true ∧ shaped b = true) : cmpP .NotEq a b = some (!PyData.eqv a b) := by
  cases a with
  | tuple xs =>
    cases b with
    | tuple ys =>
      cases ys with
      | nil =>
        show some (!xs.isEmpty) = _
        cases xs <;> simp [PyData.eqv, PyData.eqvAll]
      | cons y ys => exact if_pos h
    | _ => exact if_pos h
  | list xs =>
    cases b with
    | list ys =>
      cases ys with
      | nil =>
        show some (!xs.isEmpty) = _
        cases xs <;> simp [PyData.eqv, PyData.eqvAll]
      | cons y ys => exact if_pos h
    | _ => exact if_pos h
  | str z => exact absurd rfl (n _)
  | _ => exact if_pos h
@[simp] theorem c_eqL {xs : List P} : cmpP .Eq (.list xs) (.list []) = some xs.isEmpty := rfl
@[simp] theorem c_neL {xs : List P} : cmpP .NotEq (.list xs) (.list []) = some (!xs.isEmpty) := rfl
@[simp] theorem c_eqE {xs : List P} : cmpP .Eq (.tuple xs) (.tuple []) = some xs.isEmpty := rfl
@[simp] theorem c_neE {xs : List P} : cmpP .NotEq (.tuple xs) (.tuple []) = some (!xs.isEmpty) := rfl
@[simp] theorem f_lenL {xs : List P} : bifP "len" [.list xs] = some (.int xs.length) := rfl
@[simp] theorem f_lenT {xs : List P} : bifP "len" [.tuple xs] = some (.int xs.length) := rfl
@[simp] theorem f_tupL {xs : List P} : bifP "tuple" [.list xs] = some (.tuple xs) := rfl
@[simp] theorem f_tupT {xs : List P} : bifP "tuple" [.tuple xs] = some (.tuple xs) := rfl
@[simp] theorem f_lstL {xs : List P} : bifP "list" [.list xs] = some (.list xs) := rfl
@[simp] theorem f_lstT {xs : List P} : bifP "list" [.tuple xs] = some (.list xs) := rfl
@[simp] theorem f_int {i : Int} : bifP "int" [.int i] = some (.int i) := rfl
@[simp] theorem f_sum {ns : List Int} : bifP "sum" [.list (ns.map .int)] = some (.int ns.sum) := by
  show (intsP (ns.map .int)).map _ = _
  rw [intsP_map]
  rfl
@[simp] theorem f_repr {a : P} (h : a.showable = true ∧ a.shown.length ≤ sizeLine ∧ a.depth ≤ 64) : bifP "repr" [a] = some (.str a.shown) := by
  show (if a.showable = true ∧ a.shown.length ≤ sizeLine ∧ a.depth ≤ 64 then some (PyData.str a.shown) else none) = _
  exact if_pos h
@[simp] theorem asg_one {i : Nat} {d : D} (h : i < env.length) : asgD (.one i) d env = some (env.set i (some d)) := by
  cases d <;> exact if_pos h
@[simp] theorem asgp_one {i : Nat} {d : P} (h : i < env.length) : asgP (.one i) d env = some (env.set i (some (.p d))) := by
  unfold asgP
  exact if_pos h
theorem asgp_tup {l : List Tg} {ds : List P} : asgP (.tup l) (.tuple ds) env = asgPs l ds env := by
  show asgP _ _ _ = _
  conv => lhs; unfold asgP
@[simp] theorem asgps_nil : asgPs [] [] env = some env := by unfold asgPs; rfl
@[simp] theorem asgps_cons {t : Tg} {l : List Tg} {d : P} {ds : List P} : asgPs (t :: l) (d :: ds) env = (asgP t d env).bind fun e => asgPs l ds e := by
  conv => lhs; unfold asgPs
end
end PB
set_option maxRecDepth 100000
set_option maxHeartbeats 4000000
/-! Pb, part 29: steps of the store (for simp); data. -/
namespace PB
open PySem PySem.Spec PyProof.Rows L2
section
variable {c : Cfg} {env : Env} {st : Sto} {l s : Nat} {xs : List D} {ds : List P}
theorem vw_ref (h : st[l]? = some (.lst (ds.map .p))) : vw (.ref l) st = .ok (.list ds) st := by
  have e : PB.view st (.ref l) = some (.list ds) := by
    simp only [PB.view, h, allP_map]
    rfl
  unfold vw
  rw [e]
theorem idx_ref (h : st[l]? = some (.lst xs)) {k : Int} : idxM (.ref l) (.p (.int k)) st = need (L2.atI xs k) st := by
  show ((vw (.p (.int k)) st).bind fun i st => idxD (.ref l) i st) = _
  rw [vw_p]
  show ((getO l st).bind fun o st => idxO o (.int k) st) = _
  unfold getO
  rw [h]
  rfl
theorem idx_pp {d i : P} : idxM (.p d) (.p i) st = (need (idxP d i) st).bind fun r st => .ok (.p r) st := rfl
theorem kind_ref (h : st[l]? = some (.lst xs)) : kindM (.ref l) st = .ok () st := by
  show ((getO l st).bind fun o st => (if isLst o = true then pure () else stop : M Unit) st) = _
  unfold getO
  rw [h]
  rfl
theorem pop_ref {d : D} (h : st[l]? = some (.lst (xs ++ [d]))) : mthM "pop" (.ref l) [] st = .ok d (st.set l (.lst xs)) := by
  show ((getO l st).bind fun o st => mthO "pop" l o [] st) = _
  unfold getO
  rw [h]
  show mthL "pop" l (xs ++ [d]) [] st = _
  unfold mthL
  simp
  rfl
theorem app_ref {a : P} (h : st[l]? = some (.lst xs)) (hl : xs.length < sizeLine) : mthM "append" (.ref l) [a] st = .ok (.p .none) (st.set l (.lst (xs ++ [.p a]))) := by
  show ((getO l st).bind fun o st => mthO "append" l o [a] st) = _
  unfold getO
  rw [h]
  show mthL "append" l xs [a] st = _
  unfold mthL
  simp [hl]
  rfl
theorem ext_ref {as : List P} (h : st[l]? = some (.lst xs)) (hl : xs.length + as.length ≤ sizeLine) : mthM "extend" (.ref l) [.list as] st = .ok (.p .none) (st.set l (.lst (xs ++ as.map .p))) := by
  show ((getO l st).bind fun o st => mthO "extend" l o [.list as] st) = _
  unfold getO
  rw [h]
  show mthL "extend" l xs [.list as] st = _
  unfold mthL
  simp [hl]
  rfl
theorem set_ref {k : Int} {j : Nat} {v : P} (h : st[l]? = some (.lst xs)) (hj : ixN xs.length k = some j) : setM (.ref l) (.p (.int k)) (.p v) st = .ok () (st.set l (.lst (xs.set j (.p v)))) := by
  show ((vw (.p (.int k)) st).bind fun i st => setD (.ref l) i (.p v) st) = _
  rw [vw_p]
  show ((getO l st).bind fun o st => setO l o (.int k) v st) = _
  unfold getO
  rw [h]
  show ((need (ixN xs.length k) st).bind fun j st => putO l (.lst (xs.set j (.p v))) st) = _
  rw [hj]
  rfl
theorem ixN_nat {n : Nat} {k : Int} (h0 : 0 ≤ k) (h1 : k < n) : ixN n k = some k.toNat := by
  unfold ixN
  rw [if_pos h0, if_pos h1]
theorem atI_in {α : Type} {xs : List α} {k : Int} (h0 : 0 ≤ k) (h1 : k < xs.length) : ∃ x, L2.atI xs k = some x ∧ x ∈ xs := by
  unfold L2.atI
  rw [ixN_nat h0 h1]
  have hk : k.toNat < xs.length := by omega
  exact ⟨xs[k.toNat], by simp [hk], List.getElem_mem _⟩
@[simp] theorem at0 {α : Type} {x : α} {r : List α} : L2.atI (x :: r) 0 = some x := by
  unfold L2.atI ixN
  simp
theorem at_lit {α : Type} {xs : List α} {k : Nat} {x : α} (h : xs[k]? = some x) : L2.atI xs (k : Int) = some x := atI_nat h
theorem lay_ints : ∀ ns : List Int, PyData.canLayAll0 (ns.map PyData.int) = true
  | [] => by simp [PyData.canLayAll0]
  | n :: r => by simp [PyData.canLayAll0, PyData.canLay0, lay_ints r]
theorem depth_ints : ∀ ns : List Int, PyData.depthAll (ns.map PyData.int) = 0
  | [] => by simp [PyData.depthAll]
  | n :: r => by simp [PyData.depthAll, PyData.depth, depth_ints r]
theorem shaped_ints (ns : List Int) : shaped (.list (ns.map .int)) = true := by
  unfold shaped SeqAt.shaped
  simp [PyData.canLay0, lay_ints, PyData.depth, depth_ints]
theorem ne_nil_ints (ns : List Int) : cmpP .NotEq (.list (ns.map .int)) (.list []) = some (!(ns.isEmpty)) := by
  rw [c_ne (by simp) ⟨shaped_ints ns, by decide⟩]
  cases ns <;> simp [PyData.eqv, PyData.eqvAll]
@[simp] theorem shaped_int (i : Int) : shaped (.int i) = true := by
  unfold shaped SeqAt.shaped
  simp [PyData.canLay0, PyData.depth]
@[simp] theorem eqv_int (i j : Int) : PyData.eqv (.int i) (.int j) = decide (i = j) := by
  rw [PyData.eqv]
  rfl
@[simp] theorem eqv_str (i j : Str) : PyData.eqv (.str i) (.str j) = decide (i = j) := by
  rw [PyData.eqv]
  rfl
@[simp] theorem eqv_nil (xs : List P) : PyData.eqv (.list xs) (.list []) = xs.isEmpty := by
  cases xs <;> simp [PyData.eqv, PyData.eqvAll]
end
end PB
set_option maxRecDepth 100000
set_option maxHeartbeats 4000000
/-! Pb, part 30: what is drawn of (the stock of the laws k01 .. k11, k40 .. k49). -/
namespace PB
open PySem PySem.Spec PyProof.Rows L2
noncomputable section
def drawHead : PB.St := .ite (.cmp .NotEq (.idx (.var 0) (.cst (.int 0))) (.lst [])) [.set (.one 2) (.mth "pop" (.idx (.var 0) (.cst (.int 0))) []),
    .ite (.cmp .GtE (.var 2) (.var 1)) [.expr (.mth "append" (.idx (.var 0) (.cst (.int 0))) [(.bin .FloorDiv (.var 2) (.var 1))])] [],
    .ret (.bin .Mod (.bif "int" [(.var 2)]) (.var 1))] []
def drawTail : List PB.St := [.set (.one 3) (.idx (.var 0) (.cst (.int 3))),
    .set (.one 4) (.bin .Mod (.bif "int" [(.idx (.idx (.var 0) (.cst (.int 1))) (.bin .Mod (.bif "int" [(.var 3)]) (.bif "len" [(.idx (.var 0) (.cst (.int 1)))])))]) (.cst (.int 1000000007))),
    .set (.one 5) (.bin .Mod (.bif "int" [(.bin .Add (.bin .Add (.bin .Mult (.var 4) (.cst (.int 48271))) (.bin .Mult (.bin .Mod (.bif "int" [(.idx (.var 0) (.cst (.int 2)))]) (.cst (.int 998244353))) (.cst (.int 69621)))) (.bin .Mult (.var 3) (.cst (.int 2654435761))))]) (.cst (.int 4294967291))),
    .set (.one 5) (.bin .Mod (.bif "int" [(.bin .Add (.bin .Add (.bin .Mult (.var 5) (.var 5)) (.bin .Mult (.var 3) (.cst (.int 362437)))) (.var 4))]) (.cst (.int 4294967279))),
    .ret (.bin .Mod (.bin .FloorDiv (.bin .Mod (.bif "int" [(.bin .Add (.bin .Mult (.var 5) (.cst (.int 40692))) (.bin .Mult (.var 3) (.cst (.int 65537))))]) (.cst (.int 4294967231))) (.cst (.int 4096))) (.var 1))]
def drawMid : PB.St := .seti (.var 0) (.cst (.int 3)) (.bin .Add (.idx (.var 0) (.cst (.int 3))) (.cst (.int 1)))
def drawBody : List PB.St := drawHead :: drawMid :: drawTail
/-- the stock at s, its great numbers at g -/
structure Stock (st : Sto) (s g : Nat) : Prop where
  has : ∃ (great flat : List Int) (sum cnt : Int), st[s]? = some (.lst [.ref g, .p (.list (flat.map .int)), .p (.int sum), .p (.int cnt)]) ∧ st[g]? = some (.lst ((great.map PyData.int).map .p)) ∧ flat ≠ [] ∧ great.length ≤ 63
  ne : g ≠ s
/-- all but the stock stays -/
structure Kept (s g : Nat) (st st' : Sto) : Prop where
  len : st'.length = st.length
  rest : ∀ l, l ≠ s → l ≠ g → st'[l]? = st[l]?
theorem Kept.refl {s g : Nat} {st : Sto} : Kept s g st st := ⟨rfl, fun _ _ _ => rfl⟩
theorem Kept.trans {s g : Nat} {a b d : Sto} (h : Kept s g a b) (k : Kept s g b d) : Kept s g a d := ⟨k.len.trans h.len, fun l h1 h2 => (k.rest l h1 h2).trans (h.rest l h1 h2)⟩
theorem Kept.set {s g l : Nat} {st : Sto} {o : O} (h : l = s ∨ l = g) : Kept s g st (st.set l o) := ⟨by simp, fun m h1 h2 => List.getElem?_set_ne (fun e => by rcases h with h | h <;> omega)⟩
theorem draw_ok (c : Cfg) {st : Sto} {s g : Nat} {size : Int} (h : Stock st s g) (hs : 0 < size ∧ size < 1073741824) :
    ∃ r st', runF c 6 true drawBody [.ref s, .p (.int size)] st = .ok (.p (.int r)) st' ∧ 0 ≤ r ∧ r < size ∧ Stock st' s g ∧ Kept s g st st' := by
  obtain ⟨⟨great, flat, sum, cnt, e1, e2, hf, hg⟩, ne⟩ := h
  have hsl : s < st.length := (List.getElem?_eq_some_iff.mp e1).1
  have hgl : g < st.length := (List.getElem?_eq_some_iff.mp e2).1
  rcases List.eq_nil_or_concat great with rfl | ⟨gr, x, rfl⟩
  · -- mixed of a cell, the sum and the count
    have k1 : ∀ env, evS c drawHead (some (.ref s) :: env) st = .ok (.nx, some (.ref s) :: env) st := by
      intro env
      unfold drawHead
      have e3 : vw (.ref g) st = .ok (.list []) st := vw_ref (ds := []) (by simpa using e2)
      have c0 : cmpP .NotEq (.list []) (.list []) = some false := ne_nil_ints []
      simp [idx_ref e1, e3, c0]
    have a3 : L2.atI [D.ref g, .p (.list (flat.map PyData.int)), .p (.int sum), .p (.int cnt)] 3 = some (.p (.int cnt)) := at_lit (k := 3) rfl
    have k2 : ∀ env, evS c drawMid (some (.ref s) :: env) st = .ok (.nx, some (.ref s) :: env) (st.set s (.lst [.ref g, .p (.list (flat.map .int)), .p (.int sum), .p (.int (cnt + 1))])) := by
      intro env
      unfold drawMid
      simp [idx_ref e1, a3, set_ref (k := 3) (j := 3) e1 (by rfl)]
    generalize hst1 : st.set s (.lst [.ref g, .p (.list (flat.map .int)), .p (.int sum), .p (.int (cnt + 1))]) = st1 at k2
    have f1 : st1[s]? = some (.lst [.ref g, .p (.list (flat.map .int)), .p (.int sum), .p (.int (cnt + 1))]) := by
      rw [← hst1, List.getElem?_set_self hsl]
    have f2 : st1[g]? = some (.lst (([] : List Int).map PyData.int |>.map .p)) := by
      rw [← hst1, List.getElem?_set_ne (Ne.symm ne)]
      exact e2
    have kp : Kept s g st st1 := by
      rw [← hst1]
      exact Kept.set (.inl rfl)
    have b1 : L2.atI [D.ref g, .p (.list (flat.map PyData.int)), .p (.int sum), .p (.int (cnt + 1))] 1 = some (.p (.list (flat.map .int))) := at_lit (k := 1) rfl
    have b2 : L2.atI [D.ref g, .p (.list (flat.map PyData.int)), .p (.int sum), .p (.int (cnt + 1))] 2 = some (.p (.int sum)) := at_lit (k := 2) rfl
    have b3 : L2.atI [D.ref g, .p (.list (flat.map PyData.int)), .p (.int sum), .p (.int (cnt + 1))] 3 = some (.p (.int (cnt + 1))) := at_lit (k := 3) rfl
    have fl : (0 : Int) < flat.length := by
      cases flat with
      | nil => exact absurd rfl hf
      | cons _ _ => simp
    obtain ⟨y, hy, hm⟩ := atI_in (xs := flat.map PyData.int) (k := (cnt + 1) % flat.length) (Int.emod_nonneg _ (by omega)) (by rw [List.length_map]; exact Int.emod_lt_of_pos _ fl)
    obtain ⟨v, _, rfl⟩ := List.mem_map.mp hm
    have k3 : ∃ r env', evSs c drawTail [some (.ref s), some (.p (.int size)), none, none, none, none] st1 = .ok (.rt (.p (.int r)), env') st1 ∧ 0 ≤ r ∧ r < size := by
      generalize hcell : v % 1000000007 = cell
      generalize hB : (cell * 48271 + sum % 998244353 * 69621 + (cnt + 1) * 2654435761) % 4294967291 = B
      have hB2 : -(2 ^ 64) < B ∧ B < 2 ^ 64 := by
        rw [← hB]
        omega
      have mB : binP .Mult (.int B) (.int B) = some (.int (B * B)) := b_mulR hB2
      have mM : binP .Mod (.int (cnt + 1)) (.int flat.length) = some (.int ((cnt + 1) % flat.length)) := b_mod fl
      have mS : ∀ z : Int, binP .Mod (.int z) (.int size) = some (.int (z % size)) := fun z => b_mod hs.1
      refine ⟨((B * B + (cnt + 1) * 362437 + cell) % 4294967279 * 40692 + (cnt + 1) * 65537) % 4294967231 / 4096 % size, [some (.ref s), some (.p (.int size)), none, some (.p (.int (cnt + 1))), some (.p (.int cell)), some (.p (.int ((B * B + (cnt + 1) * 362437 + cell) % 4294967279)))], ?_, Int.emod_nonneg _ (by omega), Int.emod_lt_of_pos _ hs.1⟩
      unfold drawTail
      simp [idx_ref f1, b1, b2, b3, idx_pp, idxP, hy, mM, mS, hcell, hB, mB]
    obtain ⟨r, env', k3, r0, r1⟩ := k3
    refine ⟨r, st1, ?_, r0, r1, ⟨⟨[], flat, sum, cnt + 1, f1, f2, hf, by simp⟩, ne⟩, kp⟩
    rw [runF_st]
    have k1 := k1 [some (.p (.int size)), none, none, none, none]
    have k2 := k2 [some (.p (.int size)), none, none, none, none]
    unfold drawBody
    show (evSs c (drawHead :: drawMid :: drawTail) [some (.ref s), some (.p (.int size)), none, none, none, none] st).bind _ = _
    rw [s_cons', k1, bind_ok, after_nx, s_cons', k2, bind_ok, after_nx, k3, bind_ok, endF_rt, ← kp.len, List.take_length]
  · -- a digit of the last great number
    have eg : st[g]? = some (.lst ((gr.map PyData.int).map .p ++ [.p (.int x)])) := by
      rw [e2]
      simp
    have a0 : L2.atI [D.ref g, .p (.list (flat.map PyData.int)), .p (.int sum), .p (.int cnt)] 0 = some (.ref g) := at_lit (k := 0) rfl
    have nn : cmpP .NotEq (.list ((gr ++ [x]).map .int)) (.list []) = some true := by
      rw [ne_nil_ints]
      simp
    have vg : vw (.ref g) st = .ok (.list ((gr ++ [x]).map .int)) st := vw_ref (by rw [e2]; simp)
    generalize hL : (gr ++ [x]).map PyData.int = L at nn vg
    generalize hst1 : st.set g (.lst ((gr.map PyData.int).map .p)) = st1
    have p1 : mthM "pop" (.ref g) [] st = .ok (.p (.int x)) st1 := by
      rw [← hst1]
      exact pop_ref eg
    have f1 : st1[s]? = some (.lst [.ref g, .p (.list (flat.map .int)), .p (.int sum), .p (.int cnt)]) := by
      rw [← hst1, List.getElem?_set_ne ne]
      exact e1
    have f2 : st1[g]? = some (.lst ((gr.map PyData.int).map .p)) := by
      rw [← hst1, List.getElem?_set_self hgl]
    have kp : Kept s g st st1 := by
      rw [← hst1]
      exact Kept.set (.inr rfl)
    have lg : gr.length < 63 := by
      simp at hg
      omega
    have big : (63 : Nat) < sizeLine := by decide
    have mS : ∀ z : Int, binP .Mod (.int z) (.int size) = some (.int (z % size)) := fun z => b_mod hs.1
    have dS : ∀ z : Int, binP .FloorDiv (.int z) (.int size) = some (.int (z / size)) := fun z => b_div hs
    by_cases hx : size ≤ x
    · generalize hst2 : st1.set g (.lst ((gr.map PyData.int).map .p ++ [.p (.int (x / size))])) = st2
      have p2 : mthM "append" (.ref g) [.int (x / size)] st1 = .ok (.p .none) st2 := by
        rw [← hst2]
        exact app_ref f2 (by simp; omega)
      have f3 : st2[s]? = some (.lst [.ref g, .p (.list (flat.map .int)), .p (.int sum), .p (.int cnt)]) := by
        rw [← hst2, List.getElem?_set_ne ne]
        exact f1
      have f4 : st2[g]? = some (.lst (((gr ++ [x / size]).map PyData.int).map .p)) := by
        rw [← hst2, List.getElem?_set_self (by rw [kp.len]; exact hgl)]
        simp
      have kp2 : Kept s g st st2 := by
        refine kp.trans ?_
        rw [← hst2]
        exact Kept.set (.inr rfl)
      refine ⟨x % size, st2, ?_, Int.emod_nonneg _ (by omega), Int.emod_lt_of_pos _ hs.1, ⟨⟨gr ++ [x / size], flat, sum, cnt, f3, f4, hf, by simp; omega⟩, ne⟩, kp2⟩
      rw [runF_st]
      unfold drawBody drawHead
      simp [idx_ref e1, idx_ref f1, a0, vg, nn, kind_ref e2, kind_ref f2, p1, p2, hx, mS, dS]
      rw [← kp2.len, List.take_length]
    · refine ⟨x % size, st1, ?_, Int.emod_nonneg _ (by omega), Int.emod_lt_of_pos _ hs.1, ⟨⟨gr, flat, sum, cnt, f1, f2, hf, by omega⟩, ne⟩, kp⟩
      rw [runF_st]
      unfold drawBody drawHead
      simp [idx_ref e1, idx_ref f1, a0, vg, nn, kind_ref e2, kind_ref f2, p1, hx, mS, dS]
      rw [← kp.len, List.take_length]
end
end PB
set_option maxRecDepth 100000
set_option maxHeartbeats 4000000
/-! Pb, part 31: items drawn; the stock laid; loops by simple rules. -/
namespace PB
open PySem PySem.Spec PyProof.Rows L2
noncomputable section
def pickBody : List PB.St := [.ret (.idx (.var 1) (.call "_law_draw" [(.var 0), (.bif "len" [(.var 1)])]))]
@[simp] theorem noErr_st {α : Type} {m : M α} {st st1 : Sto} {a : α} (h : m st = .ok a st1) : noErr m st = .ok a st1 := by
  unfold noErr
  rw [h]
  rfl
theorem compF_st {tg : Tg} {mc : Env → M Bool} {me : Env → M D} {env0 : Env} {d : P} {st : Sto} : compF tg mc me env0 d st = (need (asgP tg d env0) st).bind fun e1 st => (mc e1 st).bind fun k st => if k = true then ((me e1 st).bind fun y st => (onlyP y st).bind fun y st => .ok (some y) st) else .ok none st := by
  unfold compF
  rw [m_bind]
  refine congrArg (R.bind _) (funext fun x => funext fun st1 => congrArg (R.bind _) (funext fun k => funext fun st2 => ?_))
  cases k <;> rfl
/-- a comprehension whose turns leave the store alone -/
theorem comp_pure {g : Sto → Prop} {f : P → M (Option P)} {F : P → Option P} {st : Sto} (hg : g st) : ∀ {items : List P}, (∀ d ∈ items, f d st = .ok (F d) st) → compL g f items st = .ok (items.filterMap F) st
  | [], _ => by
    unfold compL
    rw [if_pos hg]
    rfl
  | d :: r, hf => by
    unfold compL
    rw [if_pos hg, hf d (by simp), bind_ok, comp_pure hg (fun e he => hf e (by simp [he])), bind_ok]
    cases e : F d with
    | none => rw [List.filterMap_cons_none e]
    | some y => rw [List.filterMap_cons_some e]
@[simp] theorem src_list {xs : List P} {st : Sto} : srcM .it [.p (.list xs)] st = .ok (xs, stays st [.p (.list xs)]) st := rfl
@[simp] theorem src_tup {xs : List P} {st : Sto} : srcM .it [.p (.tuple xs)] st = .ok (xs, stays st [.p (.tuple xs)]) st := rfl
@[simp] theorem src_enumT {xs : List P} {st : Sto} : srcM .enum [.p (.tuple xs)] st = .ok (enumP xs, stays st [.p (.tuple xs)]) st := rfl
@[simp] theorem src_enumL {xs : List P} {st : Sto} : srcM .enum [.p (.list xs)] st = .ok (enumP xs, stays st [.p (.list xs)]) st := rfl
@[simp] theorem src_rng1 {j : Int} {st : Sto} (h : -(2 ^ 62) ≤ j ∧ j < 2 ^ 62) : srcM .rng [.p (.int j)] st = .ok (rangeD 0 j.toNat, stays st [.p (.int j)]) st := by
  show ((vws [D.p (.int j)] st).bind fun qs st => match srcP .rng qs with
    | some xs => R.ok (xs, stays st [D.p (.int j)]) st
    | none => .bad) = _
  show (match (if -(2 ^ 62) ≤ j ∧ j < 2 ^ 62 then some (rangeD 0 j.toNat) else none) with
    | some xs => R.ok (xs, stays st [D.p (.int j)]) st
    | none => .bad) = _
  rw [if_pos h]
@[simp] theorem stays_p {d : P} {st st' : Sto} : stays st [.p d] st' = True := rfl
def stockBody (n : Int) : List PB.St := [.set (.one 1) (.comp (.one 2) .it [(.slc (.var 0) none (some (.cst (.int 63))))] [] (.ife (.cmp .GtE (.var 2) (.cst (.int 0))) (.bin .Mult (.cst (.int 2)) (.var 2)) (.bin .Sub (.bin .Mult (.neg (.cst (.int 2))) (.var 2)) (.cst (.int 1))))),
    .ret (.lstH [(.new (.comp (.one 2) .it [(.var 1)] [(.cmp .GtE (.var 2) (.bin .Pow (.cst (.int 10)) (.cst (.int 15))))] (.var 2))), (.bin .Add (.var 1) (.lst [(.bin .Add (.bif "len" [(.var 1)]) (.cst (.int n)))])), (.bif "sum" [(.var 1)]), (.cst (.int 0))])]
theorem cut_short {α : Type} {xs : List α} (h : xs.length ≤ 63) : cutP xs none (some 63) = xs := by
  unfold cutP
  rw [HT.sIx_none, show HT.sIx xs.length xs.length (some 63) = min 63 xs.length from HT.sIx_nat xs.length xs.length 63]
  rw [List.drop_zero, Nat.min_eq_right h, Nat.sub_zero, List.take_length]
def flatOf (i : Int) : Int := if 0 ≤ i then 2 * i else -2 * i - 1
theorem map1 : ∀ ns : List Int, (ns.map PyData.int).filterMap (fun d => match d with
      | .int i => some (PyData.int (flatOf i))
      | _ => none) = (ns.map flatOf).map PyData.int
  | [] => rfl
  | a :: r => by
    have ih := map1 r
    show PyData.int (flatOf a) :: (r.map PyData.int).filterMap _ = _
    rw [ih]
    rfl
theorem map2 : ∀ fl : List Int, (fl.map PyData.int).filterMap (fun d => match d with
      | .int i => if 10 ^ 15 ≤ i then some (PyData.int i) else none
      | _ => none) = (fl.filter fun i => decide ((10 : Int) ^ 15 ≤ i)).map PyData.int
  | [] => rfl
  | a :: r => by
    have ih := map2 r
    by_cases h : (10 : Int) ^ 15 ≤ a
    · rw [List.map_cons, List.filterMap_cons_some (b := PyData.int a) (by simp only [if_pos h]), ih, List.filter_cons_of_pos (by simpa using h), List.map_cons]
    · rw [List.map_cons, List.filterMap_cons_none (by simp only [if_neg h]), ih, List.filter_cons_of_neg (by simpa using h)]
theorem stock_ok (c : Cfg) (n : Int) {ns : List Int} (h : ns.length ≤ 63) (st : Sto) : ∃ st', runF c 3 false (stockBody n) [.p (.list (ns.map .int))] st = .ok (.ref (st.length + 1)) st' ∧ Stock st' (st.length + 1) st.length ∧ st'.length = st.length + 2 ∧ ∀ l, l < st.length → st'[l]? = st[l]? := by
  have big : (64 : Nat) < sizeLine := by decide
  rw [runF_st]
  unfold stockBody
  have hs : slcP (.list (ns.map .int)) none (some 63) = some (.list (ns.map .int)) := by
    show some (PyData.list (cutP (ns.map PyData.int) none (some 63))) = _
    rw [cut_short (by simpa using h)]
  have k1 : ∀ env0 : Env, env0.length = 3 → ∀ d ∈ ns.map PyData.int, compF (.one 2) (evAll c []) (evE c (.ife (.cmp .GtE (.var 2) (.cst (.int 0))) (.bin .Mult (.cst (.int 2)) (.var 2)) (.bin .Sub (.bin .Mult (.neg (.cst (.int 2))) (.var 2)) (.cst (.int 1))))) env0 d st = .ok (match d with
      | .int i => some (.int (flatOf i))
      | _ => none) st := by
    intro env0 hl d hd
    obtain ⟨i, _, rfl⟩ := List.mem_map.mp hd
    rw [compF_st]
    by_cases h0 : 0 ≤ i <;> simp [hl, h0, flatOf, b_mulL]
  have k2 : ∀ (env0 : Env) (fl : List Int), env0.length = 3 → ∀ d ∈ fl.map PyData.int, compF (.one 2) (evAll c [(.cmp .GtE (.var 2) (.bin .Pow (.cst (.int 10)) (.cst (.int 15))))]) (evE c (.var 2)) env0 d st = .ok (match d with
      | .int i => if 10 ^ 15 ≤ i then some (.int i) else none
      | _ => none) st := by
    intro env0 fl hl d hd
    obtain ⟨i, _, rfl⟩ := List.mem_map.mp hd
    rw [compF_st]
    by_cases h0 : 1000000000000000 ≤ i <;> simp [hl, h0]
  generalize hfl : ns.map flatOf = flat
  have lf : flat.length ≤ 63 := by rw [← hfl]; simpa using h
  have e1 : noErr (compL (stays st [.p (.list (ns.map PyData.int))]) (compF (.one 2) (evAll c []) (evE c (.ife (.cmp .GtE (.var 2) (.cst (.int 0))) (.bin .Mult (.cst (.int 2)) (.var 2)) (.bin .Sub (.bin .Mult (.neg (.cst (.int 2))) (.var 2)) (.cst (.int 1)))))
      (wipeE [some (D.p (.list (ns.map PyData.int))), none, none] (Tg.one 2).slots)) (ns.map PyData.int)) st = .ok (flat.map PyData.int) st := by
    rw [← hfl, ← map1]
    exact noErr_st (comp_pure trivial (k1 _ (by simp [slots_one, wipeE])))
  have e2 : noErr (compL (stays st [.p (.list (flat.map PyData.int))]) (compF (.one 2) (evAll c [(.cmp .GtE (.var 2) (.bin .Pow (.cst (.int 10)) (.cst (.int 15))))]) (evE c (.var 2))
      (wipeE [some (D.p (.list (ns.map PyData.int))), some (D.p (.list (flat.map PyData.int))), none] (Tg.one 2).slots)) (flat.map PyData.int)) st = .ok ((flat.filter fun i => decide ((10 : Int) ^ 15 ≤ i)).map PyData.int) st := by
    rw [← map2]
    exact noErr_st (comp_pure trivial (k2 _ flat (by simp [slots_one, wipeE])))
  have lfil : (flat.filter fun i => decide ((10 : Int) ^ 15 ≤ i)).length ≤ 63 := Nat.le_trans (List.length_filter_le _ _) lf
  generalize hgr : (flat.filter fun i => decide ((10 : Int) ^ 15 ≤ i)) = great at e2 lfil
  have t1 : evS c (.set (.one 1) (.comp (.one 2) .it [(.slc (.var 0) none (some (.cst (.int 63))))] [] (.ife (.cmp .GtE (.var 2) (.cst (.int 0))) (.bin .Mult (.cst (.int 2)) (.var 2)) (.bin .Sub (.bin .Mult (.neg (.cst (.int 2))) (.var 2)) (.cst (.int 1)))))) [some (D.p (.list (ns.map PyData.int))), none, none] st = .ok (.nx, [some (D.p (.list (ns.map PyData.int))), some (D.p (.list (flat.map PyData.int))), none]) st := by
    rw [s_set', x_comp]
    simp [hs]
    rw [e1]
    simp [line_ok (show flat.length ≤ sizeLine by omega)]
  generalize hst1 : st ++ [O.lst ((great.map PyData.int).map D.p)] = st1
  have l1 : st1.length = st.length + 1 := by rw [← hst1]; simp
  generalize hst2 : st1 ++ [O.lst [.ref st.length, .p (.list ((flat ++ [(flat.length : Int) + n]).map .int)), .p (.int flat.sum), .p (.int 0)]] = st2
  have l2 : st2.length = st.length + 2 := by rw [← hst2, List.length_append, l1]; rfl
  have addL : binP .Add (.list (flat.map PyData.int)) (.list [.int ((flat.length : Int) + n)]) = some (.list ((flat ++ [(flat.length : Int) + n]).map .int)) := by
    rw [b_addL (by simp; omega)]
    simp
  have t2 : evE c (.lstH [(.new (.comp (.one 2) .it [(.var 1)] [(.cmp .GtE (.var 2) (.bin .Pow (.cst (.int 10)) (.cst (.int 15))))] (.var 2))), (.bin .Add (.var 1) (.lst [(.bin .Add (.bif "len" [(.var 1)]) (.cst (.int n)))])), (.bif "sum" [(.var 1)]), (.cst (.int 0))])
      [some (D.p (.list (ns.map PyData.int))), some (D.p (.list (flat.map PyData.int))), none] st = .ok (.ref (st.length + 1)) st2 := by
    have hnew : evE c (.new (.comp (.one 2) .it [(.var 1)] [(.cmp .GtE (.var 2) (.bin .Pow (.cst (.int 10)) (.cst (.int 15))))] (.var 2))) [some (D.p (.list (ns.map PyData.int))), some (D.p (.list (flat.map PyData.int))), none] st = .ok (.ref st.length) st1 := by
      rw [x_new, x_comp]
      simp
      rw [e2]
      simp [line_ok (show great.length ≤ sizeLine by omega)]
      rw [← hst1, List.map_map]
    rw [x_lstH, x_cons, hnew, bind_ok]
    simp [addL, line_ok (show 4 ≤ sizeLine by omega), line_ok (show 1 ≤ sizeLine by omega), l1]
    rw [← hst2]
    simp
  refine ⟨st2, ?_, ⟨⟨great, flat ++ [(flat.length : Int) + n], flat.sum, 0, ?_, ?_, by simp, lfil⟩, by omega⟩, l2, fun l hl => ?_⟩
  · show (evSs c (_ :: [_]) [some (D.p (.list (ns.map PyData.int))), none, none] st).bind _ = _
    rw [s_cons', t1, bind_ok, after_nx, s_cons', s_ret', t2]
    simp
    show leave false st.length (.ref (st.length + 1)) st2 = _
    unfold leave
    dsimp only
    rw [if_neg (by omega), if_neg Bool.false_ne_true]
  · rw [← hst2, List.getElem?_append_right (by omega), l1, Nat.sub_self]
    rfl
  · rw [← hst2, List.getElem?_append_left (by omega), ← hst1, List.getElem?_append_right (Nat.le_refl _), Nat.sub_self]
    rfl
  · rw [← hst2, List.getElem?_append_left (by omega), ← hst1, List.getElem?_append_left hl]
end
end PB
set_option maxRecDepth 100000
set_option maxHeartbeats 4000000
/-! Pb, part 32: what can be shown; loops that count. -/
namespace PB
open PySem PySem.Spec PyProof.Rows L2
abbrev Nice (d : P) (w h : Nat) : Prop := d.showable = true ∧ d.leavesShort 100 = true ∧ d.weight ≤ w ∧ d.depth ≤ h
theorem nice_mono {d : P} {w h w' h' : Nat} (n : Nice d w h) (hw : w ≤ w') (hh : h ≤ h') : Nice d w' h' := ⟨n.1, n.2.1, Nat.le_trans n.2.2.1 hw, Nat.le_trans n.2.2.2 hh⟩
theorem nice_repr {d : P} {w h : Nat} (n : Nice d w h) (hw : w ≤ 100000) (hh : h ≤ 64) : bifP "repr" [d] = some (.str d.shown) := by
  refine f_repr ⟨n.1, ?_, Nat.le_trans n.2.2.2 hh⟩
  have h1 := PyData.shown_le 100 (by decide) d n.2.1
  have h2 : (100 + 2) * d.weight + 100 ≤ 102 * 100000 + 100 := by
    have := n.2.2.1
    have : d.weight ≤ 100000 := Nat.le_trans this hw
    omega
  have h3 : (102 * 100000 + 100 : Nat) ≤ sizeLine := by decide
  omega
theorem nice_all {w h : Nat} : ∀ {xs : List P}, (∀ x ∈ xs, Nice x w h) → PyData.showableAll xs = true ∧ PyData.leavesShortAll 100 xs = true ∧ PyData.weightAll xs ≤ xs.length * (w + 1) ∧ PyData.depthAll xs ≤ h
  | [], _ => ⟨by simp [PyData.showableAll], by simp [PyData.leavesShortAll], by simp [PyData.weightAll], by simp [PyData.depthAll]⟩
  | x :: r, hx => by
    obtain ⟨a1, a2, a3, a4⟩ := hx x (by simp)
    obtain ⟨b1, b2, b3, b4⟩ := nice_all (xs := r) fun y hy => hx y (by simp [hy])
    refine ⟨by simp [PyData.showableAll, a1, b1], by simp [PyData.leavesShortAll, a2, b2], ?_, ?_⟩
    · simp only [PyData.weightAll, List.length_cons, Nat.succ_mul]
      omega
    · simp only [PyData.depthAll]
      exact Nat.max_le.mpr ⟨a4, b4⟩
theorem nice_tup {xs : List P} {w h : Nat} (hx : ∀ x ∈ xs, Nice x w h) : Nice (.tuple xs) (xs.length * (w + 1)) (h + 1) := by
  obtain ⟨b1, b2, b3, b4⟩ := nice_all hx
  exact ⟨by simp [PyData.showable, b1], by simp [PyData.leavesShort, b2], by simpa [PyData.weight] using b3, by simpa [PyData.depth] using b4⟩
theorem nice_int {i : Int} (h0 : 0 ≤ i) (h : i < 10 ^ 18) : Nice (.int i) 64 0 := by
  have h1 : (PyData.shown (.int i)).length ≤ 18 := by
    simp only [PyData.shown]
    exact toString_length_le h0 (by decide) h
  have h2 : i.natAbs.log2 < 63 := by
    rcases Nat.eq_zero_or_pos i.natAbs with e | e
    · rw [e]; decide
    · exact (Nat.log2_lt (by omega)).mpr (by omega)
  refine ⟨by simp only [PyData.showable, decide_eq_true_eq]; omega, by simp only [PyData.leavesShort, decide_eq_true_eq]; omega, ?_, by simp [PyData.depth]⟩
  simp only [PyData.weight]
  split <;> omega
/-- the pairs of enumerate, from k -/
def enumK : Nat → List P → List P
  | _, [] => []
  | k, x :: r => .tuple [.int k, x] :: enumK (k + 1) r
theorem enumK_eq : ∀ (k : Nat) (xs : List P), xs.mapIdx (fun i x => PyData.tuple [.int ((k + i : Nat) : Int), x]) = enumK k xs
  | _, [] => rfl
  | k, x :: r => by
    rw [List.mapIdx_cons]
    unfold enumK
    rw [← enumK_eq (k + 1) r]
    simp only [Nat.add_zero]
    congr 1
    congr 1
    funext i y
    rw [show k + (i + 1) = k + 1 + i by omega]
theorem enumP_K (xs : List P) : enumP xs = enumK 0 xs := by
  rw [← enumK_eq]
  unfold enumP
  simp
end PB
set_option maxRecDepth 100000
set_option maxHeartbeats 4000000
/-! Pb, part 33: a step ends well (Good); what stands in the store (Own); rules in passing style. -/
namespace PB
open PySem PySem.Spec PyProof.Rows L2
noncomputable section
section
variable {α β γ : Type}
@[irreducible] def Good (r : R α) (Q : α → Sto → Prop) : Prop := match r with
  | .ok a st => Q a st
  | _ => False
@[simp] theorem good_ok {a : α} {st : Sto} {Q : α → Sto → Prop} : Good (.ok a st) Q = Q a st := by unfold Good; rfl
theorem good_err {c : Str} {v : Option P} {st : Sto} {Q : α → Sto → Prop} : Good (.err c v st) Q = False := by unfold Good; rfl
theorem good_bad {Q : α → Sto → Prop} : Good (.bad : R α) Q = False := by unfold Good; rfl
@[simp] theorem bind_assoc {r : R α} {f : α → Sto → R β} {g : β → Sto → R γ} : R.bind (R.bind r f) g = R.bind r fun a st => R.bind (f a st) g := by
  cases r <;> rfl
theorem good_run {r : R α} {Q : α → Sto → Prop} (h : Good r Q) : ∃ a st, r = .ok a st ∧ Q a st := by
  cases r with
  | ok a st => rw [good_ok] at h; exact ⟨a, st, rfl, h⟩
  | err c v st => rw [good_err] at h; exact h.elim
  | bad => rw [good_bad] at h; exact h.elim
theorem good_mono {r : R α} {Q Q' : α → Sto → Prop} (h : Good r Q) (i : ∀ a st, Q a st → Q' a st) : Good r Q' := by
  obtain ⟨a, st, rfl, q⟩ := good_run h
  rw [good_ok]
  exact i _ _ q
theorem good_then {r : R α} {K : α → Sto → R β} {P' : α → Sto → Prop} {Q : β → Sto → Prop} (h : Good r P') (k : ∀ a st, P' a st → Good (K a st) Q) : Good (R.bind r K) Q := by
  obtain ⟨a, st, rfl, q⟩ := good_run h
  rw [bind_ok]
  exact k _ _ q
end
/-- a kind of stock -/
class Stk (S : Sto → Nat → Nat → Prop) : Prop where
  lt : ∀ {st s g}, S st s g → s < st.length ∧ g < st.length
  same : ∀ {st st' s g}, S st s g → st'[s]? = st[s]? → st'[g]? = st[g]? → S st' s g
theorem Kept.take {s g n : Nat} {st st' : Sto} (k : Kept s g st st') : Kept s g (st.take n) (st'.take n) := by
  refine ⟨by simp [k.len], fun l h1 h2 => ?_⟩
  by_cases hl : l < n
  · rw [List.getElem?_take_of_lt hl, List.getElem?_take_of_lt hl]
    exact k.rest l h1 h2
  · rw [List.getElem?_eq_none (by simp; omega), List.getElem?_eq_none (by simp; omega)]
section
variable {S : Sto → Nat → Nat → Prop} [Stk S]
/-- the store: the stock's part, changed in the stock alone since B; then own places -/
def Own (S : Sto → Nat → Nat → Prop) (B : Sto) (s g : Nat) (st : Sto) (loc : List O) : Prop := ∃ k : Sto, st = k ++ loc ∧ S k s g ∧ Kept s g B k
variable {B st st' : Sto} {s g : Nat} {loc : List O} {o : O}
theorem Own.init (h : S st s g) : Own S st s g st [] := ⟨st, by simp, h, Kept.refl⟩
theorem Own.len (h : Own S B s g st loc) : st.length = B.length + loc.length := by
  obtain ⟨k, rfl, _, kp⟩ := h
  simp [kp.len]
theorem Own.push (h : Own S B s g st loc) : Own S B s g (st ++ [o]) (loc ++ [o]) := by
  obtain ⟨k, rfl, hS, kp⟩ := h
  exact ⟨k, by simp, hS, kp⟩
theorem Own.get (h : Own S B s g st loc) {j : Nat} : st[B.length + j]? = loc[j]? := by
  obtain ⟨k, rfl, hS, kp⟩ := h
  rw [← kp.len, List.getElem?_append_right (by omega)]
  simp
theorem Own.set (h : Own S B s g st loc) {j : Nat} : Own S B s g (st.set (B.length + j) o) (loc.set j o) := by
  obtain ⟨k, rfl, hS, kp⟩ := h
  refine ⟨k, ?_, hS, kp⟩
  rw [← kp.len, List.set_append_right _ _ (by omega)]
  simp
theorem Own.fin (h : Own S B s g st loc) : Own S B s g (st.take B.length) [] := by
  obtain ⟨k, rfl, hS, kp⟩ := h
  refine ⟨k, ?_, hS, kp⟩
  rw [← kp.len]
  simp
theorem Own.stk (h : Own S B s g st []) : S st s g ∧ Kept s g B st := by
  obtain ⟨k, rfl, hS, kp⟩ := h
  simpa using ⟨hS, kp⟩
theorem Own.stock (h : Own S B s g st loc) : S st s g := by
  obtain ⟨k, rfl, hS, kp⟩ := h
  have hl := Stk.lt hS
  exact Stk.same hS (List.getElem?_append_left hl.1) (List.getElem?_append_left hl.2)
theorem Own.step (h : Own S B s g st loc) (h2 : Own S st s g st' []) : Own S B s g st' loc := by
  obtain ⟨hS2, k2⟩ := h2.stk
  obtain ⟨k, rfl, hS, kp⟩ := h
  have hl := Stk.lt hS
  refine ⟨st'.take k.length, ?_, ?_, ?_⟩
  · apply List.ext_getElem?
    intro i
    by_cases hi : i < k.length
    · rw [List.getElem?_append_left (by simp [k2.len]; omega), List.getElem?_take_of_lt hi]
    · have e := k2.rest i (by omega) (by omega)
      rw [e, List.getElem?_append_right (by omega), List.getElem?_append_right (by simp [k2.len]; omega)]
      simp [k2.len]
  · refine Stk.same hS2 ?_ ?_
    · rw [List.getElem?_take_of_lt hl.1]
    · rw [List.getElem?_take_of_lt hl.2]
  · have e := k2.take (n := k.length)
    rw [List.take_left] at e
    exact kp.trans e
/-- a function that may draw: its result, the stock behind it -/
structure Spec (S : Sto → Nat → Nat → Prop) (f : List D → M D) (args : List D) (s g : Nat) (post : D → Prop) : Prop where
  run : ∀ st, S st s g → Good (f args st) fun v st' => post v ∧ Own S st s g st' []
theorem use {β : Type} {f : List D → M D} {args : List D} {post : D → Prop} {K : D → Sto → R β} {Q : β → Sto → Prop} (h : Spec S f args s g post) (O : Own S B s g st loc)
    (hK : ∀ v st', post v → Own S B s g st' loc → Good (K v st') Q) : Good (R.bind (f args st) K) Q :=
  good_then (h.run st O.stock) fun v st' hv => hK v st' hv.1 (O.step hv.2)
end
instance : Stk Stock where
  lt := fun h => by
    obtain ⟨⟨_, _, _, _, e1, e2, _⟩, _⟩ := h
    exact ⟨(List.getElem?_eq_some_iff.mp e1).1, (List.getElem?_eq_some_iff.mp e2).1⟩
  same := fun h h1 h2 => by
    obtain ⟨⟨a, b, c, d, e1, e2, e3⟩, ne⟩ := h
    exact ⟨⟨a, b, c, d, h1.trans e1, h2.trans e2, e3⟩, ne⟩
/-- a number is drawn -/
def isNum (size : Int) (v : D) : Prop := ∃ r : Int, v = .p (.int r) ∧ 0 ≤ r ∧ r < size
abbrev Drawn (S : Sto → Nat → Nat → Prop) (draw : List D → M D) (s g : Nat) : Prop := ∀ size : Int, 0 < size → size < 1073741824 → Spec S draw [.ref s, .p (.int size)] s g (isNum size)
theorem draw_spec (c : Cfg) (s g : Nat) : Drawn Stock (runF c 6 true drawBody) s g := by
  refine fun size h0 h1 => ⟨fun st hS => ?_⟩
  obtain ⟨r, st', e, r0, r1, S1, k⟩ := draw_ok c hS ⟨h0, h1⟩
  rw [e, good_ok]
  exact ⟨⟨r, rfl, r0, r1⟩, ⟨st', by simp, S1, k⟩⟩
abbrev Picked (S : Sto → Nat → Nat → Prop) (pick : List D → M D) (s g : Nat) : Prop := ∀ row : List P, row ≠ [] → row.length < 1073741824 → Spec S pick [.ref s, .p (.list row)] s g (fun v => ∃ x ∈ row, v = .p x)
theorem pick_spec {S : Sto → Nat → Nat → Prop} [Stk S] {c : Cfg} {draw : List D → M D} {s g : Nat} (hT : c.T "_law_draw" = some draw) (hD : Drawn S draw s g) : Picked S (runF c 2 true pickBody) s g := by
  refine fun row h0 hl => ⟨fun st hS => ?_⟩
  have l0 : 0 < row.length := List.length_pos_iff.mpr h0
  rw [runF_st]
  unfold pickBody
  simp [hT]
  refine use (hD row.length (by omega) (by omega)) (Own.init hS) fun v st1 hv O => ?_
  obtain ⟨r, rfl, r0, r1⟩ := hv
  obtain ⟨x, hx, hm⟩ := atI_in r0 r1
  simp [idx_pp, idxP, hx]
  exact ⟨hm, O.fin⟩
/-! ### loops -/
section
variable {β : Type} {gd : Sto → Prop}
/-- a for: its turns keep a word; a turn may end the function -/
theorem good_for {f : P → Env → M (Fl × Env)} {K : (Fl × Env) → Sto → R β} {Q : β → Sto → Prop} (I : Nat → Env → Sto → Prop) (Rt : D → Sto → Prop) :
    ∀ {items : List P} {k : Nat} {env : Env} {st : Sto}, I k env st → (∀ i env st, I i env st → gd st) →
    (∀ i d, items[i]? = some d → ∀ env st, I (k + i) env st → Good (f d env st) fun q st' => match q.1 with
      | .nx => I (k + i + 1) q.2 st'
      | .ct => I (k + i + 1) q.2 st'
      | .rt v => Rt v st'
      | .bk => False) →
    (∀ env' st', I (k + items.length) env' st' → Good (K (.nx, env') st') Q) → (∀ v env' st', Rt v st' → Good (K (.rt v, env') st') Q) → Good (R.bind (forL gd f items env st) K) Q
  | [], k, env, st, h, hg, _, hK, _ => by
    unfold forL
    rw [if_pos (hg _ _ _ h), bind_ok]
    exact hK _ _ h
  | d :: r, k, env, st, h, hg, hf, hK, hR => by
    obtain ⟨⟨fl, env1⟩, st1, e1, h1⟩ := good_run (hf 0 d rfl env st h)
    have nxt : I (k + 1) env1 st1 → Good (R.bind (forL gd f r env1 st1) K) Q := fun h1 =>
      good_for I Rt (items := r) (k := k + 1) h1 hg (fun i e he env st hi => by
        have := hf (i + 1) e (by simpa using he) env st (by rw [show k + (i + 1) = k + 1 + i by omega]; exact hi)
        rw [show k + 1 + i + 1 = k + (i + 1) + 1 by omega]
        exact this) (fun env' st' h2 => hK env' st' (by rw [List.length_cons, show k + (r.length + 1) = k + 1 + r.length by omega]; exact h2)) hR
    unfold forL
    rw [if_pos (hg _ _ _ h), e1, bind_ok]
    cases fl with
    | nx => exact nxt h1
    | ct => exact nxt h1
    | rt v => exact hR v env1 st1 h1
    | bk => exact h1.elim
end
/-! ### rows of the interpreter that were lacking -/
section
variable {c : Cfg} {env : Env} {st : Sto}
@[simp] theorem x_listOf {k : SK} {src : List Ex} : evE c (.listOf k src) env st = (evL c src env st).bind fun xs st => (srcM k xs st).bind fun items st => if k = .rng ∧ items.1.length ≤ 16777216 then .ok (.p (.list items.1)) st else .bad := by
  rw [evE]
  rw [m_bind]
  refine congrArg (R.bind _) (funext fun x => funext fun st1 => congrArg (R.bind _) (funext fun k => funext fun st2 => ?_))
  split <;> rfl
@[simp] theorem x_listZ {src : List Ex} : evE c (.listZ src) env st = (evL c src env st).bind fun xs st => (srcM .zip xs st).bind fun items st => if items.1.length ≤ 16777216 then .ok (.p (.list items.1)) st else .bad := by
  rw [evE]
  rw [m_bind]
  refine congrArg (R.bind _) (funext fun x => funext fun st1 => congrArg (R.bind _) (funext fun k => funext fun st2 => ?_))
  split <;> rfl
@[simp] theorem x_dictP {e : Ex} : evE c (.dictP e) env st = (evE c e env st).bind fun x st => (onlyP x st).bind fun d st => (need ((listPairs d).bind PB.dictP) st).bind fun r st => .ok (.p r) st := by
  rw [evE]
  rfl
@[simp] theorem x_getD {d k x : Ex} : evE c (.getD d k x) env st = (evE c d env st).bind fun d st => (dctOk d st).bind fun _ st => (evE c k env st).bind fun k st => (onlyP k st).bind fun k st => (evE c x env st).bind fun x st =>
    (onlyP x st).bind fun x st => getDM d k x st := by
  rw [evE]
  rfl
@[simp] theorem dctOk_p {kvs : List (P × P)} : dctOk (.p (.dict kvs)) st = .ok () st := rfl
@[simp] theorem getDM_p {d k x : P} : getDM (.p d) k x st = (need (getP d k x) st).bind fun r st => .ok (.p r) st := rfl
@[simp] theorem x_dictZ {src : List Ex} : evE c (.dictZ src) env st = (evL c src env st).bind fun xs st => (srcM .zip xs st).bind fun items st => (need ((pairsP items.1).bind PB.dictP) st).bind fun r st => if items.1.length ≤ 16777216 then .ok (.p r) st else .bad := by
  rw [evE]
  rw [m_bind]
  refine congrArg (R.bind _) (funext fun x => funext fun st1 => congrArg (R.bind _) (funext fun k => funext fun st2 => congrArg (R.bind _) (funext fun k => funext fun st2 => ?_)))
  split <;> rfl
@[simp] theorem x_tupH {l : List Ex} : evE c (.tupH l) env st = (evL c l env st).bind fun ds st => (line ds.length st).bind fun _ st => .ok (.ref st.length) (st ++ [.tup ds]) := by rw [evE]; rfl
@[simp] theorem x_tupOf {k : SK} {src : List Ex} : evE c (.tupOf k src) env st = (evL c src env st).bind fun xs st => (srcM k xs st).bind fun items st => if k = .rng ∧ items.1.length ≤ 16777216 then .ok (.p (.tuple items.1)) st else .bad := by
  rw [evE]
  rw [m_bind]
  refine congrArg (R.bind _) (funext fun x => funext fun st1 => congrArg (R.bind _) (funext fun k => funext fun st2 => ?_))
  split <;> rfl
@[simp] theorem x_sset {e : Ex} : evE c (.sset e) env st = (evE c e env st).bind fun x st => (vw x st).bind fun q st => (need (ssetP q) st).bind fun ns st => .ok (.p (.list ns)) st := by
  rw [evE]; rfl
@[simp] theorem x_rev2 {e : Ex} : evE c (.rev2 e) env st = (evE c e env st).bind fun x st => (vw x st).bind fun q st => (need (rev2P q) st).bind fun r st => .ok (.p r) st := by
  rw [evE]; rfl
theorem srcK_p {k : SK} {ds : List D} {qs : List P} (hk : k ≠ .keys) : srcK k st ds qs = srcP k qs := by cases k <;> first | rfl | exact absurd rfl hk
theorem src_some {k : SK} {ds : List P} {xs : List P} (h : srcP k ds = some xs) (hk : k ≠ .keys := by decide) : srcM k (ds.map D.p) st = .ok (xs, stays st (ds.map D.p)) st := by
  have hv : ∀ ds : List P, vws (ds.map D.p) st = .ok ds st := by
    intro ds
    induction ds with
    | nil => rfl
    | cons d r ih => simp [ih]
  unfold srcM
  rw [hv, bind_ok, srcK_p hk, h]
@[simp] theorem src_rng2 {i j : Int} (h : (-(2 ^ 62) ≤ i ∧ i < 2 ^ 62) ∧ -(2 ^ 62) ≤ j ∧ j < 2 ^ 62) : srcM .rng [.p (.int i), .p (.int j)] st = .ok (rangeD i (j - i).toNat, stays st [.p (.int i), .p (.int j)]) st :=
  src_some (ds := [.int i, .int j]) (if_pos h)
@[simp] theorem src_rng3 {i j : Int} (h : (-(2 ^ 62) ≤ i ∧ i < 2 ^ 62) ∧ -(2 ^ 62) ≤ j ∧ j < 2 ^ 62) : srcM .rng [.p (.int i), .p (.int j), .p (.int (-1))] st = .ok (rangeDn i (i - j).toNat, stays st [.p (.int i), .p (.int j), .p (.int (-1))]) st :=
  src_some (ds := [.int i, .int j, .int (-1)]) (if_pos ⟨rfl, h⟩)
theorem src_rngS {i j c : Int} (hc : c < -1 ∧ -1000000 < c) (h : (-(2 ^ 62) ≤ i ∧ i < 2 ^ 62) ∧ -(2 ^ 62) ≤ j ∧ j < 2 ^ 62) : srcM .rng [.p (.int i), .p (.int j), .p (.int c)] st = .ok (rangeSt i c (rszN i j c), stays st [.p (.int i), .p (.int j), .p (.int c)]) st :=
  src_some (ds := [.int i, .int j, .int c]) (by
    show (if _ then _ else if _ then _ else _) = _
    rw [if_neg (by omega), if_pos ⟨hc, h⟩])
@[simp] theorem src_zipTT {xs ys : List P} : srcM .zip [.p (.tuple xs), .p (.tuple ys)] st = .ok (zipP xs ys, stays st [.p (.tuple xs), .p (.tuple ys)]) st := src_some (ds := [.tuple xs, .tuple ys]) rfl
@[simp] theorem src_zipTL {xs ys : List P} : srcM .zip [.p (.tuple xs), .p (.list ys)] st = .ok (zipP xs ys, stays st [.p (.tuple xs), .p (.list ys)]) st := src_some (ds := [.tuple xs, .list ys]) rfl
@[simp] theorem src_zipLT {xs ys : List P} : srcM .zip [.p (.list xs), .p (.tuple ys)] st = .ok (zipP xs ys, stays st [.p (.list xs), .p (.tuple ys)]) st := src_some (ds := [.list xs, .tuple ys]) rfl
@[simp] theorem stays_2 {a b : P} {st' : Sto} : stays st [.p a, .p b] st' = True := rfl
@[simp] theorem stays_3 {a b d : P} {st' : Sto} : stays st [.p a, .p b, .p d] st' = True := rfl
end
end
end PB
set_option maxRecDepth 100000
set_option maxHeartbeats 4000000
/-! Pb, part 34: digits and values in plain terms; functions that many laws share. -/
namespace PB
def prodL : List Int → Int
  | [] => 1
  | b :: r => b * prodL r
def digs : List Int → Int → List Int
  | [], _ => []
  | b :: r, n => n % b :: digs r (n / b)
def valL : List Int → List Int → Int
  | b :: r, d :: ds => d + b * valL r ds
  | _, _ => 0
theorem digs_len : ∀ (c : List Int) (n : Int), (digs c n).length = c.length
  | [], _ => rfl
  | b :: r, n => by simp [digs, digs_len r]
theorem div_lt {n b m : Int} (hb : 0 < b) (h : n < b * m) : n / b < m := by
  rw [Int.mul_comm] at h
  exact Int.ediv_lt_of_lt_mul hb h
theorem val_digs : ∀ {c : List Int} {n : Int}, (∀ b ∈ c, 0 < b) → 0 ≤ n → n < prodL c → valL c (digs c n) = n
  | [], n, _, h0, h1 => by
    simp only [prodL] at h1
    simp only [digs, valL]
    omega
  | b :: r, n, hb, h0, h1 => by
    have b0 := hb b (by simp)
    simp only [digs, valL]
    rw [val_digs (fun x hx => hb x (by simp [hx])) (Int.ediv_nonneg h0 (by omega)) (div_lt b0 h1)]
    exact Int.emod_add_mul_ediv n b
open PySem PySem.Spec PyProof.Rows L2
theorem eq_of_good {α : Type} {r : R α} {a : α} {st : Sto} (h : Good r fun v s => v = a ∧ s = st) : r = .ok a st := by
  obtain ⟨v, s, e, rfl, rfl⟩ := good_run h
  exact e
section
variable {st : Sto} {o o' : O}
@[simp] theorem get_push : (st ++ [o])[st.length]? = some o := by simp
@[simp] theorem set_push : (st ++ [o]).set st.length o' = st ++ [o'] := by simp
@[simp] theorem take_push {l : List O} : (st ++ l).take st.length = st := by simp
end
noncomputable section
/-- the bases of a counter -/
abbrev Bases (c : List Int) : Prop := ∀ b ∈ c, 2 ≤ b ∧ b ≤ 1000000
theorem Bases.pos {c : List Int} (h : Bases c) : ∀ b ∈ c, 0 < b := fun b hb => by have := h b hb; omega
/-! ### products -/
theorem cut_drop {α : Type} {xs : List α} {k : Nat} : cutP xs (some (k : Int)) none = xs.drop k := by
  unfold cutP
  rw [HT.sIx_none, show HT.sIx xs.length 0 (some (k : Int)) = min k xs.length from HT.sIx_nat xs.length 0 k]
  rw [List.take_of_length_le (by simp)]
  rcases Nat.le_total k xs.length with h | h
  · rw [Nat.min_eq_left h]
  · rw [Nat.min_eq_right h, List.drop_eq_nil_of_le h, List.drop_length]
/-! ### digits -/
end
end PB
set_option maxRecDepth 100000
set_option maxHeartbeats 4000000
/-! Pb, part 35: values of digits; counters and values drawn (laws that draw of a list). -/
namespace PB
open PySem PySem.Spec PyProof.Rows L2
noncomputable section
/-- digits below their bases -/
def InB (cs ds : List Int) : Prop := ds.length = cs.length ∧ ∀ (k : Nat) (b d : Int), cs[k]? = some b → ds[k]? = some d → 0 ≤ d ∧ d < b
theorem InB.tail {b d : Int} {cs ds : List Int} (h : InB (b :: cs) (d :: ds)) : InB cs ds :=
  ⟨by simpa using h.1, fun k b' d' h1 h2 => h.2 (k + 1) b' d' (by simpa using h1) (by simpa using h2)⟩
theorem InB.head {b d : Int} {cs ds : List Int} (h : InB (b :: cs) (d :: ds)) : 0 ≤ d ∧ d < b := h.2 0 b d rfl rfl
theorem val_bnd : ∀ {cs ds : List Int}, InB cs ds → 0 ≤ valL cs ds ∧ valL cs ds < prodL cs
  | [], [], _ => by simp [valL, prodL]
  | [], _ :: _, h => by have := h.1; simp at this
  | _ :: _, [], h => by have := h.1; simp at this
  | b :: cs, d :: ds, h => by
    obtain ⟨h1, h2⟩ := val_bnd h.tail
    have hd := h.head
    simp only [valL, prodL]
    have e1 : b * (valL cs ds + 1) ≤ b * prodL cs := Int.mul_le_mul_of_nonneg_left (by omega) (by omega)
    have e2 : 0 ≤ b * valL cs ds := Int.mul_nonneg (by omega) h1
    rw [Int.mul_add] at e1
    omega
theorem digs_inB {cs : List Int} (h : ∀ b ∈ cs, 0 < b) : ∀ n : Int, InB cs (digs cs n) := by
  induction cs with
  | nil => intro n; exact ⟨rfl, fun k b d h1 _ => by simp at h1⟩
  | cons b r ih =>
    intro n
    have hb := h b (by simp)
    have t := ih (fun x hx => h x (by simp [hx])) (n / b)
    refine ⟨by simp [digs, digs_len], fun k b' d h1 h2 => ?_⟩
    cases k with
    | zero =>
      simp [digs] at h1 h2
      subst h1
      subst h2
      exact ⟨Int.emod_nonneg _ (by omega), Int.emod_lt_of_pos _ hb⟩
    | succ k => exact t.2 k b' d (by simpa using h1) (by simpa [digs] using h2)
/-! ### draws -/
section
variable {S : Sto → Nat → Nat → Prop} [Stk S] {B st : Sto} {s g : Nat} {loc : List O} {o o' : O}
theorem Own.get0 (h : Own S B s g st (o :: loc)) : st[B.length]? = some o := by
  have := h.get (j := 0)
  simpa using this
/-- a comprehension whose turns may draw, counted -/
theorem good_compI' {gd : Sto → Prop} {f : PB.P → M (Option PB.P)} (J : Nat → List PB.P → Sto → Prop) : ∀ {items : List PB.P} {k : Nat} {ys : List PB.P} {st : Sto}, J k ys st → (∀ k ys st, J k ys st → gd st) →
    (∀ i d, items[i]? = some d → ∀ ys st, J (k + i) ys st → Good (f d st) fun o st' => J (k + i + 1) (ys ++ o.toList) st') → Good (compL gd f items st) fun zs st' => J (k + items.length) (ys ++ zs) st'
  | [], k, ys, st, h, hg, _ => by
    unfold compL
    rw [if_pos (hg _ _ _ h)]
    simpa using h
  | d :: r, k, ys, st, h, hg, hf => by
    obtain ⟨o, st1, e1, h1⟩ := good_run (hf 0 d rfl ys st h)
    obtain ⟨zs, st2, e2, h2⟩ := good_run (good_compI' J (items := r) (k := k + 1) h1 hg fun i e he ys st hj => by
      have := hf (i + 1) e (by simpa using he) ys st (by rw [show k + (i + 1) = k + 1 + i by omega]; exact hj)
      rw [show k + 1 + i + 1 = k + (i + 1) + 1 by omega]
      exact this)
    unfold compL
    rw [if_pos (hg _ _ _ h), e1, bind_ok, e2, bind_ok]
    rw [show k + (d :: r).length = k + 1 + r.length by simp; omega]
    cases o with
    | none => simpa using h2
    | some y => simpa using h2
theorem good_compI {β : Type} {gd : Sto → Prop} {f : PB.P → M (Option PB.P)} {K : List PB.P → Sto → R β} {Q : β → Sto → Prop} (J : Nat → List PB.P → Sto → Prop) {items : List PB.P} {st : Sto} (h : J 0 [] st) (hg : ∀ k ys st, J k ys st → gd st)
    (hf : ∀ i d, items[i]? = some d → ∀ ys st, J i ys st → Good (f d st) fun o st' => J (i + 1) (ys ++ o.toList) st') (hK : ∀ ys st', J items.length ys st' → Good (K ys st') Q) : Good (R.bind (noErr (compL gd f items) st) K) Q := by
  obtain ⟨zs, st2, e2, h2⟩ := good_run (good_compI' (gd := gd) J (items := items) (k := 0) h hg (fun i d hd ys st hj => by
    rw [Nat.zero_add] at *
    exact hf i d hd ys st hj))
  rw [noErr_st e2, bind_ok]
  exact hK _ _ (by simpa using h2)
end
end
end PB
set_option maxRecDepth 100000
set_option maxHeartbeats 4000000
/-! Pb, part 36: counters and values drawn (laws that draw of a list); data compared. -/
namespace PB
open PySem PySem.Spec PyProof.Rows L2
noncomputable section
@[simp] theorem c_eqI {i j : Int} : cmpP .Eq (.int i) (.int j) = some (decide (i = j)) := by
  rw [c_eq (by simp) ⟨shaped_int i, shaped_int j⟩, eqv_int]
@[simp] theorem c_neI {i j : Int} : cmpP .NotEq (.int i) (.int j) = some (!decide (i = j)) := by
  rw [c_ne (by simp) ⟨shaped_int i, shaped_int j⟩, eqv_int]
theorem shaped_intsT (ns : List Int) : shaped (.tuple (ns.map .int)) = true := by
  unfold shaped SeqAt.shaped
  simp [PyData.canLay0, lay_ints, PyData.depth, depth_ints]
theorem eqv_intsAll : ∀ xs ys : List Int, PyData.eqvAll (xs.map PyData.int) (ys.map PyData.int) = decide (xs = ys)
  | [], [] => by simp [PyData.eqvAll]
  | [], _ :: _ => by simp [PyData.eqvAll]
  | _ :: _, [] => by simp [PyData.eqvAll]
  | x :: xs, y :: ys => by
    simp [PyData.eqvAll, eqv_intsAll xs ys]
@[simp] theorem c_eqT {xs ys : List Int} : cmpP .Eq (.tuple (xs.map .int)) (.tuple (ys.map .int)) = some (decide (xs = ys)) := by
  rw [c_eq (by simp) ⟨shaped_intsT xs, shaped_intsT ys⟩, PyData.eqv, eqv_intsAll]
@[simp] theorem c_neT {xs ys : List Int} : cmpP .NotEq (.tuple (xs.map .int)) (.tuple (ys.map .int)) = some (!decide (xs = ys)) := by
  rw [c_ne (by simp) ⟨shaped_intsT xs, shaped_intsT ys⟩, PyData.eqv, eqv_intsAll]
section
variable {S : Sto → Nat → Nat → Prop} [Stk S] {B st : Sto} {s g : Nat} {loc : List O} {o o' : O}
theorem Own.kind {xs : List D} (h : Own S B s g st (.lst xs :: loc)) : kindM (.ref B.length) st = .ok () st := kind_ref h.get0
theorem Own.vw {ds : List PB.P} (h : Own S B s g st (.lst (ds.map .p) :: loc)) : vw (.ref B.length) st = .ok (.list ds) st := vw_ref h.get0
end
end
end PB
namespace PB
open PySem PySem.Spec PyProof.Rows L2
theorem enumK_len : ∀ (k : Nat) (xs : List PB.P), (enumK k xs).length = xs.length
  | _, [] => rfl
  | k, x :: r => by simp [enumK, enumK_len (k + 1) r]
@[simp] theorem enumP_len' (xs : List PB.P) : (enumP xs).length = xs.length := by rw [enumP_K, enumK_len]
end PB
set_option maxRecDepth 100000
set_option maxHeartbeats 4000000
/-! Pb, part 37: lists taken out of by draws; lots drawn. -/
namespace PB
open PySem PySem.Spec PyProof.Rows L2
noncomputable section
theorem sa_nil {env : Env} : setAll [] [] env = some env := by unfold setAll; rfl
theorem sa_cons {i : Nat} {is : List Nat} {d : D} {ds : List D} {env : Env} (h : i < env.length) : setAll (i :: is) (d :: ds) env = setAll is ds (env.set i (some d)) := by
  rw [setAll]
  exact if_pos h
end
end PB
set_option maxRecDepth 100000
set_option maxHeartbeats 4000000
/-! Pb, part 38: what is drawn of by the laws k12 .. k26 (a dict: great numbers, a mixed number, turns). -/
namespace PB
open PySem PySem.Spec PyProof.Rows L2
noncomputable section
abbrev kG : Key := .inr (Str.ofString "great")
abbrev kM : Key := .inr (Str.ofString "mixed")
abbrev kT : Key := .inr (Str.ofString "turns")
def deckO (g : Nat) (m t : Int) : O := .dct true [(kG, .ref g), (kM, .p (.int m)), (kT, .p (.int t))]
/-- the deck at s, its great numbers at g -/
structure Deck (st : Sto) (s g : Nat) : Prop where
  has : ∃ (great : List Int) (m t : Int), st[s]? = some (deckO g m t) ∧ st[g]? = some (.lst ((great.map PyData.int).map .p)) ∧ great.length ≤ 63
  ne : g ≠ s
instance : Stk Deck where
  lt := fun h => by
    obtain ⟨⟨_, _, _, e1, e2, _⟩, _⟩ := h
    exact ⟨(List.getElem?_eq_some_iff.mp e1).1, (List.getElem?_eq_some_iff.mp e2).1⟩
  same := fun h h1 h2 => by
    obtain ⟨⟨a, b, c, e1, e2, e3⟩, ne⟩ := h
    exact ⟨⟨a, b, c, h1.trans e1, h2.trans e2, e3⟩, ne⟩
theorem look0 {g : Nat} {m t : Int} : lookK kG [(kG, .ref g), (kM, .p (.int m)), (kT, .p (.int t))] = some (.ref g) := by
  unfold lookK
  rw [if_pos rfl]
end
end PB
set_option maxRecDepth 100000
set_option maxHeartbeats 4000000
/-! Pb, part 39: the first fault of a row; what is told twice. -/
set_option maxRecDepth 100000
set_option maxHeartbeats 1000000
/-! Pb, part 40: while; what is shuffled by a while. -/
namespace PB
open PySem PySem.Spec PyProof.Rows L2
noncomputable section
theorem s_while' {c : Cfg} {n : Nat} {t : Ex} {body : List PB.St} {env : Env} {st : Sto} : evS c (.while n t body) env st = whileL (fun env st => (evE c t env st).bind fun x st => asBM x st) (fun env => evSs c body env) n env st := by
  rw [evS]
  rfl
theorem while_step {cond : Env → M Bool} {f : Env → M (Fl × Env)} {n : Nat} {env : Env} {st : Sto} : whileL cond f (n + 1) env st = (cond env st).bind fun b st => if b = true then (f env st).bind fun q st => (match q with
    | (.nx, e) => whileL cond f n e st
    | (.ct, e) => whileL cond f n e st
    | (.bk, e) => .ok (.nx, e) st
    | (.rt v, e) => .ok (.rt v, e) st) else .ok (.nx, env) st := by
  rw [whileL]
  show (cond env st).bind _ = _
  refine congrArg (R.bind _) (funext fun b => funext fun st1 => ?_)
  cases b with
  | false => rfl
  | true =>
    show (f env st1).bind _ = _
    refine congrArg (R.bind _) (funext fun q => funext fun st2 => ?_)
    obtain ⟨fl, e⟩ := q
    cases fl <;> rfl
theorem good_while {cond : Env → M Bool} {f : Env → M (Fl × Env)} (I : Nat → Env → Sto → Prop) (hc : ∀ m env st, I m env st → cond env st = .ok (decide (m ≠ 0)) st)
    (hf : ∀ m env st, I (m + 1) env st → Good (f env st) fun q st' => q.1 = .nx ∧ I m q.2 st') : ∀ {n m : Nat} {env : Env} {st : Sto}, m < n → I m env st → Good (whileL cond f n env st) fun q st' => q.1 = .nx ∧ I 0 q.2 st'
  | 0, m, _, _, h, _ => absurd h (Nat.not_lt_zero m)
  | n + 1, 0, env, st, h, hI => by
    rw [while_step, hc 0 env st hI, bind_ok, if_neg (by simp), good_ok]
    exact ⟨rfl, hI⟩
  | n + 1, m + 1, env, st, h, hI => by
    rw [while_step, hc (m + 1) env st hI, bind_ok, if_pos (by simp)]
    refine good_then (hf m env st hI) fun q st' hq => ?_
    obtain ⟨fl, env'⟩ := q
    obtain ⟨h1, h2⟩ := hq
    dsimp only at h1 h2
    subst h1
    exact good_while I hc hf (by omega) h2
end
end PB
set_option maxRecDepth 100000
set_option maxHeartbeats 1000000
/-! Pb, part 41: the least number from a start on that shows some digits, in plain terms. -/
namespace PB
def shD : Option Int → Int → Bool
  | none, _ => true
  | some v, d => decide (d = v)
def shL : List (Option Int) → List Int → Bool
  | w :: ws, d :: ds => shD w d && shL ws ds
  | _, _ => true
def riseD (b : Int) (w : Option Int) (d : Int) : Bool := match w with
  | some v => decide (d < v)
  | none => decide (d + 1 < b)
def frL : List Int → List (Option Int) → List Int → Option (List Int)
  | b :: r, w :: ws, d :: ds => if (shL ws ds && riseD b w d) = true then some (w.getD (d + 1) :: ds) else (frL r ws ds).map fun l => w.getD 0 :: l
  | _, _, _ => none
/-- wishes below their bases -/
def WB (cs : List Int) (ws : List (Option Int)) : Prop := ws.length = cs.length ∧ ∀ (k : Nat) (b v : Int), cs[k]? = some b → ws[k]? = some (some v) → 0 ≤ v ∧ v < b
theorem WB.tail {b : Int} {w : Option Int} {cs : List Int} {ws : List (Option Int)} (h : WB (b :: cs) (w :: ws)) : WB cs ws :=
  ⟨by simpa using h.1, fun k b' v h1 h2 => h.2 (k + 1) b' v (by simpa using h1) (by simpa using h2)⟩
theorem WB.head {b v : Int} {cs : List Int} {ws : List (Option Int)} (h : WB (b :: cs) (some v :: ws)) : 0 ≤ v ∧ v < b := h.2 0 b v rfl rfl
theorem InB.cons {b d : Int} {cs ds : List Int} (h : InB cs ds) (h0 : 0 ≤ d) (h1 : d < b) : InB (b :: cs) (d :: ds) := by
  refine ⟨by simp [h.1], fun k b' d' e1 e2 => ?_⟩
  cases k with
  | zero => simp at e1 e2; subst e1; subst e2; exact ⟨h0, h1⟩
  | succ k => exact h.2 k b' d' (by simpa using e1) (by simpa using e2)
theorem digs_val : ∀ {cs ds : List Int}, InB cs ds → digs cs (valL cs ds) = ds
  | [], [], _ => rfl
  | [], _ :: _, h => by have := h.1; simp at this
  | _ :: _, [], h => by have := h.1; simp at this
  | b :: cs, d :: ds, h => by
    have hd := h.head
    simp only [digs, valL]
    rw [Int.add_mul_emod_self_left, Int.add_mul_ediv_left _ _ (by omega), Int.emod_eq_of_lt hd.1 hd.2, Int.ediv_eq_zero_of_lt hd.1 hd.2, Int.zero_add, digs_val h.tail]
theorem val_inj {cs ds es : List Int} (h : InB cs ds) (k : InB cs es) (e : valL cs ds = valL cs es) : ds = es := by
  rw [← digs_val h, e, digs_val k]
theorem fr_some : ∀ {cs ds l : List Int} {ws : List (Option Int)}, InB cs ds → WB cs ws → frL cs ws ds = some l → InB cs l ∧ shL ws l = true ∧ valL cs ds < valL cs l
  | b :: cs, d :: ds, l, w :: ws, hd, hw, h => by
    unfold frL at h
    have hb := hd.head
    split at h
    · rename_i hc
      cases h
      rw [Bool.and_eq_true] at hc
      obtain ⟨h1, h2⟩ := hc
      cases w with
      | none =>
        have h2 : d + 1 < b := by simpa [riseD] using h2
        refine ⟨hd.tail.cons (by show 0 ≤ d + 1; omega) h2, by simpa [shL, shD] using h1, ?_⟩
        simp only [valL, Option.getD_none]
        omega
      | some v =>
        have h2 : d < v := by simpa [riseD] using h2
        have hv := hw.head
        refine ⟨hd.tail.cons hv.1 hv.2, by simpa [shL, shD] using h1, ?_⟩
        simp only [valL, Option.getD_some]
        omega
    · cases e : frL cs ws ds with
      | none => rw [e] at h; cases h
      | some l' =>
        rw [e] at h
        cases h
        obtain ⟨h1, h2, h3⟩ := fr_some hd.tail hw.tail e
        have hg : 0 ≤ w.getD 0 ∧ w.getD 0 < b := by
          cases w with
          | none => exact ⟨Int.le_refl _, by show (0 : Int) < b; omega⟩
          | some v => exact hw.head
        refine ⟨h1.cons hg.1 hg.2, ?_, ?_⟩
        · cases w with
          | none => simpa [shL, shD] using h2
          | some v => simpa [shL, shD] using h2
        · simp only [valL]
          have : b * (valL cs ds + 1) ≤ b * valL cs l' := Int.mul_le_mul_of_nonneg_left (by omega) (by omega)
          rw [Int.mul_add] at this
          omega
  | [], _, _, _, _, _, h => by unfold frL at h; cases h
  | _ :: _, [], _, _, h, _, _ => by have := h.1; simp at this
  | _ :: _, _ :: _, _, [], _, h, _ => by have := h.1; simp at this
theorem fr_least : ∀ {cs ds es : List Int} {ws : List (Option Int)}, InB cs ds → InB cs es → WB cs ws → shL ws es = true → valL cs ds < valL cs es → ∃ l, frL cs ws ds = some l ∧ valL cs l ≤ valL cs es
  | b :: cs, d :: ds, e :: es, w :: ws, hd, he, hw, hs, hlt => by
    have hb := hd.head
    have hb2 := he.head
    rw [shL, Bool.and_eq_true] at hs
    obtain ⟨s1, s2⟩ := hs
    simp only [valL] at hlt
    have mono : ∀ {x y : Int}, x < y → b * x + b ≤ b * y := fun {x y} h => by
      have : b * (x + 1) ≤ b * y := Int.mul_le_mul_of_nonneg_left (by omega) (by omega)
      rw [Int.mul_add] at this
      omega
    have hge : w.getD 0 ≤ e := by
      cases w with
      | none => exact hb2.1
      | some v =>
        have : e = v := by simpa [shD] using s1
        show v ≤ e
        omega
    have hgl : w.getD (d + 1) ≤ b := by
      cases w with
      | none => show d + 1 ≤ b; omega
      | some v =>
        have := hw.head
        show v ≤ b
        omega
    unfold frL
    rcases Int.lt_trichotomy (valL cs ds) (valL cs es) with h | h | h
    · obtain ⟨l', e1, e2⟩ := fr_least hd.tail he.tail hw.tail s2 h
      split
      · refine ⟨_, rfl, ?_⟩
        simp only [valL]
        have := mono h
        have : 0 ≤ e := hb2.1
        omega
      · rw [e1]
        refine ⟨_, rfl, ?_⟩
        simp only [valL]
        have : b * valL cs l' ≤ b * valL cs es := Int.mul_le_mul_of_nonneg_left e2 (by omega)
        omega
    · have hde := val_inj hd.tail he.tail h
      subst hde
      have hlt : d < e := by omega
      have hr : riseD b w d = true := by
        cases w with
        | none => simp [riseD]; omega
        | some v =>
          have : e = v := by simpa [shD] using s1
          simp [riseD]
          omega
      rw [if_pos (by simp [s2, hr])]
      refine ⟨_, rfl, ?_⟩
      simp only [valL]
      have : w.getD (d + 1) ≤ e := by
        cases w with
        | none => show d + 1 ≤ e; omega
        | some v =>
          have : e = v := by simpa [shD] using s1
          show v ≤ e
          omega
      omega
    · have := mono h
      omega
  | [], ds, es, ws, h1, h2, _, _, h => by
    simp [valL] at h
  | _ :: _, [], _, _, h, _, _, _, _ => by have := h.1; simp at this
  | _ :: _, _ :: _, [], _, _, h, _, _, _ => by have := h.1; simp at this
  | _ :: _, _ :: _, _ :: _, [], _, _, h, _, _ => by have := h.1; simp at this
/-- the least number from start on that shows ws -/
def aheadZ (cs : List Int) (ws : List (Option Int)) (start : Int) : Option Int :=
  if start = prodL cs then none else if shL ws (digs cs start) = true then some start else (frL cs ws (digs cs start)).map (valL cs)
def LeastFrom (cs : List Int) (ws : List (Option Int)) (start : Int) : Option Int → Prop
  | some m => start ≤ m ∧ m < prodL cs ∧ shL ws (digs cs m) = true ∧ ∀ n, start ≤ n → n < m → shL ws (digs cs n) = false
  | none => ∀ n, start ≤ n → n < prodL cs → shL ws (digs cs n) = false
theorem ahead_least {cs : List Int} {ws : List (Option Int)} {start : Int} (hb : ∀ b ∈ cs, 0 < b) (hw : WB cs ws) (h0 : 0 ≤ start) (h1 : start ≤ prodL cs) : LeastFrom cs ws start (aheadZ cs ws start) := by
  unfold aheadZ
  split
  · intro n a b
    omega
  · rename_i hne
    have hd := digs_inB hb
    have hv : ∀ n, 0 ≤ n → n < prodL cs → valL cs (digs cs n) = n := fun n a b => val_digs hb a b
    split
    · rename_i hs
      exact ⟨Int.le_refl _, by omega, hs, fun n a b => by omega⟩
    · rename_i hs
      have key : ∀ n, start ≤ n → n < prodL cs → shL ws (digs cs n) = true → ∃ l, frL cs ws (digs cs start) = some l ∧ valL cs l ≤ n := fun n a b c => by
        have hlt : start < n := by
          rcases Int.lt_or_eq_of_le a with h | h
          · exact h
          · rw [← h] at c; exact absurd c hs
        have := fr_least (hd start) (hd n) hw c (by rw [hv _ h0 (by omega), hv _ (by omega) b]; exact hlt)
        rw [hv n (by omega) b] at this
        exact this
      cases e : frL cs ws (digs cs start) with
      | none =>
        intro n a b
        cases c : shL ws (digs cs n) with
        | false => rfl
        | true =>
          obtain ⟨l, e2, _⟩ := key n a b c
          rw [e] at e2
          cases e2
      | some l =>
        obtain ⟨i1, i2, i3⟩ := fr_some (hd start) hw e
        rw [hv _ h0 (by omega)] at i3
        have hvl := val_bnd i1
        refine ⟨by omega, hvl.2, by rw [digs_val i1]; exact i2, fun n a b => ?_⟩
        cases c : shL ws (digs cs n) with
        | false => rfl
        | true =>
          obtain ⟨l', e2, h3⟩ := key n a (by omega) c
          rw [e] at e2
          cases e2
          omega
/-! ### mirrored -/
def mirD (cs ds : List Int) : List Int := List.zipWith (fun b d => b - 1 - d) cs ds
def mirW (cs : List Int) (ws : List (Option Int)) : List (Option Int) := List.zipWith (fun b w => w.map fun v => b - 1 - v) cs ws
theorem mir_inB : ∀ {cs ds : List Int}, InB cs ds → InB cs (mirD cs ds)
  | [], [], h => h
  | [], _ :: _, h => by have := h.1; simp at this
  | _ :: _, [], h => by have := h.1; simp at this
  | b :: cs, d :: ds, h => by
    have := h.head
    exact (mir_inB h.tail).cons (show 0 ≤ b - 1 - d by omega) (show b - 1 - d < b by omega)
theorem mir_val : ∀ {cs ds : List Int}, InB cs ds → valL cs (mirD cs ds) = prodL cs - 1 - valL cs ds
  | [], [], h => by simp [valL, prodL, mirD]
  | [], _ :: _, h => by have := h.1; simp at this
  | _ :: _, [], h => by have := h.1; simp at this
  | b :: cs, d :: ds, h => by
    have ih := mir_val h.tail
    unfold mirD at ih ⊢
    simp only [List.zipWith_cons_cons, valL, prodL]
    rw [ih, Int.mul_sub, Int.mul_sub]
    omega
theorem digs_mir {cs : List Int} (hb : ∀ b ∈ cs, 0 < b) {n : Int} (h0 : 0 ≤ n) (h1 : n < prodL cs) : digs cs (prodL cs - 1 - n) = mirD cs (digs cs n) := by
  have hd := digs_inB hb n
  have e := mir_val hd
  rw [val_digs hb h0 h1] at e
  rw [← e, digs_val (mir_inB hd)]
theorem sh_mir : ∀ {cs ds : List Int} {ws : List (Option Int)}, ds.length = cs.length → ws.length = cs.length → shL (mirW cs ws) (mirD cs ds) = shL ws ds
  | [], [], [], _, _ => rfl
  | b :: cs, d :: ds, w :: ws, h1, h2 => by
    have ih := sh_mir (cs := cs) (ds := ds) (ws := ws) (by simpa using h1) (by simpa using h2)
    unfold mirW mirD at ih ⊢
    simp only [List.zipWith_cons_cons, shL]
    rw [ih]
    cases w with
    | none => rfl
    | some v =>
      simp only [Option.map_some, shD]
      congr 1
      exact decide_eq_decide.mpr ⟨fun h => by omega, fun h => by omega⟩
  | [], _ :: _, _, h, _ => by simp at h
  | [], _, _ :: _, _, h => by simp at h
  | _ :: _, [], _, h, _ => by simp at h
  | _ :: _, _, [], _, h => by simp at h
theorem mir_WB : ∀ {cs : List Int} {ws : List (Option Int)}, WB cs ws → WB cs (mirW cs ws) := by
  intro cs ws h
  refine ⟨by simp [mirW, h.1], fun k b v h1 h2 => ?_⟩
  unfold mirW at h2
  rw [List.getElem?_zipWith, h1] at h2
  cases e : ws[k]? with
  | none => rw [e] at h2; cases h2
  | some w =>
    rw [e] at h2
    cases w with
    | none => cases h2
    | some u =>
      have := h.2 k b u h1 e
      cases h2
      show 0 ≤ b - 1 - u ∧ b - 1 - u < b
      omega
def backZ (cs : List Int) (ws : List (Option Int)) (start : Int) : Option Int := (aheadZ cs (mirW cs ws) (prodL cs - 1 - start)).map fun m => prodL cs - 1 - m
def GreatestTo (cs : List Int) (ws : List (Option Int)) (start : Int) : Option Int → Prop
  | some m => 0 ≤ m ∧ m ≤ start ∧ shL ws (digs cs m) = true ∧ ∀ n, m < n → n ≤ start → shL ws (digs cs n) = false
  | none => ∀ n, 0 ≤ n → n ≤ start → shL ws (digs cs n) = false
theorem back_greatest {cs : List Int} {ws : List (Option Int)} {start : Int} (hb : ∀ b ∈ cs, 0 < b) (hw : WB cs ws) (h0 : -1 ≤ start) (h1 : start < prodL cs) : GreatestTo cs ws start (backZ cs ws start) := by
  have h := ahead_least (start := prodL cs - 1 - start) hb (mir_WB hw) (by omega) (by omega)
  have sh : ∀ n, 0 ≤ n → n < prodL cs → shL (mirW cs ws) (digs cs (prodL cs - 1 - n)) = shL ws (digs cs n) := fun n a b => by
    rw [digs_mir hb a b, sh_mir (digs_len _ _) hw.1]
  unfold backZ
  cases e : aheadZ cs (mirW cs ws) (prodL cs - 1 - start) with
  | none =>
    rw [e] at h
    intro n a b
    rw [← sh n a (by omega)]
    exact h _ (by omega) (by omega)
  | some m =>
    rw [e] at h
    obtain ⟨a1, a2, a3, a4⟩ := h
    have em : prodL cs - 1 - (prodL cs - 1 - m) = m := by omega
    show 0 ≤ prodL cs - 1 - m ∧ prodL cs - 1 - m ≤ start ∧ shL ws (digs cs (prodL cs - 1 - m)) = true ∧ ∀ n, prodL cs - 1 - m < n → n ≤ start → shL ws (digs cs n) = false
    refine ⟨by omega, by omega, ?_, fun n a b => ?_⟩
    · rw [← sh _ (by omega) (by omega), em]
      exact a3
    · rw [← sh n (by omega) (by omega)]
      exact a4 _ (by omega) (by omega)
end PB
set_option maxRecDepth 100000
set_option maxHeartbeats 1000000
/-! Pb, part 42: wanted_digits, can_rise, risen, ahead_from, back_to. -/
namespace PB
open PySem PySem.Spec PyProof.Rows L2
noncomputable section
/-! ### dicts made of pairs -/
/-! ### can_rise -/
@[simp] theorem c_inD {k : Int} {kvs : List (PB.P × PB.P)} : cmpP .In (.int k) (.dict kvs) = some (dlookP (.inl k) kvs).isSome := rfl
@[simp] theorem idx_D {k : Int} {kvs : List (PB.P × PB.P)} : idxP (.dict kvs) (.int k) = dlookP (.inl k) kvs := rfl
@[simp] theorem idx_T {k : Int} {xs : List PB.P} : idxP (.tuple xs) (.int k) = L2.atI xs k := rfl
/-- a dict tells the wishes ws -/
def Tells (kvs : List (PB.P × PB.P)) (ws : List (Option Int)) : Prop := ∀ j : Nat, j < ws.length → dlookP (.inl (j : Int)) kvs = (ws.getD j none).map PyData.int
theorem Tells.at {kvs : List (PB.P × PB.P)} {ws : List (Option Int)} {j : Nat} {w : Option Int} (h : Tells kvs ws) (e : ws[j]? = some w) : dlookP (.inl (j : Int)) kvs = w.map PyData.int := by
  rw [h j (List.getElem?_eq_some_iff.mp e).1, List.getD_eq_getElem?_getD, e]
  rfl
/-! ### risen -/
end
end PB
set_option maxRecDepth 100000
set_option maxHeartbeats 1000000
/-! Pb, part 43: ahead_from, back_to. -/
namespace PB
open PySem PySem.Spec PyProof.Rows L2
noncomputable section
/-! ### the first place that can rise -/
/-! ### wishes by places and digits -/
def wsOf (n : Nat) (lot : List Nat) (sight : List Int) : List (Option Int) := (List.range n).map fun j => (lot.zip sight).lookup j
structure LotOk (n : Nat) (lot : List Nat) : Prop where
  nd : lot.Nodup
  lt : ∀ p ∈ lot, p < n
  len : lot.length ≤ 1000
/-- digits that a counter's places can show -/
structure SightOk (cs : List Int) (lot : List Nat) (sight : List Int) : Prop where
  len : sight.length = lot.length
  bnd : ∀ q ∈ lot.zip sight, ∀ b, cs[q.1]? = some b → 0 ≤ q.2 ∧ q.2 < b
/-! ### ahead_from -/
theorem comp_mapF {g : Sto → Prop} {f : PB.P → M (Option PB.P)} {α : Type} {F Gf : α → PB.P} {st : Sto} (hg : g st) {items : List α} (hf : ∀ a ∈ items, f (F a) st = .ok (some (Gf a)) st) : noErr (compL g f (items.map F)) st = .ok (items.map Gf) st := by
  refine noErr_st ?_
  induction items with
  | nil =>
    show compL g f [] st = _
    unfold compL
    rw [if_pos hg]
    rfl
  | cons a r ih =>
    show compL g f (F a :: r.map F) st = _
    unfold compL
    rw [if_pos hg, hf a (by simp), bind_ok, ih (fun b hb => hf b (by simp [hb])), bind_ok]
    rfl
/-! ### back_to -/
end
end PB
set_option maxRecDepth 100000
set_option maxHeartbeats 1000000
/-! Pb, part 44: lots and sights drawn; the first and the last that show a sight. -/
set_option maxRecDepth 100000
set_option maxHeartbeats 1000000
/-! Pb, part 45: all numbers that show a sight, one by one. -/
namespace PB
open PySem PySem.Spec PyProof.Rows L2
noncomputable section
theorem at_neg1 {α : Type} {xs : List α} {x : α} : L2.atI (xs ++ [x]) (-1) = some x := by
  unfold L2.atI L2.ixN
  rw [if_neg (by omega), if_pos (by simp; omega)]
  have e : (-1 + ((xs ++ [x]).length : Int)).toNat = xs.length := by
    rw [List.length_append, List.length_singleton]
    omega
  rw [e]
  simp
/-- a comprehension that picks -/
theorem comp_filt {g : Sto → Prop} {f : PB.P → M (Option PB.P)} {α : Type} {F : α → PB.P} {p : α → Bool} {st : Sto} (hg : g st) {items : List α} (hf : ∀ a ∈ items, f (F a) st = .ok (if p a = true then some (F a) else none) st) : noErr (compL g f (items.map F)) st = .ok ((items.filter p).map F) st := by
  refine noErr_st ?_
  induction items with
  | nil =>
    show compL g f [] st = _
    unfold compL
    rw [if_pos hg]
    rfl
  | cons a r ih =>
    show compL g f (F a :: r.map F) st = _
    unfold compL
    rw [if_pos hg, hf a (by simp), bind_ok, ih (fun b hb => hf b (by simp [hb])), bind_ok, List.filter_cons]
    cases p a <;> rfl
end
end PB
set_option maxRecDepth 100000
set_option maxHeartbeats 4000000
/-! Pb, part 46: counters, lots, rows, runs, words drawn of the deck. -/
namespace PB
open PySem PySem.Spec PyProof.Rows L2
noncomputable section
section
variable {S : Sto → Nat → Nat → Prop} [Stk S] {B st : Sto} {s g : Nat}
/-! ### lots, rows, words -/
def sgT (x : List Int) : PB.P := .tuple (x.map .int)
end
end
end PB
set_option maxRecDepth 100000
set_option maxHeartbeats 1000000
/-! Pb, part 47: least and greatest runs. -/
namespace PB
open PySem PySem.Spec PyProof.Rows L2
noncomputable section
/-! ### the steps of a word -/
structure RowWord (cs : List Int) (rows : List (List Nat)) (sgs : List (List Int)) : Prop where
  len : sgs.length = rows.length
  ok : ∀ q ∈ rows.zip sgs, LotOk cs.length q.1 ∧ SightOk cs q.1 q.2
def wsq (cs : List Int) (q : List Nat × List Int) : List (Option Int) := wsOf cs.length q.1 q.2
def aheadQ (cs : List Int) (q : List Nat × List Int) (now : Int) : Option Int := aheadZ cs (wsq cs q) now
def backQ (cs : List Int) (q : List Nat × List Int) (now : Int) : Option Int := backZ cs (wsq cs q) now
end
end PB
set_option maxRecDepth 100000
set_option maxHeartbeats 1000000
/-! Pb, part 48: all numbers that a read of a word can have, beside the least and the greatest run. -/
namespace PB
open PySem PySem.Spec PyProof.Rows L2
noncomputable section
abbrev Rd2 : Type := List Nat × List Int
abbrev Stp : Type := Rd2 × Int × Int
variable {cs : List Int}
/-- a read that can be judged -/
structure GoodQ (cs : List Int) (q : Rd2) : Prop where
  pos : ∀ b ∈ cs, 0 < b
  wb : WB cs (wsq cs q)
theorem GoodQ.bk {q : Rd2} (h : GoodQ cs q) {high : Int} (h0 : -1 ≤ high) (h1 : high < prodL cs) : GreatestTo cs (wsq cs q) high (backQ cs q high) := back_greatest h.pos h.wb h0 h1
/-! ### backwards -/
def lastD (l : List Int) : Int := (l.getLast?).getD 0
def Lk (cs : List Int) : List Stp → Int → Prop
  | [], _ => True
  | t :: r, high => 0 ≤ t.2.1 ∧ t.2.1 ≤ prodL cs ∧ aheadQ cs t.1 t.2.1 = some t.2.2 ∧ t.2.2 ≤ high ∧ Lk cs r t.2.1
theorem Lk.mono {l : List Stp} {h h' : Int} (k : Lk cs l h) (hh : h ≤ h') : Lk cs l h' := by
  cases l with
  | nil => trivial
  | cons t r => exact ⟨k.1, k.2.1, k.2.2.1, Int.le_trans k.2.2.2.1 hh, k.2.2.2.2⟩
inductive Agree : List Stp → List (List Int) → List Int → Prop
  | nil : Agree [] [] []
  | cons {t : Stp} {r : List Stp} {k : List Int} {ks : List (List Int)} {g : Int} {gs : List Int} : k.head? = some t.2.2 → k.getLast? = some g → Agree r ks gs → Agree (t :: r) (k :: ks) (g :: gs)
theorem Agree.at {l : List Stp} {ks : List (List Int)} {gs : List Int} (h : Agree l ks gs) : ∀ {i : Nat}, i < l.length → ∃ t k g, l[i]? = some t ∧ ks[i]? = some k ∧ gs[i]? = some g ∧ k.head? = some t.2.2 ∧ k.getLast? = some g := by
  induction h with
  | nil => intro i hi; simp at hi
  | @cons t r k ks g gs h1 h2 h3 ih =>
    intro i hi
    cases i with
    | zero => exact ⟨t, k, g, rfl, rfl, rfl, h1, h2⟩
    | succ i =>
      obtain ⟨t', k', g', e1, e2, e3, e4, e5⟩ := ih (i := i) (by simpa using hi)
      exact ⟨t', k', g', by simpa using e1, by simpa using e2, by simpa using e3, e4, e5⟩
/-! ### what the law finds -/
variable {rows : List (List Nat)} {sgs : List (List Int)}
end
end PB
set_option maxRecDepth 100000
set_option maxHeartbeats 1000000
/-! Pb, part 49: what a law finds of a word, one number after another. -/
namespace PB
open PySem PySem.Spec PyProof.Rows L2
noncomputable section
def listT (l : List Int) : PB.P := .list (l.map .int)
section
variable {c : Cfg} {cs : List Int} {rows : List (List Nat)} {sgs : List (List Int)} {gS gG : List D → M D}
theorem idx_last {l : List Int} {a : Int} (h : l.getLast? = some a) : idxP (listT l) (.int (-1)) = some (.int a) := by
  rcases List.eq_nil_or_concat l with rfl | ⟨r, x, rfl⟩
  · cases h
  · rw [List.concat_eq_append, List.getLast?_append, List.getLast?_singleton] at h
    have : x = a := by simpa using h
    subst this
    show L2.atI ((r.concat x).map PyData.int) (-1) = _
    rw [List.concat_eq_append, List.map_append]
    exact at_neg1
end
end
end PB
set_option maxRecDepth 100000
set_option maxHeartbeats 1000000
/-! Pb, part 50: words made of words; the ends of the least and the greatest run; what can be shown of them. -/
namespace PB
open PySem PySem.Spec PyProof.Rows L2
noncomputable section
section
variable {cs : List Int} {rows : List (List Nat)} {sgs os : List (List Int)}
theorem RowWord.of (h : sgs.length = rows.length) (k : ∀ (i : Nat) l s, rows[i]? = some l → sgs[i]? = some s → LotOk cs.length l ∧ SightOk cs l s) : RowWord cs rows sgs := by
  refine ⟨h, fun q hq => ?_⟩
  obtain ⟨i, hi, e⟩ := List.getElem_of_mem hq
  have hi1 : i < rows.length ∧ i < sgs.length := by simp at hi; omega
  rw [List.getElem_zip] at e
  subst e
  exact k i _ _ (List.getElem?_eq_getElem hi1.1) (List.getElem?_eq_getElem hi1.2)
theorem RowWord.at (h : RowWord cs rows sgs) {i : Nat} {l : List Nat} {s : List Int} (h1 : rows[i]? = some l) (h2 : sgs[i]? = some s) : LotOk cs.length l ∧ SightOk cs l s := by
  refine h.ok (l, s) (List.mem_iff_getElem?.mpr ⟨i, ?_⟩)
  rw [List.getElem?_zip_eq_some]
  exact ⟨h1, h2⟩
theorem RowWord.take (h : RowWord cs rows sgs) (k : Nat) : RowWord cs (rows.take k) (sgs.take k) := by
  refine .of (by simp [h.len]) fun i l s h1 h2 => ?_
  have hi := (List.getElem?_eq_some_iff.mp h1).1
  rw [List.length_take] at hi
  rw [List.getElem?_take_of_lt (by omega)] at h1 h2
  exact h.at h1 h2
/-! ### ends -/
def hdD (l : List Int) : Int := (l.head?).getD 0
/-! ### what can be shown -/
end
/-! ### slices -/
end
end PB
set_option maxRecDepth 100000
set_option maxHeartbeats 1000000
/-! Pb, part 51: runs from each first number. -/
set_option maxRecDepth 100000
set_option maxHeartbeats 1000000
/-! Pb, part 52: all runs of a word. -/
set_option maxRecDepth 100000
set_option maxHeartbeats 1000000
/-! Pb, part 53: what the program's sight_of tells; ends of tuples. -/
namespace PB
open PySem PySem.Spec PyProof.Rows L2
noncomputable section
theorem idxT_head {l : List Int} {a : Int} (h : l.head? = some a) : idxP (sgT l) (.int 0) = some (.int a) := by
  cases l with
  | nil => cases h
  | cons x r =>
    cases h
    show L2.atI (PyData.int a :: r.map PyData.int) 0 = _
    exact at0
theorem idxT_last {l : List Int} {a : Int} (h : l.getLast? = some a) : idxP (sgT l) (.int (-1)) = some (.int a) := idx_last (l := l) h
end
end PB
set_option maxRecDepth 100000
set_option maxHeartbeats 1000000
/-! Pb, part 55: runs that never go back; logs of readings, joined. -/
set_option maxRecDepth 100000
set_option maxHeartbeats 1000000
/-! Pb, part 56: logs, drawn and turned. -/
set_option maxRecDepth 100000
set_option maxHeartbeats 1000000
/-! Pb, part 57: logs with a sight of another value, or in another order. -/
set_option maxRecDepth 100000
set_option maxHeartbeats 1000000
/-! Pb, part 58: logs can be shown; comprehensions over mapped lists; items of runs. -/
set_option maxRecDepth 100000
set_option maxHeartbeats 1000000
/-! Pb, part 28x: raise and try, row by row. -/
set_option maxRecDepth 100000
set_option maxHeartbeats 1000000
/-! Pb, part 59: windows, sure values, the last window of logs. -/
set_option maxRecDepth 100000
set_option maxHeartbeats 1000000
/-! Pb, part 60: how far a run can have gone between two reads. -/
set_option maxRecDepth 100000
set_option maxHeartbeats 1000000
/-! Pb, part 61: logs with a reading left out, and readings alone. -/
set_option maxRecDepth 100000
set_option maxHeartbeats 1000000
/-! Pb, part 62: dict(list(zip(lot, sight))) in plain terms. -/
set_option maxRecDepth 100000
set_option maxHeartbeats 1000000
/-! Pb, part 63: the law's own rule of places (k18, k25): the least value from a start on that shows a sight. -/
set_option maxRecDepth 100000
set_option maxHeartbeats 1000000
/-! Pb, part 64: the law's own way back; its number of digits (k18, k25). -/
set_option maxRecDepth 100000
set_option maxHeartbeats 1000000
/-! Pb, part 65: what is told of a word by its least and greatest runs; the law's own lows and highs. -/
namespace PB
open PySem PySem.Spec PyProof.Rows L2
noncomputable section
@[simp] theorem s_cont' {c : Cfg} {env : Env} {st : Sto} : evS c .cont env st = .ok (.ct, env) st := by rw [evS]; rfl
/-! ### freezing a pair -/
/-! ### the program's tellings -/
/-! ### the law's own lows and highs -/
end
end PB
set_option maxRecDepth 100000
set_option maxHeartbeats 1000000
/-! Pb, part 66: the least and the greatest run of a word are runs; the law's own look at runs. -/
namespace PB
open PySem PySem.Spec PyProof.Rows L2
noncomputable section
section
variable {cs : List Int} {rows : List (List Nat)} {sgs : List (List Int)}
theorem endsG {R : List Int} (h : 1 ≤ R.length) : R.head? = some (hdD R) ∧ R.getLast? = some (lastD R) ∧ R[0]? = some (hdD R) ∧ R[R.length - 1]? = some (lastD R) := by
  unfold hdD lastD
  have e1 : R.head? = some (R.head?.getD 0) := by
    cases R with
    | nil => simp at h
    | cons a l => rfl
  have e2 : R.getLast? = some (R.getLast?.getD 0) := by
    cases e : R.getLast? with
    | none => rw [List.getLast?_eq_none_iff] at e; rw [e] at h; simp at h
    | some x => rfl
  refine ⟨e1, e2, ?_, ?_⟩
  · rw [← List.head?_eq_getElem?]; exact e1
  · rw [← List.getLast?_eq_getElem?]; exact e2
end
/-! ### the law's own look at a run -/
section
variable {c : Cfg} {cs : List Int} {rows : List (List Nat)} {sgs : List (List Int)}
theorem isi_intG {n : Int} : isiP "int" (.int n) = true := rfl
theorem isi_blG {n : Int} : isiP "bool" (.int n) = false := rfl
def irA : PB.St := .ite (.or [(.not (.isi (.var 3) "tuple")), (.cmp .NotEq (.bif "len" [(.var 3)]) (.bif "len" [(.var 1)]))]) [.ret (.cst (.bool false))] []
def irE : Ex := .comp (.one 4) .it [(.var 3)] [(.or [(.not (.isi (.var 4) "int")), (.isi (.var 4) "bool")])] (.var 4)
def irB : PB.St := .ite (.cmp .NotEq irE (.lst [])) [.ret (.cst (.bool false))] []
def irC : PB.St := .ite (.or [(.cmp .Lt (.idx (.var 3) (.cst (.int 0))) (.cst (.int 0))), (.cmp .GtE (.idx (.var 3) (.neg (.cst (.int 1)))) (.call "_law_size" [(.var 0)])), (.cmp .NotEq (.bif "list" [(.var 3)]) (.bif "sorted" [(.var 3)]))]) [.ret (.cst (.bool false))] []
theorem irE_ok {R : List Int} {x0 x1 x2 : Option D} (st : Sto) : evE c irE [x0, x1, x2, some (.p (sgT R)), none] st = .ok (.p (.list [])) st := by
  have l0 : (0 : Nat) ≤ sizeLine := Nat.zero_le _
  have key : noErr (compL (stays st [D.p (sgT R)]) (compF (.one 4) (evAll c [(.or [(.not (.isi (.var 4) "int")), (.isi (.var 4) "bool")])]) (evE c (.var 4)) (wipeE [x0, x1, x2, some (.p (sgT R)), none] (Tg.one 4).slots)) (R.map PyData.int)) st = .ok ((R.filter fun _ => false).map PyData.int) st := by
    refine comp_filt (p := fun _ => false) trivial fun n hn => ?_
    rw [compF_st]
    simp [slots_one, wipeE, isi_intG, isi_blG]
  rw [List.filter_eq_nil_iff.mpr (by simp)] at key
  have hs : ∀ st, srcM .it [.p (sgT R)] st = .ok (R.map PyData.int, stays st [.p (sgT R)]) st := fun st => src_some (ds := [sgT R]) rfl
  unfold irE
  generalize sgT R = SR at *
  simp [hs]
  rw [key]
  simp [line_ok l0]
end
end
end PB
namespace PB.K46
open PySem PySem.Spec PyProof.Rows L2
set_option maxRecDepth 100000
set_option maxHeartbeats 4000000
def arT : String → Nat := fun f => if f = "lots_for" then 3 else if f = "fewest_lots" then 3 else if f = "_law_stock" then 1 else if f = "_law_draw" then 2 else if f = "_law_pick" then 2 else if f = "_law_bases" then 2 else if f = "_law_rungs" then 2 else if f = "_law_served" then 3 else if f = "_law_has" then 3 else if f = "_law_lots" then 2 else if f = "_law_none_does" then 4 else if f = "_law_due" then 3 else if f = "_law_is_row" then 3 else if f = "_law_is_right" then 4 else if f = "law" then 1 else 0
def kwT : List (String × Nat × List String × List Nat) := [("fewest_lots", 0, ["want", "most", "counter"], [2, 1, 0]), ("lots_for", 0, ["want", "most", "counter"], [2, 1, 0])]
def gT : List (String × P) := []
noncomputable section
def c_0 : Cfg := { T := fun _ => none, ar := arT, kw := kwT }
def b_f_lots_for : List St := [.set (.one 3) (.new (.lst [])),
    .for (.one 4) .rng [(.bif "len" [(.var 0)]), (.cst (.int 0)), (.neg (.var 1))] [.expr (.mth "append" (.var 3) [(.tupOf .rng [(.bif "max" [(.bin .Sub (.var 4) (.var 1)), (.cst (.int 0))]), (.var 4)])])],
    .ite (.cmp .Eq (.var 2) (.cst (.str (Str.ofString "up")))) [.set (.one 3) (.new (.rev (.var 3)))] [],
    .ite (.cmp .Eq (.var 2) (.cst (.str (Str.ofString "mirror")))) [.set (.one 3) (.new (.bin .Add (.var 3) (.rev2 (.var 3))))] [],
    .ret (.bif "tuple" [(.var 3)])]
def f_lots_for : List D → M D := runF c_0 5 true b_f_lots_for
def c_1 : Cfg := c_0.add "lots_for" f_lots_for
def b_f_fewest_lots : List St := [.ret (.bif "len" [(.call "lots_for" [(.var 0), (.var 1), (.var 2)])])]
def f_fewest_lots : List D → M D := runF c_1 3 true b_f_fewest_lots
def c_2 : Cfg := c_1.add "fewest_lots" f_fewest_lots
def b_f_law_stock : List St := [.set (.one 1) (.comp (.one 2) .it [(.slc (.var 0) none (some (.cst (.int 63))))] [] (.ife (.cmp .GtE (.var 2) (.cst (.int 0))) (.bin .Mult (.cst (.int 2)) (.var 2)) (.bin .Sub (.bin .Mult (.neg (.cst (.int 2))) (.var 2)) (.cst (.int 1))))),
    .ret (.lstH [(.new (.comp (.one 2) .it [(.var 1)] [(.cmp .GtE (.var 2) (.bin .Pow (.cst (.int 10)) (.cst (.int 15))))] (.var 2))), (.bin .Add (.var 1) (.lst [(.bin .Add (.bif "len" [(.var 1)]) (.cst (.int 2346)))])), (.bif "sum" [(.var 1)]), (.cst (.int 0))])]
def f_law_stock : List D → M D := runF c_2 3 false b_f_law_stock
def c_3 : Cfg := c_2.add "_law_stock" f_law_stock
def b_f_law_draw : List St := [.ite (.cmp .NotEq (.idx (.var 0) (.cst (.int 0))) (.lst [])) [.set (.one 2) (.mth "pop" (.idx (.var 0) (.cst (.int 0))) []),
    .ite (.cmp .GtE (.var 2) (.var 1)) [.expr (.mth "append" (.idx (.var 0) (.cst (.int 0))) [(.bin .FloorDiv (.var 2) (.var 1))])] [],
    .ret (.bin .Mod (.bif "int" [(.var 2)]) (.var 1))] [],
    .seti (.var 0) (.cst (.int 3)) (.bin .Add (.idx (.var 0) (.cst (.int 3))) (.cst (.int 1))),
    .set (.one 3) (.idx (.var 0) (.cst (.int 3))),
    .set (.one 4) (.bin .Mod (.bif "int" [(.idx (.idx (.var 0) (.cst (.int 1))) (.bin .Mod (.bif "int" [(.var 3)]) (.bif "len" [(.idx (.var 0) (.cst (.int 1)))])))]) (.cst (.int 1000000007))),
    .set (.one 5) (.bin .Mod (.bif "int" [(.bin .Add (.bin .Add (.bin .Mult (.var 4) (.cst (.int 48271))) (.bin .Mult (.bin .Mod (.bif "int" [(.idx (.var 0) (.cst (.int 2)))]) (.cst (.int 998244353))) (.cst (.int 69621)))) (.bin .Mult (.var 3) (.cst (.int 2654435761))))]) (.cst (.int 4294967291))),
    .set (.one 5) (.bin .Mod (.bif "int" [(.bin .Add (.bin .Add (.bin .Mult (.var 5) (.var 5)) (.bin .Mult (.var 3) (.cst (.int 362437)))) (.var 4))]) (.cst (.int 4294967279))),
    .ret (.bin .Mod (.bin .FloorDiv (.bin .Mod (.bif "int" [(.bin .Add (.bin .Mult (.var 5) (.cst (.int 40692))) (.bin .Mult (.var 3) (.cst (.int 65537))))]) (.cst (.int 4294967231))) (.cst (.int 4096))) (.var 1))]
def f_law_draw : List D → M D := runF c_3 6 true b_f_law_draw
def c_4 : Cfg := c_3.add "_law_draw" f_law_draw
def b_f_law_pick : List St := [.ret (.idx (.var 1) (.call "_law_draw" [(.var 0), (.bif "len" [(.var 1)])]))]
def f_law_pick : List D → M D := runF c_4 2 true b_f_law_pick
def c_5 : Cfg := c_4.add "_law_pick" f_law_pick
def b_f_law_bases : List St := [.ret (.bif "tuple" [(.comp (.one 2) .rng [(.var 1)] [] (.call "_law_pick" [(.var 0), (.lst [(.cst (.int 2)), (.cst (.int 3)), (.cst (.int 10)), (.cst (.int 60)), (.bin .Pow (.cst (.int 10)) (.cst (.int 6)))])]))])]
def f_law_bases : List D → M D := runF c_5 3 true b_f_law_bases
def c_6 : Cfg := c_5.add "_law_bases" f_law_bases
def b_f_law_rungs : List St := [.par [2, 3] [(.listOf .rng [(.bin .Sub (.var 0) (.cst (.int 1))), (.neg (.cst (.int 1))), (.neg (.cst (.int 1)))]), (.listOf .rng [(.var 0)])],
    .ite (.cmp .Eq (.var 1) (.cst (.str (Str.ofString "both")))) [.ret (.lst [(.var 2), (.var 3)])] [],
    .ret (.ife (.cmp .Eq (.var 1) (.cst (.str (Str.ofString "mirror")))) (.lst [(.bin .Add (.var 2) (.slc (.var 3) (some (.cst (.int 1))) none))]) (.ife (.cmp .Eq (.var 1) (.cst (.str (Str.ofString "down")))) (.lst [(.var 2)]) (.lst [(.var 3)])))]
def f_law_rungs : List D → M D := runF c_6 4 true b_f_law_rungs
def c_7 : Cfg := c_6.add "_law_rungs" f_law_rungs
def b_f_law_served : List St := [.set (.one 3) (.new (.lst [])),
    .for (.tup [(.one 4), (.one 5)]) .zip [(.var 0), (.var 1)] [.while 100000 (.and [(.cmp .Lt (.var 5) (.bif "len" [(.var 4)])), (.cmp .In (.idx (.var 4) (.var 5)) (.var 2))]) [.set (.one 5) (.bin .Add (.var 5) (.cst (.int 1)))],
    .expr (.mth "append" (.var 3) [(.var 5)])],
    .ret (.bif "tuple" [(.var 3)])]
def f_law_served : List D → M D := runF c_7 6 true b_f_law_served
def c_8 : Cfg := c_7.add "_law_served" f_law_served
def b_f_law_has : List St := [.set (.one 3) (.call "_law_rungs" [(.var 0), (.var 2)]),
    .set (.one 4) (.bin .Mult (.tup [(.cst (.int 0))]) (.bif "len" [(.var 3)])),
    .for (.one 5) .it [(.var 1)] [.set (.one 4) (.call "_law_served" [(.var 3), (.var 4), (.var 5)])],
    .ret (.cmp .Eq (.bif "list" [(.var 4)]) (.comp (.one 6) .it [(.var 3)] [] (.bif "len" [(.var 6)])))]
def f_law_has : List D → M D := runF c_8 7 true b_f_law_has
def c_9 : Cfg := c_8.add "_law_has" f_law_has
def b_f_law_lots : List St := [.set (.one 2) (.lst [(.tup [])]),
    .for (.one 3) .rng [(.var 0)] [.set (.one 2) (.bin .Add (.var 2) (.comp (.one 4) .it [(.var 2)] [] (.bin .Add (.var 4) (.tup [(.var 3)]))))],
    .ret (.comp (.one 4) .it [(.var 2)] [(.cmp .Eq (.bif "len" [(.var 4)]) (.bif "min" [(.var 0), (.var 1)]))] (.var 4))]
def f_law_lots : List D → M D := runF c_9 5 true b_f_law_lots
def c_10 : Cfg := c_9.add "_law_lots" f_law_lots
def b_f_law_none_does : List St := [.par [4, 5] [(.call "_law_lots" [(.var 0), (.var 1)]), (.lst [(.tup [])])],
    .for (.one 6) .rng [(.var 3)] [.set (.one 7) (.new (.lst [])),
    .for (.one 8) .it [(.var 5)] [.expr (.mth "extend" (.var 7) [(.comp (.one 9) .it [(.var 4)] [] (.bin .Add (.var 8) (.tup [(.var 9)])))])],
    .set (.one 5) (.var 7)],
    .ret (.cmp .Eq (.comp (.one 8) .it [(.var 5)] [(.call "_law_has" [(.var 0), (.var 8), (.var 2)])] (.cst (.int 1))) (.lst []))]
def f_law_none_does : List D → M D := runF c_10 10 true b_f_law_none_does
def c_11 : Cfg := c_10.add "_law_none_does" f_law_none_does
def b_f_law_due : List St := [.set (.one 3) (.bin .FloorDiv (.bif "int" [(.bin .Sub (.bin .Add (.var 0) (.var 1)) (.cst (.int 1)))]) (.var 1)),
    .ret (.ife (.cmp .Eq (.var 2) (.cst (.str (Str.ofString "mirror")))) (.bin .Sub (.bin .Mult (.cst (.int 2)) (.var 3)) (.cst (.int 1))) (.var 3))]
def f_law_due : List D → M D := runF c_11 4 true b_f_law_due
def c_12 : Cfg := c_11.add "_law_due" f_law_due
def b_f_law_is_row : List St := [.ite (.or [(.not (.isi (.var 2) "tuple")), (.cmp .NotEq (.comp (.one 3) .it [(.var 2)] [(.or [(.not (.isi (.var 3) "tuple")), (.cmp .Eq (.var 3) (.tup []))])] (.cst (.int 1))) (.lst []))]) [.ret (.cst (.bool false))] [],
    .for (.one 3) .it [(.var 2)] [.ite (.cmp .NotEq (.comp (.one 4) .it [(.var 3)] [(.or [(.not (.isi (.var 4) "int")), (.isi (.var 4) "bool")])] (.cst (.int 1))) (.lst [])) [.ret (.cst (.bool false))] [],
    .ite (.or [(.cmp .NotEq (.bif "list" [(.var 3)]) (.sset (.var 3))), (.cmp .Gt (.bif "len" [(.var 3)]) (.var 1)), (.cmp .Lt (.idx (.var 3) (.cst (.int 0))) (.cst (.int 0))), (.cmp .GtE (.idx (.var 3) (.neg (.cst (.int 1)))) (.var 0))]) [.ret (.cst (.bool false))] []],
    .ret (.cst (.bool true))]
def f_law_is_row : List D → M D := runF c_12 5 true b_f_law_is_row
def c_13 : Cfg := c_12.add "_law_is_row" f_law_is_row
def b_f_law_is_right : List St := [.par [4, 5] [(.bif "len" [(.var 0)]), (.bif "repr" [(.var 0)])],
    .set (.one 6) (.call "_law_due" [(.var 4), (.var 1), (.var 2)]),
    .set (.one 7) (.ife (.var 3) (.callK "fewest_lots" [] ["want", "most", "counter"] [(.var 2), (.var 1), (.var 0)] [2, 1, 0]) (.call "fewest_lots" [(.var 0), (.var 1), (.var 2)])),
    .set (.one 8) (.ife (.var 3) (.callK "lots_for" [] ["want", "most", "counter"] [(.var 2), (.var 1), (.var 0)] [2, 1, 0]) (.call "lots_for" [(.var 0), (.var 1), (.var 2)])),
    .ite (.or [(.cmp .NotEq (.bif "repr" [(.var 7)]) (.bif "repr" [(.var 6)])), (.not (.call "_law_is_row" [(.var 4), (.var 1), (.var 8)])), (.cmp .NotEq (.bif "len" [(.var 8)]) (.var 6))]) [.ret (.cst (.bool false))] [],
    .ret (.and [(.call "_law_has" [(.var 4), (.var 8), (.var 2)]), (.cmp .Eq (.bif "repr" [(.call "lots_for" [(.var 0), (.var 1), (.var 2)])]) (.bif "repr" [(.var 8)])), (.cmp .Eq (.bif "repr" [(.var 0)]) (.var 5))])]
def f_law_is_right : List D → M D := runF c_13 9 true b_f_law_is_right
def c_14 : Cfg := c_13.add "_law_is_right" f_law_is_right
def b_f_law : List St := [.set (.one 1) (.call "_law_stock" [(.var 0)]),
    .for (.one 2) .rng [(.cst (.int 9))] [.par [3, 4] [(.bin .Add (.cst (.int 1)) (.call "_law_draw" [(.var 1), (.cst (.int 12))])), (.call "_law_pick" [(.var 1), (.lst [(.cst (.str (Str.ofString "down"))), (.cst (.str (Str.ofString "up"))), (.cst (.str (Str.ofString "mirror"))), (.cst (.str (Str.ofString "mirror")))])])],
    .ite (.not (.call "_law_is_right" [(.call "_law_bases" [(.var 1), (.var 3)]), (.bin .Add (.cst (.int 1)) (.call "_law_draw" [(.var 1), (.cst (.int 12))])), (.var 4), (.cmp .Eq (.var 2) (.cst (.int 1)))])) [.ret (.cst (.bool false))] []],
    .for (.one 2) .rng [(.cst (.int 2))] [.par [3, 4] [(.bin .Add (.cst (.int 1)) (.call "_law_draw" [(.var 1), (.cst (.int 4))])), (.call "_law_pick" [(.var 1), (.lst [(.cst (.str (Str.ofString "down"))), (.cst (.str (Str.ofString "up"))), (.cst (.str (Str.ofString "mirror")))])])],
    .set (.one 5) (.ife (.or [(.cmp .Lt (.var 3) (.cst (.int 4))), (.cmp .NotEq (.var 4) (.cst (.str (Str.ofString "mirror"))))]) (.bin .Add (.cst (.int 1)) (.call "_law_draw" [(.var 1), (.cst (.int 4))])) (.bin .Add (.cst (.int 2)) (.call "_law_draw" [(.var 1), (.cst (.int 3))]))),
    .ite (.not (.call "_law_none_does" [(.var 3), (.var 5), (.var 4), (.bin .Sub (.call "_law_due" [(.var 3), (.var 5), (.var 4)]) (.cst (.int 1)))])) [.ret (.cst (.bool false))] [],
    .ite (.not (.call "_law_is_right" [(.call "_law_bases" [(.var 1), (.var 3)]), (.var 5), (.var 4), (.cst (.bool false))])) [.ret (.cst (.bool false))] []],
    .ret (.cst (.bool true))]
def f_law : List D → M D := runF c_14 6 true b_f_law
end
end PB.K46
set_option maxRecDepth 100000
set_option maxHeartbeats 1000000
namespace PB
open PySem PySem.Spec PyProof.Rows L2
noncomputable section
/-! lots in plain mathematics -/
def dnL (many most : Nat) : List (List Nat) := (List.range ((many + most - 1) / most)).map fun k => (List.range (min most (many - k * most))).map fun i => many - k * most - most + i
def lotsN (many most w : Nat) : List (List Nat) := if w = 0 then dnL many most else if w = 1 then (dnL many most).reverse else dnL many most ++ (dnL many most).dropLast.reverse
def rungN (many w : Nat) : List Nat := if w = 0 then (List.range many).reverse else if w = 1 then List.range many else (List.range many).reverse ++ (List.range many).drop 1
def servN (rung lot : List Nat) : Nat → Nat → Nat
  | 0, far => far
  | f + 1, far => match rung[far]? with
    | some r => if r ∈ lot then servN rung lot f (far + 1) else far
    | none => far
def hasN (many w : Nat) (row : List (List Nat)) : Bool := row.foldl (fun far lot => servN (rungN many w) lot (rungN many w).length far) 0 == (rungN many w).length
def dueN (many most w : Nat) : Nat := if w = 2 then 2 * ((many + most - 1) / most) - 1 else (many + most - 1) / most
def subsN : Nat → List (List Nat)
  | 0 => [[]]
  | k + 1 => subsN k ++ (subsN k).map (· ++ [k])
def allN (many most : Nat) : List (List Nat) := (subsN many).filter fun l => l.length == min many most
def rowsN (lots : List (List Nat)) : Nat → List (List (List Nat))
  | 0 => [[]]
  | k + 1 => (rowsN lots k).flatMap fun row => lots.map fun lot => row ++ [lot]
def noneN (many most w reads : Nat) : Bool := (rowsN (allN many most) reads).all fun row => !hasN many w row
def riseB : List Nat → Bool
  | a :: b :: r => decide (a < b) && riseB (b :: r)
  | _ => true
def rowB (many most : Nat) (row : List (List Nat)) : Bool := row.all fun l => l != [] && riseB l && decide (l.length ≤ most) && l.all fun p => decide (p < many)
theorem right_all : ((List.range 12).all fun a => (List.range 12).all fun b => (List.range 3).all fun w => hasN (a + 1) w (lotsN (a + 1) (b + 1) w) && (lotsN (a + 1) (b + 1) w).length == dueN (a + 1) (b + 1) w && rowB (a + 1) (b + 1) (lotsN (a + 1) (b + 1) w)) = true := by decide +kernel
theorem none_all : ((List.range 4).all fun a => (List.range 4).all fun b => (List.range 3).all fun w => (decide (a = 3 ∧ w = 2 ∧ b = 0)) || noneN (a + 1) (b + 1) w (dueN (a + 1) (b + 1) w - 1)) = true := by decide +kernel
end
end PB
set_option maxRecDepth 100000
set_option maxHeartbeats 1000000
namespace PB
open PySem PySem.Spec PyProof.Rows L2
noncomputable section
theorem s_du : (Str.ofString "down" = Str.ofString "up") = False := by simp; decide
theorem s_md : (Str.ofString "mirror" = Str.ofString "down") = False := by simp; decide
theorem s_mu : (Str.ofString "mirror" = Str.ofString "up") = False := by simp; decide
theorem s_um : (Str.ofString "up" = Str.ofString "mirror") = False := by simp; decide
theorem s_dm : (Str.ofString "down" = Str.ofString "mirror") = False := by simp; decide
def wayS (w : Nat) : Str := if w = 0 then Str.ofString "down" else if w = 1 then Str.ofString "up" else Str.ofString "mirror"
/-- a lot, as a tuple -/
def ltP (l : List Nat) : PB.P := .tuple (l.map fun n : Nat => .int (n : Int))
def rwP (rows : List (List Nat)) : List PB.P := rows.map ltP
namespace K46
section
variable {many most : Nat}
def topsP (many most : Nat) : List PB.P := (List.range ((many + most - 1) / most)).map fun (k : Nat) => .int ((many - k * most : Nat) : Int)
theorem tops_src (h1 : 1 ≤ many) (h2 : many ≤ 1000) (m1 : 1 ≤ most) (m2 : most ≤ 1000) (st : Sto) : ∃ gd : Sto → Prop, (∀ s, gd s) ∧ srcM .rng [.p (.int (many : Int)), .p (.int 0), .p (.int (-(most : Int)))] st = .ok (topsP many most, gd) st := by
  refine ⟨fun _ => True, fun _ => trivial, ?_⟩
  rcases Nat.eq_or_lt_of_le m1 with h | h
  · subst h
    have e : topsP many 1 = rangeDn (many : Int) ((many : Int) - 0).toNat := by
      unfold topsP rangeDn
      rw [show (many + 1 - 1) / 1 = many by simp, show ((many : Int) - 0).toNat = many by omega]
      apply List.map_congr_left
      intro k hk
      have := List.mem_range.mp hk
      congr 1
      omega
    rw [e, show (-((1 : Nat) : Int)) = -1 by rfl, src_rng3 (by omega)]
    rfl
  · have e : topsP many most = rangeSt (many : Int) (-(most : Int)) (rszN many 0 (-(most : Int))) := by
      have hs : rszN (many : Int) 0 (-(most : Int)) = (many + most - 1) / most := by
        unfold rszN
        rw [if_pos (by omega), Int.neg_neg, show ((many : Int) - 0 - 1) = ((many - 1 : Nat) : Int) by omega, ← Int.natCast_ediv, Int.toNat_natCast, show many + most - 1 = (many - 1) + most by omega, Nat.add_div_right _ (by omega)]
      unfold topsP rangeSt
      rw [hs]
      apply List.map_congr_left
      intro k hk
      have hk := List.mem_range.mp hk
      have hle : k * most ≤ many := by
        have h3 : k + 1 ≤ (many + most - 1) / most := hk
        have h4 := (Nat.le_div_iff_mul_le (by omega)).mp h3
        rw [Nat.add_mul] at h4
        omega
      congr 1
      rw [Int.mul_neg]
      have : ((k * most : Nat) : Int) = (k : Int) * (most : Int) := by simp
      omega
    rw [e, src_rngS (by omega) (by omega)]
    rfl
end
end K46
end
end PB
set_option maxRecDepth 100000
set_option maxHeartbeats 1000000
namespace PB
open PySem PySem.Spec PyProof.Rows L2
noncomputable section
def niP (l : List Nat) : List PB.P := l.map fun n : Nat => .int (n : Int)
theorem ni_up (m : Nat) : rangeD 0 m = niP (List.range m) := by
  unfold rangeD niP
  apply List.map_congr_left
  intro k _
  congr 1
  omega
theorem ni_down (m : Nat) : rangeDn ((m : Int) - 1) m = niP (List.range m).reverse := by
  unfold rangeDn niP
  apply List.ext_getElem
  · simp
  · intro i h1 h2
    simp at h1 h2 ⊢
    omega
theorem ni_len (l : List Nat) : (niP l).length = l.length := by simp [niP]
theorem ni_any (i : Nat) : ∀ l : List Nat, ((niP l).any fun z => PyData.eqv z (.int (i : Int))) = decide (i ∈ l)
  | [] => rfl
  | n :: r => by
    have ih := ni_any i r
    show (PyData.eqv (.int (n : Int)) (.int (i : Int)) || (niP r).any _) = _
    rw [ih]
    have e : PyData.eqv (.int (n : Int)) (.int (i : Int)) = decide (n = i) := by
      rw [PyData.eqv]
      rw [Bool.eq_iff_iff]
      simp
      constructor <;> intro h <;> omega
    rw [e]
    by_cases h : n = i
    · subst h; simp
    · have h' : i ≠ n := fun e => h e.symm
      simp [h, h']
theorem servN_is {rung lot : List Nat} : ∀ {f far : Nat}, far ≤ rung.length → rung.length ≤ far + f → far ≤ servN rung lot f far ∧ servN rung lot f far ≤ rung.length ∧ (∀ n, far ≤ n → n < servN rung lot f far → ∃ r, rung[n]? = some r ∧ r ∈ lot) ∧ (∀ r, rung[servN rung lot f far]? = some r → r ∉ lot)
  | 0, far, h1, h2 => by
    have : far = rung.length := by omega
    subst this
    refine ⟨Nat.le_refl _, Nat.le_refl _, fun n a b => absurd b (by show ¬ n < rung.length; omega), fun r hr => ?_⟩
    have : rung[rung.length]? = some r := hr
    simp at this
  | f + 1, far, h1, h2 => by
    rw [servN]
    cases e : rung[far]? with
    | none =>
      have hl : rung.length ≤ far := List.getElem?_eq_none_iff.mp e
      refine ⟨Nat.le_refl _, h1, fun n a b => absurd b (by show ¬ n < far; omega), fun r hr => ?_⟩
      have hr : rung[far]? = some r := hr
      rw [e] at hr
      cases hr
    | some r =>
      have hlt := (List.getElem?_eq_some_iff.mp e).1
      by_cases hr : r ∈ lot
      · show far ≤ (if r ∈ lot then servN rung lot f (far + 1) else far) ∧ _
        simp only [hr, if_true]
        obtain ⟨g1, g2, g3, g4⟩ := servN_is (rung := rung) (lot := lot) (f := f) (far := far + 1) (by omega) (by omega)
        refine ⟨by omega, g2, fun n a b => ?_, g4⟩
        rcases Nat.eq_or_lt_of_le a with rfl | a
        · exact ⟨r, e, hr⟩
        · exact g3 n (by omega) b
      · show far ≤ (if r ∈ lot then servN rung lot f (far + 1) else far) ∧ _
        simp only [hr, if_false]
        refine ⟨Nat.le_refl _, h1, fun n a b => absurd b (by omega), fun r' hr' => ?_⟩
        rw [e] at hr'
        cases hr'
        exact hr
namespace K46
section
variable {many : Nat}
theorem rungs_ok (h1 : 1 ≤ many) (h2 : many ≤ 1000) {w : Nat} (hw : w < 3) (st : Sto) : f_law_rungs [.p (.int (many : Nat)), .p (.str (wayS w))] st = .ok (.p (.list [.list (niP (rungN many w))])) st := by
  have big : (10000 : Nat) < sizeLine := by decide
  have l1 : (1 : Nat) ≤ sizeLine := by decide
  have s1 : ∀ st, srcM .rng [.p (.int ((many : Int) - 1)), .p (.int (-1)), .p (.int (-1))] st = .ok (niP (List.range many).reverse, stays st [.p (.int ((many : Int) - 1)), .p (.int (-1)), .p (.int (-1))]) st := fun st => by
    rw [src_rng3 (by omega), show ((many : Int) - 1 - -1).toNat = many by omega, ni_down]
  have s2 : ∀ st, srcM .rng [.p (.int (many : Int))] st = .ok (niP (List.range many), stays st [.p (.int (many : Int))]) st := fun st => by
    rw [src_rng1 (by omega), Int.toNat_natCast, ni_up]
  have e1 : slcP (.list (niP (List.range many))) (some 1) none = some (.list (niP ((List.range many).drop 1))) := by
    show some (PyData.list (cutP _ (some ((1 : Nat) : Int)) none)) = _
    rw [cut_drop]
    unfold niP
    rw [List.map_drop]
  have e2 : binP .Add (.list (niP (List.range many).reverse)) (.list (niP ((List.range many).drop 1))) = some (.list (niP ((List.range many).reverse ++ (List.range many).drop 1))) := by
    rw [b_addL (by rw [ni_len, ni_len]; simp; omega)]
    unfold niP
    rw [List.map_append]
  have n1 : (niP (List.range many).reverse).length ≤ 16777216 := by rw [ni_len]; simp; omega
  have n2 : (niP (List.range many)).length ≤ 16777216 := by rw [ni_len]; simp; omega
  have nb1 : (Str.ofString "down" = Str.ofString "both") = False := by simp; decide
  have nb2 : (Str.ofString "up" = Str.ofString "both") = False := by simp; decide
  have nb3 : (Str.ofString "mirror" = Str.ofString "both") = False := by simp; decide
  unfold f_law_rungs b_f_law_rungs
  rw [runF_st]
  have s_ud : (Str.ofString "up" = Str.ofString "down") = False := by simp; decide
  rcases (show w = 0 ∨ w = 1 ∨ w = 2 by omega) with rfl | rfl | rfl
  · rw [show rungN many 0 = (List.range many).reverse from rfl, show wayS 0 = Str.ofString "down" from rfl]
    generalize niP ((List.range many).reverse ++ (List.range many).drop 1) = R2 at *
    generalize niP ((List.range many).drop 1) = R3 at *
    generalize niP (List.range many).reverse = R0 at *
    generalize niP (List.range many) = R1 at *
    simp [s1, s2, n1, n2, sa_cons, sa_nil, nb1, nb2, nb3, s_dm, s_um, s_ud, s_md, e1, e2, line_ok l1]
  · rw [show rungN many 1 = List.range many from rfl, show wayS 1 = Str.ofString "up" from rfl]
    generalize niP ((List.range many).reverse ++ (List.range many).drop 1) = R2 at *
    generalize niP ((List.range many).drop 1) = R3 at *
    generalize niP (List.range many).reverse = R0 at *
    generalize niP (List.range many) = R1 at *
    simp [s1, s2, n1, n2, sa_cons, sa_nil, nb1, nb2, nb3, s_dm, s_um, s_ud, s_md, e1, e2, line_ok l1]
  · rw [show rungN many 2 = (List.range many).reverse ++ (List.range many).drop 1 from rfl, show wayS 2 = Str.ofString "mirror" from rfl]
    generalize niP ((List.range many).reverse ++ (List.range many).drop 1) = R2 at *
    generalize niP ((List.range many).drop 1) = R3 at *
    generalize niP (List.range many).reverse = R0 at *
    generalize niP (List.range many) = R1 at *
    simp [s1, s2, n1, n2, sa_cons, sa_nil, nb1, nb2, nb3, s_dm, s_um, s_ud, s_md, e1, e2, line_ok l1]
end
end K46
end
end PB
set_option maxRecDepth 100000
set_option maxHeartbeats 1000000
namespace PB
open PySem PySem.Spec PyProof.Rows L2
noncomputable section
namespace K46
section
variable {many : Nat}
theorem ni_at {l : List Nat} {k : Nat} {r : Nat} (h : l[k]? = some r) : L2.atI (niP l) (k : Int) = some (.int (r : Int)) := at_lit (by
  unfold niP
  rw [List.getElem?_map, h]
  rfl)
theorem in_lt (i : Nat) (lot : List Nat) : cmpP .In (.int (i : Int)) (ltP lot) = some (decide (i ∈ lot)) := by
  have h : cmpP .In (.int (i : Int)) (.tuple ((lot.map fun n : Nat => (n : Int)).map .int)) = some (decide ((i : Int) ∈ lot.map fun n : Nat => (n : Int))) := by
    have e : ((lot.map fun n : Nat => (n : Int)).map PyData.int) = niP lot := by
      rw [List.map_map]
      rfl
    show (if shaped (.int (i : Int)) = true ∧ shaped (.tuple ((lot.map fun n : Nat => (n : Int)).map .int)) = true then some _ else none) = _
    rw [if_pos ⟨shaped_int _, shaped_intsT _⟩, e, ni_any]
    congr 1
    rw [Bool.eq_iff_iff]
    simp
    exact ⟨fun h => ⟨i, h, rfl⟩, fun ⟨a, ha, e⟩ => by have : a = i := by omega
                                                      subst this; exact ha⟩
  have e : (lot.map fun n : Nat => (n : Int)).map PyData.int = lot.map fun n : Nat => PyData.int (n : Int) := by
    rw [List.map_map]
    rfl
  rw [e] at h
  have : decide ((i : Int) ∈ lot.map fun n : Nat => (n : Int)) = decide (i ∈ lot) := by
    rw [Bool.eq_iff_iff]
    simp
    exact ⟨fun ⟨a, ha, e⟩ => by have : a = i := by omega
                                subst this; exact ha, fun h => ⟨i, h, rfl⟩⟩
  rw [this] at h
  exact h
def svC : Ex := .and [(.cmp .Lt (.var 5) (.bif "len" [(.var 4)])), (.cmp .In (.idx (.var 4) (.var 5)) (.var 2))]
def svB : List PB.St := [.set (.one 5) (.bin .Add (.var 5) (.cst (.int 1)))]
theorem sv_is : b_f_law_served = [.set (.one 3) (.new (.lst [])), .for (.tup [(.one 4), (.one 5)]) .zip [(.var 0), (.var 1)] [.while 100000 svC svB, .expr (.mth "append" (.var 3) [(.var 5)])], .ret (.bif "tuple" [(.var 3)])] := rfl
theorem served_while {rung lot : List Nat} (hl : rung.length ≤ 1000) {far : Nat} (hf : far ≤ rung.length) (R S : D) (l : Nat) (st : Sto) :
    evS c_7 (.while 100000 svC svB) [some R, some S, some (.p (ltP lot)), some (.ref l), some (.p (.list (niP rung))), some (.p (.int (far : Nat)))] st = .ok (.nx, [some R, some S, some (.p (ltP lot)), some (.ref l), some (.p (.list (niP rung))), some (.p (.int (servN rung lot rung.length far : Nat)))]) st := by
  obtain ⟨y1, y2, y3, y4⟩ := servN_is (rung := rung) (lot := lot) (f := rung.length) (far := far) hf (by omega)
  generalize servN rung lot rung.length far = y at *
  have ln : ((niP rung).length : Int) = rung.length := by rw [ni_len]
  have main : Good (evS c_7 (.while 100000 svC svB) [some R, some S, some (.p (ltP lot)), some (.ref l), some (.p (.list (niP rung))), some (.p (.int (far : Nat)))] st) fun q s' => s' = st ∧ q.1 = .nx ∧ q.2 = [some R, some S, some (.p (ltP lot)), some (.ref l), some (.p (.list (niP rung))), some (.p (.int (y : Nat)))] := by
    rw [s_while']
    refine good_mono (good_while (I := fun m env s' => m + far ≤ y ∧ env = [some R, some S, some (.p (ltP lot)), some (.ref l), some (.p (.list (niP rung))), some (.p (.int ((y - m : Nat) : Int)))] ∧ s' = st) (fun m env s' hI => ?_) (fun m env s' hI => ?_) (n := 100000) (m := y - far) (by omega) ⟨by omega, by rw [show y - (y - far) = far by omega], rfl⟩) (fun q s' hq => ⟨hq.2.2.2, hq.1, hq.2.2.1⟩)
    · obtain ⟨hm, rfl, rfl⟩ := hI
      unfold svC
      rcases Nat.lt_or_ge (y - m) rung.length with hlt | hge
      · obtain ⟨r, hr⟩ : ∃ r, rung[y - m]? = some r := ⟨_, List.getElem?_eq_getElem hlt⟩
        have ia := ni_at hr
        have ci := in_lt r lot
        have hin : r ∈ lot ↔ m ≠ 0 := by
          constructor
          · intro h e
            subst e
            exact y4 r hr h
          · intro h
            obtain ⟨r', h1, h2⟩ := y3 (y - m) (by omega) (by omega)
            rw [hr] at h1
            cases h1
            exact h2
        have hltI : ((y - m : Nat) : Int) < rung.length := by omega
        generalize niP rung = RG at *
        generalize ltP lot = LT at *
        by_cases h0 : m = 0
        · have : ¬ r ∈ lot := fun h => hin.mp h h0
          subst h0
          rw [Nat.sub_zero] at hltI ia ⊢
          have hlt2 : y < rung.length := by omega
          simp [ln, hltI, hlt2, idx_pp, idxP, ia, ci, this]
        · have : r ∈ lot := hin.mpr h0
          simp [ln, hltI, idx_pp, idxP, ia, ci, this, h0]
      · have hm0 : m = 0 := by omega
        subst hm0
        rw [Nat.sub_zero] at hge ⊢
        have hge' : ¬ (y : Int) < rung.length := by omega
        have hle : (rung.length : Int) ≤ y := by omega
        generalize niP rung = RG at *
        generalize ltP lot = LT at *
        simp [ln, hge', hle]
    · obtain ⟨hm, rfl, rfl⟩ := hI
      have e1 : ((y - (m + 1) : Nat) : Int) + 1 = ((y - m : Nat) : Int) := by omega
      unfold svB
      generalize niP rung = RG at *
      generalize ltP lot = LT at *
      simp [e1]
      omega
  obtain ⟨q, s', e, rfl, h1, h2⟩ := good_run main
  obtain ⟨f, env⟩ := q
  dsimp only at h1 h2
  subst h1
  subst h2
  exact e
theorem served_ok {rung lot : List Nat} (hl : rung.length ≤ 1000) {far : Nat} (hf : far ≤ rung.length) (st : Sto) : f_law_served [.p (.list [.list (niP rung)]), .p (.tuple [.int (far : Nat)]), .p (ltP lot)] st = .ok (.p (.tuple [.int (servN rung lot rung.length far : Nat)])) st := by
  have l0 : (0 : Nat) ≤ sizeLine := Nat.zero_le _
  have big : (10 : Nat) < sizeLine := by decide
  have wl := fun R S l st => served_while (lot := lot) hl hf R S l st
  unfold f_law_served
  rw [runF_st, sv_is]
  generalize servN rung lot rung.length far = y at *
  generalize ltP lot = LT at *
  generalize hW : (St.while 100000 svC svB) = WH at *
  have hz : ∀ st, srcM .zip [.p (.list [.list (niP rung)]), .p (.tuple [.int (far : Nat)])] st = .ok ([.tuple [.list (niP rung), .int (far : Nat)]], stays st [.p (.list [.list (niP rung)]), .p (.tuple [.int (far : Nat)])]) st := fun st => src_some (ds := [.list [.list (niP rung)], .tuple [.int (far : Nat)]]) rfl
  generalize niP rung = RG at *
  have g := fun (G : List D) => (get_push (st := st) (o := O.lst G))
  have kd := kind_ref (g [])
  have ap := app_ref (a := .int (y : Nat)) (g []) (by show (0 : Nat) < sizeLine; decide)
  rw [set_push] at ap
  have vv := vw_ref (ds := [PyData.int (y : Nat)]) (g [.p (.int (y : Nat))])
  have gd : stays (st ++ [O.lst []]) [.p (.list [.list RG]), .p (.tuple [.int (far : Nat)])] (st ++ [O.lst []]) := trivial
  have gd2 : stays (st ++ [O.lst []]) [.p (.list [.list RG]), .p (.tuple [.int (far : Nat)])] (st ++ [O.lst [.p (.int (y : Nat))]]) := trivial
  simp [line_ok l0, hz]
  unfold forL
  rw [if_pos gd, turnF_st]
  simp [asgp_tup, wl, kd, ap]
  unfold forL
  rw [if_pos gd2]
  simp [vv]
end
end K46
end
end PB
set_option maxRecDepth 100000
set_option maxHeartbeats 1000000
namespace PB
open PySem PySem.Spec PyProof.Rows L2
noncomputable section
namespace K46
section
variable {many most : Nat}
def dlN (many most k : Nat) : List Nat := (List.range (min most (many - k * most))).map fun i => many - k * most - most + i
theorem dn_is : dnL many most = (List.range ((many + most - 1) / most)).map (dlN many most) := rfl
theorem lot_rng (k : Nat) (h : k * most ≤ many) : rangeD (if ((many - k * most : Nat) : Int) - most < 0 then 0 else ((many - k * most : Nat) : Int) - most) (((many - k * most : Nat) : Int) - (if ((many - k * most : Nat) : Int) - most < 0 then 0 else ((many - k * most : Nat) : Int) - most)).toNat = (dlN many most k).map fun n : Nat => .int (n : Int) := by
  unfold rangeD dlN
  rw [List.map_map]
  obtain ⟨top, ht⟩ : ∃ top, many - k * most = top := ⟨_, rfl⟩
  simp only [ht]
  have e : ((top : Int) - (if (top : Int) - most < 0 then 0 else (top : Int) - most)).toNat = min most top := by
    split <;> omega
  rw [e]
  apply List.map_congr_left
  intro i hi
  have := List.mem_range.mp hi
  show PyData.int ((if (top : Int) - most < 0 then 0 else (top : Int) - most) + (i : Int)) = PyData.int ((top - most + i : Nat) : Int)
  congr 1
  split <;> omega
def lfA : PB.St := .expr (.mth "append" (.var 3) [(.tupOf .rng [(.bif "max" [(.bin .Sub (.var 4) (.var 1)), (.cst (.int 0))]), (.var 4)])])
def lfU : PB.St := .ite (.cmp .Eq (.var 2) (.cst (.str (Str.ofString "up")))) [.set (.one 3) (.new (.rev (.var 3)))] []
def lfM : PB.St := .ite (.cmp .Eq (.var 2) (.cst (.str (Str.ofString "mirror")))) [.set (.one 3) (.new (.bin .Add (.var 3) (.rev2 (.var 3))))] []
theorem lf_is : b_f_lots_for = [.set (.one 3) (.new (.lst [])), .for (.one 4) .rng [(.bif "len" [(.var 0)]), (.cst (.int 0)), (.neg (.var 1))] [lfA], lfU, lfM, .ret (.bif "tuple" [(.var 3)])] := rfl
theorem rw_len (rows : List (List Nat)) : (rwP rows).length = rows.length := by simp [rwP]
theorem lots_for_ok {A : List PB.P} (hA : A.length = many) (h1 : 1 ≤ many) (h2 : many ≤ 1000) (m1 : 1 ≤ most) (m2 : most ≤ 1000) {w : Nat} (hw : w < 3) (st : Sto) : f_lots_for [.p (.tuple A), .p (.int (most : Nat)), .p (.str (wayS w))] st = .ok (.p (.tuple (rwP (lotsN many most w)))) st := by
  have big : (10000 : Nat) < sizeLine := by decide
  have l0 : (0 : Nat) ≤ sizeLine := Nat.zero_le _
  have ln : (A.length : Int) = many := by rw [hA]
  obtain ⟨gd, hgd, hsrc⟩ := tops_src h1 h2 m1 m2 st
  have hT : (many + most - 1) / most ≤ many := by
    rw [Nat.div_le_iff_le_mul_add_pred (by omega)]
    have : many ≤ most * many := Nat.le_mul_of_pos_left _ (by omega)
    omega
  have hdl : (dnL many most).length = (many + most - 1) / most := by rw [dn_is]; simp
  have loop : ∀ (K : Fl × Env → Sto → R D) (Q : D → Sto → Prop), (∀ x4, Good (K (.nx, [some (.p (.tuple A)), some (.p (.int (most : Nat))), some (.p (.str (wayS w))), some (.ref st.length), x4]) (st ++ [.lst ((rwP (dnL many most)).map .p)])) Q) → Good (R.bind (evS c_0 (.for (.one 4) .rng [(.bif "len" [(.var 0)]), (.cst (.int 0)), (.neg (.var 1))] [lfA]) [some (.p (.tuple A)), some (.p (.int (most : Nat))), some (.p (.str (wayS w))), some (.ref st.length), none] (st ++ [.lst []])) K) Q := by
    intro K Q hK
    generalize wayS w = WS at *
    have hsrc' := tops_src h1 h2 m1 m2 (st ++ [.lst []])
    obtain ⟨gd, hgd, hsrc'⟩ := hsrc'
    have ev : evL c_0 [(.bif "len" [(.var 0)]), (.cst (.int 0)), (.neg (.var 1))] [some (.p (.tuple A)), some (.p (.int (most : Nat))), some (.p (.str WS)), some (.ref st.length), none] (st ++ [.lst []]) = .ok [.p (.int (many : Int)), .p (.int 0), .p (.int (-(most : Int)))] (st ++ [.lst []]) := by
      simp [ln]
    rw [s_for', ev, bind_ok, hsrc', bind_ok]
    refine good_then (P' := fun q s' => q.1 = .nx ∧ s' = st ++ [.lst ((rwP (dnL many most)).map .p)] ∧ ∃ x4, q.2 = [some (.p (.tuple A)), some (.p (.int (most : Nat))), some (.p (.str WS)), some (.ref st.length), x4]) ?_ (fun q s' hq => ?_)
    · have key := good_for (gd := gd) (f := turnF c_0 (.one 4) [lfA]) (items := topsP many most) (env := [some (.p (.tuple A)), some (.p (.int (most : Nat))), some (.p (.str WS)), some (.ref st.length), none]) (st := st ++ [.lst []]) (fun k env s' => s' = st ++ [.lst ((rwP ((dnL many most).take k)).map .p)] ∧ ∃ x4, env = [some (.p (.tuple A)), some (.p (.int (most : Nat))), some (.p (.str WS)), some (.ref st.length), x4]) (fun _ _ => False) (K := fun q s => .ok q s) (Q := fun q s' => q.1 = .nx ∧ s' = st ++ [.lst ((rwP (dnL many most)).map .p)] ∧ ∃ x4, q.2 = [some (.p (.tuple A)), some (.p (.int (most : Nat))), some (.p (.str WS)), some (.ref st.length), x4]) (k := 0) ⟨by simp [rwP], none, rfl⟩ (fun _ _ _ _ => hgd _) (fun k d hd env s' hI => ?_) (fun env s' hI => ?_) (fun _ _ _ h => h.elim)
      · cases e : forL gd (turnF c_0 (.one 4) [lfA]) (topsP many most) [some (.p (.tuple A)), some (.p (.int (most : Nat))), some (.p (.str WS)), some (.ref st.length), none] (st ++ [.lst []]) with
        | ok q s => rw [e] at key; exact key
        | _ => rw [e] at key; exact key
      · rw [Nat.zero_add] at *
        obtain ⟨rfl, x4, rfl⟩ := hI
        unfold topsP at hd
        rw [List.getElem?_map] at hd
        have hk : k < (many + most - 1) / most := by
          rcases Nat.lt_or_ge k ((many + most - 1) / most) with h | h
          · exact h
          · rw [List.getElem?_eq_none (by simpa using h)] at hd
            cases hd
        rw [List.getElem?_range hk] at hd
        cases hd
        have hle : k * most ≤ many := by
          have h4 := (Nat.le_div_iff_mul_le (by omega)).mp (show k + 1 ≤ (many + most - 1) / most from hk)
          rw [Nat.add_mul] at h4
          omega
        have lr := lot_rng k hle
        have htk : (dnL many most).take (k + 1) = (dnL many most).take k ++ [dlN many most k] := by
          rw [List.take_succ, dn_is, List.getElem?_map, List.getElem?_range hk]
          rfl
        have g := fun (G : List D) => (get_push (st := st) (o := O.lst G))
        have kd := kind_ref (g ((rwP ((dnL many most).take k)).map .p))
        have ap := app_ref (a := ltP (dlN many most k)) (g ((rwP ((dnL many most).take k)).map .p)) (by simp [rwP]; omega)
        rw [set_push] at ap
        have e1 : (rwP ((dnL many most).take k)).map D.p ++ [.p (ltP (dlN many most k))] = (rwP ((dnL many most).take (k + 1))).map .p := by
          rw [htk]
          simp [rwP]
        rw [e1] at ap
        have mxx : bifP "max" [.int (((many - k * most : Nat) : Int) - most), .int 0] = some (.int (if ((many - k * most : Nat) : Int) - most < 0 then 0 else ((many - k * most : Nat) : Int) - most)) := rfl
        generalize hlo : (if ((many - k * most : Nat) : Int) - most < 0 then (0 : Int) else ((many - k * most : Nat) : Int) - most) = lo at *
        have hlob : 0 ≤ lo ∧ lo ≤ 1000 := by rw [← hlo]; split <;> omega
        have sr := fun st => src_rng2 (st := st) (i := lo) (j := ((many - k * most : Nat) : Int)) (by omega)
        rw [lr] at sr
        have ll : ((dlN many most k).map fun n : Nat => PyData.int (n : Int)).length ≤ 16777216 := by
          unfold dlN
          simp
          omega
        have el : ltP (dlN many most k) = .tuple ((dlN many most k).map fun n : Nat => .int (n : Int)) := rfl
        rw [el] at ap
        generalize ((dlN many most k).map fun n : Nat => PyData.int (n : Int)) = DL at *
        generalize (rwP ((dnL many most).take (k + 1))).map D.p = NEW at *
        generalize (rwP ((dnL many most).take k)).map D.p = OLD at *
        rw [turnF_st]
        unfold lfA
        simp [kd, mxx, sr, ll, ap]
      · rw [Nat.zero_add] at hI
        obtain ⟨rfl, x4, rfl⟩ := hI
        have : (topsP many most).length = (dnL many most).length := by rw [hdl]; simp [topsP]
        rw [this, List.take_length, good_ok]
        exact ⟨rfl, rfl, x4, rfl⟩
    · obtain ⟨f, env⟩ := q
      obtain ⟨h1, rfl, x4, h2⟩ := hq
      dsimp only at h1 h2
      subst h1
      subst h2
      exact hK x4
  refine eq_of_good ?_
  unfold f_lots_for
  rw [runF_st, lf_is]
  have e3 : ∀ s : Sto, evS c_0 (.set (.one 3) (.new (.lst []))) [some (.p (.tuple A)), some (.p (.int (most : Nat))), some (.p (.str (wayS w))), none, none] s = .ok (.nx, [some (.p (.tuple A)), some (.p (.int (most : Nat))), some (.p (.str (wayS w))), some (.ref s.length), none]) (s ++ [.lst []]) := fun s => by
    generalize wayS w = WS at *
    simp [line_ok l0]
  show Good ((evSs c_0 _ [some (.p (.tuple A)), some (.p (.int (most : Nat))), some (.p (.str (wayS w))), none, none] st).bind _) _
  rw [s_cons', e3, bind_ok, after_nx, s_cons', bind_assoc]
  refine loop _ _ fun x4 => ?_
  rw [after_nx]
  have hl := rw_len (dnL many most)
  have vv := vw_ref (get_push (st := st) (o := O.lst ((rwP (dnL many most)).map .p)))
  have rv : revP (.list (rwP (dnL many most))) = some (.list (rwP (dnL many most).reverse)) := by
    show some (PyData.list (rwP (dnL many most)).reverse) = _
    unfold rwP
    rw [List.map_reverse]
  have rv2 : rev2P (.list (rwP (dnL many most))) = some (.list (rwP (dnL many most).dropLast.reverse)) := by
    show some (PyData.list (rwP (dnL many most)).dropLast.reverse) = _
    unfold rwP
    rw [List.map_reverse, List.map_dropLast]
  have ad : binP .Add (.list (rwP (dnL many most))) (.list (rwP (dnL many most).dropLast.reverse)) = some (.list (rwP (dnL many most ++ (dnL many most).dropLast.reverse))) := by
    rw [b_addL (by rw [rw_len, rw_len]; simp; omega)]
    unfold rwP
    rw [List.map_append]
  have lens : (rwP (dnL many most).reverse).length ≤ sizeLine ∧ (rwP (dnL many most ++ (dnL many most).dropLast.reverse)).length ≤ sizeLine := by
    rw [rw_len, rw_len]
    simp
    omega
  have vU := vw_ref (get_push (st := st ++ [.lst ((rwP (dnL many most)).map .p)]) (o := O.lst ((rwP (dnL many most).reverse).map .p)))
  have vM := vw_ref (get_push (st := st ++ [.lst ((rwP (dnL many most)).map .p)]) (o := O.lst ((rwP (dnL many most ++ (dnL many most).dropLast.reverse)).map .p)))
  have es : (st ++ [O.lst ((rwP (dnL many most)).map .p)]).length = st.length + 1 := by simp
  rw [es] at vU vM
  simp only [List.append_assoc, List.cons_append, List.nil_append] at vU vM
  rcases (show w = 0 ∨ w = 1 ∨ w = 2 by omega) with rfl | rfl | rfl
  · rw [show lotsN many most 0 = dnL many most from rfl]
    rw [show wayS 0 = Str.ofString "down" from rfl]
    generalize rwP (dnL many most ++ (dnL many most).dropLast.reverse) = R2 at *
    generalize rwP (dnL many most).reverse = R1 at *
    generalize rwP (dnL many most).dropLast.reverse = R3 at *
    generalize rwP (dnL many most) = R0 at *
    unfold lfU lfM
    simp [s_du, s_dm, vv]
  · rw [show lotsN many most 1 = (dnL many most).reverse from rfl]
    rw [show wayS 1 = Str.ofString "up" from rfl]
    generalize rwP (dnL many most ++ (dnL many most).dropLast.reverse) = R2 at *
    generalize rwP (dnL many most).reverse = R1 at *
    generalize rwP (dnL many most).dropLast.reverse = R3 at *
    generalize rwP (dnL many most) = R0 at *
    unfold lfU lfM
    simp [s_um, vv, rv, line_ok lens.1, vU]
  · rw [show lotsN many most 2 = dnL many most ++ (dnL many most).dropLast.reverse from rfl]
    rw [show wayS 2 = Str.ofString "mirror" from rfl]
    generalize rwP (dnL many most ++ (dnL many most).dropLast.reverse) = R2 at *
    generalize rwP (dnL many most).reverse = R1 at *
    generalize rwP (dnL many most).dropLast.reverse = R3 at *
    generalize rwP (dnL many most) = R0 at *
    unfold lfU lfM
    simp [s_mu, vv, rv2, ad, line_ok lens.2, vM]
end
end K46
end
end PB
set_option maxRecDepth 100000
set_option maxHeartbeats 1000000
namespace PB
open PySem PySem.Spec PyProof.Rows L2
noncomputable section
namespace K46
section
variable {many most : Nat}
theorem tH_rungs : c_8.T "_law_rungs" = some f_law_rungs := by simp [c_8, c_7, Cfg.add]
theorem tH_served : c_8.T "_law_served" = some f_law_served := by simp [c_8, Cfg.add]
theorem rung_len (w : Nat) : (rungN many w).length ≤ 2 * many := by
  unfold rungN
  split
  · simp; omega
  · split
    · simp; omega
    · simp; omega
theorem has_ok (h1 : 1 ≤ many) (h2 : many ≤ 400) {w : Nat} (hw : w < 3) {row : List (List Nat)} (st : Sto) : f_law_has [.p (.int (many : Nat)), .p (.tuple (rwP row)), .p (.str (wayS w))] st = .ok (.p (.bool (hasN many w row))) st := by
  have big : (10000 : Nat) < sizeLine := by decide
  have l1 : (1 : Nat) ≤ sizeLine := by decide
  have hr := fun st => rungs_ok h1 (by omega) hw st
  have rlen := rung_len (many := many) w
  have hs := fun {lot far} hf st => @served_ok (rungN many w) lot (by omega) far hf st
  have srv := fun {lot : List Nat} {far : Nat} (hf : far ≤ (rungN many w).length) => (servN_is (rung := rungN many w) (lot := lot) (f := (rungN many w).length) (far := far) hf (by omega)).2.1
  unfold hasN
  generalize rungN many w = R at *
  have hit : ∀ st, srcM .it [.p (.tuple (rwP row))] st = .ok (rwP row, stays st [.p (.tuple (rwP row))]) st := fun st => src_some (ds := [.tuple (rwP row)]) rfl
  have hitL : ∀ (XS : List PB.P) st, srcM .it [.p (.list XS)] st = .ok (XS, stays st [.p (.list XS)]) st := fun XS st => src_some (ds := [.list XS]) rfl
  have hget : ∀ (i : Nat) (d : PB.P), (rwP row)[i]? = some d → ∃ l, row[i]? = some l ∧ d = ltP l := fun i d hd => by
    unfold rwP at hd
    rw [List.getElem?_map] at hd
    cases e : row[i]? with
    | none => rw [e] at hd; cases hd
    | some q => rw [e] at hd; exact ⟨q, rfl, by cases hd; rfl⟩
  have rl := rw_len row
  have m1 : binP .Mult (.tuple [.int 0]) (.int 1) = some (.tuple [.int 0]) := rfl
  refine eq_of_good ?_
  unfold f_law_has b_f_law_has
  rw [runF_st]
  generalize hRW : rwP row = RW at *
  generalize wayS w = WS at *
  have nl : ((niP R).length : Int) = R.length := by rw [ni_len]
  generalize hRG : niP R = RG at *
  simp [tH_rungs, hr, m1, line_ok l1, hit]
  refine good_for (fun i env s' => s' = st ∧ ∃ far e5, far ≤ R.length ∧ env = [some (.p (.int (many : Nat))), some (.p (.tuple RW)), some (.p (.str WS)), some (.p (.list [.list RG])), some (.p (.tuple [.int (far : Nat)])), e5, none] ∧ (row.drop i).foldl (fun far lot => servN R lot R.length far) far = row.foldl (fun far lot => servN R lot R.length far) 0) (fun _ _ => False) (k := 0) ⟨rfl, 0, none, by omega, rfl, rfl⟩ (fun _ _ _ _ => trivial) (fun i d hd env s' hI => ?_) (fun env s' hI => ?_) (fun _ _ _ h => h.elim)
  · rw [Nat.zero_add] at *
    obtain ⟨rfl, far, e5, hf, rfl, hv⟩ := hI
    obtain ⟨lot, hlot, rfl⟩ := hget i d hd
    have hi := (List.getElem?_eq_some_iff.mp hlot).1
    have hdr : row.drop i = lot :: row.drop (i + 1) := by
      rw [List.drop_eq_getElem_cons hi, (List.getElem?_eq_some_iff.mp hlot).2]
    rw [hdr, List.foldl_cons] at hv
    have hs1 := hs (lot := lot) hf
    have hf2 := srv (lot := lot) hf
    rw [turnF_st]
    generalize servN R lot R.length far = y at *
    generalize ltP lot = LT at *
    simp [asgP, tH_served, hs1]
    exact ⟨y, hf2, rfl, hv⟩
  · rw [Nat.zero_add] at hI
    obtain ⟨rfl, far, e5, hf, rfl, hv⟩ := hI
    rw [rl, List.drop_length] at hv
    have hv : far = row.foldl (fun far lot => servN R lot R.length far) 0 := hv
    rw [← hv]
    have ce : cmpP .Eq (.list [.int (far : Nat)]) (.list [.int (R.length : Nat)]) = some (far == R.length) := by
      have h := c_eq (a := .list ([((far : Nat) : Int)].map PyData.int)) (b := .list ([((R.length : Nat) : Int)].map PyData.int)) (by simp) ⟨shaped_ints _, shaped_ints _⟩
      rw [PyData.eqv, eqv_intsAll] at h
      have e : decide ([((far : Nat) : Int)] = [((R.length : Nat) : Int)]) = (far == R.length) := by
        rw [Bool.eq_iff_iff]
        simp
        omega
      rw [e] at h
      exact h
    have cm : ∀ (gd : Sto → Prop) (env : Env) (s : Sto), gd s → 6 < env.length → noErr (compL gd (compF (.one 6) (evAll c_8 []) (evE c_8 (.bif "len" [(.var 6)])) env) [.list RG]) s = .ok [.int (R.length : Nat)] s := fun gd env s hg he => by
      have := comp_mapF (g := gd) (f := compF (.one 6) (evAll c_8 []) (evE c_8 (.bif "len" [(.var 6)])) env) (items := [RG]) (F := fun x => .list x) (Gf := fun x => PyData.int (x.length : Nat)) (st := s) hg (fun x hx => by
        rw [compF_st]
        simp [asgP, he])
      simpa [nl] using this
    simp [hitL, slots_one, wipeE]
    rw [cm _ _ _ (stays_self _) (by simp)]
    simp [line_ok l1, ce]
end
end K46
end
end PB
set_option maxRecDepth 100000
set_option maxHeartbeats 1000000
namespace PB
open PySem PySem.Spec PyProof.Rows L2
noncomputable section
theorem fm_map {α β : Type} (p : α → Bool) (g : α → β) : ∀ L : List α, (L.filterMap fun w => if p w = true then some (g w) else none) = (L.filter p).map g
  | [] => rfl
  | w :: r => by
    rw [List.filterMap_cons, List.filter_cons, fm_map p g r]
    by_cases h : p w = true
    · rw [if_pos h, if_pos h]
      rfl
    · rw [if_neg h, if_neg h]
theorem comp_mapO {g : Sto → Prop} {f : PB.P → M (Option PB.P)} {α : Type} {F : α → PB.P} {Gf : α → Option PB.P} {st : Sto} (hg : g st) {items : List α} (hf : ∀ a ∈ items, f (F a) st = .ok (Gf a) st) : noErr (compL g f (items.map F)) st = .ok (items.filterMap Gf) st := by
  refine noErr_st ?_
  induction items with
  | nil =>
    show compL g f [] st = _
    unfold compL
    rw [if_pos hg]
    rfl
  | cons a r ih =>
    show compL g f (F a :: r.map F) st = _
    unfold compL
    rw [if_pos hg, hf a (by simp), bind_ok, ih fun b hb => hf b (by simp [hb]), bind_ok, List.filterMap_cons]
    cases Gf a <;> rfl
theorem subs_len : ∀ {k : Nat} {l : List Nat}, l ∈ subsN k → l.length ≤ k
  | 0, l, h => by
    simp [subsN] at h
    subst h
    exact Nat.le_refl _
  | k + 1, l, h => by
    rw [subsN, List.mem_append] at h
    rcases h with h | h
    · have := subs_len h
      omega
    · obtain ⟨m, hm, rfl⟩ := List.mem_map.mp h
      have := subs_len hm
      simp
      omega
theorem subs_many : ∀ k : Nat, (subsN k).length = 2 ^ k
  | 0 => rfl
  | k + 1 => by
    rw [subsN, List.length_append, List.length_map, subs_many k, Nat.pow_succ]
    omega
namespace K46
section
variable {many most : Nat}
theorem add_lt (l : List Nat) (k : Nat) (h : l.length ≤ 1000) : binP .Add (ltP l) (.tuple [.int (k : Int)]) = some (ltP (l ++ [k])) := by
  have big : (10000 : Nat) < sizeLine := by decide
  unfold ltP
  rw [b_addT (by simp; omega), List.map_append]
  rfl
theorem lots_ok (h2 : many ≤ 12) (st : Sto) : f_law_lots [.p (.int (many : Nat)), .p (.int (most : Nat))] st = .ok (.p (.list (rwP (allN many most)))) st := by
  have big : (10000 : Nat) < sizeLine := by decide
  have l0 : (0 : Nat) ≤ sizeLine := Nat.zero_le _
  have l1 : (1 : Nat) ≤ sizeLine := by decide
  have hs : ∀ st, srcM .rng [.p (.int (many : Int))] st = .ok (rangeD 0 many, stays st [.p (.int (many : Int))]) st := fun st => by
    rw [src_rng1 (by omega), Int.toNat_natCast]
  have hitL : ∀ (XS : List PB.P) st, srcM .it [.p (.list XS)] st = .ok (XS, stays st [.p (.list XS)]) st := fun XS st => src_some (ds := [.list XS]) rfl
  have w0 : PyData.list [PyData.tuple []] = .list (rwP (subsN 0)) := rfl
  refine eq_of_good ?_
  unfold f_law_lots b_f_law_lots
  rw [runF_st]
  simp [line_ok l0, line_ok l1, hs]
  refine good_for (fun k env s' => s' = st ∧ ∃ e3, env = [some (.p (.int (many : Nat))), some (.p (.int (most : Nat))), some (.p (.list (rwP (subsN k)))), e3, none]) (fun _ _ => False) (k := 0) ⟨rfl, none, rfl⟩ (fun _ _ _ _ => trivial) (fun k d hd env s' hI => ?_) (fun env s' hI => ?_) (fun _ _ _ h => h.elim)
  · rw [Nat.zero_add] at *
    obtain ⟨rfl, e3, rfl⟩ := hI
    obtain ⟨hk, rfl⟩ := rangeD_get hd
    have cm : ∀ (A0 A1 : Option D) (gd : Sto → Prop) (s : Sto), gd s → noErr (compL gd (compF (.one 4) (evAll c_9 []) (evE c_9 (.bin .Add (.var 4) (.tup [(.var 3)]))) [A0, A1, some (.p (.list (rwP (subsN k)))), some (.p (.int (k : Nat))), none]) (rwP (subsN k))) s = .ok (rwP ((subsN k).map (· ++ [k]))) s := fun A0 A1 gd s hg => by
      have e : rwP ((subsN k).map (· ++ [k])) = (subsN k).map fun l => ltP (l ++ [k]) := by
        unfold rwP
        rw [List.map_map]
        rfl
      rw [e]
      have es : compL gd (compF (.one 4) (evAll c_9 []) (evE c_9 (.bin .Add (.var 4) (.tup [(.var 3)]))) [A0, A1, some (.p (.list (rwP (subsN k)))), some (.p (.int (k : Nat))), none]) (rwP (subsN k)) = compL gd (compF (.one 4) (evAll c_9 []) (evE c_9 (.bin .Add (.var 4) (.tup [(.var 3)]))) [A0, A1, some (.p (.list (rwP (subsN k)))), some (.p (.int (k : Nat))), none]) ((subsN k).map ltP) := rfl
      rw [es]
      refine comp_mapF hg fun l hl => ?_
      have ad := add_lt l k (by have := subs_len hl; omega)
      rw [compF_st]
      generalize ltP (l ++ [k]) = L2 at *
      generalize ltP l = L1 at *
      generalize rwP (subsN k) = RS at *
      simp [asgP, ad, line_ok l1]
    have p12 : (2 : Nat) ^ k ≤ 2 ^ 12 := Nat.pow_le_pow_right (by decide) (by omega)
    have hln : (rwP ((subsN k).map (· ++ [k]))).length ≤ 4096 := by
      rw [rw_len, List.length_map, subs_many]
      exact p12
    have hln0 : (rwP (subsN k)).length ≤ 4096 := by
      rw [rw_len, subs_many]
      exact p12
    have hln' : (rwP ((subsN k).map (· ++ [k]))).length ≤ sizeLine := by omega
    have ad : binP .Add (.list (rwP (subsN k))) (.list (rwP ((subsN k).map (· ++ [k])))) = some (.list (rwP (subsN (k + 1)))) := by
      rw [b_addL (by omega), subsN]
      unfold rwP
      rw [List.map_append]
    rw [turnF_st, show (0 : Int) + (k : Nat) = (k : Nat) by omega]
    generalize rwP (subsN (k + 1)) = R3 at *
    generalize rwP ((subsN k).map (· ++ [k])) = R2 at *
    generalize rwP (subsN k) = R1 at *
    simp [asgP, hitL, slots_one, wipeE]
    rw [cm _ _ _ _ (stays_self _)]
    simp [line_ok hln', ad]
  · rw [Nat.zero_add, rangeD_len] at hI
    obtain ⟨rfl, e3, rfl⟩ := hI
    have mn : bifP "min" [.int (many : Int), .int (most : Int)] = some (.int ((min many most : Nat) : Int)) := by
      show some (PyData.int (if (most : Int) < (many : Int) then (most : Int) else (many : Int))) = _
      congr 2
      split <;> omega
    have cm : ∀ (A2 A3 : Option D) (gd : Sto → Prop) (s : Sto), gd s → noErr (compL gd (compF (.one 4) (evAll c_9 [(.cmp .Eq (.bif "len" [(.var 4)]) (.bif "min" [(.var 0), (.var 1)]))]) (evE c_9 (.var 4)) [some (.p (.int (many : Nat))), some (.p (.int (most : Nat))), A2, A3, none]) (rwP (subsN many))) s = .ok (rwP (allN many most)) s := fun A2 A3 gd s hg => by
      have e := fm_map (fun l : List Nat => l.length == min many most) ltP (subsN many)
      unfold rwP allN
      rw [← e]
      refine comp_mapO hg fun l hl => ?_
      have lb : bifP "len" [ltP l] = some (.int ((l.length : Nat) : Int)) := by
        unfold ltP
        show some (PyData.int (((l.map fun n : Nat => PyData.int (n : Int)).length : Nat) : Int)) = _
        rw [List.length_map]
      rw [compF_st]
      simp only [asgP]
      generalize ltP l = L1 at *
      by_cases h : l.length = min many most
      · have h' : (l.length : Int) = ((min many most : Nat) : Int) := by omega
        simp [lb, mn, h, h']
      · have h' : ¬ (l.length : Int) = ((min many most : Nat) : Int) := by omega
        simp [lb, mn, h, h']
    have hln : (rwP (allN many most)).length ≤ sizeLine := by
      have h1 : (allN many most).length ≤ (subsN many).length := List.length_filter_le _ _
      have p12 : (2 : Nat) ^ many ≤ 2 ^ 12 := Nat.pow_le_pow_right (by decide) (by omega)
      have p : (2 : Nat) ^ 12 = 4096 := by decide
      rw [subs_many] at h1
      rw [rw_len]
      omega
    generalize rwP (allN many most) = R2 at *
    generalize rwP (subsN many) = R1 at *
    simp [hitL, slots_one, wipeE]
    rw [cm _ _ _ _ (stays_self _)]
    simp [line_ok hln]
theorem due_ok (m1 : 1 ≤ most) (h2 : many ≤ 1000) (m2 : most ≤ 1000) (h1 : 1 ≤ many) {w : Nat} (hw : w < 3) (st : Sto) : f_law_due [.p (.int (many : Nat)), .p (.int (most : Nat)), .p (.str (wayS w))] st = .ok (.p (.int (dueN many most w : Nat))) st := by
  have dv := b_div (i := (many : Int) + most - 1) (j := (most : Int)) (by omega)
  have e : ((many : Int) + most - 1) / (most : Int) = (((many + most - 1) / most : Nat) : Int) := by
    rw [show ((many : Int) + most - 1) = ((many + most - 1 : Nat) : Int) by omega, ← Int.natCast_ediv]
  rw [e] at dv
  have hd1 : 1 ≤ (many + most - 1) / most := by
    rw [Nat.le_div_iff_mul_le (by omega)]
    omega
  unfold f_law_due b_f_law_due dueN
  rw [runF_st]
  generalize (many + most - 1) / most = q at *
  have e2 : 2 * (q : Int) - 1 = ((2 * q - 1 : Nat) : Int) := by omega
  have bm := b_mulL (i := 2) (j := (q : Int)) (by omega)
  rcases (show w = 0 ∨ w = 1 ∨ w = 2 by omega) with rfl | rfl | rfl
  · rw [show wayS 0 = Str.ofString "down" from rfl]
    simp [dv, s_dm]
  · rw [show wayS 1 = Str.ofString "up" from rfl]
    simp [dv, s_um]
  · rw [show wayS 2 = Str.ofString "mirror" from rfl]
    simp [dv, bm, e2]
end
end K46
end
end PB
set_option maxRecDepth 100000
set_option maxHeartbeats 1000000
namespace PB
open PySem PySem.Spec PyProof.Rows L2
noncomputable section
theorem lt_sg (l : List Nat) : ltP l = sgT (l.map fun n : Nat => (n : Int)) := by
  unfold ltP sgT
  rw [List.map_map]
  rfl
theorem usort_riseB : ∀ {l : List Nat}, riseB l = true → usort (l.map fun n : Nat => (n : Int)) = l.map fun n : Nat => (n : Int)
  | [], _ => rfl
  | [a], _ => rfl
  | a :: b :: r, h => by
    rw [riseB, Bool.and_eq_true, decide_eq_true_eq] at h
    have e := usort_riseB h.2
    rw [List.map_cons, usort, e, List.map_cons, insU, if_pos (by omega)]
namespace K46
section
variable {many most : Nat}
def irA : PB.St := .ite (.or [(.not (.isi (.var 2) "tuple")), (.cmp .NotEq (.comp (.one 3) .it [(.var 2)] [(.or [(.not (.isi (.var 3) "tuple")), (.cmp .Eq (.var 3) (.tup []))])] (.cst (.int 1))) (.lst []))]) [.ret (.cst (.bool false))] []
def irE : Ex := .comp (.one 4) .it [(.var 3)] [(.or [(.not (.isi (.var 4) "int")), (.isi (.var 4) "bool")])] (.cst (.int 1))
def irB : PB.St := .ite (.cmp .NotEq irE (.lst [])) [.ret (.cst (.bool false))] []
def irC : PB.St := .ite (.or [(.cmp .NotEq (.bif "list" [(.var 3)]) (.sset (.var 3))), (.cmp .Gt (.bif "len" [(.var 3)]) (.var 1)), (.cmp .Lt (.idx (.var 3) (.cst (.int 0))) (.cst (.int 0))), (.cmp .GtE (.idx (.var 3) (.neg (.cst (.int 1)))) (.var 0))]) [.ret (.cst (.bool false))] []
theorem ir_is : b_f_law_is_row = [irA, .for (.one 3) .it [(.var 2)] [irB, irC], .ret (.cst (.bool true))] := rfl
theorem irE_ok {R : List Int} {x0 x1 x2 : Option D} (st : Sto) : evE c_12 irE [x0, x1, x2, some (.p (sgT R)), none] st = .ok (.p (.list [])) st := by
  have l0 : (0 : Nat) ≤ sizeLine := Nat.zero_le _
  have key : noErr (compL (stays st [D.p (sgT R)]) (compF (.one 4) (evAll c_12 [(.or [(.not (.isi (.var 4) "int")), (.isi (.var 4) "bool")])]) (evE c_12 (.cst (.int 1))) (wipeE [x0, x1, x2, some (.p (sgT R)), none] (Tg.one 4).slots)) (R.map PyData.int)) st = .ok (R.filterMap fun _ => none) st := by
    refine comp_mapO (stays_self _) fun n hn => ?_
    rw [compF_st]
    simp [slots_one, wipeE, asgP, isi_intG, isi_blG]
  have e : (R.filterMap fun _ => (none : Option PB.P)) = [] := by simp
  rw [e] at key
  have hs : ∀ st, srcM .it [.p (sgT R)] st = .ok (R.map PyData.int, stays st [.p (sgT R)]) st := fun st => src_some (ds := [sgT R]) rfl
  unfold irE
  generalize sgT R = SR at *
  simp [hs]
  rw [key]
  simp [line_ok l0]
theorem irA_ok {row : List (List Nat)} (hne : ∀ l ∈ row, l ≠ []) {x0 x1 : Option D} (st : Sto) : evS c_12 irA [x0, x1, some (.p (.tuple (rwP row))), none, none] st = .ok (.nx, [x0, x1, some (.p (.tuple (rwP row))), none, none]) st := by
  have l0 : (0 : Nat) ≤ sizeLine := Nat.zero_le _
  have key : noErr (compL (stays st [D.p (.tuple (rwP row))]) (compF (.one 3) (evAll c_12 [(.or [(.not (.isi (.var 3) "tuple")), (.cmp .Eq (.var 3) (.tup []))])]) (evE c_12 (.cst (.int 1))) (wipeE [x0, x1, some (.p (.tuple (rwP row))), none, none] (Tg.one 3).slots)) (row.map ltP)) st = .ok (row.filterMap fun _ => none) st := by
    refine comp_mapO (stays_self _) fun l hl => ?_
    have ti : isiP "tuple" (ltP l) = true := rfl
    have ce : cmpP .Eq (ltP l) (.tuple []) = some false := by
      have h := c_eq (a := .tuple ((l.map fun n : Nat => (n : Int)).map PyData.int)) (b := .tuple (([] : List Int).map PyData.int)) (by simp) ⟨shaped_ints _, shaped_ints _⟩
      rw [PyData.eqv, eqv_intsAll] at h
      have e : decide ((l.map fun n : Nat => (n : Int)) = []) = false := by
        have := hne l hl
        simp [this]
      rw [e] at h
      rw [lt_sg]
      exact h
    rw [compF_st]
    generalize ltP l = LT at *
    simp [slots_one, wipeE, asgP, ti, ce, line_ok l0]
  have e : (row.filterMap fun _ => (none : Option PB.P)) = [] := by simp
  rw [e] at key
  have hs : ∀ st, srcM .it [.p (.tuple (rwP row))] st = .ok (rwP row, stays st [.p (.tuple (rwP row))]) st := fun st => src_some (ds := [.tuple (rwP row)]) rfl
  have ti : isiP "tuple" (.tuple (rwP row)) = true := rfl
  have cn : cmpP .NotEq (.list []) (.list []) = some false := rfl
  have hr : row.map ltP = rwP row := rfl
  rw [hr] at key
  unfold irA
  generalize rwP row = RW at *
  simp [hs, ti]
  rw [key]
  simp [line_ok l0, cn]
theorem is_row_ok (h2 : many ≤ 60) (m2 : most ≤ 60) {row : List (List Nat)} (hrow : rowB many most row = true) (st : Sto) : f_law_is_row [.p (.int (many : Nat)), .p (.int (most : Nat)), .p (.tuple (rwP row))] st = .ok (.p (.bool true)) st := by
  have l0 : (0 : Nat) ≤ sizeLine := Nat.zero_le _
  have hl : ∀ l ∈ row, l ≠ [] ∧ riseB l = true ∧ l.length ≤ most ∧ (∀ p ∈ l, p < many) := fun l h => by
    have := List.all_eq_true.mp hrow l h
    simp only [Bool.and_eq_true, bne_iff_ne, decide_eq_true_eq, List.all_eq_true] at this
    exact ⟨this.1.1.1, this.1.1.2, this.1.2, this.2⟩
  have hA := fun {x0 x1} st => irA_ok (x0 := x0) (x1 := x1) (fun l h => (hl l h).1) st
  have hit : ∀ st, srcM .it [.p (.tuple (rwP row))] st = .ok (rwP row, stays st [.p (.tuple (rwP row))]) st := fun st => src_some (ds := [.tuple (rwP row)]) rfl
  have hget : ∀ (i : Nat) (d : PB.P), (rwP row)[i]? = some d → ∃ l ∈ row, d = ltP l := fun i d hd => by
    have := List.mem_of_getElem? hd
    obtain ⟨l, h, e⟩ := List.mem_map.mp this
    exact ⟨l, h, e.symm⟩
  have turn : ∀ l ∈ row, ∀ (x3 : Option D) (s : Sto), evSs c_12 [irB, irC] [some (.p (.int (many : Nat))), some (.p (.int (most : Nat))), some (.p (.tuple (rwP row))), some (.p (ltP l)), none] s = .ok (.nx, [some (.p (.int (many : Nat))), some (.p (.int (most : Nat))), some (.p (.tuple (rwP row))), some (.p (ltP l)), none]) s := fun l hm x3 s => by
    obtain ⟨hn, hr, hlen, hp⟩ := hl l hm
    have ln : bifP "len" [sgT (l.map fun n : Nat => (n : Int))] = some (.int ((l.length : Nat) : Int)) := by
      unfold sgT
      show some (PyData.int ((((l.map fun n : Nat => (n : Int)).map PyData.int).length : Nat) : Int)) = _
      rw [List.length_map, List.length_map]
    have l63 : (l.map fun n : Nat => (n : Int)).length < 64 := by
      rw [List.length_map]
      omega
    have ss : ssetP (sgT (l.map fun n : Nat => (n : Int))) = some ((l.map fun n : Nat => (n : Int)).map .int) := by
      unfold sgT
      show ((intsP ((l.map fun n : Nat => (n : Int)).map PyData.int)).bind fun ns => if ns.length < 64 then some ((usort ns).map PyData.int) else none) = _
      rw [intsP_map]
      show (if _ then _ else _) = _
      rw [if_pos l63, usort_riseB hr]
    have hb : ∀ q ∈ l.map fun n : Nat => (n : Int), 0 ≤ q ∧ q < (many : Int) := fun q hq => by
      obtain ⟨n, hn, rfl⟩ := List.mem_map.mp hq
      have := hp n hn
      omega
    have eR := endsG (R := l.map fun n : Nat => (n : Int)) (by
      rw [List.length_map]
      exact Nat.pos_of_ne_zero fun e => hn (List.eq_nil_of_length_eq_zero e))
    rw [lt_sg]
    generalize l.map (fun n : Nat => (n : Int)) = R at *
    have y0' := idxT_head eR.1
    have y1' := idxT_last eR.2.1
    have y0 : ∀ st, idxM (.p (sgT R)) (.p (.int 0)) st = .ok (.p (.int (hdD R))) st := fun st => by
      show (need (idxP (sgT R) (.int 0)) st).bind (fun a st => .ok (D.p a) st) = _
      rw [y0']
      rfl
    have y1 : ∀ st, idxM (.p (sgT R)) (.p (.int (-1))) st = .ok (.p (.int (lastD R))) st := fun st => by
      show (need (idxP (sgT R) (.int (-1))) st).bind (fun a st => .ok (D.p a) st) = _
      rw [y1']
      rfl
    have b0 := hb _ (List.mem_of_mem_head? (by rw [eR.1]; rfl))
    have b1 := hb _ (List.mem_of_getLast? eR.2.1)
    have cq : cmpP .NotEq (.list (R.map PyData.int)) (.list (R.map PyData.int)) = some false := by
      rw [c_ne (by simp) ⟨shaped_ints R, shaped_ints R⟩, PyData.eqv, eqv_intsAll]
      simp
    have ls : bifP "list" [sgT R] = some (.list (R.map PyData.int)) := rfl
    have lR : (R.map PyData.int).length ≤ sizeLine := by
      have : (10000 : Nat) < sizeLine := by decide
      rw [List.length_map]
      omega
    have cE := fun {x0 x1 x2} st => irE_ok (R := R) (x0 := x0) (x1 := x1) (x2 := x2) st
    have cn : cmpP .NotEq (.list []) (.list []) = some false := rfl
    generalize sgT R = SR at *
    generalize R.map PyData.int = RI at *
    generalize hdD R = h0 at *
    generalize lastD R = h1 at *
    have n1 : ¬ (most : Int) < (l.length : Int) := by omega
    have n2 : ¬ h0 < 0 := by omega
    have n3 : ¬ (many : Int) ≤ h1 := by omega
    unfold irB irC
    simp [cE, cn, line_ok l0, line_ok lR, ls, ss, cq, ln, n1, y0, n2, y1, n3]
  refine eq_of_good ?_
  unfold f_law_is_row
  rw [runF_st, ir_is]
  simp [hA, hit]
  refine good_for (fun i env s' => s' = st ∧ ∃ x3, env = [some (.p (.int (many : Nat))), some (.p (.int (most : Nat))), some (.p (.tuple (rwP row))), x3, none]) (fun _ _ => False) (k := 0) ⟨rfl, none, rfl⟩ (fun _ _ _ _ => trivial) (fun i d hd env s' hI => ?_) (fun env s' hI => ?_) (fun _ _ _ h => h.elim)
  · obtain ⟨rfl, x3, rfl⟩ := hI
    obtain ⟨l, hm, rfl⟩ := hget i d hd
    have ht := turn l hm none s'
    rw [turnF_st]
    show Good ((evSs c_12 [irB, irC] [some (.p (.int (many : Nat))), some (.p (.int (most : Nat))), some (.p (.tuple (rwP row))), some (.p (ltP l)), none] s')) _
    rw [ht]
    rw [good_ok]
    exact ⟨rfl, _, rfl⟩
  · obtain ⟨rfl, x3, rfl⟩ := hI
    simp
end
end K46
end
end PB
set_option maxRecDepth 100000
set_option maxHeartbeats 1000000
namespace PB
open PySem PySem.Spec PyProof.Rows L2
noncomputable section
namespace K46
theorem bind_id {α : Type} {r : PB.R α} : R.bind r (fun a st => .ok a st) = r := by
  cases r <;> rfl
theorem good_forn {gd : Sto → Prop} {f : PB.P → Env → M (Fl × Env)} {items : List PB.P} (I : Nat → Env → Sto → Prop) {env : Env} {st : Sto} (h : I 0 env st) (hg : ∀ i env st, I i env st → gd st)
    (hf : ∀ i d, items[i]? = some d → ∀ env st, I i env st → Good (f d env st) fun q st' => q.1 = .nx ∧ I (i + 1) q.2 st') : Good (forL gd f items env st) fun q st' => q.1 = .nx ∧ I items.length q.2 st' := by
  rw [← bind_id (r := forL gd f items env st)]
  refine good_for I (fun _ _ => False) (k := 0) h hg (fun i d hd env s hI => ?_) (fun env s hI => ?_) (fun _ _ _ h => h.elim)
  · rw [Nat.zero_add] at *
    refine good_mono (hf i d hd env s hI) fun q s' h => ?_
    obtain ⟨fl, e⟩ := q
    obtain ⟨h1, h2⟩ := h
    dsimp only at h1
    subst h1
    exact h2
  · rw [Nat.zero_add] at hI
    rw [good_ok]
    exact ⟨rfl, hI⟩
def rrP (rows : List (List (List Nat))) : List PB.P := rows.map fun row => .tuple (rwP row)
/-- what is walked while another list grows -/
def Vw (v : D) (T : Sto) (L : List PB.P) : Prop := (∀ o, srcM .it [v] (T ++ o) = .ok (L, stays (T ++ o) [v]) (T ++ o)) ∧ ∀ o o', stays (T ++ o) [v] (T ++ o')
theorem vw_plain (T : Sto) (L : List PB.P) : Vw (.p (.list L)) T L := ⟨fun o => src_some (ds := [.list L]) rfl, fun o o' => trivial⟩
theorem vw_last (T : Sto) (L : List PB.P) : Vw (.ref T.length) (T ++ [.lst (L.map .p)]) L := by
  have g : ∀ o : Sto, (T ++ [.lst (L.map .p)] ++ o)[T.length]? = some (.lst (L.map D.p)) := fun o => by simp
  refine ⟨fun o => ?_, fun o o' => ⟨?_, trivial⟩⟩
  · unfold srcM
    rw [vws_cons, vw_ref (g o), bind_ok, vws0, bind_ok, bind_ok]
    rfl
  · rw [g, g]
/-- what holds the rows so far: a list of its own, or one that stands last in the store -/
def Hv (st s' : Sto) (v : D) (L : List PB.P) : Prop := (v = .p (.list L) ∧ ∃ loc, s' = st ++ loc) ∨ ∃ loc, s' = st ++ loc ++ [.lst (L.map .p)] ∧ v = .ref (st ++ loc).length
theorem Hv.vw {st s' : Sto} {v : D} {L : List PB.P} (h : Hv st s' v L) : Vw v s' L := by
  rcases h with ⟨rfl, loc, rfl⟩ | ⟨loc, rfl, rfl⟩
  · exact vw_plain _ _
  · exact vw_last _ _
theorem Hv.loc {st s' : Sto} {v : D} {L : List PB.P} (h : Hv st s' v L) : ∃ loc, s' = st ++ loc := by
  rcases h with ⟨rfl, loc, rfl⟩ | ⟨loc, rfl, rfl⟩
  · exact ⟨loc, rfl⟩
  · exact ⟨loc ++ [.lst (L.map .p)], by rw [List.append_assoc]⟩
def ndS : PB.St := .expr (.mth "extend" (.var 7) [(.comp (.one 9) .it [(.var 4)] [] (.bin .Add (.var 8) (.tup [(.var 9)])))])
def ndA : PB.St := .set (.one 7) (.new (.lst []))
def ndB : PB.St := .for (.one 8) .it [(.var 5)] [ndS]
def ndC : PB.St := .set (.one 5) (.var 7)
def ndP : PB.St := .par [4, 5] [(.call "_law_lots" [(.var 0), (.var 1)]), (.lst [(.tup [])])]
def ndE : Ex := .comp (.one 8) .it [(.var 5)] [(.call "_law_has" [(.var 0), (.var 8), (.var 2)])] (.cst (.int 1))
def ndR : PB.St := .ret (.cmp .Eq ndE (.lst []))
theorem nd_is : b_f_law_none_does = [ndP, .for (.one 6) .rng [(.var 3)] [ndA, ndB, ndC], ndR] := rfl
theorem tN_lots : c_10.T "_law_lots" = some f_law_lots := by simp [c_10, Cfg.add]
theorem tN_has : c_10.T "_law_has" = some f_law_has := by simp [c_10, c_9, Cfg.add]
def envN (M P C R : PB.P) (LS : List PB.P) (v5 x6 x7 x8 : Option D) : Env := [some (.p M), some (.p P), some (.p C), some (.p R), some (.p (.list LS)), v5, x6, x7, x8, none]
section
variable {many most : Nat} {M P C R : PB.P} {lots : List (List Nat)} {v5 x6 x7 x8 : Option D} {T : Sto}
theorem turn_r (hl : lots.length ≤ 100) {row : List (List Nat)} (hrow : row.length ≤ 100) {X : List PB.P} (hX : X.length ≤ 10000000) :
    turnF c_10 (.one 8) [ndS] (.tuple (rwP row)) (envN M P C R (rwP lots) v5 x6 (some (.ref T.length)) x8) (T ++ [.lst (X.map .p)])
      = .ok (.nx, envN M P C R (rwP lots) v5 x6 (some (.ref T.length)) (some (.p (.tuple (rwP row))))) (T ++ [.lst ((X ++ rrP (lots.map fun lot => row ++ [lot])).map .p)]) := by
  have big : (16000000 : Nat) < sizeLine := by decide
  have l1 : (1 : Nat) ≤ sizeLine := by decide
  have hitL : ∀ (XS : List PB.P) st, srcM .it [.p (.list XS)] st = .ok (XS, stays st [.p (.list XS)]) st := fun XS st => src_some (ds := [.list XS]) rfl
  have g := (get_push (st := T) (o := O.lst (X.map D.p)))
  have kd := kind_ref g
  have hn : (rrP (lots.map fun lot => row ++ [lot])).length = lots.length := by simp [rrP]
  have ap := ext_ref (as := rrP (lots.map fun lot => row ++ [lot])) g (by rw [List.length_map, hn]; omega)
  rw [set_push, ← List.map_append] at ap
  have cm : ∀ (gd : Sto → Prop) (env : Env) (s : Sto), gd s → env = envN M P C R (rwP lots) v5 x6 (some (.ref T.length)) (some (.p (.tuple (rwP row)))) → noErr (compL gd (compF (.one 9) (evAll c_10 []) (evE c_10 (.bin .Add (.var 8) (.tup [(.var 9)]))) env) (rwP lots)) s = .ok (rrP (lots.map fun lot => row ++ [lot])) s := fun gd env s hg he => by
    subst he
    have e : rrP (lots.map fun lot => row ++ [lot]) = lots.map fun lot => .tuple (rwP (row ++ [lot])) := by
      unfold rrP
      rw [List.map_map]
      rfl
    rw [e]
    refine comp_mapF (items := lots) (F := ltP) (Gf := fun lot => PyData.tuple (rwP (row ++ [lot]))) hg fun lot hlot => ?_
    have ad : binP .Add (.tuple (rwP row)) (.tuple [ltP lot]) = some (.tuple (rwP (row ++ [lot]))) := by
      rw [b_addT (by simp [rwP]; omega)]
      unfold rwP
      simp
    rw [compF_st]
    unfold envN
    generalize rwP (row ++ [lot]) = R2 at *
    generalize rwP row = R1 at *
    generalize ltP lot = LT at *
    generalize rwP lots = LL at *
    simp [asgP, line_ok l1, ad]
  rw [turnF_st]
  generalize hZ : rrP (lots.map fun lot => row ++ [lot]) = Z at *
  have lz : Z.length ≤ sizeLine := by omega
  generalize (X ++ Z).map D.p = NEW at *
  generalize X.map D.p = OLD at *
  unfold envN at *
  generalize rwP row = R1 at *
  generalize rwP lots = LL at *
  unfold ndS
  simp [asgP, hitL, slots_one, wipeE, kd]
  rw [cm _ _ _ (stays_self _) rfl]
  simp [line_ok lz, ap]
def w' (lots : List (List Nat)) (row : List (List Nat)) : List (List (List Nat)) := lots.map fun lot => row ++ [lot]
def nextN (lots : List (List Nat)) (W : List (List (List Nat))) : List (List (List Nat)) := W.flatMap fun row => lots.map fun lot => row ++ [lot]
theorem nextN_len : ∀ W : List (List (List Nat)), (nextN lots W).length = W.length * lots.length
  | [] => by simp [nextN]
  | a :: r => by
    have := nextN_len r
    unfold nextN at *
    rw [List.flatMap_cons, List.length_append, this, List.length_map, List.length_cons, Nat.add_mul]
    omega
theorem rowsN_len : ∀ k : Nat, (rowsN lots k).length = lots.length ^ k
  | 0 => rfl
  | k + 1 => by
    rw [Nat.pow_succ, ← rowsN_len k]
    exact nextN_len _
theorem rowsN_each : ∀ {k : Nat} {row : List (List Nat)}, row ∈ rowsN lots k → row.length = k
  | 0, row, h => by
    simp [rowsN] at h
    subst h
    rfl
  | k + 1, row, h => by
    rw [rowsN, List.mem_flatMap] at h
    obtain ⟨r, hr, h⟩ := h
    obtain ⟨l, _, rfl⟩ := List.mem_map.mp h
    have := rowsN_each hr
    simp [this]
theorem ndB_ok (hl : lots.length ≤ 100) {v : D} {W : List (List (List Nat))} (hv : Vw v T (rrP W)) (hW : ∀ row ∈ W, row.length ≤ 100) (hsz : W.length * lots.length ≤ 10000000) :
    ∃ y8, evS c_10 ndB (envN M P C R (rwP lots) (some v) x6 (some (.ref T.length)) x8) (T ++ [.lst []]) = .ok (.nx, envN M P C R (rwP lots) (some v) x6 (some (.ref T.length)) y8) (T ++ [.lst ((rrP (nextN lots W)).map .p)]) := by
  have main : Good (evS c_10 ndB (envN M P C R (rwP lots) (some v) x6 (some (.ref T.length)) x8) (T ++ [.lst []])) fun q s' => s' = T ++ [.lst ((rrP (nextN lots W)).map .p)] ∧ q.1 = .nx ∧ ∃ y8, q.2 = envN M P C R (rwP lots) (some v) x6 (some (.ref T.length)) y8 := by
    have ev : ∀ st, evL c_10 [(.var 5)] (envN M P C R (rwP lots) (some v) x6 (some (.ref T.length)) x8) st = .ok [v] st := fun st => by
      unfold envN
      generalize rwP lots = LL at *
      simp
    unfold ndB
    rw [s_for', ev, bind_ok, hv.1, bind_ok]
    refine good_mono (good_forn (fun j env s' => ∃ Y y8, s' = T ++ [.lst ((rrP Y).map .p)] ∧ env = envN M P C R (rwP lots) (some v) x6 (some (.ref T.length)) y8 ∧ Y ++ nextN lots (W.drop j) = nextN lots W ∧ Y.length ≤ j * lots.length) ⟨[], _, rfl, rfl, rfl, by simp⟩ (fun j env s' hI => ?_) (fun j d hd env s' hI => ?_)) (fun q s' hq => ?_)
    · obtain ⟨Y, _, rfl, _⟩ := hI
      exact hv.2 _ _
    · obtain ⟨Y, y8, rfl, rfl, hvv, hYl⟩ := hI
      have hd : (W.map fun row => PyData.tuple (rwP row))[j]? = some d := hd
      rw [List.getElem?_map] at hd
      cases e : W[j]? with
      | none => rw [e] at hd; cases hd
      | some w =>
        rw [e] at hd
        cases hd
        have hj := (List.getElem?_eq_some_iff.mp e).1
        have hdr : W.drop j = w :: W.drop (j + 1) := by
          rw [List.drop_eq_getElem_cons hj, (List.getElem?_eq_some_iff.mp e).2]
        have hw1 := hW w (List.mem_of_getElem? e)
        have hm : (j + 1) * lots.length ≤ W.length * lots.length := Nat.mul_le_mul_right _ (by omega)
        have hm3 : (j + 1) * lots.length = j * lots.length + lots.length := by rw [Nat.add_mul, Nat.one_mul]
        have ht := turn_r (T := T) (M := M) (P := P) (C := C) (R := R) (v5 := some v) (x6 := x6) (x8 := y8) hl hw1 (X := rrP Y) (by
          unfold rrP
          rw [List.length_map]
          omega)
        rw [ht, good_ok]
        refine ⟨rfl, Y ++ w' lots w, _, ?_, rfl, ?_, ?_⟩
        · unfold w' rrP
          simp only [List.map_append]
        · rw [hdr] at hvv
          rw [List.append_assoc]
          exact hvv
        · unfold w'
          rw [List.length_append, List.length_map]
          omega
    · obtain ⟨h1, Y, y8, h2, h3, hvv, _⟩ := hq
      have e : (rrP W).length = W.length := by unfold rrP; rw [List.length_map]
      rw [e, List.drop_length] at hvv
      have hvv : Y ++ [] = nextN lots W := hvv
      rw [List.append_nil] at hvv
      subst hvv
      exact ⟨h2, h1, _, h3⟩
  obtain ⟨q, s', e, rfl, h1, y8, h2⟩ := good_run main
  obtain ⟨f, env⟩ := q
  dsimp only at h1 h2
  subst h1
  subst h2
  exact ⟨y8, e⟩
end
end K46
end
end PB
set_option maxRecDepth 100000
set_option maxHeartbeats 1000000
namespace PB
open PySem PySem.Spec PyProof.Rows L2
noncomputable section
namespace K46
section
variable {many most reads w : Nat}
theorem none_ok (h1 : 1 ≤ many) (h2 : many ≤ 12) (hw : w < 3) (hlots : (allN many most).length ≤ 6) (hr : reads ≤ 6) (hn : noneN many most w reads = true) (st : Sto) :
    f_law_none_does [.p (.int (many : Nat)), .p (.int (most : Nat)), .p (.str (wayS w)), .p (.int (reads : Nat))] st = .ok (.p (.bool true)) st := by
  have big : (16000000 : Nat) < sizeLine := by decide
  have l0 : (0 : Nat) ≤ sizeLine := Nat.zero_le _
  have l1 : (1 : Nat) ≤ sizeLine := by decide
  have lo := fun st => lots_ok (many := many) (most := most) h2 st
  have has := fun {row} st => has_ok (many := many) (by omega) (by omega) hw (row := row) st
  have hs : ∀ st, srcM .rng [.p (.int (reads : Int))] st = .ok (rangeD 0 reads, stays st [.p (.int (reads : Int))]) st := fun st => by
    rw [src_rng1 (by omega), Int.toNat_natCast]
  have pl : ∀ k, k ≤ 6 → (allN many most).length ^ k ≤ 46656 := fun k hk => by
    have a1 : (allN many most).length ^ k ≤ 6 ^ k := Nat.pow_le_pow_left hlots k
    have a2 : 6 ^ k ≤ 6 ^ 6 := Nat.pow_le_pow_right (by decide) hk
    have a3 : 6 ^ 6 = 46656 := by decide
    omega
  have hmr : ∀ row ∈ rowsN (allN many most) reads, hasN many w row = false := fun row hm => by
    have := List.all_eq_true.mp hn row hm
    simpa using this
  refine eq_of_good ?_
  unfold f_law_none_does
  rw [runF_st, nd_is]
  generalize hLT : allN many most = lots at *
  generalize hWS : wayS w = WS at *
  have hB := fun {v : D} {W : List (List (List Nat))} {T : Sto} {x6 x8} hv hW hsz => @ndB_ok (.int (many : Nat)) (.int (most : Nat)) (.str WS) (.int (reads : Nat)) lots x6 x8 T (by omega) v W hv hW hsz
  have e0 : evS c_10 ndP [some (.p (.int (many : Nat))), some (.p (.int (most : Nat))), some (.p (.str WS)), some (.p (.int (reads : Nat))), none, none, none, none, none, none] st = .ok (.nx, envN (.int (many : Nat)) (.int (most : Nat)) (.str WS) (.int (reads : Nat)) (rwP lots) (some (.p (.list (rrP (rowsN lots 0))))) none none none) st := by
    have w0 : PyData.list [PyData.tuple []] = .list (rrP (rowsN lots 0)) := rfl
    generalize rrP (rowsN lots 0) = R0 at *
    unfold ndP envN
    simp [tN_lots, lo, line_ok l0, line_ok l1, w0]
    rfl
  show Good ((evSs c_10 _ [some (.p (.int (many : Nat))), some (.p (.int (most : Nat))), some (.p (.str WS)), some (.p (.int (reads : Nat))), none, none, none, none, none, none] st).bind _) _
  rw [s_cons', e0, bind_ok, after_nx, s_cons', s_for']
  have ev : ∀ s v5, evL c_10 [(.var 3)] (envN (.int (many : Nat)) (.int (most : Nat)) (.str WS) (.int (reads : Nat)) (rwP lots) v5 none none none) s = .ok [.p (.int (reads : Nat))] s := fun s v5 => by
    unfold envN
    simp
  rw [ev, bind_ok, hs, bind_ok, bind_assoc]
  have ec : ∀ (s : Sto) (l : Nat) (v5 x6 x8 : Option D), evS c_10 ndC (envN (.int (many : Nat)) (.int (most : Nat)) (.str WS) (.int (reads : Nat)) (rwP lots) v5 x6 (some (.ref l)) x8) s = .ok (.nx, envN (.int (many : Nat)) (.int (most : Nat)) (.str WS) (.int (reads : Nat)) (rwP lots) (some (.ref l)) x6 (some (.ref l)) x8) s := fun s l v5 x6 x8 => by
    unfold ndC envN
    simp
  have eA : ∀ (s : Sto) (v5 x6 x7 x8 : Option D), evS c_10 ndA (envN (.int (many : Nat)) (.int (most : Nat)) (.str WS) (.int (reads : Nat)) (rwP lots) v5 x6 x7 x8) s = .ok (.nx, envN (.int (many : Nat)) (.int (most : Nat)) (.str WS) (.int (reads : Nat)) (rwP lots) v5 x6 (some (.ref s.length)) x8) (s ++ [.lst []]) := fun s v5 x6 x7 x8 => by
    unfold ndA envN
    simp [line_ok l0]
  refine good_then (good_forn (fun i env s' => ∃ v x6 x7 x8, env = envN (.int (many : Nat)) (.int (most : Nat)) (.str WS) (.int (reads : Nat)) (rwP lots) (some v) x6 x7 x8 ∧ Hv st s' v (rrP (rowsN lots i))) ⟨.p (.list (rrP (rowsN lots 0))), _, _, _, rfl, .inl ⟨rfl, [], by simp⟩⟩ (fun _ _ _ _ => trivial) (fun i d hd env s' hI => ?_)) (fun q s' hq => ?_)
  · obtain ⟨v, x6, x7, x8, rfl, hH⟩ := hI
    obtain ⟨hi, rfl⟩ := rangeD_get hd
    have p0 := pl i (by omega)
    have p1 : lots.length ^ i * lots.length ≤ 46656 * 6 := Nat.mul_le_mul p0 hlots
    obtain ⟨y8, hm⟩ := hB (v := v) (W := rowsN lots i) (T := s') (x6 := some (.p (.int (i : Nat)))) (x8 := x8) hH.vw (fun row hrow => by
      have := rowsN_each hrow
      omega) (by rw [rowsN_len]; omega)
    have ea : asgP (.one 6) (.int (i : Nat)) (envN (.int (many : Nat)) (.int (most : Nat)) (.str WS) (.int (reads : Nat)) (rwP lots) (some v) x6 x7 x8) = some (envN (.int (many : Nat)) (.int (most : Nat)) (.str WS) (.int (reads : Nat)) (rwP lots) (some v) (some (.p (.int (i : Nat)))) x7 x8) := rfl
    have hm : evS c_10 ndB (envN (.int (many : Nat)) (.int (most : Nat)) (.str WS) (.int (reads : Nat)) (rwP lots) (some v) (some (.p (.int (i : Nat)))) (some (.ref s'.length)) x8) (s' ++ [.lst []]) = _ := hm
    rw [turnF_st]
    simp only [Nat.zero_add, Int.zero_add] at ea ⊢
    rw [ea, need_some, bind_ok, s_cons', eA, bind_ok, after_nx, s_cons', hm, bind_ok, after_nx, s_cons', ec, bind_ok, after_nx, s_nil', good_ok]
    obtain ⟨loc, rfl⟩ := hH.loc
    exact ⟨rfl, _, _, _, _, rfl, .inr ⟨loc, rfl, rfl⟩⟩
  · obtain ⟨f, env⟩ := q
    obtain ⟨h1, v, x6, x7, x8, h2, hH⟩ := hq
    dsimp only at h1 h2
    subst h1
    subst h2
    rw [rangeD_len] at hH
    have vw := hH.vw
    have hsrc : srcM .it [v] s' = .ok (rrP (rowsN lots reads), stays s' [v]) s' := by
      have := vw.1 []
      rwa [List.append_nil] at this
    have hst : stays s' [v] s' := by
      have := vw.2 [] []
      rwa [List.append_nil] at this
    have cm : noErr (compL (stays s' [v]) (compF (.one 8) (evAll c_10 [(.call "_law_has" [(.var 0), (.var 8), (.var 2)])]) (evE c_10 (.cst (.int 1))) [some (.p (.int (many : Nat))), some (.p (.int (most : Nat))), some (.p (.str WS)), some (.p (.int (reads : Nat))), some (.p (.list (rwP lots))), some v, x6, x7, none, none]) (rrP (rowsN lots reads))) s' = .ok [] s' := by
      have e : ((rowsN lots reads).filterMap fun _ => (none : Option PB.P)) = [] := by simp
      rw [← e]
      refine comp_mapO hst fun row hrow => ?_
      have hf := hmr row hrow
      rw [compF_st]
      have has := fun st => has (row := row) st
      rw [hf] at has
      generalize rwP row = R1 at *
      generalize rwP lots = LL at *
      simp [asgP, tN_has, has]
    have er : evSs c_10 [ndR] (envN (.int (many : Nat)) (.int (most : Nat)) (.str WS) (.int (reads : Nat)) (rwP lots) (some v) x6 x7 x8) s' = .ok (.rt (.p (.bool true)), envN (.int (many : Nat)) (.int (most : Nat)) (.str WS) (.int (reads : Nat)) (rwP lots) (some v) x6 x7 x8) s' := by
      have cn : cmpP .Eq (.list []) (.list []) = some true := rfl
      unfold ndR ndE envN
      generalize rwP lots = LL at *
      simp [hsrc, slots_one, wipeE]
      rw [cm]
      simp [line_ok l0, cn]
    rw [after_nx, er, bind_ok]
    obtain ⟨loc, rfl⟩ := hH.loc
    simp
end
end K46
end
end PB
set_option maxRecDepth 100000
set_option maxHeartbeats 1000000
namespace PB
open PySem PySem.Spec PyProof.Rows L2
noncomputable section
namespace K46
section
variable {many most w : Nat}
theorem tF_lots : c_1.T "lots_for" = some f_lots_for := by simp [c_1, Cfg.add]
theorem tI_lots : c_13.T "lots_for" = some f_lots_for := by simp [c_13, c_12, c_11, c_10, c_9, c_8, c_7, c_6, c_5, c_4, c_3, c_2, c_1, Cfg.add]
theorem tI_few : c_13.T "fewest_lots" = some f_fewest_lots := by simp [c_13, c_12, c_11, c_10, c_9, c_8, c_7, c_6, c_5, c_4, c_3, c_2, Cfg.add]
theorem tI_due : c_13.T "_law_due" = some f_law_due := by simp [c_13, c_12, Cfg.add]
theorem tI_row : c_13.T "_law_is_row" = some f_law_is_row := by simp [c_13, Cfg.add]
theorem tI_has : c_13.T "_law_has" = some f_law_has := by simp [c_13, c_12, c_11, c_10, c_9, Cfg.add]
theorem right_of (h1 : 1 ≤ many) (h2 : many ≤ 12) (m1 : 1 ≤ most) (m2 : most ≤ 12) (hw : w < 3) : hasN many w (lotsN many most w) = true ∧ (lotsN many most w).length = dueN many most w ∧ rowB many most (lotsN many most w) = true := by
  have h := List.all_eq_true.mp right_all (many - 1) (List.mem_range.mpr (by omega))
  have h := List.all_eq_true.mp h (most - 1) (List.mem_range.mpr (by omega))
  have h := List.all_eq_true.mp h w (List.mem_range.mpr hw)
  rw [show many - 1 + 1 = many by omega, show most - 1 + 1 = most by omega] at h
  simp only [Bool.and_eq_true, beq_iff_eq] at h
  exact ⟨h.1.1, h.1.2, h.2⟩
theorem due_le (h2 : many ≤ 12) (m1 : 1 ≤ most) : dueN many most w ≤ 24 := by
  have : (many + most - 1) / most ≤ 12 := by
    rw [← Nat.lt_succ_iff, Nat.div_lt_iff_lt_mul (by omega)]
    have : (Nat.succ 12) * most = 12 * most + most := by rw [Nat.succ_mul]
    omega
  unfold dueN
  split <;> omega
theorem few_ok {A : List PB.P} (hA : A.length = many) (h1 : 1 ≤ many) (h2 : many ≤ 12) (m1 : 1 ≤ most) (m2 : most ≤ 12) (hw : w < 3) (st : Sto) : f_fewest_lots [.p (.tuple A), .p (.int (most : Nat)), .p (.str (wayS w))] st = .ok (.p (.int (dueN many most w : Nat))) st := by
  have lf := fun st => lots_for_ok hA h1 (by omega) m1 (by omega) hw st
  have rl := (right_of h1 h2 m1 m2 hw).2.1
  have ln : bifP "len" [.tuple (rwP (lotsN many most w))] = some (.int (dueN many most w : Nat)) := by
    rw [← rl, ← rw_len]
    rfl
  unfold f_fewest_lots b_f_fewest_lots
  rw [runF_st]
  generalize rwP (lotsN many most w) = RL at *
  generalize wayS w = WS at *
  simp [tF_lots, lf, ln]
theorem nice_row (h1 : 1 ≤ many) (h2 : many ≤ 12) (m1 : 1 ≤ most) (m2 : most ≤ 12) (hw : w < 3) : Nice (.tuple (rwP (lotsN many most w))) 20000 2 := by
  obtain ⟨_, rl, rb⟩ := right_of h1 h2 m1 m2 hw
  have hd := due_le (w := w) h2 m1
  refine nice_mono (nice_tup (w := 780) (h := 1) fun x hx => ?_) ?_ (by decide)
  · obtain ⟨l, hl, rfl⟩ := List.mem_map.mp hx
    have := List.all_eq_true.mp rb l hl
    simp only [Bool.and_eq_true, bne_iff_ne, decide_eq_true_eq, List.all_eq_true] at this
    unfold ltP
    refine nice_mono (nice_tup (w := 64) (h := 0) fun y hy => ?_) ?_ (by decide)
    · obtain ⟨p, hp, rfl⟩ := List.mem_map.mp hy
      have := this.2 p hp
      exact nice_int (by omega) (by omega)
    · rw [List.length_map]
      omega
  · rw [rw_len, rl]
    omega
theorem is_right_ok {A : List PB.P} (hA : A.length = many) (nA : ∀ b ∈ A, Nice b 64 0) (h1 : 1 ≤ many) (h2 : many ≤ 12) (m1 : 1 ≤ most) (m2 : most ≤ 12) (hw : w < 3) (b : Bool) (st : Sto) : f_law_is_right [.p (.tuple A), .p (.int (most : Nat)), .p (.str (wayS w)), .p (.bool b)] st = .ok (.p (.bool true)) st := by
  obtain ⟨rh, rl, rb⟩ := right_of h1 h2 m1 m2 hw
  have lf := fun st => lots_for_ok hA h1 (by omega) m1 (by omega) hw st
  have fw := fun st => few_ok hA h1 h2 m1 m2 hw st
  have du := fun st => due_ok (many := many) (most := most) m1 (by omega) (by omega) h1 hw st
  have ir := fun st => is_row_ok (by omega) (by omega) rb st
  have hh := fun st => has_ok h1 (by omega) hw (row := lotsN many most w) st
  rw [rh] at hh
  have ln : bifP "len" [.tuple (rwP (lotsN many most w))] = some (.int (dueN many most w : Nat)) := by
    rw [← rl, ← rw_len]
    rfl
  have la : bifP "len" [.tuple A] = some (.int (many : Nat)) := by
    rw [← hA]
    rfl
  have r1 := nice_repr (nice_row h1 h2 m1 m2 hw) (by decide) (by decide)
  have hd := due_le (most := most) (w := w) h2 m1
  have r2 := nice_repr (nice_int (i := (dueN many most w : Nat)) (by omega) (by omega)) (by decide) (by decide)
  have r3 := nice_repr (nice_tup (w := 64) (h := 0) nA) (by rw [hA]; omega) (by decide)
  generalize rwP (lotsN many most w) = RL at *
  generalize dueN many most w = DU at *
  generalize wayS w = WS at *
  have sa : ∀ (x y : D) (a0 a1 a2 a3 a4 a5 a6 a7 a8 : Option D), setAll [4, 5] [x, y] [a0, a1, a2, a3, a4, a5, a6, a7, a8] = some [a0, a1, a2, a3, some x, some y, a6, a7, a8] := fun _ _ _ _ _ _ _ _ _ _ _ => rfl
  have pk : ∀ x y z : D, pick [2, 1, 0] [x, y, z] = [z, y, x] := fun _ _ _ => rfl
  unfold f_law_is_right b_f_law_is_right
  rw [runF_st]
  cases b with
  | false => simp [sa, pk, tI_lots, tI_few, tI_due, tI_row, tI_has, lf, fw, du, ir, hh, ln, la, r1, r2, r3]
  | true => simp [sa, pk, tI_lots, tI_few, tI_due, tI_row, tI_has, lf, fw, du, ir, hh, ln, la, r1, r2, r3]
end
end K46
end
end PB
set_option maxRecDepth 100000
set_option maxHeartbeats 2000000
namespace PB
open PySem PySem.Spec PyProof.Rows L2
noncomputable section
namespace K46
theorem draw_ok' (s g : Nat) : Drawn Stock f_law_draw s g := draw_spec c_3 s g
theorem pick_ok' (s g : Nat) : Picked Stock f_law_pick s g := pick_spec (c := c_4) Cfg.add_self (draw_ok' s g)
def isBases (n : Nat) (v : D) : Prop := ∃ bs : List PB.P, v = .p (.tuple bs) ∧ bs.length = n ∧ ∀ b ∈ bs, Nice b 64 0
theorem bases_ok (s g : Nat) {many : Nat} (hm2 : many ≤ 12) : Spec Stock f_law_bases [.ref s, .p (.int (many : Nat))] s g (isBases many) := by
  refine ⟨fun st hS => ?_⟩
  have tP : c_5.T "_law_pick" = some f_law_pick := by simp [c_5, Cfg.add]
  have big : (1000 : Nat) < sizeLine := by decide
  have l5 : (5 : Nat) ≤ sizeLine := by decide
  unfold f_law_bases b_f_law_bases
  rw [runF_st]
  have hs : ∀ st, srcM .rng [.p (.int (many : Int))] st = .ok (rangeD 0 many, stays st [.p (.int (many : Int))]) st := fun st => src_rng1 (by omega)
  simp [hs, slots_one, wipeE]
  refine good_compI (fun k ys s' => ys.length = k ∧ (∀ y ∈ ys, Nice y 64 0) ∧ Own Stock st s g s' []) ⟨rfl, (fun _ h => by cases h), Own.init hS⟩ (fun _ _ _ _ => trivial) (fun i d hd ys s2 hI => ?_) (fun ys s2 hI => ?_)
  · obtain ⟨hk, hn, O⟩ := hI
    rw [compF_st]
    simp [tP, line_ok l5]
    apply use (pick_ok' s g [.int 2, .int 3, .int 10, .int 60, .int 1000000] (by simp) (by simp)) O
    intro v s3 hv O3
    obtain ⟨x, hx, rfl⟩ := hv
    simp
    refine ⟨hk, fun y hy => ?_, O3⟩
    rcases hy with hy | rfl
    · exact hn y hy
    · simp only [List.mem_cons, List.not_mem_nil, or_false] at hx
      rcases hx with rfl | rfl | rfl | rfl | rfl <;> exact nice_int (by decide) (by decide)
  · obtain ⟨hk, hn, O⟩ := hI
    have hlen : (rangeD 0 many).length = many := rangeD_len _ _
    rw [hlen] at hk
    simp [line_ok (show ys.length ≤ sizeLine by omega)]
    exact ⟨⟨ys, rfl, hk, hn⟩, O.fin⟩
theorem tL_draw : c_14.T "_law_draw" = some f_law_draw := by simp [c_14, c_13, c_12, c_11, c_10, c_9, c_8, c_7, c_6, c_5, c_4, Cfg.add]
theorem tL_pick : c_14.T "_law_pick" = some f_law_pick := by simp [c_14, c_13, c_12, c_11, c_10, c_9, c_8, c_7, c_6, c_5, Cfg.add]
theorem tL_bases : c_14.T "_law_bases" = some f_law_bases := by simp [c_14, c_13, c_12, c_11, c_10, c_9, c_8, c_7, c_6, Cfg.add]
theorem tL_right : c_14.T "_law_is_right" = some f_law_is_right := by simp [c_14, Cfg.add]
theorem tL_due : c_14.T "_law_due" = some f_law_due := by simp [c_14, c_13, c_12, Cfg.add]
theorem tL_none : c_14.T "_law_none_does" = some f_law_none_does := by simp [c_14, c_13, c_12, c_11, Cfg.add]
theorem tL_stock : c_14.T "_law_stock" = some f_law_stock := by simp [c_14, c_13, c_12, c_11, c_10, c_9, c_8, c_7, c_6, c_5, c_4, c_3, Cfg.add]
def Inv (x0 : Option D) (B : Sto) (env : Env) (s : Sto) : Prop := ∃ x2 x3 x4 x5, env = [x0, some (.ref 1), x2, x3, x4, x5] ∧ Own Stock B 1 0 s []
def t1 : List PB.St := [.par [3, 4] [(.bin .Add (.cst (.int 1)) (.call "_law_draw" [(.var 1), (.cst (.int 12))])), (.call "_law_pick" [(.var 1), (.lst [(.cst (.str (Str.ofString "down"))), (.cst (.str (Str.ofString "up"))), (.cst (.str (Str.ofString "mirror"))), (.cst (.str (Str.ofString "mirror")))])])],
    .ite (.not (.call "_law_is_right" [(.call "_law_bases" [(.var 1), (.var 3)]), (.bin .Add (.cst (.int 1)) (.call "_law_draw" [(.var 1), (.cst (.int 12))])), (.var 4), (.cmp .Eq (.var 2) (.cst (.int 1)))])) [.ret (.cst (.bool false))] []]
def t2A : PB.St := .par [3, 4] [(.bin .Add (.cst (.int 1)) (.call "_law_draw" [(.var 1), (.cst (.int 4))])), (.call "_law_pick" [(.var 1), (.lst [(.cst (.str (Str.ofString "down"))), (.cst (.str (Str.ofString "up"))), (.cst (.str (Str.ofString "mirror")))])])]
def t2B : PB.St := .set (.one 5) (.ife (.or [(.cmp .Lt (.var 3) (.cst (.int 4))), (.cmp .NotEq (.var 4) (.cst (.str (Str.ofString "mirror"))))]) (.bin .Add (.cst (.int 1)) (.call "_law_draw" [(.var 1), (.cst (.int 4))])) (.bin .Add (.cst (.int 2)) (.call "_law_draw" [(.var 1), (.cst (.int 3))])))
def t2C : PB.St := .ite (.not (.call "_law_none_does" [(.var 3), (.var 5), (.var 4), (.bin .Sub (.call "_law_due" [(.var 3), (.var 5), (.var 4)]) (.cst (.int 1)))])) [.ret (.cst (.bool false))] []
def t2D : PB.St := .ite (.not (.call "_law_is_right" [(.call "_law_bases" [(.var 1), (.var 3)]), (.var 5), (.var 4), (.cst (.bool false))])) [.ret (.cst (.bool false))] []
theorem law_is : b_f_law = [.set (.one 1) (.call "_law_stock" [(.var 0)]), .for (.one 2) .rng [(.cst (.int 9))] t1, .for (.one 2) .rng [(.cst (.int 2))] [t2A, t2B, t2C, t2D], .ret (.cst (.bool true))] := rfl
theorem sa6 (x y : D) (a0 a1 a2 a3 a4 a5 : Option D) : setAll [3, 4] [x, y] [a0, a1, a2, a3, a4, a5] = some [a0, a1, a2, some x, some y, a5] := rfl
theorem way_of {x : PB.P} (h : x = .str (Str.ofString "down") ∨ x = .str (Str.ofString "up") ∨ x = .str (Str.ofString "mirror")) : ∃ w, w < 3 ∧ x = .str (wayS w) := by
  rcases h with rfl | rfl | rfl
  · exact ⟨0, by omega, rfl⟩
  · exact ⟨1, by omega, rfl⟩
  · exact ⟨2, by omega, rfl⟩
theorem turn1_ok {x0 : Option D} {B s : Sto} {env : Env} {i : Nat} (hI : Inv x0 B env s) : Good (turnF c_14 (.one 2) t1 (.int i) env s) fun q s' => q.1 = .nx ∧ Inv x0 B q.2 s' := by
  have l4 : (4 : Nat) ≤ sizeLine := by decide
  obtain ⟨x2, x3, x4, x5, rfl, O⟩ := hI
  rw [turnF_st]
  unfold t1
  simp [tL_draw]
  apply use (draw_ok' 1 0 12 (by decide) (by decide)) O
  intro v s1 hv O1
  obtain ⟨r, rfl, r0, r1⟩ := hv
  obtain ⟨m, hm, m1, m2⟩ : ∃ m : Nat, 1 + r = m ∧ 1 ≤ m ∧ m ≤ 12 := ⟨(1 + r).toNat, by omega, by omega, by omega⟩
  simp [hm, tL_pick, line_ok l4]
  apply use (pick_ok' 1 0 [.str (Str.ofString "down"), .str (Str.ofString "up"), .str (Str.ofString "mirror"), .str (Str.ofString "mirror")] (by simp) (by simp)) O1
  intro v s2 hv O2
  obtain ⟨x, hx, rfl⟩ := hv
  obtain ⟨w, hw, rfl⟩ := way_of (x := x) (by
    simp only [List.mem_cons, List.not_mem_nil, or_false] at hx
    rcases hx with h | h | h | h <;> simp [h])
  simp [sa6, tL_bases, tL_right]
  apply use (bases_ok 1 0 (many := m) (by omega)) O2
  intro v s3 hv O3
  obtain ⟨bs, rfl, bl, bn⟩ := hv
  apply use (draw_ok' 1 0 12 (by decide) (by decide)) O3
  intro v s4 hv O4
  obtain ⟨r', rfl, r0', r1'⟩ := hv
  obtain ⟨p, hp, p1, p2⟩ : ∃ p : Nat, 1 + r' = p ∧ 1 ≤ p ∧ p ≤ 12 := ⟨(1 + r').toNat, by omega, by omega, by omega⟩
  have ir := fun b st => is_right_ok (A := bs) bl bn m1 m2 p1 p2 hw b st
  simp [hp, ir]
  exact ⟨_, _, _, _, rfl, O4⟩
theorem lots_tab : ((List.range 4).all fun a => (List.range 4).all fun b => decide ((allN (a + 1) (b + 1)).length ≤ 6) && (List.range 3).all fun w => decide (1 ≤ dueN (a + 1) (b + 1) w ∧ dueN (a + 1) (b + 1) w ≤ 7)) = true := by decide +kernel
theorem end2 {x0 x2 : Option D} {B s : Sto} {m p w : Nat} (m1 : 1 ≤ m) (m2 : m ≤ 4) (p1 : 1 ≤ p) (p2 : p ≤ 4) (hw : w < 3) (hne : ¬ (m = 4 ∧ w = 2 ∧ p = 1)) (O : Own Stock B 1 0 s []) :
    Good (evSs c_14 [t2C, t2D] [x0, some (.ref 1), x2, some (.p (.int (m : Nat))), some (.p (.str (wayS w))), some (.p (.int (p : Nat)))] s) fun q s' => q.1 = .nx ∧ Inv x0 B q.2 s' := by
  have h := List.all_eq_true.mp lots_tab (m - 1) (List.mem_range.mpr (by omega))
  have h := List.all_eq_true.mp h (p - 1) (List.mem_range.mpr (by omega))
  rw [show m - 1 + 1 = m by omega, show p - 1 + 1 = p by omega, Bool.and_eq_true, decide_eq_true_eq] at h
  have h' := List.all_eq_true.mp h.2 w (List.mem_range.mpr hw)
  rw [decide_eq_true_eq] at h'
  have n := List.all_eq_true.mp none_all (m - 1) (List.mem_range.mpr (by omega))
  have n := List.all_eq_true.mp n (p - 1) (List.mem_range.mpr (by omega))
  have n := List.all_eq_true.mp n w (List.mem_range.mpr hw)
  rw [show m - 1 + 1 = m by omega, show p - 1 + 1 = p by omega, Bool.or_eq_true, decide_eq_true_eq] at n
  have n : noneN m p w (dueN m p w - 1) = true := by
    rcases n with n | n
    · exact absurd (by omega) hne
    · exact n
  have no := fun st => none_ok m1 (by omega) hw h.1 (by omega) n st
  have du := fun st => due_ok (many := m) (most := p) p1 (by omega) (by omega) m1 hw st
  have ir := fun bs bl bn b st => is_right_ok (A := bs) bl bn m1 (by omega : m ≤ 12) p1 (by omega : p ≤ 12) hw b st
  have e : ((dueN m p w : Nat) : Int) - 1 = ((dueN m p w - 1 : Nat) : Int) := by omega
  generalize dueN m p w - 1 = D1 at *
  generalize dueN m p w = D0 at *
  unfold t2C t2D
  simp [tL_due, du, e, tL_none, no, tL_bases, tL_right]
  apply use (bases_ok 1 0 (many := m) (by omega)) O
  intro v s3 hv O3
  obtain ⟨bs, rfl, bl, bn⟩ := hv
  simp [ir bs bl bn]
  exact ⟨_, _, _, _, rfl, O3⟩
end K46
end
end PB
set_option maxRecDepth 100000
set_option maxHeartbeats 2000000
namespace PB
open PySem PySem.Spec PyProof.Rows L2
noncomputable section
namespace K46
theorem turn2_ok {x0 : Option D} {B s : Sto} {env : Env} {i : Nat} (hI : Inv x0 B env s) : Good (turnF c_14 (.one 2) [t2A, t2B, t2C, t2D] (.int i) env s) fun q s' => q.1 = .nx ∧ Inv x0 B q.2 s' := by
  have l3 : (3 : Nat) ≤ sizeLine := by decide
  obtain ⟨x2, x3, x4, x5, rfl, O⟩ := hI
  rw [turnF_st]
  have fin := fun {x2} {s} {m p w : Nat} => @end2 x0 x2 B s m p w
  generalize t2C = TC at *
  generalize t2D = TD at *
  unfold t2A t2B
  simp [tL_draw]
  apply use (draw_ok' 1 0 4 (by decide) (by decide)) O
  intro v s1 hv O1
  obtain ⟨r, rfl, r0, r1⟩ := hv
  obtain ⟨m, hm, m1, m2⟩ : ∃ m : Nat, 1 + r = m ∧ 1 ≤ m ∧ m ≤ 4 := ⟨(1 + r).toNat, by omega, by omega, by omega⟩
  simp [hm, tL_pick, line_ok l3]
  apply use (pick_ok' 1 0 [.str (Str.ofString "down"), .str (Str.ofString "up"), .str (Str.ofString "mirror")] (by simp) (by simp)) O1
  intro v s2 hv O2
  obtain ⟨x, hx, rfl⟩ := hv
  obtain ⟨w, hw, rfl⟩ := way_of (x := x) (by
    simp only [List.mem_cons, List.not_mem_nil, or_false] at hx
    rcases hx with h | h | h <;> simp [h])
  have cw : cmpP .NotEq (.str (wayS w)) (.str (Str.ofString "mirror")) = some (decide (w ≠ 2)) := by
    rcases (show w = 0 ∨ w = 1 ∨ w = 2 by omega) with rfl | rfl | rfl
    · rw [show wayS 0 = Str.ofString "down" from rfl]
      decide +kernel
    · rw [show wayS 1 = Str.ofString "up" from rfl]
      decide +kernel
    · rw [show wayS 2 = Str.ofString "mirror" from rfl]
      decide +kernel
  have fin := fun {x2} {s} {p : Nat} p1 p2 hne O => fin (x2 := x2) (s := s) (m := m) (p := p) (w := w) m1 m2 p1 p2 hw hne O
  generalize hWS : wayS w = WS at *
  by_cases c4 : (m : Int) < 4
  · simp [sa6, c4, tL_draw]
    apply use (draw_ok' 1 0 4 (by decide) (by decide)) O2
    intro v s3 hv O3
    obtain ⟨r', rfl, r0', r1'⟩ := hv
    obtain ⟨p, hp, p1, p2⟩ : ∃ p : Nat, 1 + r' = p ∧ 1 ≤ p ∧ p ≤ 4 := ⟨(1 + r').toNat, by omega, by omega, by omega⟩
    simp [hp]
    rw [← s_cons']
    exact fin p1 p2 (by omega) O3
  · by_cases c2 : w = 2
    · simp [sa6, c4, cw, c2, tL_draw]
      apply use (draw_ok' 1 0 3 (by decide) (by decide)) O2
      intro v s3 hv O3
      obtain ⟨r', rfl, r0', r1'⟩ := hv
      obtain ⟨p, hp, p1, p2⟩ : ∃ p : Nat, 2 + r' = p ∧ 2 ≤ p ∧ p ≤ 4 := ⟨(2 + r').toNat, by omega, by omega, by omega⟩
      simp [hp]
      rw [← s_cons']
      exact fin (by omega) p2 (by omega) O3
    · simp [sa6, c4, cw, c2, tL_draw]
      apply use (draw_ok' 1 0 4 (by decide) (by decide)) O2
      intro v s3 hv O3
      obtain ⟨r', rfl, r0', r1'⟩ := hv
      obtain ⟨p, hp, p1, p2⟩ : ∃ p : Nat, 1 + r' = p ∧ 1 ≤ p ∧ p ≤ 4 := ⟨(1 + r').toNat, by omega, by omega, by omega⟩
      simp [hp]
      rw [← s_cons']
      exact fin p1 p2 (by omega) O3
theorem run_ok (ns : List Int) (h : ns.length ≤ 63) : ∃ st, f_law [.p (.list (ns.map .int))] [] = .ok (.p (.bool true)) st := by
  obtain ⟨st1, e1, S1, _, _⟩ := stock_ok c_2 2346 h []
  have e1 : f_law_stock [.p (.list (ns.map .int))] [] = .ok (.ref 1) st1 := e1
  have S1 : Stock st1 1 0 := S1
  have key : Good (f_law [.p (.list (ns.map .int))] []) (fun v _ => v = .p (.bool true)) := by
    unfold f_law
    rw [runF_st, law_is]
    have ht1 := fun {B s env i} hI => @turn1_ok (some (.p (.list (ns.map .int)))) B s env i hI
    have ht2 := fun {B s env i} hI => @turn2_ok (some (.p (.list (ns.map .int)))) B s env i hI
    generalize t1 = T1 at *
    generalize [t2A, t2B, t2C, t2D] = T2 at *
    simp [tL_stock, e1, src_rng1 (show -(2 ^ 62) ≤ (9 : Int) ∧ (9 : Int) < 2 ^ 62 by omega)]
    refine good_for (fun _ env s => Inv (some (.p (.list (ns.map .int)))) st1 env s) (fun _ _ => False) (k := 0) ⟨none, none, none, none, rfl, Own.init S1⟩ (fun _ _ _ _ => trivial) (fun i d hd env s hI => ?_) (fun env s hI => ?_) (fun _ _ _ h => h.elim)
    · obtain ⟨hi, rfl⟩ := rangeD_get hd
      rw [show (0 : Int) + i = i by omega]
      refine good_mono (ht1 hI) fun q s' h => ?_
      obtain ⟨f, e⟩ := q
      obtain ⟨h1, h2⟩ := h
      dsimp only at h1
      subst h1
      exact h2
    · obtain ⟨x2, x3, x4, x5, rfl, O⟩ := hI
      simp [src_rng1 (show -(2 ^ 62) ≤ (2 : Int) ∧ (2 : Int) < 2 ^ 62 by omega)]
      refine good_for (fun _ env s => Inv (some (.p (.list (ns.map .int)))) st1 env s) (fun _ _ => False) (k := 0) ⟨x2, x3, x4, x5, rfl, O⟩ (fun _ _ _ _ => trivial) (fun i d hd env s hI => ?_) (fun env s hI => ?_) (fun _ _ _ h => h.elim)
      · obtain ⟨hi, rfl⟩ := rangeD_get hd
        rw [show (0 : Int) + i = i by omega]
        refine good_mono (ht2 hI) fun q s' h => ?_
        obtain ⟨f, e⟩ := q
        obtain ⟨h1, h2⟩ := h
        dsimp only at h1
        subst h1
        exact h2
      · obtain ⟨y2, y3, y4, y5, rfl, O2⟩ := hI
        simp
  obtain ⟨v, st, e, rfl⟩ := good_run key
  exact ⟨st, e⟩
end K46
end
end PB
namespace PB.K46
open PySem PySem.Spec PyProof.Rows L2
set_option maxRecDepth 100000
set_option maxHeartbeats 4000000
def topS (i : Nat) : Stmt := PySem.Challenge.pw_tornreads_k46_whole_fewest_lots.main.body.getD i (.Pass ⟨0, 0, 0, 0⟩)
abbrev s_f_lots_for : Stmt := topS 1
abbrev s_f_fewest_lots : Stmt := topS 2
abbrev s_f_law_stock : Stmt := topS 4
abbrev s_f_law_draw : Stmt := topS 5
abbrev s_f_law_pick : Stmt := topS 6
abbrev s_f_law_bases : Stmt := topS 7
abbrev s_f_law_rungs : Stmt := topS 8
abbrev s_f_law_served : Stmt := topS 9
abbrev s_f_law_has : Stmt := topS 10
abbrev s_f_law_lots : Stmt := topS 11
abbrev s_f_law_none_does : Stmt := topS 12
abbrev s_f_law_due : Stmt := topS 13
abbrev s_f_law_is_row : Stmt := topS 14
abbrev s_f_law_is_right : Stmt := topS 15
abbrev s_f_law : Stmt := topS 16
theorem sc_f_lots_for : FnScope ["counter", "most", "want", "lots", "top"] ["counter", "most", "want"] (defScope s_f_lots_for) := ⟨rfl, rfl, rfl, by decide +kernel, rfl, by decide +kernel, by decide +kernel⟩
theorem sc_f_fewest_lots : FnScope ["counter", "most", "want"] ["counter", "most", "want"] (defScope s_f_fewest_lots) := ⟨rfl, rfl, rfl, by decide +kernel, rfl, by decide +kernel, by decide +kernel⟩
theorem sc_f_law_stock : FnScope ["script", "flat", "cell"] ["script"] (defScope s_f_law_stock) := ⟨rfl, rfl, rfl, by decide +kernel, rfl, by decide +kernel, by decide +kernel⟩
theorem sc_f_law_draw : FnScope ["stock", "size", "great", "turn", "cell", "blend"] ["stock", "size"] (defScope s_f_law_draw) := ⟨rfl, rfl, rfl, by decide +kernel, rfl, by decide +kernel, by decide +kernel⟩
theorem sc_f_law_pick : FnScope ["stock", "row"] ["stock", "row"] (defScope s_f_law_pick) := ⟨rfl, rfl, rfl, by decide +kernel, rfl, by decide +kernel, by decide +kernel⟩
theorem sc_f_law_bases : FnScope ["stock", "many", "place"] ["stock", "many"] (defScope s_f_law_bases) := ⟨rfl, rfl, rfl, by decide +kernel, rfl, by decide +kernel, by decide +kernel⟩
theorem sc_f_law_rungs : FnScope ["many", "want", "down", "up"] ["many", "want"] (defScope s_f_law_rungs) := ⟨rfl, rfl, rfl, by decide +kernel, rfl, by decide +kernel, by decide +kernel⟩
theorem sc_f_law_served : FnScope ["rungs", "stand", "lot", "found", "row", "far"] ["rungs", "stand", "lot"] (defScope s_f_law_served) := ⟨rfl, rfl, rfl, by decide +kernel, rfl, by decide +kernel, by decide +kernel⟩
theorem sc_f_law_has : FnScope ["many", "row", "want", "rungs", "stand", "lot", "own"] ["many", "row", "want"] (defScope s_f_law_has) := ⟨rfl, rfl, rfl, by decide +kernel, rfl, by decide +kernel, by decide +kernel⟩
theorem sc_f_law_lots : FnScope ["many", "most", "found", "place", "lot"] ["many", "most"] (defScope s_f_law_lots) := ⟨rfl, rfl, rfl, by decide +kernel, rfl, by decide +kernel, by decide +kernel⟩
theorem sc_f_law_none_does : FnScope ["many", "most", "want", "reads", "lots", "rows", "turn", "longer", "row", "lot"] ["many", "most", "want", "reads"] (defScope s_f_law_none_does) := ⟨rfl, rfl, rfl, by decide +kernel, rfl, by decide +kernel, by decide +kernel⟩
theorem sc_f_law_due : FnScope ["many", "most", "want", "least"] ["many", "most", "want"] (defScope s_f_law_due) := ⟨rfl, rfl, rfl, by decide +kernel, rfl, by decide +kernel, by decide +kernel⟩
theorem sc_f_law_is_row : FnScope ["many", "most", "value", "lot", "place"] ["many", "most", "value"] (defScope s_f_law_is_row) := ⟨rfl, rfl, rfl, by decide +kernel, rfl, by decide +kernel, by decide +kernel⟩
theorem sc_f_law_is_right : FnScope ["counter", "most", "want", "is_named", "many", "known", "due", "told", "row"] ["counter", "most", "want", "is_named"] (defScope s_f_law_is_right) := ⟨rfl, rfl, rfl, by decide +kernel, rfl, by decide +kernel, by decide +kernel⟩
theorem sc_f_law : FnScope ["script", "stock", "turn", "many", "want", "most"] ["script"] (defScope s_f_law) := ⟨rfl, rfl, rfl, by decide +kernel, rfl, by decide +kernel, by decide +kernel⟩
theorem chk_f_lots_for : chkSs c_0 gT ["counter", "most", "want", "lots", "top"] (defScope s_f_lots_for) (fun _ => true) b_f_lots_for (defBody s_f_lots_for) = true := by decide +kernel
theorem chk_f_fewest_lots : chkSs c_1 gT ["counter", "most", "want"] (defScope s_f_fewest_lots) (fun _ => true) b_f_fewest_lots (defBody s_f_fewest_lots) = true := by decide +kernel
theorem chk_f_law_stock : chkSs c_2 gT ["script", "flat", "cell"] (defScope s_f_law_stock) (fun _ => true) b_f_law_stock (defBody s_f_law_stock) = true := by decide +kernel
theorem chk_f_law_draw : chkSs c_3 gT ["stock", "size", "great", "turn", "cell", "blend"] (defScope s_f_law_draw) (fun _ => true) b_f_law_draw (defBody s_f_law_draw) = true := by decide +kernel
theorem chk_f_law_pick : chkSs c_4 gT ["stock", "row"] (defScope s_f_law_pick) (fun _ => true) b_f_law_pick (defBody s_f_law_pick) = true := by decide +kernel
theorem chk_f_law_bases : chkSs c_5 gT ["stock", "many", "place"] (defScope s_f_law_bases) (fun _ => true) b_f_law_bases (defBody s_f_law_bases) = true := by decide +kernel
theorem chk_f_law_rungs : chkSs c_6 gT ["many", "want", "down", "up"] (defScope s_f_law_rungs) (fun _ => true) b_f_law_rungs (defBody s_f_law_rungs) = true := by decide +kernel
theorem chk_f_law_served : chkSs c_7 gT ["rungs", "stand", "lot", "found", "row", "far"] (defScope s_f_law_served) (fun _ => true) b_f_law_served (defBody s_f_law_served) = true := by decide +kernel
theorem chk_f_law_has : chkSs c_8 gT ["many", "row", "want", "rungs", "stand", "lot", "own"] (defScope s_f_law_has) (fun _ => true) b_f_law_has (defBody s_f_law_has) = true := by decide +kernel
theorem chk_f_law_lots : chkSs c_9 gT ["many", "most", "found", "place", "lot"] (defScope s_f_law_lots) (fun _ => true) b_f_law_lots (defBody s_f_law_lots) = true := by decide +kernel
theorem chk_f_law_none_does : chkSs c_10 gT ["many", "most", "want", "reads", "lots", "rows", "turn", "longer", "row", "lot"] (defScope s_f_law_none_does) (fun _ => true) b_f_law_none_does (defBody s_f_law_none_does) = true := by decide +kernel
theorem chk_f_law_due : chkSs c_11 gT ["many", "most", "want", "least"] (defScope s_f_law_due) (fun _ => true) b_f_law_due (defBody s_f_law_due) = true := by decide +kernel
theorem chk_f_law_is_row : chkSs c_12 gT ["many", "most", "value", "lot", "place"] (defScope s_f_law_is_row) (fun _ => true) b_f_law_is_row (defBody s_f_law_is_row) = true := by decide +kernel
theorem chk_f_law_is_right : chkSs c_13 gT ["counter", "most", "want", "is_named", "many", "known", "due", "told", "row"] (defScope s_f_law_is_right) (fun _ => true) b_f_law_is_right (defBody s_f_law_is_right) = true := by decide +kernel
theorem chk_f_law : chkSs c_14 gT ["script", "stock", "turn", "many", "want", "most"] (defScope s_f_law) (fun _ => true) b_f_law (defBody s_f_law) = true := by decide +kernel
theorem all_mk {Pg : Program} {w : World} {K : PySem.W.Frag} {h : Heap} {mg : Str → Option Value} {fa : Addr} (X : K.In h) (G : h.Ns mainGlobals mg) (hfa : mg "law" = some (.ref fa))
    {f0 : Addr} {od0 an0 : Option Addr} {sl0 : Array (Option Value)} {oc0 kV0 dc0 pm0 cd0 ct0 : Value}
    {f1 : Addr} {od1 an1 : Option Addr} {sl1 : Array (Option Value)} {oc1 kV1 dc1 pm1 cd1 ct1 : Value}
    {f2 : Addr} {od2 an2 : Option Addr} {sl2 : Array (Option Value)} {oc2 kV2 dc2 pm2 cd2 ct2 : Value}
    {f3 : Addr} {od3 an3 : Option Addr} {sl3 : Array (Option Value)} {oc3 kV3 dc3 pm3 cd3 ct3 : Value}
    {f4 : Addr} {od4 an4 : Option Addr} {sl4 : Array (Option Value)} {oc4 kV4 dc4 pm4 cd4 ct4 : Value}
    {f5 : Addr} {od5 an5 : Option Addr} {sl5 : Array (Option Value)} {oc5 kV5 dc5 pm5 cd5 ct5 : Value}
    {f6 : Addr} {od6 an6 : Option Addr} {sl6 : Array (Option Value)} {oc6 kV6 dc6 pm6 cd6 ct6 : Value}
    {f7 : Addr} {od7 an7 : Option Addr} {sl7 : Array (Option Value)} {oc7 kV7 dc7 pm7 cd7 ct7 : Value}
    {f8 : Addr} {od8 an8 : Option Addr} {sl8 : Array (Option Value)} {oc8 kV8 dc8 pm8 cd8 ct8 : Value}
    {f9 : Addr} {od9 an9 : Option Addr} {sl9 : Array (Option Value)} {oc9 kV9 dc9 pm9 cd9 ct9 : Value}
    {f10 : Addr} {od10 an10 : Option Addr} {sl10 : Array (Option Value)} {oc10 kV10 dc10 pm10 cd10 ct10 : Value}
    {f11 : Addr} {od11 an11 : Option Addr} {sl11 : Array (Option Value)} {oc11 kV11 dc11 pm11 cd11 ct11 : Value}
    {f12 : Addr} {od12 an12 : Option Addr} {sl12 : Array (Option Value)} {oc12 kV12 dc12 pm12 cd12 ct12 : Value}
    {f13 : Addr} {od13 an13 : Option Addr} {sl13 : Array (Option Value)} {oc13 kV13 dc13 pm13 cd13 ct13 : Value}
    {f14 : Addr} {od14 an14 : Option Addr} {sl14 : Array (Option Value)} {oc14 kV14 dc14 pm14 cd14 ct14 : Value}
    (a0 : PySem.W.nsIn K mainGlobals "lots_for" = some (some (.ref f0))) (l0 : K.lookup f0 = some ⟨oc0, od0, .func (PySem.W.fnOf "lots_for" "lots_for" (defArgs s_f_lots_for) (defBody s_f_lots_for) (defScope s_f_lots_for) .none kV0 dc0 pm0 an0 cd0 ct0), sl0⟩) (e0 : PySem.W.codeIn K cd0 "lots_for" = true) (k0 : PySem.W.keepIn K (.ref f0) = true)
    (a1 : PySem.W.nsIn K mainGlobals "fewest_lots" = some (some (.ref f1))) (l1 : K.lookup f1 = some ⟨oc1, od1, .func (PySem.W.fnOf "fewest_lots" "fewest_lots" (defArgs s_f_fewest_lots) (defBody s_f_fewest_lots) (defScope s_f_fewest_lots) .none kV1 dc1 pm1 an1 cd1 ct1), sl1⟩) (e1 : PySem.W.codeIn K cd1 "fewest_lots" = true) (k1 : PySem.W.keepIn K (.ref f1) = true)
    (a2 : PySem.W.nsIn K mainGlobals "_law_stock" = some (some (.ref f2))) (l2 : K.lookup f2 = some ⟨oc2, od2, .func (PySem.W.fnOf "_law_stock" "_law_stock" (defArgs s_f_law_stock) (defBody s_f_law_stock) (defScope s_f_law_stock) .none kV2 dc2 pm2 an2 cd2 ct2), sl2⟩) (e2 : PySem.W.codeIn K cd2 "_law_stock" = true) (k2 : PySem.W.keepIn K (.ref f2) = true)
    (a3 : PySem.W.nsIn K mainGlobals "_law_draw" = some (some (.ref f3))) (l3 : K.lookup f3 = some ⟨oc3, od3, .func (PySem.W.fnOf "_law_draw" "_law_draw" (defArgs s_f_law_draw) (defBody s_f_law_draw) (defScope s_f_law_draw) .none kV3 dc3 pm3 an3 cd3 ct3), sl3⟩) (e3 : PySem.W.codeIn K cd3 "_law_draw" = true) (k3 : PySem.W.keepIn K (.ref f3) = true)
    (a4 : PySem.W.nsIn K mainGlobals "_law_pick" = some (some (.ref f4))) (l4 : K.lookup f4 = some ⟨oc4, od4, .func (PySem.W.fnOf "_law_pick" "_law_pick" (defArgs s_f_law_pick) (defBody s_f_law_pick) (defScope s_f_law_pick) .none kV4 dc4 pm4 an4 cd4 ct4), sl4⟩) (e4 : PySem.W.codeIn K cd4 "_law_pick" = true) (k4 : PySem.W.keepIn K (.ref f4) = true)
    (a5 : PySem.W.nsIn K mainGlobals "_law_bases" = some (some (.ref f5))) (l5 : K.lookup f5 = some ⟨oc5, od5, .func (PySem.W.fnOf "_law_bases" "_law_bases" (defArgs s_f_law_bases) (defBody s_f_law_bases) (defScope s_f_law_bases) .none kV5 dc5 pm5 an5 cd5 ct5), sl5⟩) (e5 : PySem.W.codeIn K cd5 "_law_bases" = true) (k5 : PySem.W.keepIn K (.ref f5) = true)
    (a6 : PySem.W.nsIn K mainGlobals "_law_rungs" = some (some (.ref f6))) (l6 : K.lookup f6 = some ⟨oc6, od6, .func (PySem.W.fnOf "_law_rungs" "_law_rungs" (defArgs s_f_law_rungs) (defBody s_f_law_rungs) (defScope s_f_law_rungs) .none kV6 dc6 pm6 an6 cd6 ct6), sl6⟩) (e6 : PySem.W.codeIn K cd6 "_law_rungs" = true) (k6 : PySem.W.keepIn K (.ref f6) = true)
    (a7 : PySem.W.nsIn K mainGlobals "_law_served" = some (some (.ref f7))) (l7 : K.lookup f7 = some ⟨oc7, od7, .func (PySem.W.fnOf "_law_served" "_law_served" (defArgs s_f_law_served) (defBody s_f_law_served) (defScope s_f_law_served) .none kV7 dc7 pm7 an7 cd7 ct7), sl7⟩) (e7 : PySem.W.codeIn K cd7 "_law_served" = true) (k7 : PySem.W.keepIn K (.ref f7) = true)
    (a8 : PySem.W.nsIn K mainGlobals "_law_has" = some (some (.ref f8))) (l8 : K.lookup f8 = some ⟨oc8, od8, .func (PySem.W.fnOf "_law_has" "_law_has" (defArgs s_f_law_has) (defBody s_f_law_has) (defScope s_f_law_has) .none kV8 dc8 pm8 an8 cd8 ct8), sl8⟩) (e8 : PySem.W.codeIn K cd8 "_law_has" = true) (k8 : PySem.W.keepIn K (.ref f8) = true)
    (a9 : PySem.W.nsIn K mainGlobals "_law_lots" = some (some (.ref f9))) (l9 : K.lookup f9 = some ⟨oc9, od9, .func (PySem.W.fnOf "_law_lots" "_law_lots" (defArgs s_f_law_lots) (defBody s_f_law_lots) (defScope s_f_law_lots) .none kV9 dc9 pm9 an9 cd9 ct9), sl9⟩) (e9 : PySem.W.codeIn K cd9 "_law_lots" = true) (k9 : PySem.W.keepIn K (.ref f9) = true)
    (a10 : PySem.W.nsIn K mainGlobals "_law_none_does" = some (some (.ref f10))) (l10 : K.lookup f10 = some ⟨oc10, od10, .func (PySem.W.fnOf "_law_none_does" "_law_none_does" (defArgs s_f_law_none_does) (defBody s_f_law_none_does) (defScope s_f_law_none_does) .none kV10 dc10 pm10 an10 cd10 ct10), sl10⟩) (e10 : PySem.W.codeIn K cd10 "_law_none_does" = true) (k10 : PySem.W.keepIn K (.ref f10) = true)
    (a11 : PySem.W.nsIn K mainGlobals "_law_due" = some (some (.ref f11))) (l11 : K.lookup f11 = some ⟨oc11, od11, .func (PySem.W.fnOf "_law_due" "_law_due" (defArgs s_f_law_due) (defBody s_f_law_due) (defScope s_f_law_due) .none kV11 dc11 pm11 an11 cd11 ct11), sl11⟩) (e11 : PySem.W.codeIn K cd11 "_law_due" = true) (k11 : PySem.W.keepIn K (.ref f11) = true)
    (a12 : PySem.W.nsIn K mainGlobals "_law_is_row" = some (some (.ref f12))) (l12 : K.lookup f12 = some ⟨oc12, od12, .func (PySem.W.fnOf "_law_is_row" "_law_is_row" (defArgs s_f_law_is_row) (defBody s_f_law_is_row) (defScope s_f_law_is_row) .none kV12 dc12 pm12 an12 cd12 ct12), sl12⟩) (e12 : PySem.W.codeIn K cd12 "_law_is_row" = true) (k12 : PySem.W.keepIn K (.ref f12) = true)
    (a13 : PySem.W.nsIn K mainGlobals "_law_is_right" = some (some (.ref f13))) (l13 : K.lookup f13 = some ⟨oc13, od13, .func (PySem.W.fnOf "_law_is_right" "_law_is_right" (defArgs s_f_law_is_right) (defBody s_f_law_is_right) (defScope s_f_law_is_right) .none kV13 dc13 pm13 an13 cd13 ct13), sl13⟩) (e13 : PySem.W.codeIn K cd13 "_law_is_right" = true) (k13 : PySem.W.keepIn K (.ref f13) = true)
    (a14 : PySem.W.nsIn K mainGlobals "law" = some (some (.ref f14))) (l14 : K.lookup f14 = some ⟨oc14, od14, .func (PySem.W.fnOf "law" "law" (defArgs s_f_law) (defBody s_f_law) (defScope s_f_law) .none kV14 dc14 pm14 an14 cd14 ct14), sl14⟩) (e14 : PySem.W.codeIn K cd14 "law" = true) (k14 : PySem.W.keepIn K (.ref f14) = true)
    (z0 : PySem.W.nsIn K mainGlobals "len" = some none) (z1 : PySem.W.nsIn K mainGlobals "tuple" = some none) (z2 : PySem.W.nsIn K mainGlobals "list" = some none) (z3 : PySem.W.nsIn K mainGlobals "int" = some none) (z4 : PySem.W.nsIn K mainGlobals "abs" = some none) (z5 : PySem.W.nsIn K mainGlobals "sum" = some none) (z6 : PySem.W.nsIn K mainGlobals "repr" = some none) (z7 : PySem.W.nsIn K mainGlobals "str" = some none) (z8 : PySem.W.nsIn K mainGlobals "min" = some none) (z9 : PySem.W.nsIn K mainGlobals "max" = some none) (z10 : PySem.W.nsIn K mainGlobals "sorted" = some none) (z11 : PySem.W.nsIn K mainGlobals "all" = some none) (z12 : PySem.W.nsIn K mainGlobals "any" = some none) (z13 : PySem.W.nsIn K mainGlobals "bool" = some none) (z14 : PySem.W.nsIn K mainGlobals "dict" = some none) (z15 : PySem.W.nsIn K mainGlobals "isinstance" = some none) (z16 : PySem.W.nsIn K mainGlobals "range" = some none) (z17 : PySem.W.nsIn K mainGlobals "enumerate" = some none) (z18 : PySem.W.nsIn K mainGlobals "zip" = some none) (z19 : PySem.W.nsIn K mainGlobals "reversed" = some none) (z20 : PySem.W.nsIn K mainGlobals "set" = some none)
    : ∃ fd : FuncData, (∀ (s : Shared) (v : Value), BindsTo s fd ⟨[v], []⟩ [("script", v)]) ∧ ∀ base : Heap, K.In base → base.Ns mainGlobals mg → (∀ x c P, x ∈ gnx → PySem.W.tabIn K x = some (c, P) → GxR.TabB base mg c P) → FnG Pg w K mg base 15 fa fd ["script"] f_law := by
  have e := hfa.symm.trans (PySem.W.mg_of X G a14)
  cases e
  refine ⟨PySem.W.fnOf "law" "law" (defArgs s_f_law) (defBody s_f_law) (defScope s_f_law) .none kV14 dc14 pm14 an14 cd14 ct14, fun s v => .of_eq rfl, fun base _ _ hTB => ?_⟩
  have bl : ∀ x ∈ bifNames ++ tyNames ++ ["isinstance", "range", "enumerate", "zip", "reversed", "set"], mg (Str.ofString x) = none := by
    intro x hx
    simp only [bifNames, tyNames, List.cons_append, List.nil_append, List.mem_cons, List.not_mem_nil, or_false] at hx
    rcases hx with rfl | rfl | rfl | rfl | rfl | rfl | rfl | rfl | rfl | rfl | rfl | rfl | rfl | rfl | rfl | rfl | rfl | rfl | rfl | rfl | rfl | rfl | rfl | rfl | rfl
    · exact PySem.W.mg_none_of X G z0
    · exact PySem.W.mg_none_of X G z1
    · exact PySem.W.mg_none_of X G z2
    · exact PySem.W.mg_none_of X G z3
    · exact PySem.W.mg_none_of X G z4
    · exact PySem.W.mg_none_of X G z5
    · exact PySem.W.mg_none_of X G z6
    · exact PySem.W.mg_none_of X G z7
    · exact PySem.W.mg_none_of X G z8
    · exact PySem.W.mg_none_of X G z9
    · exact PySem.W.mg_none_of X G z10
    · exact PySem.W.mg_none_of X G z11
    · exact PySem.W.mg_none_of X G z12
    · exact PySem.W.mg_none_of X G z3
    · exact PySem.W.mg_none_of X G z13
    · exact PySem.W.mg_none_of X G z7
    · exact PySem.W.mg_none_of X G z2
    · exact PySem.W.mg_none_of X G z1
    · exact PySem.W.mg_none_of X G z14
    · exact PySem.W.mg_none_of X G z15
    · exact PySem.W.mg_none_of X G z16
    · exact PySem.W.mg_none_of X G z17
    · exact PySem.W.mg_none_of X G z18
    · exact PySem.W.mg_none_of X G z19
    · exact PySem.W.mg_none_of X G z20
  have gb0 : Glb Pg w K mg base 0 c_0 gT := by
    refine ⟨fun f m z => (by cases z), fun x d hx => ?_, bl, fun x b hx => ?_⟩
    · exact absurd hx (by simp [gT])
    · cases hx
  have F0 : FnG Pg w K mg base 1 f0 (PySem.W.fnOf "lots_for" "lots_for" (defArgs s_f_lots_for) (defBody s_f_lots_for) (defScope s_f_lots_for) .none kV0 dc0 pm0 an0 cd0 ct0) ["counter", "most", "want"] f_lots_for := fn_G true gb0 l0 e0 (fun z => absurd (show false = true from z) Bool.false_ne_true) sc_f_lots_for chk_f_lots_for
  have B0 := (fun_mk (st := s_f_lots_for) l0 e0 k0).binds (ps := ["counter", "most", "want"]) fun _ _ _ _ _ _ us hl => match us, hl with | [_, _, _], _ => rfl
  have gb1 : Glb Pg w K mg base 1 c_1 gT := gb0.add (PySem.W.mg_of X G a0) k0 rfl B0 F0 (by
    intro n ks π hin
    simp [c_0, kwT, Cfg.add] at hin
    rcases hin with ⟨rfl, rfl, rfl⟩
    · exact ⟨rfl, by decide, fun s us ws hK hu hw => match us, ws, hu, hw with | [], [_, _, _], _, _ => .of_eq rfl⟩
    )
  have F1 : FnG Pg w K mg base 2 f1 (PySem.W.fnOf "fewest_lots" "fewest_lots" (defArgs s_f_fewest_lots) (defBody s_f_fewest_lots) (defScope s_f_fewest_lots) .none kV1 dc1 pm1 an1 cd1 ct1) ["counter", "most", "want"] f_fewest_lots := fn_G true gb1 l1 e1 (fun z => absurd (show false = true from z) Bool.false_ne_true) sc_f_fewest_lots chk_f_fewest_lots
  have B1 := (fun_mk (st := s_f_fewest_lots) l1 e1 k1).binds (ps := ["counter", "most", "want"]) fun _ _ _ _ _ _ us hl => match us, hl with | [_, _, _], _ => rfl
  have gb2 : Glb Pg w K mg base 2 c_2 gT := gb1.add (PySem.W.mg_of X G a1) k1 rfl B1 F1 (by
    intro n ks π hin
    simp [c_0, kwT, Cfg.add, c_1] at hin
    rcases hin with ⟨rfl, rfl, rfl⟩
    · exact ⟨rfl, by decide, fun s us ws hK hu hw => match us, ws, hu, hw with | [], [_, _, _], _, _ => .of_eq rfl⟩
    )
  have F2 : FnG Pg w K mg base 3 f2 (PySem.W.fnOf "_law_stock" "_law_stock" (defArgs s_f_law_stock) (defBody s_f_law_stock) (defScope s_f_law_stock) .none kV2 dc2 pm2 an2 cd2 ct2) ["script"] f_law_stock := fn_G false gb2 l2 e2 (fun z => absurd (show false = true from z) Bool.false_ne_true) sc_f_law_stock chk_f_law_stock
  have B2 := (fun_mk (st := s_f_law_stock) l2 e2 k2).binds (ps := ["script"]) fun _ _ _ _ _ _ us hl => match us, hl with | [_], _ => rfl
  have gb3 : Glb Pg w K mg base 3 c_3 gT := gb2.add (PySem.W.mg_of X G a2) k2 rfl B2 F2 (by
    intro n ks π hin
    simp [c_0, kwT, Cfg.add, c_1, c_2] at hin
    )
  have F3 : FnG Pg w K mg base 4 f3 (PySem.W.fnOf "_law_draw" "_law_draw" (defArgs s_f_law_draw) (defBody s_f_law_draw) (defScope s_f_law_draw) .none kV3 dc3 pm3 an3 cd3 ct3) ["stock", "size"] f_law_draw := fn_G true gb3 l3 e3 (fun z => absurd (show false = true from z) Bool.false_ne_true) sc_f_law_draw chk_f_law_draw
  have B3 := (fun_mk (st := s_f_law_draw) l3 e3 k3).binds (ps := ["stock", "size"]) fun _ _ _ _ _ _ us hl => match us, hl with | [_, _], _ => rfl
  have gb4 : Glb Pg w K mg base 4 c_4 gT := gb3.add (PySem.W.mg_of X G a3) k3 rfl B3 F3 (by
    intro n ks π hin
    simp [c_0, kwT, Cfg.add, c_1, c_2, c_3] at hin
    )
  have F4 : FnG Pg w K mg base 5 f4 (PySem.W.fnOf "_law_pick" "_law_pick" (defArgs s_f_law_pick) (defBody s_f_law_pick) (defScope s_f_law_pick) .none kV4 dc4 pm4 an4 cd4 ct4) ["stock", "row"] f_law_pick := fn_G true gb4 l4 e4 (fun z => absurd (show false = true from z) Bool.false_ne_true) sc_f_law_pick chk_f_law_pick
  have B4 := (fun_mk (st := s_f_law_pick) l4 e4 k4).binds (ps := ["stock", "row"]) fun _ _ _ _ _ _ us hl => match us, hl with | [_, _], _ => rfl
  have gb5 : Glb Pg w K mg base 5 c_5 gT := gb4.add (PySem.W.mg_of X G a4) k4 rfl B4 F4 (by
    intro n ks π hin
    simp [c_0, kwT, Cfg.add, c_1, c_2, c_3, c_4] at hin
    )
  have F5 : FnG Pg w K mg base 6 f5 (PySem.W.fnOf "_law_bases" "_law_bases" (defArgs s_f_law_bases) (defBody s_f_law_bases) (defScope s_f_law_bases) .none kV5 dc5 pm5 an5 cd5 ct5) ["stock", "many"] f_law_bases := fn_G true gb5 l5 e5 (fun z => absurd (show false = true from z) Bool.false_ne_true) sc_f_law_bases chk_f_law_bases
  have B5 := (fun_mk (st := s_f_law_bases) l5 e5 k5).binds (ps := ["stock", "many"]) fun _ _ _ _ _ _ us hl => match us, hl with | [_, _], _ => rfl
  have gb6 : Glb Pg w K mg base 6 c_6 gT := gb5.add (PySem.W.mg_of X G a5) k5 rfl B5 F5 (by
    intro n ks π hin
    simp [c_0, kwT, Cfg.add, c_1, c_2, c_3, c_4, c_5] at hin
    )
  have F6 : FnG Pg w K mg base 7 f6 (PySem.W.fnOf "_law_rungs" "_law_rungs" (defArgs s_f_law_rungs) (defBody s_f_law_rungs) (defScope s_f_law_rungs) .none kV6 dc6 pm6 an6 cd6 ct6) ["many", "want"] f_law_rungs := fn_G true gb6 l6 e6 (fun z => absurd (show false = true from z) Bool.false_ne_true) sc_f_law_rungs chk_f_law_rungs
  have B6 := (fun_mk (st := s_f_law_rungs) l6 e6 k6).binds (ps := ["many", "want"]) fun _ _ _ _ _ _ us hl => match us, hl with | [_, _], _ => rfl
  have gb7 : Glb Pg w K mg base 7 c_7 gT := gb6.add (PySem.W.mg_of X G a6) k6 rfl B6 F6 (by
    intro n ks π hin
    simp [c_0, kwT, Cfg.add, c_1, c_2, c_3, c_4, c_5, c_6] at hin
    )
  have F7 : FnG Pg w K mg base 8 f7 (PySem.W.fnOf "_law_served" "_law_served" (defArgs s_f_law_served) (defBody s_f_law_served) (defScope s_f_law_served) .none kV7 dc7 pm7 an7 cd7 ct7) ["rungs", "stand", "lot"] f_law_served := fn_G true gb7 l7 e7 (fun z => absurd (show false = true from z) Bool.false_ne_true) sc_f_law_served chk_f_law_served
  have B7 := (fun_mk (st := s_f_law_served) l7 e7 k7).binds (ps := ["rungs", "stand", "lot"]) fun _ _ _ _ _ _ us hl => match us, hl with | [_, _, _], _ => rfl
  have gb8 : Glb Pg w K mg base 8 c_8 gT := gb7.add (PySem.W.mg_of X G a7) k7 rfl B7 F7 (by
    intro n ks π hin
    simp [c_0, kwT, Cfg.add, c_1, c_2, c_3, c_4, c_5, c_6, c_7] at hin
    )
  have F8 : FnG Pg w K mg base 9 f8 (PySem.W.fnOf "_law_has" "_law_has" (defArgs s_f_law_has) (defBody s_f_law_has) (defScope s_f_law_has) .none kV8 dc8 pm8 an8 cd8 ct8) ["many", "row", "want"] f_law_has := fn_G true gb8 l8 e8 (fun z => absurd (show false = true from z) Bool.false_ne_true) sc_f_law_has chk_f_law_has
  have B8 := (fun_mk (st := s_f_law_has) l8 e8 k8).binds (ps := ["many", "row", "want"]) fun _ _ _ _ _ _ us hl => match us, hl with | [_, _, _], _ => rfl
  have gb9 : Glb Pg w K mg base 9 c_9 gT := gb8.add (PySem.W.mg_of X G a8) k8 rfl B8 F8 (by
    intro n ks π hin
    simp [c_0, kwT, Cfg.add, c_1, c_2, c_3, c_4, c_5, c_6, c_7, c_8] at hin
    )
  have F9 : FnG Pg w K mg base 10 f9 (PySem.W.fnOf "_law_lots" "_law_lots" (defArgs s_f_law_lots) (defBody s_f_law_lots) (defScope s_f_law_lots) .none kV9 dc9 pm9 an9 cd9 ct9) ["many", "most"] f_law_lots := fn_G true gb9 l9 e9 (fun z => absurd (show false = true from z) Bool.false_ne_true) sc_f_law_lots chk_f_law_lots
  have B9 := (fun_mk (st := s_f_law_lots) l9 e9 k9).binds (ps := ["many", "most"]) fun _ _ _ _ _ _ us hl => match us, hl with | [_, _], _ => rfl
  have gb10 : Glb Pg w K mg base 10 c_10 gT := gb9.add (PySem.W.mg_of X G a9) k9 rfl B9 F9 (by
    intro n ks π hin
    simp [c_0, kwT, Cfg.add, c_1, c_2, c_3, c_4, c_5, c_6, c_7, c_8, c_9] at hin
    )
  have F10 : FnG Pg w K mg base 11 f10 (PySem.W.fnOf "_law_none_does" "_law_none_does" (defArgs s_f_law_none_does) (defBody s_f_law_none_does) (defScope s_f_law_none_does) .none kV10 dc10 pm10 an10 cd10 ct10) ["many", "most", "want", "reads"] f_law_none_does := fn_G true gb10 l10 e10 (fun z => absurd (show false = true from z) Bool.false_ne_true) sc_f_law_none_does chk_f_law_none_does
  have B10 := (fun_mk (st := s_f_law_none_does) l10 e10 k10).binds (ps := ["many", "most", "want", "reads"]) fun _ _ _ _ _ _ us hl => match us, hl with | [_, _, _, _], _ => rfl
  have gb11 : Glb Pg w K mg base 11 c_11 gT := gb10.add (PySem.W.mg_of X G a10) k10 rfl B10 F10 (by
    intro n ks π hin
    simp [c_0, kwT, Cfg.add, c_1, c_2, c_3, c_4, c_5, c_6, c_7, c_8, c_9, c_10] at hin
    )
  have F11 : FnG Pg w K mg base 12 f11 (PySem.W.fnOf "_law_due" "_law_due" (defArgs s_f_law_due) (defBody s_f_law_due) (defScope s_f_law_due) .none kV11 dc11 pm11 an11 cd11 ct11) ["many", "most", "want"] f_law_due := fn_G true gb11 l11 e11 (fun z => absurd (show false = true from z) Bool.false_ne_true) sc_f_law_due chk_f_law_due
  have B11 := (fun_mk (st := s_f_law_due) l11 e11 k11).binds (ps := ["many", "most", "want"]) fun _ _ _ _ _ _ us hl => match us, hl with | [_, _, _], _ => rfl
  have gb12 : Glb Pg w K mg base 12 c_12 gT := gb11.add (PySem.W.mg_of X G a11) k11 rfl B11 F11 (by
    intro n ks π hin
    simp [c_0, kwT, Cfg.add, c_1, c_2, c_3, c_4, c_5, c_6, c_7, c_8, c_9, c_10, c_11] at hin
    )
  have F12 : FnG Pg w K mg base 13 f12 (PySem.W.fnOf "_law_is_row" "_law_is_row" (defArgs s_f_law_is_row) (defBody s_f_law_is_row) (defScope s_f_law_is_row) .none kV12 dc12 pm12 an12 cd12 ct12) ["many", "most", "value"] f_law_is_row := fn_G true gb12 l12 e12 (fun z => absurd (show false = true from z) Bool.false_ne_true) sc_f_law_is_row chk_f_law_is_row
  have B12 := (fun_mk (st := s_f_law_is_row) l12 e12 k12).binds (ps := ["many", "most", "value"]) fun _ _ _ _ _ _ us hl => match us, hl with | [_, _, _], _ => rfl
  have gb13 : Glb Pg w K mg base 13 c_13 gT := gb12.add (PySem.W.mg_of X G a12) k12 rfl B12 F12 (by
    intro n ks π hin
    simp [c_0, kwT, Cfg.add, c_1, c_2, c_3, c_4, c_5, c_6, c_7, c_8, c_9, c_10, c_11, c_12] at hin
    )
  have F13 : FnG Pg w K mg base 14 f13 (PySem.W.fnOf "_law_is_right" "_law_is_right" (defArgs s_f_law_is_right) (defBody s_f_law_is_right) (defScope s_f_law_is_right) .none kV13 dc13 pm13 an13 cd13 ct13) ["counter", "most", "want", "is_named"] f_law_is_right := fn_G true gb13 l13 e13 (fun z => absurd (show false = true from z) Bool.false_ne_true) sc_f_law_is_right chk_f_law_is_right
  have B13 := (fun_mk (st := s_f_law_is_right) l13 e13 k13).binds (ps := ["counter", "most", "want", "is_named"]) fun _ _ _ _ _ _ us hl => match us, hl with | [_, _, _, _], _ => rfl
  have gb14 : Glb Pg w K mg base 14 c_14 gT := gb13.add (PySem.W.mg_of X G a13) k13 rfl B13 F13 (by
    intro n ks π hin
    simp [c_0, kwT, Cfg.add, c_1, c_2, c_3, c_4, c_5, c_6, c_7, c_8, c_9, c_10, c_11, c_12, c_13] at hin
    )
  have F14 : FnG Pg w K mg base 15 fa (PySem.W.fnOf "law" "law" (defArgs s_f_law) (defBody s_f_law) (defScope s_f_law) .none kV14 dc14 pm14 an14 cd14 ct14) ["script"] f_law := fn_G true gb14 l14 e14 (fun z => absurd (show false = true from z) Bool.false_ne_true) sc_f_law chk_f_law
  exact F14
end PB.K46
set_option maxRecDepth 100000
open PySem PySem.W PyProof.Rows
set_option maxHeartbeats 0 in
theorem PySem.Challenge.cw_tornreads_k46_whole_fewest_lots_holds : PySem.Challenge.rw_tornreads_k46_whole_fewest_lots.Holds := by
  w_on; o_law; k_head; (case hw => w_witness2)
  k_fill
  refine PB.walk_G (l := PySem.Challenge.rw_tornreads_k46_whole_fewest_lots) (n := 63) (k := 15) (x := "script") (m := PB.K46.f_law) rfl (by decide) rfl ⟨rfl, by decide, by decide⟩ (by decide +kernel) (fun w h Y => PySem.W.kIn_of Y) ?sysK ?noT ?hrec ?F PB.K46.run_ok
  case sysK => intro w; first | rfl | k_is | decide +kernel
  case noT => intro w; first | rfl | k_is | decide +kernel
  case hrec =>
    intro w x hx
    obtain rfl : x = "ahead_from" := by simpa [PB.gnx] using hx
    refine .inl ?_
    first | rfl | k_is | decide +kernel
  case F =>
    intro w mg fa h KX G hmg
    refine' PB.K46.all_mk KX G hmg ?a0 ?l0 ?e0 ?k0 ?a1 ?l1 ?e1 ?k1 ?a2 ?l2 ?e2 ?k2 ?a3 ?l3 ?e3 ?k3 ?a4 ?l4 ?e4 ?k4 ?a5 ?l5 ?e5 ?k5 ?a6 ?l6 ?e6 ?k6 ?a7 ?l7 ?e7 ?k7 ?a8 ?l8 ?e8 ?k8 ?a9 ?l9 ?e9 ?k9 ?a10 ?l10 ?e10 ?k10 ?a11 ?l11 ?e11 ?k11 ?a12 ?l12 ?e12 ?k12 ?a13 ?l13 ?e13 ?k13 ?a14 ?l14 ?e14 ?k14 ?z0 ?z1 ?z2 ?z3 ?z4 ?z5 ?z6 ?z7 ?z8 ?z9 ?z10 ?z11 ?z12 ?z13 ?z14 ?z15 ?z16 ?z17 ?z18 ?z19 ?z20
    (case a0 => k_is)
    (case l0 => k_is)
    (case e0 => k_is)
    (case k0 => k_is)
    (case a1 => k_is)
    (case l1 => k_is)
    (case e1 => k_is)
    (case k1 => k_is)
    (case a2 => k_is)
    (case l2 => k_is)
    (case e2 => k_is)
    (case k2 => k_is)
    (case a3 => k_is)
    (case l3 => k_is)
    (case e3 => k_is)
    (case k3 => k_is)
    (case a4 => k_is)
    (case l4 => k_is)
    (case e4 => k_is)
    (case k4 => k_is)
    (case a5 => k_is)
    (case l5 => k_is)
    (case e5 => k_is)
    (case k5 => k_is)
    (case a6 => k_is)
    (case l6 => k_is)
    (case e6 => k_is)
    (case k6 => k_is)
    (case a7 => k_is)
    (case l7 => k_is)
    (case e7 => k_is)
    (case k7 => k_is)
    (case a8 => k_is)
    (case l8 => k_is)
    (case e8 => k_is)
    (case k8 => k_is)
    (case a9 => k_is)
    (case l9 => k_is)
    (case e9 => k_is)
    (case k9 => k_is)
    (case a10 => k_is)
    (case l10 => k_is)
    (case e10 => k_is)
    (case k10 => k_is)
    (case a11 => k_is)
    (case l11 => k_is)
    (case e11 => k_is)
    (case k11 => k_is)
    (case a12 => k_is)
    (case l12 => k_is)
    (case e12 => k_is)
    (case k12 => k_is)
    (case a13 => k_is)
    (case l13 => k_is)
    (case e13 => k_is)
    (case k13 => k_is)
    (case a14 => k_is)
    (case l14 => k_is)
    (case e14 => k_is)
    (case k14 => k_is)
    (case z0 => k_is)
    (case z1 => k_is)
    (case z2 => k_is)
    (case z3 => k_is)
    (case z4 => k_is)
    (case z5 => k_is)
    (case z6 => k_is)
    (case z7 => k_is)
    (case z8 => k_is)
    (case z9 => k_is)
    (case z10 => k_is)
    (case z11 => k_is)
    (case z12 => k_is)
    (case z13 => k_is)
    (case z14 => k_is)
    (case z15 => k_is)
    (case z16 => k_is)
    (case z17 => k_is)
    (case z18 => k_is)
    (case z19 => k_is)
    (case z20 => k_is)
