import PyProof.Rows.All
import Wide.All
import OpenK.AllK
import Wide.FinOn
import HandS.ForMost
import HandS.Conv
import HandS.Rev
import HandS.TupAny
import HandS.Flow
import HandS.IsInst
import HandS.NoneIn
import KE.SortData
import KE.KDictKeyed
import KE.DataEq
import HandS.Deep
import HandS.TupMul
import HandS.Style
import HandS.Wide
import HandS.WordsExc
import HandS.ExcOwn
import HandS.Comp
import KE.GoesNew
import KE.GoesMore
import HandS.ExcInit
import HandS.ExcField
import KE.KExcIs
import HandS.HeadHook4
import HandS.Head2
import HandS.HeadEnd
import PySem.Challenge.RW_slanttiles_k01_what_makes_a_grid
set_option Elab.async false
set_option linter.all false
set_option maxRecDepth 100000
/-! Values, cells and a plain evaluator for the given program's kind of Python. -/
namespace SL
open PySem

/-- a value: what never changes (frozen) is told whole, what may change is a cell's number -/
inductive Wv where
  | non | bl (b : Bool) | int (i : Int) | str (x : Str)
  | tup (ws : List Wv) | lst (ws : List Wv) | dic (kvs : List (Wv × Wv))
  | ins (c : Nat) (fs : List (Nat × Wv))
  | ref (k : Nat)
  | fn (f : Nat) | cls (c : Nat)
  deriving Inhabited

/-- what a cell holds -/
inductive Ob where
  | lst (ws : List Wv) | dic (kvs : List (Wv × Wv)) | ins (c : Nat) (fs : List (Nat × Wv))
  deriving Inhabited

abbrev Hs := List Ob

/-- an outcome: a value, a refusal (its class, its value), or the evaluator does not tell -/
inductive Rz (α : Type) where
  | ok (a : α) (h : Hs)
  | exc (c : Nat) (w : Wv) (h : Hs)
  | bad

def Rz.bind {α β : Type} (r : Rz α) (k : α → Hs → Rz β) : Rz β :=
  match r with
  | .ok a h => k a h
  | .exc c w h => .exc c w h
  | .bad => .bad
@[simp] theorem Rz.bind_ok {α β : Type} (a : α) (h : Hs) (k : α → Hs → Rz β) : (Rz.ok a h).bind k = k a h := rfl
@[simp] theorem Rz.bind_exc {α β : Type} (c : Nat) (w : Wv) (h : Hs) (k : α → Hs → Rz β) : (Rz.exc c w h : Rz α).bind k = .exc c w h := rfl
@[simp] theorem Rz.bind_bad {α β : Type} (k : α → Hs → Rz β) : (Rz.bad : Rz α).bind k = .bad := rfl

inductive Op2 where
  | add | sub | mul | fdiv | mod | pow | shl | shr | band | bor
inductive Cm where
  | eq | ne | lt | le | gt | ge | isin | notin | isn | notn
inductive Bf where
  | len | list | tuple | int | str | sum | all | any | abs | min | max | sorted
inductive Lm where
  | append | extend | pop | insert | clear | reverse | index | remove
/-- a type that isinstance asks for -/
inductive Ty where
  | int | bool | str | list | tuple | dict

/-- what is stored to by a for or an assignment -/
inductive Tg where
  | name (i : Nat)
  | tup (ts : List Tg)

mutual
inductive Ex where
  | var (i : Nat)
  | cst (w : Wv)
  | glo (g : Nat)
  | tup (es : List Ex)
  | lst (es : List Ex)
  | bin (o : Op2) (a b : Ex)
  | neg (a : Ex)
  | not (a : Ex)
  | and (a b : Ex)
  | or (a b : Ex)
  | ite (c a b : Ex)
  | cmp (c : Cm) (a b : Ex)
  | chn (c c' : Cm) (a b d : Ex)
  | sub (a i : Ex)
  | slc (a : Ex) (lo hi : Option Ex)
  | rvs (a : Ex)
  | att (a : Ex) (f : Nat)
  | call (f : Nat) (es : List Ex)
  | make (c : Nat) (es : List Ex)
  | meth (a : Ex) (m : Nat) (es : List Ex)
  | sup (c m : Nat) (es : List Ex)
  | blt (b : Bf) (es : List Ex)
  | lm (m : Lm) (a : Ex) (es : List Ex)
  | isi (a : Ex) (t : List Ty)
  | comp (elt : Ex) (own : List Nat) (tg : Tg) (it : Itr) (cd : Option Ex)
inductive Itr where
  | seq (e : Ex)
  | rng (es : List Ex)
  | enm (e : Ex)
  | zip (es : List Ex)
  | rev (e : Ex)
end

/-- within an except suite: its exception's class c and value w are told -/
inductive Hx where
  | atv
  | var (j : Nat)
  | cst (w : Wv)
  | tup (xs : List Hx)
  | isx (yes no : List Nat)
  | not (a : Hx)
  | or (a b : Hx)
  | and (a b : Hx)
inductive Hm where
  | asg (j : Nat) (x : Hx)
  | ret (x : Hx)
  | ifs (c : Hx) (b : List Hm)

inductive Tgt where
  | tg (t : Tg)
  | sub (a i : Ex)
  | att (a : Ex) (f : Nat)

inductive Sm where
  | asg (t : Tgt) (e : Ex)
  | par (i j : Nat) (a b : Ex)
  | augn (i : Nat) (o : Op2) (e : Ex)
  | augf (a : Ex) (f : Nat) (o : Op2) (e : Ex)
  | exp (e : Ex)
  | ret (e : Ex)
  | retn
  | ifs (c : Ex) (a b : List Sm)
  | whl (c : Ex) (b : List Sm)
  | for (t : Tg) (it : Itr) (b : List Sm)
  | pass | brk | cont
  | rse (c : Nat) (x : Ex)
  | tryx (y : Sm) (i : Nat) (yes no : List Nat) (hs : List Hm)
  | never

/-! ### plain data -/
mutual
/-- as data: what == and an order look at -/
def Wv.toD : Wv → Option PyData
  | .non => some .none
  | .bl b => some (.bool b)
  | .int i => some (.int i)
  | .str x => some (.str x)
  | .tup ws => (toDs ws).map .tuple
  | .lst ws => (toDs ws).map .list
  | .dic _ => none
  | .ins _ _ => none
  | .ref _ => none
  | .fn _ => none
  | .cls _ => none
def toDs : List Wv → Option (List PyData)
  | [] => some []
  | w :: ws => match w.toD, toDs ws with
    | some d, some ds => some (d :: ds)
    | _, _ => none
end

mutual
/-- every cell in it taken for what it holds, by rec -/
def Wv.frz (rec : Nat → Option Wv) : Wv → Option Wv
  | .ref k => rec k
  | .tup ws => (frzs rec ws).map .tup
  | .lst ws => (frzs rec ws).map .lst
  | .dic kvs => (frzk rec kvs).map .dic
  | .ins c fs => (frzf rec fs).map (.ins c)
  | .non => some .non
  | .bl b => some (.bl b)
  | .int i => some (.int i)
  | .str x => some (.str x)
  | .fn f => some (.fn f)
  | .cls c => some (.cls c)
def frzs (rec : Nat → Option Wv) : List Wv → Option (List Wv)
  | [] => some []
  | w :: ws => match w.frz rec, frzs rec ws with
    | some d, some ds => some (d :: ds)
    | _, _ => none
def frzk (rec : Nat → Option Wv) : List (Wv × Wv) → Option (List (Wv × Wv))
  | [] => some []
  | (k, w) :: ws => match k.frz rec, w.frz rec, frzk rec ws with
    | some a, some d, some ds => some ((a, d) :: ds)
    | _, _, _ => none
def frzf (rec : Nat → Option Wv) : List (Nat × Wv) → Option (List (Nat × Wv))
  | [] => some []
  | (f, w) :: ws => match w.frz rec, frzf rec ws with
    | some d, some ds => some ((f, d) :: ds)
    | _, _ => none
end
/-- the cell's content as a frozen value; not the cells that no names -/
def frzC (h : Hs) (no : Nat → Bool) : Nat → Nat → Option Wv
  | 0, _ => none
  | n + 1, k => if no k = true then none else match h[k]? with
    | some (.lst ws) => (frzs (frzC h no n) ws).map .lst
    | some (.dic kvs) => (frzk (frzC h no n) kvs).map .dic
    | some (.ins c fs) => (frzf (frzC h no n) fs).map (.ins c)
    | none => none
/-- how deep cells may stand within one another -/
def deepest : Nat := 12
def frzW (h : Hs) (no : Nat → Bool) (w : Wv) : Option Wv := w.frz (frzC h no deepest)
/-- as data, cells looked through -/
def datum (h : Hs) (w : Wv) : Option PyData := (frzW h (fun _ => false) w).bind Wv.toD
def shal (d : PyData) : Bool := decide (d.depth ≤ 60)
def data (h : Hs) : List Wv → Option (List PyData)
  | [] => some []
  | w :: ws => match datum h w, data h ws with
    | some d, some ds => some (d :: ds)
    | _, _ => none

/-! ### small readings -/
def getL (h : Hs) : Wv → Option (List Wv)
  | .lst ws => some ws
  | .ref k => match h[k]? with
    | some (.lst ws) => some ws
    | _ => none
  | _ => none
/-- a list's or a tuple's items -/
def getS (h : Hs) : Wv → Option (List Wv)
  | .tup ws => some ws
  | w => getL h w
def truth (h : Hs) : Wv → Option Bool
  | .bl b => some b
  | .non => some false
  | .int i => some (i != 0)
  | .str x => if x.length ≤ sizeLine then some ((x.length : Int) != 0) else none
  | .tup ws => some (!ws.isEmpty)
  | w => (getL h w).map fun ws => !ws.isEmpty
/-- the place that an index of any sign means -/
def ixAt (n : Nat) (i : Int) : Option Nat := if 0 ≤ i then (if i < n then some i.toNat else none) else if -(n : Int) ≤ i then some (i + n).toNat else none

def newL (ws : List Wv) (h : Hs) : Rz Wv := if ws.length ≤ sizeLine then .ok (.ref h.length) (h ++ [.lst ws]) else .bad

instance (i j : Int) : Decidable (L2.CMul i j) := by unfold L2.CMul; exact inferInstance
instance (i j : Int) : Decidable (L2.CDiv i j) := by unfold L2.CDiv; exact inferInstance
instance (i j : Int) : Decidable (L2.CPow i j) := by unfold L2.CPow; exact inferInstance
instance (i j : Int) : Decidable (L2.CMulW i j) := by unfold L2.CMulW; exact inferInstance
instance (i j : Int) : Decidable (L2.CDivW i j) := by unfold L2.CDivW; exact inferInstance
def binop (o : Op2) (x y : Wv) (h : Hs) : Rz Wv :=
  match o, x, y with
  | .add, .int i, .int j => .ok (.int (i + j)) h
  | .add, .str a, .str b => if a.length + b.length ≤ sizeLine then .ok (.str (a ++ b)) h else .bad
  | .add, .tup a, .tup b => if a.length + b.length ≤ sizeLine then .ok (.tup (a ++ b)) h else .bad
  | .add, .ref a, .ref b => match getL h (.ref a), getL h (.ref b) with
    | some xs, some ys => newL (xs ++ ys) h
    | _, _ => .bad
  | .sub, .int i, .int j => .ok (.int (i - j)) h
  | .mul, .int i, .int j => if L2.CMul i j ∨ L2.CMulW i j then .ok (.int (i * j)) h else .bad
  | .mul, .ref a, .int k => match getL h (.ref a) with
    | some ws => if -(2 ^ 63) ≤ k ∧ k < 2 ^ 63 ∧ ws.length * k.toNat ≤ sizeLine then newL (List.replicate k.toNat ws).flatten h else .bad
    | none => .bad
  | .mul, .tup ws, .int k => if k = 1 then .ok (.tup ws) h else if k ≤ 0 ∧ ws ≠ [] ∧ -(2 ^ 63) ≤ k then .ok (.tup []) h else if ws ≠ [] ∧ 2 ≤ k ∧ k ≤ 1000 ∧ ws.length ≤ 1000 then .ok (.tup (List.replicate k.toNat ws).flatten) h else .bad
  | .fdiv, .int i, .int j => if L2.CDivW i j then .ok (.int (i / j)) h else .bad
  | .mod, .int i, .int j => if 0 < j then .ok (.int (i % j)) h else .bad
  | .pow, .int i, .int j => if L2.CPow i j then .ok (.int (i ^ j.toNat)) h else .bad
  | .shl, .int i, .int j => if L2.CPow i j then .ok (.int (i * 2 ^ j.toNat)) h else .bad
  | .shr, .int i, .int j => if 0 ≤ j then .ok (.int (i / 2 ^ j.toNat)) h else .bad
  | .band, .int i, .int j => .ok (.int (Builtin.bitAnd i j)) h
  | .bor, .int i, .int j => .ok (.int (Builtin.bitOr i j)) h
  | _, _, _ => .bad
end SL

set_option maxRecDepth 100000
/-! The evaluator. -/
namespace SL
open PySem

mutual
def Wv.beq : Wv → Wv → Bool
  | .non, .non => true
  | .bl a, .bl b => a == b
  | .int a, .int b => a == b
  | .str a, .str b => decide (a = b)
  | .tup a, .tup b => beqs a b
  | .lst a, .lst b => beqs a b
  | .dic a, .dic b => beqk a b
  | .ins c a, .ins d b => c == d && beqf a b
  | .ref a, .ref b => a == b
  | .fn a, .fn b => a == b
  | .cls a, .cls b => a == b
  | _, _ => false
def beqs : List Wv → List Wv → Bool
  | [], [] => true
  | a :: as, b :: bs => a.beq b && beqs as bs
  | _, _ => false
def beqk : List (Wv × Wv) → List (Wv × Wv) → Bool
  | [], [] => true
  | (a, x) :: as, (b, y) :: bs => a.beq b && (x.beq y && beqk as bs)
  | _, _ => false
def beqf : List (Nat × Wv) → List (Nat × Wv) → Bool
  | [], [] => true
  | (a, x) :: as, (b, y) :: bs => a == b && (x.beq y && beqf as bs)
  | _, _ => false
end
mutual
theorem Wv.eq_of : ∀ a b : Wv, a.beq b = true → a = b
  | .non, b, h => by cases b <;> simp_all [Wv.beq]
  | .bl a, b, h => by cases b <;> simp_all [Wv.beq]
  | .int a, b, h => by cases b <;> simp_all [Wv.beq]
  | .str a, b, h => by cases b <;> simp_all [Wv.beq]
  | .tup a, b, h => by
    cases b <;> simp only [Wv.beq, Bool.false_eq_true] at h
    rw [eqs_of _ _ h]
  | .lst a, b, h => by
    cases b <;> simp only [Wv.beq, Bool.false_eq_true] at h
    rw [eqs_of _ _ h]
  | .dic a, b, h => by
    cases b <;> simp only [Wv.beq, Bool.false_eq_true] at h
    rw [eqk_of _ _ h]
  | .ins c a, b, h => by
    cases b <;> simp only [Wv.beq, Bool.false_eq_true, Bool.and_eq_true, beq_iff_eq] at h
    rw [h.1, eqf_of _ _ h.2]
  | .ref a, b, h => by cases b <;> simp_all [Wv.beq]
  | .fn a, b, h => by cases b <;> simp_all [Wv.beq]
  | .cls a, b, h => by cases b <;> simp_all [Wv.beq]
theorem eqs_of : ∀ a b : List Wv, beqs a b = true → a = b
  | [], [], _ => rfl
  | [], _ :: _, h => by simp [beqs] at h
  | _ :: _, [], h => by simp [beqs] at h
  | a :: as, b :: bs, h => by
    simp only [beqs, Bool.and_eq_true] at h
    rw [Wv.eq_of a b h.1, eqs_of as bs h.2]
theorem eqk_of : ∀ a b : List (Wv × Wv), beqk a b = true → a = b
  | [], [], _ => rfl
  | [], _ :: _, h => by simp [beqk] at h
  | _ :: _, [], h => by simp [beqk] at h
  | (a, x) :: as, (b, y) :: bs, h => by
    simp only [beqk, Bool.and_eq_true] at h
    rw [Wv.eq_of a b h.1, Wv.eq_of x y h.2.1, eqk_of as bs h.2.2]
theorem eqf_of : ∀ a b : List (Nat × Wv), beqf a b = true → a = b
  | [], [], _ => rfl
  | [], _ :: _, h => by simp [beqf] at h
  | _ :: _, [], h => by simp [beqf] at h
  | (a, x) :: as, (b, y) :: bs, h => by
    simp only [beqf, Bool.and_eq_true, beq_iff_eq] at h
    rw [h.1, Wv.eq_of x y h.2.1, eqf_of as bs h.2.2]
end
mutual
theorem Wv.beq_self : ∀ a : Wv, a.beq a = true
  | .non | .bl _ | .int _ | .str _ | .ref _ | .fn _ | .cls _ => by simp [Wv.beq]
  | .tup a => by rw [Wv.beq]; exact beqs_self a
  | .lst a => by rw [Wv.beq]; exact beqs_self a
  | .dic a => by rw [Wv.beq]; exact beqk_self a
  | .ins c a => by rw [Wv.beq, beqf_self a]; simp
theorem beqs_self : ∀ a : List Wv, beqs a a = true
  | [] => by rw [beqs]
  | a :: as => by rw [beqs, Wv.beq_self a, beqs_self as]; rfl
theorem beqk_self : ∀ a : List (Wv × Wv), beqk a a = true
  | [] => by rw [beqk]
  | (a, x) :: as => by rw [beqk, Wv.beq_self a, Wv.beq_self x, beqk_self as]; rfl
theorem beqf_self : ∀ a : List (Nat × Wv), beqf a a = true
  | [] => by rw [beqf]
  | (a, x) :: as => by rw [beqf, Wv.beq_self x, beqf_self as]; simp
end
instance : DecidableEq Wv := fun a b => if h : a.beq b = true then .isTrue (Wv.eq_of a b h) else .isFalse fun e => h (e ▸ Wv.beq_self a)
instance : DecidableEq Ob
  | .lst a, .lst b => if h : a = b then .isTrue (by rw [h]) else .isFalse fun e => h (by injection e)
  | .dic a, .dic b => if h : a = b then .isTrue (by rw [h]) else .isFalse fun e => h (by injection e)
  | .ins c a, .ins d b => if h : c = d ∧ a = b then .isTrue (by rw [h.1, h.2]) else .isFalse fun e => h (by injection e with e1 e2; exact ⟨e1, e2⟩)
  | .lst _, .dic _ => .isFalse fun e => nomatch e
  | .lst _, .ins _ _ => .isFalse fun e => nomatch e
  | .dic _, .lst _ => .isFalse fun e => nomatch e
  | .dic _, .ins _ _ => .isFalse fun e => nomatch e
  | .ins _ _, .lst _ => .isFalse fun e => nomatch e
  | .ins _ _, .dic _ => .isFalse fun e => nomatch e

/-! ### comparisons -/
def anyEq (d : PyData) (ds : List PyData) : Bool := ds.any fun e => PyData.eqv e d
def eqVal (h : Hs) : Wv → Wv → Option Bool
  | .int i, .int j => some (decide (i = j))
  | .str a, .str b => some (decide (a = b))
  | .bl a, .bl b => some (decide (a = b))
  | x, y => match datum h x, datum h y with
    | some d, some e => if (shal d || shal e) = true then some (PyData.eqv d e) else none
    | _, _ => none
def inVal (h : Hs) (x y : Wv) : Option Bool := match getS h y with
  | some ws => match datum h x, data h ws with
    | some d, some ds => if shal d = true then some (anyEq d ds) else none
    | _, _ => none
  | none => none
def Cm.run (c : Cm) (h : Hs) (x y : Wv) : Option Bool :=
  match c with
  | .eq => eqVal h x y
  | .ne => (eqVal h x y).map not
  | .isin => inVal h x y
  | .notin => (inVal h x y).map not
  | .isn => match y with | .non => some (decide (x = .non)) | _ => none
  | .notn => match y with | .non => some (!decide (x = .non)) | _ => none
  | .lt => match x, y with | .int i, .int j => some (decide (i < j)) | _, _ => none
  | .le => match x, y with | .int i, .int j => some (decide (i ≤ j)) | _, _ => none
  | .gt => match x, y with | .int i, .int j => some (decide (j < i)) | _, _ => none
  | .ge => match x, y with | .int i, .int j => some (decide (j ≤ i)) | _, _ => none
def cmpop (c : Cm) (x y : Wv) (h : Hs) : Rz Wv := match c.run h x y with
  | some b => .ok (.bl b) h
  | none => .bad

/-! ### subscripts -/
def subsc (x i : Wv) (h : Hs) : Rz Wv := match i with
  | .int i => match x with
    | .str z => if z.length ≤ sizeLine then (match (ixAt z.length i).bind (z.cps.toList[·]?) with
      | some c => .ok (.str ⟨#[c]⟩) h
      | none => .bad) else .bad
    | x => match getS h x with
      | some ws => match (ixAt ws.length i).bind (ws[·]?) with
        | some w => .ok w h
        | none => .bad
      | none => .bad
  | _ => .bad
def cut {α : Type} (ws : List α) (lo hi : Option Int) : List α := (ws.drop (HT.sIx ws.length 0 lo)).take (HT.sIx ws.length ws.length hi - HT.sIx ws.length 0 lo)
def slice (x : Wv) (lo hi : Option Int) (h : Hs) : Rz Wv := match x with
  | .tup ws => .ok (.tup (cut ws lo hi)) h
  | x => match getL h x with
    | some ws => newL (cut ws lo hi) h
    | none => .bad
def storeSub (x i v : Wv) (h : Hs) : Rz Unit := match x, i with
  | .ref k, .int i => match h[k]? with
    | some (.lst ws) => match ixAt ws.length i with
      | some j => .ok () (h.set k (.lst (ws.set j v)))
      | none => .bad
    | _ => .bad
  | _, _ => .bad

/-! ### attributes -/
def fget (fs : List (Nat × Wv)) (f : Nat) : Option Wv := fs.lookup f
def fput (f : Nat) (v : Wv) : List (Nat × Wv) → List (Nat × Wv)
  | [] => [(f, v)]
  | (g, x) :: r => if g = f then (g, v) :: r else (g, x) :: fput f v r
def getI (h : Hs) : Wv → Option (Nat × List (Nat × Wv))
  | .ins c fs => some (c, fs)
  | .ref k => match h[k]? with
    | some (.ins c fs) => some (c, fs)
    | _ => none
  | _ => none

/-! ### built-in functions and methods -/
def intsOf : List Wv → Option (List Int)
  | [] => some []
  | .int i :: ws => (intsOf ws).map (i :: ·)
  | _ => none
def boolsOf : List Wv → Option (List Bool)
  | [] => some []
  | .bl i :: ws => (boolsOf ws).map (i :: ·)
  | _ => none
def blt (b : Bf) (xs : List Wv) (h : Hs) : Rz Wv :=
  match b, xs with
  | .len, [.str z] => if z.length ≤ sizeLine then .ok (.int z.length) h else .bad
  | .len, [x] => match getS h x with
    | some ws => .ok (.int ws.length) h
    | none => .bad
  | .list, [x] => match getS h x with
    | some ws => newL ws h
    | none => .bad
  | .tuple, [x] => match getS h x with
    | some ws => .ok (.tup ws) h
    | none => .bad
  | .int, [.int i] => .ok (.int i) h
  | .int, [.bl b] => .ok (.int (if b then 1 else 0)) h
  | .abs, [.int i] => .ok (.int (if i < 0 then -i else i)) h
  | .min, [.int i, .int j] => .ok (.int (if j < i then j else i)) h
  | .max, [.int i, .int j] => .ok (.int (if j > i then j else i)) h
  | .sum, [x] => match (getL h x).bind intsOf with
    | some ns => .ok (.int ns.sum) h
    | none => .bad
  | .all, [x] => match (getL h x).bind boolsOf with
    | some bs => .ok (.bl (bs.all id)) h
    | none => .bad
  | .any, [x] => match (getL h x).bind boolsOf with
    | some bs => .ok (.bl (bs.any id)) h
    | none => .bad
  | _, _ => .bad
def lmop (m : Lm) (x : Wv) (xs : List Wv) (h : Hs) : Rz Wv :=
  match x with
  | .ref k => match h[k]? with
    | some (.lst ws) => match m, xs with
      | .append, [y] => if ws.length < sizeLine then .ok .non (h.set k (.lst (ws ++ [y]))) else .bad
      | .extend, [y] => match y with
        | .ref b => match h[b]? with
          | some (.lst ys) => if ws.length + ys.length ≤ sizeLine then .ok .non (h.set k (.lst (ws ++ ys))) else .bad
          | _ => .bad
        | _ => .bad
      | .pop, [] => match ws[ws.length - 1]? with
        | some y => .ok y (h.set k (.lst ws.dropLast))
        | none => .bad
      | .clear, [] => .ok .non (h.set k (.lst []))
      | .reverse, [] => .ok .non (h.set k (.lst ws.reverse))
      | _, _ => .bad
    | _ => .bad
  | _ => .bad
/-- the built-in type of a value -/
def tyOf (h : Hs) : Wv → Option String
  | .non => some "NoneType"
  | .bl _ => some "bool"
  | .int _ => some "int"
  | .str _ => some "str"
  | .tup _ => some "tuple"
  | .lst _ => some "list"
  | .ref k => match h[k]? with
    | some (.lst _) => some "list"
    | _ => none
  | _ => none
def Ty.name : Ty → String
  | .int => "int" | .bool => "bool" | .str => "str" | .list => "list" | .tuple => "tuple" | .dict => "dict"
def Ty.has (h : Hs) (w : Wv) (t : Ty) : Option Bool := (tyOf h w).map fun s => decide (s = t.name) || (decide (s = "bool") && decide (t.name = "int"))

/-! ### the evaluator -/
abbrev Ev := List (Option Wv)
inductive Fl where
  | nx (e : Ev) | brk (e : Ev) | cont (e : Ev) | ret (w : Wv)
/-- what a class is -/
structure Cl where
  init : Option Nat
  meth : List (Nat × Nat)
  cold : Bool
/-- the program's names: module constants, classes; what a call does -/
structure Wd where
  glo : Nat → Option Wv
  cls : Nat → Option Cl
  fld : Nat → Nat → Bool
  run : Nat → List Wv → Hs → Rz Wv
  turns : Nat

mutual
def Tg.bind : Tg → Wv → Ev → Option Ev
  | .name i, w, e => if i < e.length then some (e.set i (some w)) else none
  | .tup ts, .tup ws, e => binds ts ws e
  | .tup _, _, _ => none
def binds : List Tg → List Wv → Ev → Option Ev
  | [], [], e => some e
  | t :: ts, w :: ws, e => match t.bind w e with
    | some e' => binds ts ws e'
    | none => none
  | _, _, _ => none
end
def wipes (e : Ev) : List Nat → Ev
  | [] => e
  | v :: vs => (wipes e vs).set v none
/-- cells that a loop walks stay as they were -/
def stay (h : Hs) : List (Nat × List Wv) → Bool
  | [] => true
  | (k, ws) :: r => decide (h[k]? = some (.lst ws)) && stay h r
/-- what a walk goes through, and the cells that it reads -/
abbrev Src := List Wv × List (Nat × List Wv)
def srcOf (h : Hs) (x : Wv) : Option Src := match x with
  | .ref k => (getL h x).map fun ws => (ws, [(k, ws)])
  | x => (getS h x).map fun ws => (ws, [])
/-- a list, no tuple -/
def srcL (h : Hs) (x : Wv) : Option Src := match x with
  | .tup _ => none
  | x => srcOf h x
def enumd : Nat → List Wv → List Wv
  | _, [] => []
  | n, w :: ws => .tup [.int n, w] :: enumd (n + 1) ws
def zip2 : List Wv → List Wv → List Wv
  | x :: xs, y :: ys => .tup [x, y] :: zip2 xs ys
  | _, _ => []
def zip3 : List Wv → List Wv → List Wv → List Wv
  | x :: xs, y :: ys, z :: zs => .tup [x, y, z] :: zip3 xs ys zs
  | _, _, _ => []
def small62 (i : Int) : Bool := decide (-(2 ^ 62) ≤ i) && decide (i < 2 ^ 62)
def upTo (lo : Int) (n : Nat) : List Wv := (List.range n).map fun i => Wv.int (lo + (i : Nat))
def srcRange : List Wv → Option Src
  | [.int j] => if small62 j then some (upTo 0 j.toNat, []) else none
  | [.int i, .int j] => if small62 i && small62 j then some (upTo i (j - i).toNat, []) else none
  | _ => none
def srcZip (h : Hs) : List Wv → Option Src
  | [x, y] => match srcOf h x, srcOf h y with
    | some (a, p), some (b, q) => some (zip2 a b, p ++ q)
    | _, _ => none
  | [x, y, z] => match srcOf h x, srcOf h y, srcOf h z with
    | some (a, p), some (b, q), some (c, r) => some (zip3 a b c, p ++ (q ++ r))
    | _, _, _ => none
  | _ => none
def Rz.of {α : Type} (o : Option α) (h : Hs) : Rz α := match o with
  | some a => .ok a h
  | none => .bad
@[simp] theorem Rz.of_some {α : Type} (a : α) (h : Hs) : Rz.of (some a) h = .ok a h := rfl
@[simp] theorem Rz.of_none {α : Type} (h : Hs) : Rz.of (none : Option α) h = .bad := rfl
/-- no refusal leaves (within a comprehension) -/
def Rz.quiet {α : Type} : Rz α → Rz α
  | .exc _ _ _ => .bad
  | r => r
/-- a walk's turns, the items put to the list of the cell k -/
def compL (turn : Wv → Hs → Rz (Option Wv)) (ck : List (Nat × List Wv)) (k : Nat) : List Wv → Hs → Rz Wv
  | [], h => if stay h ck then .ok (.ref k) h else .bad
  | w :: ws, h => if stay h ck then (turn w h).quiet.bind fun o h' => match o with
      | some v => match h'[k]? with
        | some (.lst acc) => if acc.length < sizeLine then compL turn ck k ws (h'.set k (.lst (acc ++ [v]))) else .bad
        | _ => .bad
      | none => compL turn ck k ws h'
    else .bad

/-- how a def's end is told: as it is; frozen, its own cells let go; a new list of frozen things, the other own cells let go -/
inductive Md where
  | open | cold | fresh
mutual
/-- no cell from lo on is in it -/
def Wv.under (lo : Nat) : Wv → Bool
  | .ref k => decide (k < lo)
  | .tup ws => unders lo ws
  | .lst ws => unders lo ws
  | .dic kvs => underk lo kvs
  | .ins _ fs => underf lo fs
  | _ => true
def unders (lo : Nat) : List Wv → Bool
  | [] => true
  | w :: ws => w.under lo && unders lo ws
def underk (lo : Nat) : List (Wv × Wv) → Bool
  | [] => true
  | (k, w) :: ws => k.under lo && (w.under lo && underk lo ws)
def underf (lo : Nat) : List (Nat × Wv) → Bool
  | [] => true
  | (_, w) :: ws => w.under lo && underf lo ws
end
def Ob.under (lo : Nat) : Ob → Bool
  | .lst ws => unders lo ws
  | .dic kvs => underk lo kvs
  | .ins _ fs => underf lo fs
/-- the cells below lo are as they were, or hold nothing from lo on -/
def shut (lo : Nat) : Hs → Hs → Bool
  | [], _ => true
  | o :: os, [] => o.under lo && shut lo os []
  | o :: os, p :: ps => (decide (o = p) || o.under lo) && shut lo os ps
/-- a def's end -/
def ended (md : Md) (lo : Nat) (h0 : Hs) (w : Wv) (h : Hs) : Rz Wv := match md with
  | .open => .ok w h
  | .cold => match frzW h (fun k => decide (k < lo)) w with
    | some v => if lo ≤ h.length ∧ shut lo (h.take lo) h0 = true then .ok v (h.take lo) else .bad
    | none => .bad
  | .fresh => match w with
    | .ref k => if k < lo then .bad else match h[k]? with
      | some (.lst ws) => match frzs (frzC h (fun j => decide (j < lo) || decide (j = k)) deepest) ws with
        | some us => if lo ≤ h.length ∧ shut lo (h.take lo) h0 = true then .ok (.ref lo) (h.take lo ++ [.lst us]) else .bad
        | none => .bad
      | _ => .bad
    | _ => .bad
/-- a class is made: its cell, then its __init__; a cold class's instance is frozen -/
def make (P : Wd) (c : Nat) (xs : List Wv) (h : Hs) : Rz Wv := match P.cls c with
  | some cl => match cl.init with
    | some f => ((P.run f (.ref h.length :: xs) (h ++ [.ins c []])).bind fun v h' => match v with
        | .non => .ok (.ref h.length) h'
        | _ => .bad).bind fun w h' => ended (if cl.cold = true then .cold else .open) h.length h w h'
    | none => .bad
  | none => .bad
def methOf (P : Wd) (c m : Nat) : Option Nat := (P.cls c).bind fun cl => cl.meth.lookup m

/-- the receiver is a list now, whatever the arguments do -/
def isL (h : Hs) : Wv → Bool
  | .ref k => match h[k]? with
    | some (.lst _) => true
    | _ => false
  | _ => false
mutual
def ev (P : Wd) : Ex → Ev → Hs → Rz Wv
  | .var i, e, h => match e[i]? with
    | some (some w) => .ok w h
    | _ => .bad
  | .cst w, _, h => .ok w h
  | .glo g, _, h => Rz.of (P.glo g) h
  | .tup es, e, h => (evs P es e h).bind fun ws h1 => if ws.length ≤ sizeLine then .ok (.tup ws) h1 else .bad
  | .lst es, e, h => (evs P es e h).bind fun ws h1 => newL ws h1
  | .bin o a b, e, h => (ev P a e h).bind fun x h1 => (ev P b e h1).bind fun y h2 => binop o x y h2
  | .neg a, e, h => (ev P a e h).bind fun x h1 => match x with
    | .int i => .ok (.int (-i)) h1
    | _ => .bad
  | .not a, e, h => (ev P a e h).bind fun x h1 => (Rz.of (truth h1 x) h1).bind fun b h2 => .ok (.bl (!b)) h2
  | .and a b, e, h => (ev P a e h).bind fun x h1 => (Rz.of (truth h1 x) h1).bind fun t h2 => if t = true then ev P b e h2 else .ok x h2
  | .or a b, e, h => (ev P a e h).bind fun x h1 => (Rz.of (truth h1 x) h1).bind fun t h2 => if t = true then .ok x h2 else ev P b e h2
  | .ite c a b, e, h => (tst P c e h).bind fun t h1 => if t = true then ev P a e h1 else ev P b e h1
  | .cmp c a b, e, h => (ev P a e h).bind fun x h1 => (ev P b e h1).bind fun y h2 => cmpop c x y h2
  | .chn c c' a b d, e, h => (ev P a e h).bind fun x h1 => (ev P b e h1).bind fun y h2 => (Rz.of (c.run h2 x y) h2).bind fun t h3 =>
      if t = true then (ev P d e h3).bind fun z h4 => cmpop c' y z h4 else .ok (.bl false) h3
  | .sub a i, e, h => (ev P a e h).bind fun x h1 => (ev P i e h1).bind fun y h2 => subsc x y h2
  | .slc a lo hi, e, h => (ev P a e h).bind fun x h1 => (evo P lo e h1).bind fun l h2 => (evo P hi e h2).bind fun u h3 => slice x l u h3
  | .rvs a, e, h => (ev P a e h).bind fun x h1 => match getL h1 x with
    | some ws => newL ws.reverse h1
    | none => .bad
  | .att a f, e, h => (ev P a e h).bind fun x h1 => match getI h1 x with
    | some (c, fs) => if P.fld c f then Rz.of (fget fs f) h1 else .bad
    | none => .bad
  | .call f es, e, h => (evs P es e h).bind fun ws h1 => P.run f ws h1
  | .make c es, e, h => (evs P es e h).bind fun ws h1 => make P c ws h1
  | .meth a m es, e, h => (ev P a e h).bind fun x h1 => match getI h1 x with
    | some (c, fs) => match methOf P c m, fget fs m with
      | some f, none => (evs P es e h1).bind fun ws h2 => P.run f (x :: ws) h2
      | _, _ => .bad
    | none => .bad
  | .sup c m es, e, h => match methOf P c m with
    | some f => (evs P es e h).bind fun ws h1 => P.run f ws h1
    | none => .bad
  | .blt b es, e, h => (evs P es e h).bind fun ws h1 => blt b ws h1
  | .lm m a es, e, h => (ev P a e h).bind fun x h1 => if isL h1 x = true then (evs P es e h1).bind fun ws h2 => lmop m x ws h2 else .bad
  | .isi a t, e, h => (ev P a e h).bind fun x h1 => match t with
    | [t] => (Rz.of (t.has h1 x) h1).bind fun b h2 => .ok (.bl b) h2
    | _ => .bad
  | .comp elt own tg it cd, e, h => (evi P it e h).bind fun (src : Src) h1 =>
      compL (fun w h2 => (Rz.of (tg.bind w (wipes e own)) h2).bind fun e' h3 => match cd with
        | none => (ev P elt e' h3).bind fun v h4 => .ok (some v) h4
        | some c => (tst P c e' h3).bind fun t h4 => if t = true then (ev P elt e' h4).bind fun v h5 => .ok (some v) h5 else .ok none h4) src.2 h1.length src.1 (h1 ++ [.lst []])
def evs (P : Wd) : List Ex → Ev → Hs → Rz (List Wv)
  | [], _, h => .ok [] h
  | x :: xs, e, h => (ev P x e h).bind fun w h1 => (evs P xs e h1).bind fun ws h2 => .ok (w :: ws) h2
def evo (P : Wd) : Option Ex → Ev → Hs → Rz (Option Int)
  | none, _, h => .ok none h
  | some x, e, h => (ev P x e h).bind fun w h1 => match w with
    | .int i => .ok (some i) h1
    | _ => .bad
def evi (P : Wd) : Itr → Ev → Hs → Rz Src
  | .seq x, e, h => (ev P x e h).bind fun w h1 => Rz.of (srcOf h1 w) h1
  | .rng es, e, h => (evs P es e h).bind fun ws h1 => Rz.of (srcRange ws) h1
  | .enm x, e, h => (ev P x e h).bind fun w h1 => Rz.of ((srcL h1 w).map fun s => (enumd 0 s.1, s.2)) h1
  | .zip es, e, h => (evs P es e h).bind fun ws h1 => Rz.of (srcZip h1 ws) h1
  | .rev x, e, h => (ev P x e h).bind fun w h1 => Rz.of ((srcOf h1 w).map fun s => (s.1.reverse, s.2)) h1
def tst (P : Wd) : Ex → Ev → Hs → Rz Bool
  | .not a, e, h => (tst P a e h).bind fun b h1 => .ok (!b) h1
  | .and a b, e, h => (tst P a e h).bind fun t h1 => if t = true then tst P b e h1 else .ok false h1
  | .or a b, e, h => (tst P a e h).bind fun t h1 => if t = true then .ok true h1 else tst P b e h1
  | .ite c a b, e, h => (tst P c e h).bind fun t h1 => if t = true then tst P a e h1 else tst P b e h1
  | x, e, h => (ev P x e h).bind fun w h1 => Rz.of (truth h1 w) h1
end

def forL (body : Ev → Hs → Rz Fl) (tg : Tg) (ck : List (Nat × List Wv)) : List Wv → Ev → Hs → Rz Fl
  | [], e, h => if stay h ck then .ok (.nx e) h else .bad
  | w :: ws, e, h => if stay h ck then (match tg.bind w e with
      | some e1 => (body e1 h).bind fun f h2 => match f with
        | .nx e2 => forL body tg ck ws e2 h2
        | .cont e2 => forL body tg ck ws e2 h2
        | .brk e2 => .ok (.nx e2) h2
        | .ret v => .ok (.ret v) h2
      | none => .bad) else .bad
def whlL (c : Ev → Hs → Rz Bool) (body : Ev → Hs → Rz Fl) : Nat → Ev → Hs → Rz Fl
  | 0, _, _ => .bad
  | n + 1, e, h => (c e h).bind fun t h1 => if t = true then (body e h1).bind fun f h2 => match f with
        | .nx e2 => whlL c body n e2 h2
        | .cont e2 => whlL c body n e2 h2
        | .brk e2 => .ok (.nx e2) h2
        | .ret v => .ok (.ret v) h2
      else .ok (.nx e) h1
def store (P : Wd) (t : Tgt) (v : Wv) (e : Ev) (h : Hs) : Rz Fl :=
  match t with
  | .tg t => match t.bind v e with
    | some e' => .ok (.nx e') h
    | none => .bad
  | .sub a i => (ev P a e h).bind fun x h1 => (ev P i e h1).bind fun y h2 => (storeSub x y v h2).bind fun _ h3 => .ok (.nx e) h3
  | .att a f => (ev P a e h).bind fun x h1 => match x with
    | .ref k => match h1[k]? with
      | some (.ins c fs) => if P.fld c f = true ∧ fs.length < 1000 then .ok (.nx e) (h1.set k (.ins c (fput f v fs))) else .bad
      | _ => .bad
    | _ => .bad
/-! within an except suite -/
mutual
def hev (c : Nat) (w : Wv) : Hx → Ev → Hs → Rz Wv
  | .atv, _, h => .ok w h
  | .var j, e, h => match e[j]? with
    | some (some v) => .ok v h
    | _ => .bad
  | .cst v, _, h => match v with
    | .non => .ok v h
    | .bl _ => .ok v h
    | .int _ => .ok v h
    | .str _ => .ok v h
    | _ => .bad
  | .tup xs, e, h => (hevs c w xs e h).bind fun ws h1 => if ws.length ≤ sizeLine then .ok (.tup ws) h1 else .bad
  | .isx yes no, _, h => if yes.contains c = true then .ok (.bl true) h else if no.contains c = true then .ok (.bl false) h else .bad
  | .not _, _, _ => .bad
  | .or _ _, _, _ => .bad
  | .and _ _, _, _ => .bad
def hevs (c : Nat) (w : Wv) : List Hx → Ev → Hs → Rz (List Wv)
  | [], _, h => .ok [] h
  | x :: xs, e, h => (hev c w x e h).bind fun v h1 => (hevs c w xs e h1).bind fun vs h2 => .ok (v :: vs) h2
end
def htst (c : Nat) (w : Wv) : Hx → Ev → Hs → Rz Bool
  | .not a, e, h => (htst c w a e h).bind fun t h1 => .ok (!t) h1
  | .or a b, e, h => (htst c w a e h).bind fun t h1 => if t = true then .ok true h1 else htst c w b e h1
  | .and a b, e, h => (htst c w a e h).bind fun t h1 => if t = true then htst c w b e h1 else .ok false h1
  | x, e, h => (hev c w x e h).bind fun v h1 => match v with
    | .bl t => .ok t h1
    | _ => .bad
mutual
def hex (i c : Nat) (w : Wv) : Hm → Ev → Hs → Rz Fl
  | .asg j x, e, h => (hev c w x e h).bind fun v h1 => if j = i ∨ e.length ≤ j then .bad else .ok (.nx (e.set j (some v))) h1
  | .ret x, e, h => (hev c w x e h).bind fun v h1 => .ok (.ret v) h1
  | .ifs t b, e, h => (htst c w t e h).bind fun r h1 => if r = true then hexs i c w b e h1 else .ok (.nx e) h1
def hexs (i c : Nat) (w : Wv) : List Hm → Ev → Hs → Rz Fl
  | [], e, h => .ok (.nx e) h
  | s :: ss, e, h => (hex i c w s e h).bind fun f h1 => match f with
    | .nx e1 => hexs i c w ss e1 h1
    | f => .ok f h1
end
mutual
def ex (P : Wd) : Sm → Ev → Hs → Rz Fl
  | .asg t x, e, h => (ev P x e h).bind fun v h1 => store P t v e h1
  | .par i j a b, e, h => (ev P a e h).bind fun x h1 => (ev P b e h1).bind fun y h2 => if i < e.length ∧ j < e.length then .ok (.nx ((e.set i (some x)).set j (some y))) h2 else .bad
  | .augn i o x, e, h => match e[i]? with
    | some (some v) => (ev P x e h).bind fun y h1 => match v, y with
      | .int _, .int _ => (binop o v y h1).bind fun z h2 => .ok (.nx (e.set i (some z))) h2
      | _, _ => .bad
    | _ => .bad
  | .augf a f o x, e, h => (ev P a e h).bind fun r h1 => match r with
    | .ref k => match h1[k]? with
      | some (.ins c fs) => if P.fld c f = true then (match fget fs f with
        | some v => (ev P x e h1).bind fun y h2 => match v, y with
          | .int _, .int _ => (binop o v y h2).bind fun z h3 => match h3[k]? with
            | some (.ins c' fs') => if c' = c ∧ fs'.length < 1000 then .ok (.nx e) (h3.set k (.ins c (fput f z fs'))) else .bad
            | _ => .bad
          | _, _ => .bad
        | none => .bad) else .bad
      | _ => .bad
    | _ => .bad
  | .exp x, e, h => (ev P x e h).bind fun _ h1 => .ok (.nx e) h1
  | .ret x, e, h => (ev P x e h).bind fun v h1 => .ok (.ret v) h1
  | .retn, _, h => .ok (.ret .non) h
  | .ifs c a b, e, h => (tst P c e h).bind fun t h1 => if t = true then exs P a e h1 else exs P b e h1
  | .whl c b, e, h => whlL (tst P c) (exs P b) P.turns e h
  | .for t it b, e, h => (evi P it e h).bind fun (src : Src) h1 => forL (exs P b) t src.2 src.1 e h1
  | .pass, e, h => .ok (.nx e) h
  | .brk, e, h => .ok (.brk e) h
  | .cont, e, h => .ok (.cont e) h
  | .rse c x, e, h => (ev P x e h).bind fun v h1 => .exc c v h1
  | .tryx y i yes no hs, e, h => match ex P y e h with
    | .exc c w h1 => if yes.contains c = true then (if i < e.length then (hexs i c w hs (e.set i none) h1).bind fun f h2 => match f with
        | .nx e2 => .ok (.nx (e2.set i none)) h2
        | .ret v => .ok (.ret v) h2
        | _ => .bad else .bad) else if no.contains c = true then .exc c w h1 else .bad
    | r => r
  | .never, _, _ => .bad
def exs (P : Wd) : List Sm → Ev → Hs → Rz Fl
  | [], e, h => .ok (.nx e) h
  | s :: ss, e, h => (ex P s e h).bind fun f h1 => match f with
    | .nx e1 => exs P ss e1 h1
    | f => .ok f h1
end

/-- a def: its parameters, its names, its body -/
structure Df where
  np : Nat
  ns : Nat
  body : List Sm
  md : Md
def start (n : Nat) (ws : List Wv) : Ev := ws.map some ++ List.replicate (n - ws.length) none
def bodyEnd (r : Rz Fl) : Rz Wv := r.bind fun f h => match f with
  | .nx _ => .ok .non h
  | .ret w => .ok w h
  | _ => .bad
def callD (D : Nat → Option Df) (glo : Nat → Option Wv) (cls : Nat → Option Cl) (fld : Nat → Nat → Bool) (turns : Nat) : Nat → Nat → List Wv → Hs → Rz Wv
  | 0, _, _, _ => .bad
  | n + 1, f, ws, h => match D f with
    | some d => if ws.length = d.np then
        (bodyEnd (exs ⟨glo, cls, fld, callD D glo cls fld turns n, turns⟩ d.body (start d.ns ws) h)).bind fun w h1 => ended d.md h.length h w h1
      else .bad
    | none => .bad
end SL

set_option maxRecDepth 100000
/-! How the evaluator's values lie in the abstract heap. -/
namespace SL
open PySem L2

/-- where classes and defs stand, what attributes are called -/
structure Nam where
  K : PySem.W.Frag
  cA : Nat → Addr
  xA : Nat → Addr
  nm : Nat → Str
  atF : Nat
  inj : ∀ f g, nm f = nm g → f = g

def KTup (K : PySem.W.Frag) (a : Addr) (xs : List V) : Prop := ∃ (o : Obj) (its : Array Value) (n : Nat), K.lookup a = some o ∧ o.cls = .type "tuple" ∧ o.data = .seq its n ∧ its.size ≤ sizeLine ∧ Vals xs its.toList
def KLst (K : PySem.W.Frag) (a : Addr) (xs : List V) : Prop := ∃ (o : Obj) (its : Array Value) (n : Nat), K.lookup a = some o ∧ o.cls = .type "list" ∧ o.dict = none ∧ o.data = .seq its n ∧ its.size ≤ sizeLine ∧ Vals xs its.toList
def TupAt (K : PySem.W.Frag) (ι : List Addr) (H : Hp) (a : Addr) (xs : List V) : Prop := (Rd H a (.tup xs) ∧ a ∉ ι) ∨ KTup K a xs
def LstAt (K : PySem.W.Frag) (ι : List Addr) (H : Hp) (a : Addr) (xs : List V) : Prop := (Rd H a (.lst xs) ∧ a ∉ ι) ∨ KLst K a xs
theorem TupAt.seq {K : PySem.W.Frag} {ι : List Addr} {H : Hp} {a : Addr} {xs : List V} (h : TupAt K ι H a xs) : SqT K H a xs := h.imp (fun h => h.1) fun h => h
theorem LstAt.seq {K : PySem.W.Frag} {ι : List Addr} {H : Hp} {a : Addr} {xs : List V} (h : LstAt K ι H a xs) : SqL K H a xs := h.imp (fun h => h.1) fun h => h

mutual
inductive VR (n : Nam) (ι : List Addr) (H : Hp) : V → Wv → Prop
  | non : VR n ι H .non .non
  | bl (b : Bool) : VR n ι H (.bl b) (.bl b)
  | int (i : Int) : VR n ι H (.int i) (.int i)
  | str (x : Str) : VR n ι H (.str x) (.str x)
  | tup {a : Addr} {vs : List V} {ws : List Wv} : TupAt n.K ι H a vs → VRs n ι H vs ws → VR n ι H (.ref a) (.tup ws)
  | lst {a : Addr} {vs : List V} {ws : List Wv} : LstAt n.K ι H a vs → VRs n ι H vs ws → VR n ι H (.ref a) (.lst ws)
  | ins {a dx : Addr} {fs : List (Str × V)} {c : Nat} {ws : List (Nat × Wv)} : H a = some (.ins (n.cA c) dx fs) → a ∉ ι → VRf n ι H fs ws → VR n ι H (.ref a) (.ins c ws)
  | ref {k : Nat} {a : Addr} : ι[k]? = some a → VR n ι H (.ref a) (.ref k)
inductive VRs (n : Nam) (ι : List Addr) (H : Hp) : List V → List Wv → Prop
  | nil : VRs n ι H [] []
  | cons {v : V} {w : Wv} {vs : List V} {ws : List Wv} : VR n ι H v w → VRs n ι H vs ws → VRs n ι H (v :: vs) (w :: ws)
inductive VRf (n : Nam) (ι : List Addr) (H : Hp) : List (Str × V) → List (Nat × Wv) → Prop
  | nil : VRf n ι H [] []
  | cons {f : Nat} {v : V} {w : Wv} {vs : List (Str × V)} {ws : List (Nat × Wv)} : VR n ι H v w → VRf n ι H vs ws → VRf n ι H ((n.nm f, v) :: vs) ((f, w) :: ws)
end

/-- what a cell's object is -/
inductive OR (n : Nam) (ι : List Addr) (H : Hp) : HO → Ob → Prop
  | lst {vs : List V} {ws : List Wv} : VRs n ι H vs ws → OR n ι H (.lst vs) (.lst ws)
  | ins {dx : Addr} {fs : List (Str × V)} {c : Nat} {ws : List (Nat × Wv)} : VRf n ι H fs ws → OR n ι H (.ins (n.cA c) dx fs) (.ins c ws)
structure HR (n : Nam) (ι : List Addr) (H : Hp) (hp : Hs) : Prop where
  len : ι.length = hp.length
  nd : ι.Nodup
  at_ : ∀ (k : Nat) (a : Addr) (o : Ob), ι[k]? = some a → hp[k]? = some o → ∃ ho, H a = some ho ∧ OR n ι H ho o
/-- from the one state to the other: cells may change, new ones come, nothing else that is tracked changes -/
structure Fr (ι : List Addr) (H : Hp) (ι' : List Addr) (H' : Hp) : Prop where
  pre : ι <+: ι'
  new : ∀ a ∈ ι', a ∉ ι → H a = none
  keep : ∀ a o, H a = some o → a ∉ ι → H' a = some o
theorem Fr.refl (ι : List Addr) (H : Hp) : Fr ι H ι H := ⟨List.prefix_refl _, fun _ h h' => absurd h h', fun _ _ h _ => h⟩
theorem Fr.trans {ι ι1 ι2 : List Addr} {H H1 H2 : Hp} (a : Fr ι H ι1 H1) (b : Fr ι1 H1 ι2 H2) : Fr ι H ι2 H2 where
  pre := a.pre.trans b.pre
  new := fun x hx hn => by
    by_cases h1 : x ∈ ι1
    · exact a.new x h1 hn
    · have q := b.new x hx h1
      cases e : H x with
      | none => rfl
      | some o => rw [a.keep x o e hn] at q; cases q
  keep := fun x o e hn => by
    have q := a.keep x o e hn
    refine b.keep x o q fun h1 => ?_
    rw [a.new x h1 hn] at e; cases e
theorem Fr.notin {ι ι' : List Addr} {H H' : Hp} (F : Fr ι H ι' H') {a : Addr} {o : HO} (e : H a = some o) (hn : a ∉ ι) : a ∉ ι' := fun h => by
  rw [F.new a h hn] at e; cases e
theorem Fr.rd {ι ι' : List Addr} {H H' : Hp} (F : Fr ι H ι' H') {a : Addr} {u : HO} (e : Rd H a u) (hn : a ∉ ι) : Rd H' a u ∧ a ∉ ι' := by
  rcases e with e | ⟨o, e⟩
  · exact ⟨.inl (F.keep _ _ e hn), F.notin e hn⟩
  · exact ⟨.inr ⟨o, F.keep _ _ e hn⟩, F.notin e hn⟩
theorem Fr.tup {K : PySem.W.Frag} {ι ι' : List Addr} {H H' : Hp} (F : Fr ι H ι' H') {a : Addr} {xs : List V} (h : TupAt K ι H a xs) : TupAt K ι' H' a xs := h.imp (fun h => F.rd h.1 h.2) fun h => h
theorem Fr.lst {K : PySem.W.Frag} {ι ι' : List Addr} {H H' : Hp} (F : Fr ι H ι' H') {a : Addr} {xs : List V} (h : LstAt K ι H a xs) : LstAt K ι' H' a xs := h.imp (fun h => F.rd h.1 h.2) fun h => h
theorem pre_get {α : Type} {l l' : List α} (h : l <+: l') {k : Nat} {a : α} (e : l[k]? = some a) : l'[k]? = some a := by
  obtain ⟨t, rfl⟩ := h
  rw [List.getElem?_append_left (List.getElem?_eq_some_iff.mp e).1]; exact e

section
variable {n : Nam} {ι ι' : List Addr} {H H' : Hp}
mutual
theorem VR.mono (F : Fr ι H ι' H') : ∀ {v : V} {w : Wv}, VR n ι H v w → VR n ι' H' v w
  | _, _, .non => .non
  | _, _, .bl b => .bl b
  | _, _, .int i => .int i
  | _, _, .str x => .str x
  | _, _, .tup h hs => .tup (F.tup h) (VRs.mono F hs)
  | _, _, .lst h hs => .lst (F.lst h) (VRs.mono F hs)
  | _, _, .ins h hn hf => .ins (F.keep _ _ h hn) (F.notin h hn) (VRf.mono F hf)
  | _, _, .ref h => .ref (pre_get F.pre h)
theorem VRs.mono (F : Fr ι H ι' H') : ∀ {v : List V} {w : List Wv}, VRs n ι H v w → VRs n ι' H' v w
  | _, _, .nil => .nil
  | _, _, .cons h t => .cons (VR.mono F h) (VRs.mono F t)
theorem VRf.mono (F : Fr ι H ι' H') : ∀ {v : List (Str × V)} {w : List (Nat × Wv)}, VRf n ι H v w → VRf n ι' H' v w
  | _, _, .nil => .nil
  | _, _, .cons h t => .cons (VR.mono F h) (VRf.mono F t)
end
theorem OR.mono (F : Fr ι H ι' H') {ho : HO} {o : Ob} (h : OR n ι H ho o) : OR n ι' H' ho o := by
  cases h with
  | lst h => exact .lst (h.mono F)
  | ins h => exact .ins (h.mono F)

theorem VRs.length : ∀ {vs : List V} {ws : List Wv}, VRs n ι H vs ws → vs.length = ws.length
  | _, _, .nil => rfl
  | _, _, .cons _ t => by rw [List.length_cons, List.length_cons, t.length]
theorem VRs.get : ∀ {vs : List V} {ws : List Wv}, VRs n ι H vs ws → ∀ {i : Nat} {w : Wv}, ws[i]? = some w → ∃ v, vs[i]? = some v ∧ VR n ι H v w
  | _, _, .nil, i, w, e => by simp at e
  | _, _, .cons h t, 0, w, e => by
    simp at e; subst e; exact ⟨_, rfl, h⟩
  | _, _, .cons h t, i + 1, w, e => by
    obtain ⟨v, h1, h2⟩ := t.get (i := i) (by simpa using e)
    exact ⟨v, by simpa using h1, h2⟩
theorem VRs.get' : ∀ {vs : List V} {ws : List Wv}, VRs n ι H vs ws → ∀ {i : Nat} {v : V}, vs[i]? = some v → ∃ w, ws[i]? = some w ∧ VR n ι H v w
  | _, _, .nil, i, w, e => by simp at e
  | _, _, .cons h t, 0, w, e => by
    simp at e; subst e; exact ⟨_, rfl, h⟩
  | _, _, .cons h t, i + 1, w, e => by
    obtain ⟨v, h1, h2⟩ := t.get' (i := i) (by simpa using e)
    exact ⟨v, by simpa using h1, h2⟩
theorem VRs.append : ∀ {vs us : List V} {ws xs : List Wv}, VRs n ι H vs ws → VRs n ι H us xs → VRs n ι H (vs ++ us) (ws ++ xs)
  | _, _, _, _, .nil, h => h
  | _, _, _, _, .cons h t, h' => .cons h (t.append h')
theorem VRs.set {v : V} {w : Wv} (r : VR n ι H v w) : ∀ {vs : List V} {ws : List Wv} (i : Nat), VRs n ι H vs ws → VRs n ι H (vs.set i v) (ws.set i w)
  | _, _, _, .nil => .nil
  | _, _, 0, .cons _ t => .cons r t
  | _, _, i + 1, .cons h t => .cons h (VRs.set r i t)
theorem VRs.take : ∀ {vs : List V} {ws : List Wv} (k : Nat), VRs n ι H vs ws → VRs n ι H (vs.take k) (ws.take k)
  | _, _, 0, _ => .nil
  | _, _, _ + 1, .nil => .nil
  | _, _, k + 1, .cons h t => .cons h (t.take k)
theorem VRs.drop : ∀ {vs : List V} {ws : List Wv} (k : Nat), VRs n ι H vs ws → VRs n ι H (vs.drop k) (ws.drop k)
  | _, _, 0, h => h
  | _, _, _ + 1, .nil => .nil
  | _, _, k + 1, .cons h t => t.drop k
theorem VRs.reverse {vs : List V} {ws : List Wv} (h : VRs n ι H vs ws) : VRs n ι H vs.reverse ws.reverse := by
  induction vs generalizing ws with
  | nil => cases h; exact .nil
  | cons v vs ih =>
    cases h with
    | cons h t =>
      rw [List.reverse_cons, List.reverse_cons]
      exact (ih t).append (.cons h .nil)
theorem VRs.dropLast {vs : List V} {ws : List Wv} (h : VRs n ι H vs ws) : VRs n ι H vs.dropLast ws.dropLast := by
  rw [List.dropLast_eq_take, List.dropLast_eq_take, h.length]; exact h.take _
theorem VRs.eraseIdx : ∀ {vs : List V} {ws : List Wv} (k : Nat), VRs n ι H vs ws → VRs n ι H (vs.eraseIdx k) (ws.eraseIdx k)
  | _, _, _, .nil => .nil
  | _, _, 0, .cons h t => t
  | _, _, k + 1, .cons h t => .cons h (t.eraseIdx k)

/-! ### reading lists -/
theorem HR.cell {hp : Hs} (R : HR n ι H hp) {k : Nat} {o : Ob} (e : hp[k]? = some o) : ∃ a ho, ι[k]? = some a ∧ H a = some ho ∧ OR n ι H ho o := by
  have hl := (List.getElem?_eq_some_iff.mp e).1
  rw [← R.len] at hl
  obtain ⟨ho, h1, h2⟩ := R.at_ k _ o (List.getElem?_eq_getElem hl) e
  exact ⟨_, ho, List.getElem?_eq_getElem hl, h1, h2⟩
theorem HR.there {hp : Hs} (R : HR n ι H hp) {a : Addr} (h : a ∈ ι) : ∃ ho, H a = some ho := by
  obtain ⟨k, hk, e⟩ := List.getElem_of_mem h
  have hk' := hk
  rw [R.len] at hk'
  obtain ⟨ho, h1, _⟩ := R.at_ k a _ (by rw [List.getElem?_eq_getElem hk, e]) (List.getElem?_eq_getElem hk')
  exact ⟨ho, h1⟩
theorem HR.fresh {hp : Hs} (R : HR n ι H hp) {p : Addr} (e : H p = none) : p ∉ ι := fun h => by
  obtain ⟨o, q⟩ := R.there h
  rw [e] at q; cases q
/-- a list value's items -/
theorem getL_rel {hp : Hs} (R : HR n ι H hp) {v : V} {w : Wv} (h : VR n ι H v w) {ws : List Wv} (e : getL hp w = some ws) : ∃ a vs, v = .ref a ∧ SqL n.K H a vs ∧ VRs n ι H vs ws := by
  cases h with
  | lst h hs => simp only [getL, Option.some.injEq] at e; subst e; exact ⟨_, _, rfl, h.seq, hs⟩
  | @ref k a h =>
    simp only [getL] at e
    split at e
    · rename_i ws' q
      cases e
      obtain ⟨ho, h1, h2⟩ := R.at_ k a _ h q
      cases h2 with
      | lst h3 => exact ⟨a, _, rfl, SqL.of h1, h3⟩
    · cases e
  | _ => simp [getL] at e
theorem getS_rel {hp : Hs} (R : HR n ι H hp) {v : V} {w : Wv} (h : VR n ι H v w) {ws : List Wv} (e : getS hp w = some ws) : ∃ a vs, v = .ref a ∧ (SqL n.K H a vs ∨ SqT n.K H a vs) ∧ VRs n ι H vs ws := by
  cases h with
  | tup h hs => simp only [getS, Option.some.injEq] at e; subst e; exact ⟨_, _, rfl, .inr h.seq, hs⟩
  | lst h hs =>
    obtain ⟨a, vs, h1, h2, h3⟩ := getL_rel R (.lst h hs) (ws := ws) (by simpa [getS] using e)
    exact ⟨a, vs, h1, .inl h2, h3⟩
  | ref h =>
    obtain ⟨a, vs, h1, h2, h3⟩ := getL_rel R (.ref h) (ws := ws) (by simpa [getS] using e)
    exact ⟨a, vs, h1, .inl h2, h3⟩
  | _ => simp [getS, getL] at e

/-! ### outcomes -/
/-- what is wished of an outcome -/
def Af {α β : Type} (n : Nam) (Rel : List Addr → Hp → β → α → Prop) (ι : List Addr) (H : Hp) (r : Rz α) (Q : β → Hp → Prop) (E : Nat → Wv → Hs → List Addr → Hp → Prop) : Prop :=
  match r with
  | .ok a hp' => ∀ b ι' H', Fr ι H ι' H' → HR n ι' H' hp' → Rel ι' H' b a → Q b H'
  | .exc c w hp' => ∀ ι' H', Fr ι H ι' H' → HR n ι' H' hp' → E c w hp' ι' H'
  | .bad => False
variable {α β γ δ : Type} {Rel : List Addr → Hp → β → α → Prop} {Rel2 : List Addr → Hp → δ → γ → Prop} {E : Nat → Wv → Hs → List Addr → Hp → Prop}
theorem Af.mono {r : Rz α} {Q Q' : β → Hp → Prop} (h : Af n Rel ι H r Q E) (hq : ∀ b H', Q b H' → Q' b H') : Af n Rel ι H r Q' E := by
  cases r with
  | ok a hp' => exact fun b ι' H' F R V => hq _ _ (h b ι' H' F R V)
  | exc c w hp' => exact h
  | bad => exact h
theorem Af.here {a : α} {hp : Hs} {b : β} {Q : β → Hp → Prop} (h : Af n Rel ι H (.ok a hp) Q E) (R : HR n ι H hp) (V : Rel ι H b a) : Q b H := h b ι H (Fr.refl _ _) R V
/-- one after the other -/
theorem Af.bind {r : Rz α} {k : α → Hs → Rz γ} {Q : δ → Hp → Prop} (h : Af n Rel2 ι H (r.bind k) Q E) :
    Af n Rel ι H r (fun b H1 => ∃ ι1 hp1 a, Fr ι H ι1 H1 ∧ HR n ι1 H1 hp1 ∧ Rel ι1 H1 b a ∧ Af n Rel2 ι1 H1 (k a hp1) Q E) E := by
  cases r with
  | ok a hp1 =>
    rw [Rz.bind_ok] at h
    intro b ι1 H1 F R V
    refine ⟨ι1, hp1, a, F, R, V, ?_⟩
    cases q : k a hp1 with
    | ok c hp2 =>
      rw [q] at h
      exact fun b2 ι2 H2 F2 R2 V2 => h b2 ι2 H2 (F.trans F2) R2 V2
    | exc c w hp2 =>
      rw [q] at h
      exact fun ι2 H2 F2 R2 => h ι2 H2 (F.trans F2) R2
    | bad => rw [q] at h; exact h
  | exc c w hp1 => exact h
  | bad => exact h
/-- behind a change of the state -/
theorem Af.at {r : Rz α} {Q : β → Hp → Prop} (h : Af n Rel ι H r Q E) (F : Fr ι H ι' H') : Af n Rel ι' H' r Q E := by
  cases r with
  | ok a hp' => exact fun b ι2 H2 F2 R V => h b ι2 H2 (F.trans F2) R V
  | exc c w hp' => exact fun ι2 H2 F2 R => h ι2 H2 (F.trans F2) R
  | bad => exact h
end
end SL

set_option maxRecDepth 100000
set_option maxHeartbeats 4000000
/-! A tuple times 1. -/
namespace SL
open PySem L2 PySem.Spec PyProof.Rows
set_option autoImplicit false
theorem tuple_mul1 (l : Addr) (items : Array Value) (n : Nat) (x : Int) (u : Tok) (c0 : (decide (x < -(2 ^ 63)) || decide (x ≥ 2 ^ 63)) = false) (c1 : (items.isEmpty || x == 1) = true) :
    Meets (Builtin.«tuple.__mul__» ⟨[.ref l, .int x u], []⟩) (fun _ R s => (∃ dd sl, s.heap.get? l = some { cls := .type "tuple", dict := dd, data := .seq items n, slots := sl }) ∧
      R (.ok (.ret (Value.ref l))) s) :=
  .of_wp fun prog w A R s h => by
    obtain ⟨hp, g, d, tk, os⟩ := s
    obtain ⟨⟨dd, sl, hl⟩, h⟩ := h
    have f1 := AutoSeq1.idx_int
    wp_walk using wpAny_loadPart' hl
    repeat (first
      | (refine wpAny_ite_false (decide_eq_false (by rw [c0]; exact Bool.false_ne_true)) ?_; wp_walk using wpAny_loadPart' hl)
      | (refine wpAny_ite_true (decide_eq_true (by rw [c1])) ?_; wp_walk using wpAny_loadPart' hl))
    exact ⟨_, rfl, h⟩
def rRepT1 (K : PySem.W.Frag) : R2 := fun x y H Q => ∃ l xs, x = .ref l ∧ y = .int 1 ∧ SqT K H l xs ∧ Q (.ref l) H
section
variable {X : Cx}
theorem op_repT1 : OpR X (binaryOp .Mult) (rRepT1 X.K) := by
  intro pins s σ H x y v u Q I rx ry h
  obtain ⟨l, xs, rfl, rfl, hT, q⟩ := h
  cases rx
  obtain ⟨t, rfl⟩ := ry
  obtain ⟨its, r, ⟨⟨cls, dd, data, sl⟩, ho, hc, n, hd⟩, hs⟩ := I.tuple hT
  simp only at hc hd
  subst hc hd
  have c0 : (decide ((1 : Int) < -(2 ^ 63)) || decide ((1 : Int) ≥ 2 ^ 63)) = false := by decide
  have c1 : (its.toArray.isEmpty || (1 : Int) == 1) = true := by
    rw [show ((1 : Int) == 1) = true from rfl, Bool.or_true]
  exact wpAny_binaryOp_repeat_ref (T := "tuple") (U := "int") (by decide) ⟨_, ho, rfl⟩ (fun s' => typeIs_int s' 1 t) noFill_tuple_mul F.fills_int_mul F.slot_int_rmul repeat_tuple F.slot_int_index.lookup
    (call_meets F.slot_int_rmul (typeIs_int s 1 t) F.entry_int_rmul (F.args_int_rmul_2 _ _) (int_rmul_tuple 1 t l its.toArray n dd sl)
      ⟨ho, rfl, ⟨_, ho, rfl⟩, call_meets F.slot_tuple_mul ⟨_, ho, rfl⟩ F.entry_tuple_mul (F.args_tuple_mul_2 _ _) (tuple_mul1 l its.toArray n 1 t c0 c1) ⟨⟨dd, sl, ho⟩, .ref l, H, I, rfl, q⟩⟩)
end
theorem tuple_mul0 (l : Addr) (items : Array Value) (n : Nat) (x : Int) (u : Tok) (c0 : (decide (x < -(2 ^ 63)) || decide (x ≥ 2 ^ 63)) = false) (c1 : (items.isEmpty || x == 1) = false) (c2 : (decide (x ≤ 0) || items.isEmpty) = true) :
    Meets (Builtin.«tuple.__mul__» ⟨[.ref l, .int x u], []⟩) (fun _ R s => (∃ dd sl, s.heap.get? l = some { cls := .type "tuple", dict := dd, data := .seq items n, slots := sl }) ∧
      R (.ok (.ret (Value.ref s.heap.objs.size))) { s with heap := s.heap.push { cls := Value.type "tuple", data := Data.seq #[] }, toks := s.toks }) :=
  .of_wp fun prog w A R s h => by
    obtain ⟨hp, g, d, tk, os⟩ := s
    obtain ⟨⟨dd, sl, hl⟩, h⟩ := h
    have f1 := AutoSeq1.idx_int
    wp_walk using wpAny_loadPart' hl
    repeat (first
      | (refine wpAny_ite_false (decide_eq_false (by rw [c0]; exact Bool.false_ne_true)) ?_; wp_walk using wpAny_loadPart' hl)
      | (refine wpAny_ite_false (decide_eq_false (by rw [c1]; exact Bool.false_ne_true)) ?_; wp_walk using wpAny_loadPart' hl)
      | (refine wpAny_ite_true (decide_eq_true (by rw [c2])) ?_; wp_walk using wpAny_loadPart' hl))
    exact ⟨_, rfl, h⟩
def rRepT0 (K : PySem.W.Frag) : R2 := fun x y H Q => ∃ l k xs, x = .ref l ∧ y = .int k ∧ SqT K H l xs ∧ xs ≠ [] ∧ k ≤ 0 ∧ -(2 ^ 63) ≤ k ∧ ∀ p, H p = none → Q (.ref p) (upd H p (.tup []))
section
variable {X : Cx}
theorem op_repT0 : OpR X (binaryOp .Mult) (rRepT0 X.K) := by
  intro pins s σ H x y v u Q I rx ry h
  obtain ⟨l, k, xs, rfl, rfl, hT, hne, h1, h2, q⟩ := h
  cases rx
  obtain ⟨t, rfl⟩ := ry
  obtain ⟨its, r, ⟨⟨cls, dd, data, sl⟩, ho, hc, n, hd⟩, hs⟩ := I.tuple hT
  simp only at hc hd
  subst hc hd
  have hle : its.length = xs.length := r.length.symm
  have hn : its ≠ [] := fun e => hne (by
    rw [e] at hle
    exact List.eq_nil_of_length_eq_zero hle.symm)
  have hi : its.toArray.isEmpty = false := by
    cases its with
    | nil => exact absurd rfl hn
    | cons a b => rfl
  have c0 : (decide (k < -(2 ^ 63)) || decide (k ≥ 2 ^ 63)) = false := by
    rw [decide_eq_false (by omega), decide_eq_false (by omega)] <;> rfl
  have c1 : (its.toArray.isEmpty || k == 1) = false := by
    rw [hi, Bool.false_or]
    exact beq_eq_false_iff_ne.mpr (by omega)
  have c2 : (decide (k ≤ 0) || its.toArray.isEmpty) = true := by
    rw [decide_eq_true h1, Bool.true_or]
  refine wpAny_binaryOp_repeat_ref (T := "tuple") (U := "int") (by decide) ⟨_, ho, rfl⟩ (fun s' => typeIs_int s' k t) noFill_tuple_mul F.fills_int_mul F.slot_int_rmul repeat_tuple F.slot_int_index.lookup
    (call_meets F.slot_int_rmul (typeIs_int s k t) F.entry_int_rmul (F.args_int_rmul_2 _ _) (int_rmul_tuple k t l its.toArray n dd sl)
      ⟨ho, rfl, ⟨_, ho, rfl⟩, call_meets F.slot_tuple_mul ⟨_, ho, rfl⟩ F.entry_tuple_mul (F.args_tuple_mul_2 _ _) (tuple_mul0 l its.toArray n k t c0 c1 c2) ⟨⟨dd, sl, ho⟩, ?_⟩⟩)
  refine ⟨.ref s.heap.objs.size, _, I.laid (t' := s.toks) (o := .tup []) (fun b ob q => Heap.get?_push_of_some _ q) (Nat.le_refl _) ?_, rfl, q _ (I.hok.fresh (Nat.le_refl _))⟩
  exact ⟨Nat.zero_le _, [], .nil, IsTup.new _ _⟩
end
end SL

set_option maxRecDepth 100000
set_option maxHeartbeats 1000000
/-! Readings of expressions by the evaluator: operations by values. -/
namespace SL
open PySem L2 PyProof.Rows
set_option autoImplicit false

structure SR (n : Nam) (ι : List Addr) (H : Hp) (σ : L2.St) (e : Ev) (hp : Hs) : Prop where
  hr : HR n ι H hp
  len : σ.length = e.length
  at_ : ∀ (i : Nat) (w : Wv), e[i]? = some (some w) → ∃ v, σ[i]? = some (some v) ∧ VR n ι H v w
theorem SR.mono {n : Nam} {ι ι' : List Addr} {H H' : Hp} {σ : L2.St} {e : Ev} {hp hp' : Hs} (S : SR n ι H σ e hp) (F : Fr ι H ι' H') (R : HR n ι' H' hp') : SR n ι' H' σ e hp' :=
  ⟨R, S.len, fun i w h => let ⟨v, h1, h2⟩ := S.at_ i w h; ⟨v, h1, h2.mono F⟩⟩

/-- the wish about a refusal: at these slots, of this class and value, in this state -/
abbrev Wx := L2.St → Nat → Wv → Hs → List Addr → Hp → Prop
def rd (n : Nam) (W : Wx) (m : Ev → Hs → Rz Wv) : TE := fun σ H Q => ∃ ι e hp, SR n ι H σ e hp ∧ Af n (VR n) ι H (m e hp) Q (W σ)
def rdT (n : Nam) (W : Wx) (m : Ev → Hs → Rz Bool) : TT := fun σ H Q => ∃ ι e hp, SR n ι H σ e hp ∧ Af n (fun _ _ b a => b = a) ι H (m e hp) Q (W σ)
def rdA (n : Nam) (W : Wx) (m : Ev → Hs → Rz (List Wv)) : TA := fun σ H Q => ∃ ι e hp, SR n ι H σ e hp ∧ Af n (VRs n) ι H (m e hp) Q (W σ)

theorem pe_wk {X : Cx} {e : Expr} {t t' : TE} (h : PE X e t) (w : ∀ σ H Q, t' σ H Q → t σ H Q) : PE X e t' := ⟨fun pins s σ H Q I q => h.run pins s σ H Q I (w σ H Q q)⟩
theorem pt_wk {X : Cx} {e : Expr} {t t' : TT} (h : PT X e t) (w : ∀ σ H Q, t' σ H Q → t σ H Q) : PT X e t' := ⟨fun pins s σ H Q I q => h.run pins s σ H Q I (w σ H Q q)⟩
theorem pw_wk {X : Cx} {e : Expr} {t t' : TT} (h : PW X e t) (w : ∀ σ H Q, t' σ H Q → t σ H Q) : PW X e t' := ⟨fun wh pins s σ H Q I q => h.run wh pins s σ H Q I (w σ H Q q)⟩
theorem pa_wk {X : Cx} {e : List Expr} {t t' : TA} (h : PA X e t) (w : ∀ σ H Q, t' σ H Q → t σ H Q) : PA X e t' := ⟨fun pos pins s σ H Q I q => h.run pos pins s σ H Q I (w σ H Q q)⟩
theorem opr_wk {X : Cx} {f : Value → Value → Sem Value} {r r' : R2} (h : OpR X f r) (w : ∀ x y H Q, r' x y H Q → r x y H Q) : OpR X f r' := fun pins s σ H x y v u Q I rx ry q => h pins s σ H x y v u Q I rx ry (w x y H Q q)

section
variable {n : Nam} {ι : List Addr} {H : Hp} {hp : Hs} {E : Nat → Wv → Hs → List Addr → Hp → Prop}
/-- a new cell -/
theorem HR.push (R : HR n ι H hp) {p : Addr} (hn : H p = none) {ho : HO} {o : Ob} (h : ∀ {ι' : List Addr} {H' : Hp}, Fr ι H ι' H' → OR n ι' H' ho o) : Fr ι H (ι ++ [p]) (upd H p ho) ∧ HR n (ι ++ [p]) (upd H p ho) (hp ++ [o]) := by
  have F : Fr ι H (ι ++ [p]) (upd H p ho) := by
    refine ⟨⟨[p], rfl⟩, fun a ha hna => ?_, fun a u e hna => ?_⟩
    · rcases List.mem_append.mp ha with q | q
      · exact absurd q hna
      · rw [List.mem_singleton.mp q]; exact hn
    · rw [upd_ne (ne_of_none e hn)]; exact e
  refine ⟨F, by simp [R.len], ?_, fun k a u e1 e2 => ?_⟩
  · rw [List.nodup_append]
    refine ⟨R.nd, by simp, fun a ha b hb => ?_⟩
    rw [List.mem_singleton.mp hb]
    exact fun e => R.fresh hn (e ▸ ha)
  · by_cases hk : k < ι.length
    · rw [List.getElem?_append_left hk] at e1
      rw [List.getElem?_append_left (by rw [← R.len]; exact hk)] at e2
      obtain ⟨ho', h1, h2⟩ := R.at_ k a u e1 e2
      have hne : a ≠ p := ne_of_none h1 hn
      exact ⟨ho', by rw [upd_ne hne]; exact h1, h2.mono F⟩
    · have e1' : k = ι.length := by
        have := (List.getElem?_eq_some_iff.mp e1).1
        simp at this; omega
      subst e1'
      rw [List.getElem?_append_right (Nat.le_refl _), Nat.sub_self] at e1
      rw [List.getElem?_append_right (by rw [R.len]; exact Nat.le_refl _), R.len, Nat.sub_self] at e2
      simp only [List.getElem?_cons_zero, Option.some.injEq] at e1 e2
      subst e1 e2
      exact ⟨ho, upd_same, h F⟩
/-- a cell is changed -/
theorem HR.set (R : HR n ι H hp) {k : Nat} {a : Addr} (ha : ι[k]? = some a) {ho : HO} {o : Ob} (h : ∀ {H' : Hp}, Fr ι H ι H' → OR n ι H' ho o) : Fr ι H ι (upd H a ho) ∧ HR n ι (upd H a ho) (hp.set k o) := by
  have hm : a ∈ ι := List.mem_of_getElem? ha
  have F : Fr ι H ι (upd H a ho) := ⟨List.prefix_refl _, fun _ h h' => absurd h h', fun b u e hb => by rw [upd_ne (fun q : b = a => hb (by rw [q]; exact hm))]; exact e⟩
  refine ⟨F, by simp [R.len], R.nd, fun j b u e1 e2 => ?_⟩
  by_cases hj : j = k
  · subst hj
    rw [ha] at e1; cases e1
    have hl : j < hp.length := by rw [← R.len]; exact (List.getElem?_eq_some_iff.mp ha).1
    rw [List.getElem?_set_self hl] at e2; cases e2
    exact ⟨ho, upd_same, h F⟩
  · rw [List.getElem?_set_ne (Ne.symm hj)] at e2
    obtain ⟨ho', h1, h2⟩ := R.at_ j b u e1 e2
    have hne : b ≠ a := fun q => hj (by
      obtain ⟨l1, g1⟩ := List.getElem?_eq_some_iff.mp e1
      obtain ⟨l2, g2⟩ := List.getElem?_eq_some_iff.mp ha
      exact (List.getElem_inj R.nd).mp (g1.trans (q.trans g2.symm)))
    exact ⟨ho', by rw [upd_ne hne]; exact h1, h2.mono F⟩
/-- a new list -/
theorem newL_ok (R : HR n ι H hp) {vs : List V} {ws : List Wv} (h : VRs n ι H vs ws) {Q : VK} (A : Af n (VR n) ι H (newL ws hp) Q E) : vs.length ≤ sizeLine ∧ ∀ p, H p = none → Q (.ref p) (upd H p (.lst vs)) := by
  unfold newL at A
  split at A
  · rename_i hz
    refine ⟨by rw [h.length]; exact hz, fun p hn => ?_⟩
    obtain ⟨F, R'⟩ := R.push hn (ho := .lst vs) (o := .lst ws) fun F => .lst (h.mono F)
    refine A _ _ _ F R' (.ref ?_)
    rw [← R.len, List.getElem?_append_right (Nat.le_refl _), Nat.sub_self]; rfl
  · exact A.elim
/-- a new tuple -/
theorem newT_ok (R : HR n ι H hp) {vs : List V} {ws : List Wv} (h : VRs n ι H vs ws) {Q : VK} (A : Af n (VR n) ι H (.ok (.tup ws) hp) Q E) : ∀ p, H p = none → Q (.ref p) (upd H p (.tup vs)) := fun p hn => by
  have F : Fr ι H ι (upd H p (.tup vs)) := ⟨List.prefix_refl _, fun _ h h' => absurd h h', fun b u e hb => by rw [upd_ne (ne_of_none e hn)]; exact e⟩
  refine A _ ι _ F ⟨R.len, R.nd, fun k a o e1 e2 => ?_⟩ (.tup (.inl ⟨.inl upd_same, R.fresh hn⟩) (h.mono F))
  obtain ⟨ho, h1, h2⟩ := R.at_ k a o e1 e2
  exact ⟨ho, by rw [upd_ne (ne_of_none h1 hn)]; exact h1, h2.mono F⟩
/-- the cell's own list -/
theorem HR.lstAt (R : HR n ι H hp) {k : Nat} {a : Addr} (h : ι[k]? = some a) {ws : List Wv} (e : hp[k]? = some (.lst ws)) : ∃ vs, H a = some (.lst vs) ∧ VRs n ι H vs ws := by
  obtain ⟨ho, h1, h2⟩ := R.at_ k a _ h e
  cases h2 with
  | lst h3 => exact ⟨_, h1, h3⟩
theorem setL_ok (R : HR n ι H hp) {k : Nat} {a : Addr} (ha : ι[k]? = some a) {vs : List V} {ws : List Wv} (h : VRs n ι H vs ws) {v : V} {w : Wv} (hv : VR n ι H v w) {Q : VK}
    (A : Af n (VR n) ι H (.ok w (hp.set k (.lst ws))) Q E) : Q v (upd H a (.lst vs)) := by
  obtain ⟨F, R'⟩ := R.set ha (ho := .lst vs) (o := .lst ws) fun F => .lst (h.mono F)
  exact A _ _ _ F R' (hv.mono F)

theorem getL_ref {k : Nat} {ws : List Wv} : getL hp (.ref k) = some ws ↔ hp[k]? = some (.lst ws) := by
  unfold getL
  constructor
  · intro e
    dsimp only at e
    split at e
    · rename_i q; cases e; exact q
    · cases e
  · intro e; simp only [e]
/-! ### operators -/
variable {X : Cx}
theorem bin_add (hK : X.K = n.K) : OpR X (binaryOp .Add) (fun x y H Q => ∃ ι hp a b E, HR n ι H hp ∧ VR n ι H x a ∧ VR n ι H y b ∧ Af n (VR n) ι H (binop .add a b hp) Q E) := by
  refine opr_wk (op_add.or (op_add_str.or (op_catA.or op_cat))) fun x y H Q ⟨ι, hp, a, b, E, R, va, vb, A⟩ => ?_
  cases va with
  | int i =>
    cases vb with
    | int j => exact .inl ⟨i, j, rfl, rfl, A.here R (.int _)⟩
    | _ => exact A.elim
  | str i =>
    cases vb with
    | str j =>
      simp only [binop] at A
      split at A
      · rename_i hz; exact .inr (.inl ⟨i, j, rfl, rfl, hz, A.here R (.str _)⟩)
      · exact A.elim
    | _ => exact A.elim
  | tup h hs =>
    cases vb with
    | tup h' hs' =>
      simp only [binop] at A
      split at A
      · rename_i hz
        refine .inr (.inr (.inl ⟨_, _, _, _, rfl, rfl, hK ▸ h.seq, hK ▸ h'.seq, by rw [hs.length, hs'.length]; exact hz, fun e => ?_, fun _ e => ?_, fun _ _ => ?_⟩))
        · subst e; cases hs; exact A.here R (.tup h' hs')
        · subst e; cases hs'; rw [List.append_nil] at A; exact A.here R (.tup h hs)
        · exact newT_ok R (hs.append hs') A
      · exact A.elim
    | _ => exact A.elim
  | @ref k p h =>
    cases vb with
    | @ref k' p' h' =>
      simp only [binop] at A
      split at A
      · rename_i xs ys q1 q2
        obtain ⟨vs, g1, g2⟩ := R.lstAt h (getL_ref.mp q1)
        obtain ⟨us, g3, g4⟩ := R.lstAt h' (getL_ref.mp q2)
        obtain ⟨hz, hn⟩ := newL_ok R (g2.append g4) A
        exact .inr (.inr (.inr ⟨p, p', vs, us, rfl, rfl, g1, g3, by simpa using hz, hn⟩))
      · exact A.elim
    | _ => exact A.elim
  | _ => exact A.elim
theorem bin_int {op : Operator} {o : Op2} {C : Int → Int → Prop} [∀ i j, Decidable (C i j)] {g : Int → Int → Int} (h : OpR X (binaryOp op) (rI C fun i j => .int (g i j)))
    (hb : ∀ (a b : Wv) hp, binop o a b hp = match a, b with | .int i, .int j => if C i j then .ok (.int (g i j)) hp else .bad | _, _ => .bad) :
    OpR X (binaryOp op) (fun x y H Q => ∃ ι hp a b E, HR n ι H hp ∧ VR n ι H x a ∧ VR n ι H y b ∧ Af n (VR n) ι H (binop o a b hp) Q E) := by
  refine opr_wk h fun x y H Q ⟨ι, hp, a, b, E, R, va, vb, A⟩ => ?_
  rw [hb] at A
  cases va <;> cases vb <;> try exact A.elim
  simp only at A
  split at A
  · rename_i hc; exact ⟨_, _, rfl, rfl, hc, A.here R (.int _)⟩
  · exact A.elim
theorem bin_int0 {op : Operator} {o : Op2} {g : Int → Int → Int} (h : OpR X (binaryOp op) (rI0 fun i j => .int (g i j)))
    (hb : ∀ (a b : Wv) hp, binop o a b hp = match a, b with | .int i, .int j => .ok (.int (g i j)) hp | _, _ => .bad) :
    OpR X (binaryOp op) (fun x y H Q => ∃ ι hp a b E, HR n ι H hp ∧ VR n ι H x a ∧ VR n ι H y b ∧ Af n (VR n) ι H (binop o a b hp) Q E) := by
  refine opr_wk h fun x y H Q ⟨ι, hp, a, b, E, R, va, vb, A⟩ => ?_
  rw [hb] at A
  cases va <;> cases vb <;> try exact A.elim
  exact ⟨_, _, rfl, rfl, A.here R (.int _)⟩
theorem VRs.rep {n : Nam} {ι : List Addr} {H : Hp} {vs : List V} {ws : List Wv} (h : VRs n ι H vs ws) : ∀ k : Nat, VRs n ι H (List.replicate k vs).flatten (List.replicate k ws).flatten
  | 0 => .nil
  | k + 1 => by
    rw [List.replicate_succ, List.replicate_succ, List.flatten_cons, List.flatten_cons]
    exact h.append (VRs.rep h k)
theorem bin_mul (hK : X.K = n.K) : OpR X (binaryOp .Mult) (fun x y H Q => ∃ ι hp a b E, HR n ι H hp ∧ VR n ι H x a ∧ VR n ι H y b ∧ Af n (VR n) ι H (binop .mul a b hp) Q E) := by
  refine opr_wk (((op_mul.or op_mulW).or (op_repT1.or op_repT)).or (op_repT0.or op_rep)) fun x y H Q ⟨ι, hp, a, b, E, R, va, vb, A⟩ => ?_
  cases va with
  | int i =>
    cases vb with
    | int j =>
      simp only [binop] at A
      split at A
      · rename_i hc
        rcases hc with hc | hc
        · exact .inl (.inl (.inl ⟨i, j, rfl, rfl, hc, A.here R (.int _)⟩))
        · exact .inl (.inl (.inr ⟨i, j, rfl, rfl, hc, A.here R (.int _)⟩))
      · exact A.elim
    | _ => exact A.elim
  | tup h hs =>
    cases vb with
    | int k =>
      simp only [binop] at A
      split at A
      · rename_i hk
        subst hk
        exact .inl (.inr (.inl ⟨_, _, rfl, rfl, hK ▸ h.seq, A.here R (.tup h hs)⟩))
      · split at A
        · rename_i hc
          obtain ⟨h1, h2, h3⟩ := hc
          refine .inr (.inl ⟨_, k, _, rfl, rfl, hK ▸ h.seq, fun e => ?_, h1, h3, newT_ok R .nil A⟩)
          subst e
          cases hs
          exact h2 rfl
        split at A
        · rename_i hc
          obtain ⟨h1, h2, h3, h4⟩ := hc
          refine .inl (.inr (.inr ⟨_, k, _, rfl, rfl, hK ▸ h.seq, fun e => ?_, h2, h3, by rw [hs.length]; exact h4, newT_ok R (hs.rep _) A⟩))
          subst e
          cases hs
          exact h1 rfl
        · exact A.elim
    | _ => exact A.elim
  | @ref c p h =>
    cases vb with
    | int k =>
      simp only [binop] at A
      split at A
      · rename_i ws q
        split at A
        · rename_i hc
          obtain ⟨h1, h2, h3⟩ := hc
          obtain ⟨vs, g1, g2⟩ := R.lstAt h (getL_ref.mp q)
          exact .inr (.inr ⟨p, k, vs, rfl, rfl, g1, h1, h2, by rw [g2.length]; exact h3, (newL_ok R (g2.rep _) A).2⟩)
        · exact A.elim
      · exact A.elim
    | _ => exact A.elim
  | _ => exact A.elim
def opOf : Op2 → Operator
  | .add => .Add | .sub => .Sub | .mul => .Mult | .fdiv => .FloorDiv | .mod => .Mod | .pow => .Pow | .shl => .LShift | .shr => .RShift | .band => .BitAnd | .bor => .BitOr
theorem bin_ok (hK : X.K = n.K) (o : Op2) : OpR X (binaryOp (opOf o)) (fun x y H Q => ∃ ι hp a b E, HR n ι H hp ∧ VR n ι H x a ∧ VR n ι H y b ∧ Af n (VR n) ι H (binop o a b hp) Q E) := by
  cases o with
  | add => exact bin_add hK
  | sub => exact bin_int0 op_sub fun a b hp => by cases a <;> cases b <;> rfl
  | mul => exact bin_mul hK
  | fdiv => exact bin_int op_fdivW fun a b hp => by cases a <;> cases b <;> rfl
  | mod => exact bin_int op_mod fun a b hp => by cases a <;> cases b <;> rfl
  | pow => exact bin_int op_pow fun a b hp => by cases a <;> cases b <;> rfl
  | shl => exact bin_int op_shl fun a b hp => by cases a <;> cases b <;> rfl
  | shr => exact bin_int op_shr fun a b hp => by cases a <;> cases b <;> rfl
  | band => exact bin_int0 op_and fun a b hp => by cases a <;> cases b <;> rfl
  | bor => exact bin_int0 op_or fun a b hp => by cases a <;> cases b <;> rfl
end
end SL

set_option maxRecDepth 100000
set_option maxHeartbeats 1000000
/-! Comparisons, subscripts, built-in functions by values. -/
namespace SL
open PySem L2 PyProof.Rows
set_option autoImplicit false

section
variable {n : Nam} {ι : List Addr} {H : Hp} {hp : Hs} {E : Nat → Wv → Hs → List Addr → Hp → Prop}
/-! ### data -/
mutual
theorem toD_plain : ∀ (w : Wv) (d : PyData), w.toD = some d → d.plain = true
  | .non, d, h => by simp [Wv.toD] at h; subst h; rfl
  | .bl b, d, h => by simp [Wv.toD] at h; subst h; rfl
  | .int b, d, h => by simp [Wv.toD] at h; subst h; rfl
  | .str b, d, h => by simp [Wv.toD] at h; subst h; rfl
  | .tup ws, d, h => by
    simp only [Wv.toD, Option.map_eq_some_iff] at h
    obtain ⟨ds, h1, rfl⟩ := h
    simp only [PyData.plain]; exact toDs_plain ws ds h1
  | .lst ws, d, h => by
    simp only [Wv.toD, Option.map_eq_some_iff] at h
    obtain ⟨ds, h1, rfl⟩ := h
    simp only [PyData.plain]; exact toDs_plain ws ds h1
  | .dic _, d, h => by simp [Wv.toD] at h
  | .ins _ _, d, h => by simp [Wv.toD] at h
  | .ref _, d, h => by simp [Wv.toD] at h
  | .fn _, d, h => by simp [Wv.toD] at h
  | .cls _, d, h => by simp [Wv.toD] at h
theorem toDs_plain : ∀ (ws : List Wv) (ds : List PyData), toDs ws = some ds → PyData.plainAll ds = true
  | [], ds, h => by simp [toDs] at h; subst h; rfl
  | w :: ws, ds, h => by
    simp only [toDs] at h
    split at h
    · rename_i d es h1 h2
      cases h
      simp only [PyData.plainAll, Bool.and_eq_true]
      exact ⟨toD_plain w d h1, toDs_plain ws es h2⟩
    · cases h
end
theorem datum_plain {w : Wv} {d : PyData} (h : datum hp w = some d) : d.plain = true := by
  unfold datum at h
  obtain ⟨w', _, h2⟩ := Option.bind_eq_some_iff.mp h
  exact toD_plain _ _ h2
theorem data_plain : ∀ {ws : List Wv} {ds : List PyData}, data hp ws = some ds → PyData.plainAll ds = true
  | [], ds, h => by simp [data] at h; subst h; rfl
  | w :: ws, ds, h => by
    simp only [data] at h
    split at h
    · rename_i d es h1 h2
      cases h
      simp only [PyData.plainAll, Bool.and_eq_true]
      exact ⟨datum_plain h1, data_plain h2⟩
    · cases h
/-- a frozen look at a value reads the heap -/
def LooksAs (n : Nam) (H : Hp) (rec : Nat → Option Wv) (ι : List Addr) : Prop := ∀ k a w d, ι[k]? = some a → rec k = some w → w.toD = some d → Dp n.K H (.ref a) d
mutual
theorem frz_dp {rec : Nat → Option Wv} (hr : LooksAs n H rec ι) : ∀ {v : V} {w : Wv}, VR n ι H v w → ∀ w' d, w.frz rec = some w' → w'.toD = some d → Dp n.K H v d
  | _, _, .non, w', d, h, h' => by simp [Wv.frz] at h; subst h; simp [Wv.toD] at h'; subst h'; exact .non
  | _, _, .bl b, w', d, h, h' => by simp [Wv.frz] at h; subst h; simp [Wv.toD] at h'; subst h'; exact .bl b
  | _, _, .int b, w', d, h, h' => by simp [Wv.frz] at h; subst h; simp [Wv.toD] at h'; subst h'; exact .int b
  | _, _, .str b, w', d, h, h' => by simp [Wv.frz] at h; subst h; simp [Wv.toD] at h'; subst h'; exact .str b
  | _, _, .tup hs ht, w', d, h, h' => by
    simp only [Wv.frz, Option.map_eq_some_iff] at h
    obtain ⟨ws', h1, rfl⟩ := h
    simp only [Wv.toD, Option.map_eq_some_iff] at h'
    obtain ⟨ds, h2, rfl⟩ := h'
    exact .tup hs.seq (frzs_dp hr ht _ _ h1 h2)
  | _, _, .lst hs ht, w', d, h, h' => by
    simp only [Wv.frz, Option.map_eq_some_iff] at h
    obtain ⟨ws', h1, rfl⟩ := h
    simp only [Wv.toD, Option.map_eq_some_iff] at h'
    obtain ⟨ds, h2, rfl⟩ := h'
    exact .lst hs.seq (frzs_dp hr ht _ _ h1 h2)
  | _, _, .ins _ _ _, w', d, h, h' => by
    simp only [Wv.frz, Option.map_eq_some_iff] at h
    obtain ⟨ws', h1, rfl⟩ := h
    simp [Wv.toD] at h'
  | _, _, .ref hk, w', d, h, h' => hr _ _ _ _ hk (by simpa [Wv.frz] using h) h'
theorem frzs_dp {rec : Nat → Option Wv} (hr : LooksAs n H rec ι) : ∀ {vs : List V} {ws : List Wv}, VRs n ι H vs ws → ∀ ws' ds, frzs rec ws = some ws' → toDs ws' = some ds → DpAll n.K H vs ds
  | _, _, .nil, ws', ds, h, h' => by simp [frzs] at h; subst h; simp [toDs] at h'; subst h'; exact .nil
  | _, _, .cons hv ht, ws', ds, h, h' => by
    simp only [frzs] at h
    split at h
    · rename_i w1 ws1 h1 h2
      cases h
      simp only [toDs] at h'
      split at h'
      · rename_i d1 ds1 g1 g2
        cases h'
        exact .cons (frz_dp hr hv _ _ h1 g1) (frzs_dp hr ht _ _ h2 g2)
      · cases h'
    · cases h
end
theorem frzC_dp (R : HR n ι H hp) : ∀ fuel, LooksAs n H (frzC hp (fun _ => false) fuel) ι
  | 0 => fun k a w d _ h => by simp [frzC] at h
  | m + 1 => fun k a w d hk h h' => by
    simp only [frzC, Bool.false_eq_true, if_false] at h
    split at h
    · rename_i ws q
      obtain ⟨ws', h1, rfl⟩ := Option.map_eq_some_iff.mp h
      simp only [Wv.toD, Option.map_eq_some_iff] at h'
      obtain ⟨ds, h2, rfl⟩ := h'
      obtain ⟨vs, g1, g2⟩ := R.lstAt hk q
      exact .lst (SqL.of g1) (frzs_dp (frzC_dp R m) g2 _ _ h1 h2)
    · obtain ⟨ws', h1, rfl⟩ := Option.map_eq_some_iff.mp h
      simp [Wv.toD] at h'
    · obtain ⟨ws', h1, rfl⟩ := Option.map_eq_some_iff.mp h
      simp [Wv.toD] at h'
    · cases h
theorem datum_dp (R : HR n ι H hp) {v : V} {w : Wv} (h : VR n ι H v w) {d : PyData} (e : datum hp w = some d) : Dp n.K H v d := by
  obtain ⟨w', h1, h2⟩ := Option.bind_eq_some_iff.mp e
  exact frz_dp (frzC_dp R _) h _ _ h1 h2
theorem data_dp (R : HR n ι H hp) : ∀ {vs : List V} {ws : List Wv}, VRs n ι H vs ws → ∀ {ds : List PyData}, data hp ws = some ds → DpAll n.K H vs ds
  | _, _, .nil, ds, h => by simp [data] at h; subst h; exact .nil
  | _, _, .cons hv ht, ds, h => by
    simp only [data] at h
    split at h
    · rename_i d es h1 h2
      cases h
      exact .cons (datum_dp R hv h1) (data_dp R ht h2)
    · cases h

/-! ### comparisons -/
variable {X : Cx}
theorem shal_room {A : Around} {d e : PyData} (h : (shal d || shal e) = true) (hu : A.units + 64 < cLine) : A.units + min d.depth e.depth < cLine := by
  simp only [shal, Bool.or_eq_true, decide_eq_true_eq] at h
  have h1 := Nat.min_le_left d.depth e.depth
  have h2 := Nat.min_le_right d.depth e.depth
  omega
def rDatEq (K : PySem.W.Frag) (g : Bool → Bool) : R2 := fun x y H Q => ∃ d e, Dp K H x d ∧ Dp K H y e ∧ d.plain = true ∧ e.plain = true ∧ (shal d || shal e) = true ∧ Q (.bl (g (PyData.eqv d e))) H
theorem op_datEq (hu : X.A.units + 64 < cLine) : OpR X (compareOp .Eq) (rDatEq X.K id) := by
  intro pins s σ H x y v u Q I rx ry ⟨d, e, hd, he, pd, pe, sh, q⟩
  obtain ⟨as, r1⟩ := Dp.reads I d x v hd rx
  obtain ⟨bs, r2⟩ := Dp.reads I e y u he ry
  exact SeqAt.eq_plain r1 r2 pd pe (shal_room sh hu) ⟨.bl _, H, I, rfl, q⟩
theorem op_datNe (hu : X.A.units + 64 < cLine) : OpR X (compareOp .NotEq) (rDatEq X.K not) := by
  intro pins s σ H x y v u Q I rx ry ⟨d, e, hd, he, pd, pe, sh, q⟩
  obtain ⟨as, r1⟩ := Dp.reads I d x v hd rx
  obtain ⟨bs, r2⟩ := Dp.reads I e y u he ry
  exact SeqAt.ne_plain r1 r2 pd pe (shal_room sh hu) ⟨.bl _, H, I, rfl, q⟩
def rDatIn (K : PySem.W.Frag) (g : Bool → Bool) : R2 := fun x y H Q => ∃ d ds, Dp K H x d ∧ (Dp K H y (.list ds) ∨ Dp K H y (.tuple ds)) ∧ d.plain = true ∧ PyData.plainAll ds = true ∧ shal d = true ∧ Q (.bl (g (anyEq d ds))) H
theorem in_room {A : Around} {d : PyData} {m : Nat} (h : shal d = true) (hu : A.units + 64 < cLine) : A.units + 1 + min m d.depth < cLine := by
  simp only [shal, decide_eq_true_eq] at h
  have h2 := Nat.min_le_right m d.depth
  omega
theorem op_datIn (hu : X.A.units + 64 < cLine) : OpR X (compareOp .In) (rDatIn X.K id) := by
  intro pins s σ H x y v u Q I rx ry ⟨d, ds, hd, he, pd, pe, sh, q⟩
  obtain ⟨as, r1⟩ := Dp.reads I d x v hd rx
  rcases he with he | he
  · obtain ⟨bs, r2⟩ := Dp.reads I _ y u he ry
    exact SeqAt.in_list_data r2 r1 pe pd (in_room sh hu) ⟨.bl _, H, I, rfl, q⟩
  · obtain ⟨bs, r2⟩ := Dp.reads I _ y u he ry
    exact SeqAt.in_tuple_data r2 r1 pe pd (in_room sh hu) ⟨.bl _, H, I, rfl, q⟩
theorem op_datNotIn (hu : X.A.units + 64 < cLine) : OpR X (compareOp .NotIn) (rDatIn X.K not) := by
  intro pins s σ H x y v u Q I rx ry ⟨d, ds, hd, he, pd, pe, sh, q⟩
  obtain ⟨as, r1⟩ := Dp.reads I d x v hd rx
  rcases he with he | he
  · obtain ⟨bs, r2⟩ := Dp.reads I _ y u he ry
    exact SeqAt.notIn_list_data r2 r1 pe pd (in_room sh hu) ⟨.bl _, H, I, rfl, q⟩
  · obtain ⟨bs, r2⟩ := Dp.reads I _ y u he ry
    exact SeqAt.notIn_tuple_data r2 r1 pe pd (in_room sh hu) ⟨.bl _, H, I, rfl, q⟩
/-- a scalar pair, or data -/
theorem eqVal_cases (R : HR n ι H hp) {x y : V} {a b : Wv} (va : VR n ι H x a) (vb : VR n ι H y b) {t : Bool} (e : eqVal hp a b = some t) :
    (scal x y = true ∧ t = decide (x = y)) ∨ ∃ d e, Dp n.K H x d ∧ Dp n.K H y e ∧ d.plain = true ∧ e.plain = true ∧ (shal d || shal e) = true ∧ t = PyData.eqv d e := by
  have gen : (match datum hp a, datum hp b with
      | some d, some e => if (shal d || shal e) = true then some (PyData.eqv d e) else none
      | _, _ => none) = some t → ∃ d e, Dp n.K H x d ∧ Dp n.K H y e ∧ d.plain = true ∧ e.plain = true ∧ (shal d || shal e) = true ∧ t = PyData.eqv d e := fun q => by
    split at q
    · rename_i d e h1 h2
      split at q
      · rename_i h3
        cases q
        exact ⟨_, _, datum_dp R va h1, datum_dp R vb h2, datum_plain h1, datum_plain h2, h3, rfl⟩
      · cases q
    · cases q
  cases va with
  | int i =>
    cases vb with
    | int j =>
      simp only [eqVal, Option.some.injEq] at e
      exact .inl ⟨rfl, by rw [← e]; simp⟩
    | _ => exact .inr (gen e)
  | str i =>
    cases vb with
    | str j =>
      simp only [eqVal, Option.some.injEq] at e
      exact .inl ⟨rfl, by rw [← e]; simp⟩
    | _ => exact .inr (gen e)
  | bl i =>
    cases vb with
    | bl j =>
      simp only [eqVal, Option.some.injEq] at e
      exact .inl ⟨rfl, by rw [← e]; simp⟩
    | _ => exact .inr (gen e)
  | _ => exact .inr (gen e)
theorem inVal_cases (R : HR n ι H hp) {x y : V} {a b : Wv} (va : VR n ι H x a) (vb : VR n ι H y b) {t : Bool} (e : inVal hp a b = some t) :
    ∃ d ds, Dp n.K H x d ∧ (Dp n.K H y (.list ds) ∨ Dp n.K H y (.tuple ds)) ∧ d.plain = true ∧ PyData.plainAll ds = true ∧ shal d = true ∧ t = anyEq d ds := by
  unfold inVal at e
  split at e
  · rename_i ws q
    obtain ⟨p, vs, rfl, h1, h2⟩ := getS_rel R vb q
    split at e
    · rename_i d ds g1 g2
      split at e
      · rename_i g3
        cases e
        refine ⟨d, ds, datum_dp R va g1, ?_, datum_plain g1, data_plain g2, g3, rfl⟩
        rcases h1 with h1 | h1
        · exact .inl (.lst h1 (data_dp R h2 g2))
        · exact .inr (.tup h1 (data_dp R h2 g2))
      · cases e
    · cases e
  · cases e
def cmOf : Cm → CmpOp
  | .eq => .Eq | .ne => .NotEq | .lt => .Lt | .le => .LtE | .gt => .Gt | .ge => .GtE | .isin => .In | .notin => .NotIn | .isn => .Is | .notn => .IsNot
theorem VR.non_iff {v : V} {w : Wv} (h : VR n ι H v w) : decide (v = .non) = decide (w = .non) := by
  cases h <;> simp
/-- a comparison by values: its answer, nothing changed -/
theorem cm_ok (hK : X.K = n.K) (hu : X.A.units + 64 < cLine) (c : Cm) : OpR X (compareOp (cmOf c)) (fun x y H Q => ∃ ι hp a b t, HR n ι H hp ∧ VR n ι H x a ∧ VR n ι H y b ∧ c.run hp a b = some t ∧ Q (.bl t) H) := by
  cases c with
  | eq =>
    refine opr_wk (op_eq.or (op_datEq hu)) fun x y H Q ⟨ι, hp, a, b, t, R, va, vb, e, q⟩ => ?_
    rcases eqVal_cases R va vb e with ⟨h1, rfl⟩ | ⟨d, d2, h1, h2, h3, h4, h5, rfl⟩
    · exact .inl ⟨h1, q⟩
    · exact .inr ⟨d, d2, hK ▸ h1, hK ▸ h2, h3, h4, h5, q⟩
  | ne =>
    refine opr_wk (op_ne.or (op_datNe hu)) fun x y H Q ⟨ι, hp, a, b, t, R, va, vb, e, q⟩ => ?_
    obtain ⟨t', e0, rfl⟩ := Option.map_eq_some_iff.mp (show (eqVal hp a b).map not = some t from e)
    rcases eqVal_cases R va vb e0 with ⟨h1, rfl⟩ | ⟨d, d2, h1, h2, h3, h4, h5, rfl⟩
    · exact .inl ⟨h1, q⟩
    · exact .inr ⟨d, d2, hK ▸ h1, hK ▸ h2, h3, h4, h5, q⟩
  | isin =>
    refine opr_wk (op_datIn hu) fun x y H Q ⟨ι, hp, a, b, t, R, va, vb, e, q⟩ => ?_
    obtain ⟨d, ds, h1, h2, h3, h4, h5, rfl⟩ := inVal_cases R va vb e
    exact ⟨d, ds, hK ▸ h1, hK ▸ h2, h3, h4, h5, q⟩
  | notin =>
    refine opr_wk (op_datNotIn hu) fun x y H Q ⟨ι, hp, a, b, t, R, va, vb, e, q⟩ => ?_
    obtain ⟨t', e0, rfl⟩ := Option.map_eq_some_iff.mp (show (inVal hp a b).map not = some t from e)
    obtain ⟨d, ds, h1, h2, h3, h4, h5, rfl⟩ := inVal_cases R va vb e0
    exact ⟨d, ds, hK ▸ h1, hK ▸ h2, h3, h4, h5, q⟩
  | isn =>
    refine opr_wk op_isN fun x y H Q ⟨ι, hp, a, b, t, R, va, vb, e, q⟩ => ?_
    cases vb <;> simp only [Cm.run, reduceCtorEq, Option.some.injEq] at e
    subst e
    exact ⟨rfl, by rw [va.non_iff]; exact q⟩
  | notn =>
    refine opr_wk op_notN fun x y H Q ⟨ι, hp, a, b, t, R, va, vb, e, q⟩ => ?_
    cases vb <;> simp only [Cm.run, reduceCtorEq, Option.some.injEq] at e
    subst e
    exact ⟨rfl, by rw [va.non_iff]; exact q⟩
  | lt =>
    refine opr_wk op_lt fun x y H Q ⟨ι, hp, a, b, t, R, va, vb, e, q⟩ => ?_
    cases va <;> cases vb <;> simp only [Cm.run, reduceCtorEq, Option.some.injEq] at e
    subst e
    exact ⟨_, _, rfl, rfl, q⟩
  | le =>
    refine opr_wk op_le fun x y H Q ⟨ι, hp, a, b, t, R, va, vb, e, q⟩ => ?_
    cases va <;> cases vb <;> simp only [Cm.run, reduceCtorEq, Option.some.injEq] at e
    subst e
    exact ⟨_, _, rfl, rfl, q⟩
  | gt =>
    refine opr_wk op_gt fun x y H Q ⟨ι, hp, a, b, t, R, va, vb, e, q⟩ => ?_
    cases va <;> cases vb <;> simp only [Cm.run, reduceCtorEq, Option.some.injEq] at e
    subst e
    exact ⟨_, _, rfl, rfl, q⟩
  | ge =>
    refine opr_wk op_ge fun x y H Q ⟨ι, hp, a, b, t, R, va, vb, e, q⟩ => ?_
    cases va <;> cases vb <;> simp only [Cm.run, reduceCtorEq, Option.some.injEq] at e
    subst e
    exact ⟨_, _, rfl, rfl, q⟩
end
end SL

set_option maxRecDepth 100000
set_option maxHeartbeats 1000000
/-! Truth, subscripts, slices, stores, built-in functions and methods by values. -/
namespace SL
open PySem L2 PyProof.Rows
set_option autoImplicit false

section
variable {n : Nam} {ι : List Addr} {H : Hp} {hp : Hs} {E : Nat → Wv → Hs → List Addr → Hp → Prop}
theorem VRs.empty {vs : List V} {ws : List Wv} (h : VRs n ι H vs ws) : vs.isEmpty = ws.isEmpty := by cases h <;> rfl
theorem truth_ok (R : HR n ι H hp) {v : V} {w : Wv} (h : VR n ι H v w) {k : Bool} (e : truth hp w = some k) : TruV n.K v H k := by
  cases h with
  | non => simp [truth] at e; exact e
  | bl b => simp [truth] at e; exact e.symm
  | int i => simp only [truth, Option.some.injEq] at e; exact e.symm
  | str x =>
    simp only [truth] at e
    split at e
    · rename_i hz; cases e; exact ⟨hz, rfl⟩
    · cases e
  | tup h hs =>
    simp only [truth, Option.some.injEq] at e
    exact .inr (.inl ⟨_, h.seq, by rw [hs.empty]; exact e.symm⟩)
  | lst h hs =>
    simp only [truth, getL, Option.map_some, Option.some.injEq] at e
    exact .inl ⟨_, h.seq, by rw [hs.empty]; exact e.symm⟩
  | ins h h1 h2 => simp [truth, getL] at e
  | @ref k' a h =>
    simp only [truth, Option.map_eq_some_iff] at e
    obtain ⟨ws, h1, h2⟩ := e
    obtain ⟨a', vs, e', h3, h4⟩ := getL_rel R (.ref h) h1
    cases e'
    exact .inl ⟨_, h3, by rw [h4.empty]; exact h2.symm⟩

variable {X : Cx}
theorem ixAt_eq (m : Nat) (i : Int) : ixAt m i = ixN m i := rfl
theorem atI_of {α : Type} {xs : List α} {i : Int} {v : α} {j : Nat} (h : ixAt xs.length i = some j) (e : xs[j]? = some v) : atI xs i = some v := by
  unfold atI
  rw [← ixAt_eq, h]; exact e
theorem sub_ok (hK : X.K = n.K) : IxR X (fun x y H Q => ∃ ι hp a b E, HR n ι H hp ∧ VR n ι H x a ∧ VR n ι H y b ∧ Af n (VR n) ι H (subsc a b hp) Q E) := by
  intro value slice pins s σ H x y v u Q I rx ry h hs
  refine ix_seq value slice pins s σ H x y v u Q I rx ry ?_ hs
  obtain ⟨ι, hp, a, b, E, R, va, vb, A⟩ := h
  cases vb with
  | int i =>
    have gen : ∀ ws, getS hp a = some ws → ∀ w, (ixAt ws.length i).bind (ws[·]?) = some w → Q (.int 0) H ∨ True → (∀ v', VR n ι H v' w → Q v' H) → rIx X.K x (.int i) H Q := fun ws e w ew _ q => by
      obtain ⟨p, vs, rfl, h1, h2⟩ := getS_rel R va e
      obtain ⟨j, hj, hw⟩ := Option.bind_eq_some_iff.mp ew
      obtain ⟨v', g1, g2⟩ := h2.get hw
      rw [← h2.length] at hj
      rcases h1 with h1 | h1
      · exact .inl ⟨p, vs, i, v', rfl, rfl, hK ▸ h1, atI_of hj g1, q v' g2⟩
      · exact .inr (.inl ⟨p, vs, i, v', rfl, rfl, hK ▸ h1, atI_of hj g1, q v' g2⟩)
    have gen2 : Af n (VR n) ι H (match getS hp a with
      | some ws => match (ixAt ws.length i).bind (ws[·]?) with
        | some w => Rz.ok w hp
        | none => .bad
      | none => .bad) Q E → rIx X.K x (.int i) H Q := fun A => by
      split at A
      · rename_i ws e
        split at A
        · rename_i w ew
          exact gen ws e w ew (.inr trivial) fun v' hv => A.here R hv
        · exact A.elim
      · exact A.elim
    cases va with
    | str z =>
      simp only [subsc] at A
      split at A
      · rename_i hz
        split at A
        · rename_i c ec
          obtain ⟨j, hj, hw⟩ := Option.bind_eq_some_iff.mp ec
          exact .inr (.inr ⟨z, i, c, rfl, rfl, hz, atI_of (by rw [show z.cps.toList.length = z.length from by simp [Str.length]]; exact hj) hw, A.here R (.str _)⟩)
        · exact A.elim
      · exact A.elim
    | _ => exact gen2 A
  | _ => exact (show False from by cases va <;> exact A).elim
theorem VRs.cut {vs : List V} {ws : List Wv} (h : VRs n ι H vs ws) (lo hi : Option Int) : VRs n ι H (cutV vs lo hi) (cut ws lo hi) := by
  unfold cutV SL.cut
  rw [h.length]
  exact (h.drop _).take _
theorem cut_whole {α : Type} (ws : List α) (lo hi : Option Int) (h : HT.sIx ws.length 0 lo = 0 ∧ HT.sIx ws.length ws.length hi = ws.length) : cut ws lo hi = ws := by
  unfold cut
  rw [h.1, h.2]; simp
theorem slc_ok (hK : X.K = n.K) : SlR X (fun x lo hi H Q => ∃ ι hp a E, HR n ι H hp ∧ VR n ι H x a ∧ Af n (VR n) ι H (slice a lo hi hp) Q E) := by
  intro pins s σ H x v vl vu lo hi sl Q I rx hs pl pu ⟨ι, hp, a, E, R, va, A⟩
  have gen : Af n (VR n) ι H (match getL hp a with
    | some ws => newL (cut ws lo hi) hp
    | none => .bad) Q E → rSlL X.K x lo hi H Q := fun A => by
    split at A
    · rename_i ws e
      obtain ⟨p, vs, rfl, h1, h2⟩ := getL_rel R va e
      obtain ⟨_, hn⟩ := newL_ok R (h2.cut lo hi) A
      exact ⟨p, vs, rfl, hK ▸ h1, hn⟩
    · exact A.elim
  cases va with
  | tup h ht =>
    simp only [slice] at A
    refine sl_tupA pins s σ H _ v vl vu lo hi sl Q I rx hs pl pu ⟨_, _, rfl, hK ▸ h.seq, fun e => ?_, fun e => newT_ok R (ht.cut lo hi) A⟩
    rw [ht.length] at e
    rw [cut_whole _ _ _ e] at A
    exact A.here R (.tup h ht)
  | lst h ht => exact sl_list pins s σ H _ v vl vu lo hi sl Q I rx hs pl pu (gen A)
  | ref h => exact sl_list pins s σ H _ v vl vu lo hi sl Q I rx hs pl pu (gen A)
  | _ => exact A.elim
/-- xs[i] = v -/
theorem store_ok (F : Unit → Prop := fun _ => True) : PSet X (fun o i v H Q => ∃ ι hp a b w E, HR n ι H hp ∧ VR n ι H o a ∧ VR n ι H i b ∧ VR n ι H v w ∧ Af n (fun _ _ _ _ => True) ι H (storeSub a b w hp) (fun (_ : Unit) H' => Q H') E) := by
  intro pins s σ H o i v ov iv u Q I ro ri rv ⟨ι, hp, a, b, w, E, R, va, vb, vw, A⟩
  refine set_list pins s σ H o i v ov iv u Q I ro ri rv ?_
  cases va <;> try exact A.elim
  rename_i k p hk
  cases vb <;> try exact A.elim
  rename_i j
  simp only [storeSub] at A
  split at A
  · rename_i ws e
    split at A
    · rename_i m em
      obtain ⟨vs, g1, g2⟩ := R.lstAt hk e
      rw [← g2.length] at em
      refine ⟨p, vs, j, m, rfl, rfl, g1, em, ?_⟩
      obtain ⟨F, R'⟩ := R.set hk (ho := .lst (vs.set m v)) (o := .lst (ws.set m w)) fun F => .lst ((g2.set vw m).mono F)
      exact A () _ _ F R' trivial
    · exact A.elim
  · exact A.elim

/-! ### built-in functions -/
theorem callr_wk {f : Value} {r r' : List V → Hp → VK → Prop} (h : CallR X f r) (w : ∀ xs H Q, r' xs H Q → r xs H Q) : CallR X f r' := fun pins s σ H xs us Q I rx q => h pins s σ H xs us Q I rx (w xs H Q q)
/-- the reading of a built-in function -/
def rB (n : Nam) (b : Bf) : List V → Hp → VK → Prop := fun xs H Q => ∃ ι hp ws E, HR n ι H hp ∧ VRs n ι H xs ws ∧ Af n (VR n) ι H (blt b ws hp) Q E
theorem vrs1 {xs : List V} {w : Wv} (h : VRs n ι H xs [w]) : ∃ v, xs = [v] ∧ VR n ι H v w := by
  cases h with
  | cons h t => cases t; exact ⟨_, rfl, h⟩
theorem vrs2 {xs : List V} {w w' : Wv} (h : VRs n ι H xs [w, w']) : ∃ v v', xs = [v, v'] ∧ VR n ι H v w ∧ VR n ι H v' w' := by
  cases h with
  | cons h t =>
    obtain ⟨v', rfl, h'⟩ := vrs1 t
    exact ⟨_, _, rfl, h, h'⟩
theorem intsOf_rel : ∀ {vs : List V} {ws : List Wv}, VRs n ι H vs ws → ∀ {ns : List Int}, intsOf ws = some ns → vs = ns.map V.int
  | _, _, .nil, ns, e => by simp [intsOf] at e; subst e; rfl
  | _, _, .cons h t, ns, e => by
    cases h with
    | int i =>
      simp only [intsOf, Option.map_eq_some_iff] at e
      obtain ⟨ms, h1, rfl⟩ := e
      rw [List.map_cons, intsOf_rel t h1]
    | _ => simp [intsOf] at e
theorem boolsOf_rel : ∀ {vs : List V} {ws : List Wv}, VRs n ι H vs ws → ∀ {ns : List Bool}, boolsOf ws = some ns → vs = ns.map V.bl
  | _, _, .nil, ns, e => by simp [boolsOf] at e; subst e; rfl
  | _, _, .cons h t, ns, e => by
    cases h with
    | bl i =>
      simp only [boolsOf, Option.map_eq_some_iff] at e
      obtain ⟨ms, h1, rfl⟩ := e
      rw [List.map_cons, boolsOf_rel t h1]
    | _ => simp [boolsOf] at e
theorem b_len (hK : X.K = n.K) : CallR X (.builtin "len") (rB n .len) := by
  refine callr_wk (call_len_seq.or call_len_str) fun xs H Q ⟨ι, hp, ws, E, R, h, A⟩ => ?_
  unfold blt at A
  split at A <;> try contradiction
  · obtain ⟨v, rfl, hv⟩ := vrs1 h
    cases hv
    split at A
    · rename_i hz; exact .inr ⟨_, rfl, hz, A.here R (.int _)⟩
    · exact A.elim
  · obtain ⟨v, rfl, hv⟩ := vrs1 h
    split at A
    · rename_i ws e
      obtain ⟨p, vs, rfl, h1, h2⟩ := getS_rel R hv e
      refine .inl ⟨p, vs, rfl, hK ▸ h1, ?_⟩
      rw [h2.length]; exact A.here R (.int _)
    · exact A.elim
theorem b_list (hK : X.K = n.K) : CallR X (.type "list") (rB n .list) := by
  refine callr_wk call_list_of fun xs H Q ⟨ι, hp, ws, E, R, h, A⟩ => ?_
  unfold blt at A
  split at A <;> try contradiction
  · obtain ⟨v, rfl, hv⟩ := vrs1 h
    split at A
    · rename_i ws e
      obtain ⟨p, vs, rfl, h1, h2⟩ := getS_rel R hv e
      exact ⟨p, vs, rfl, hK ▸ h1, (newL_ok R h2 A).2⟩
    · exact A.elim
theorem getS_ref_tup (R : HR n ι H hp) {v : V} {w : Wv} (h : VR n ι H v w) {ws : List Wv} (e : getS hp w = some ws) : (∃ a vs, v = .ref a ∧ SqL n.K H a vs ∧ VRs n ι H vs ws) ∨ ∃ a vs, v = .ref a ∧ TupAt n.K ι H a vs ∧ VRs n ι H vs ws ∧ w = .tup ws := by
  cases h with
  | tup h hs => simp only [getS, Option.some.injEq] at e; subst e; exact .inr ⟨_, _, rfl, h, hs, rfl⟩
  | lst h hs => exact .inl (getL_rel R (.lst h hs) (by simpa [getS] using e))
  | ref h => exact .inl (getL_rel R (.ref h) (by simpa [getS] using e))
  | _ => simp [getS, getL] at e
theorem b_tuple (hK : X.K = n.K) : CallR X (.type "tuple") (rB n .tuple) := by
  refine callr_wk call_tuple_of fun xs H Q ⟨ι, hp, ws, E, R, h, A⟩ => ?_
  unfold blt at A
  split at A <;> try contradiction
  · obtain ⟨v, rfl, hv⟩ := vrs1 h
    split at A
    · rename_i ws e
      rcases getS_ref_tup R hv e with ⟨p, vs, rfl, h1, h2⟩ | ⟨p, vs, rfl, h1, h2, rfl⟩
      · exact ⟨p, vs, rfl, .inl ⟨hK ▸ h1, newT_ok R h2 A⟩⟩
      · exact ⟨p, vs, rfl, .inr ⟨hK ▸ h1.seq, A.here R (.tup h1 h2)⟩⟩
    · exact A.elim
theorem b_int : CallR X (.type "int") (rB n .int) := by
  refine callr_wk call_int1 fun xs H Q ⟨ι, hp, ws, E, R, h, A⟩ => ?_
  unfold blt at A
  split at A <;> try contradiction
  · obtain ⟨v, rfl, hv⟩ := vrs1 h
    cases hv
    exact .inl ⟨_, rfl, A.here R (.int _)⟩
  · obtain ⟨v, rfl, hv⟩ := vrs1 h
    cases hv
    exact .inr ⟨_, rfl, A.here R (.int _)⟩
theorem b_abs : CallR X (.builtin "abs") (rB n .abs) := by
  refine callr_wk call_abs fun xs H Q ⟨ι, hp, ws, E, R, h, A⟩ => ?_
  unfold blt at A
  split at A <;> try contradiction
  · obtain ⟨v, rfl, hv⟩ := vrs1 h
    cases hv
    exact ⟨_, rfl, A.here R (.int _)⟩
theorem b_min (hc : X.calm = true) : CallR X (.builtin "min") (rB n .min) := by
  refine callr_wk (call_min2 hc) fun xs H Q ⟨ι, hp, ws, E, R, h, A⟩ => ?_
  unfold blt at A
  split at A <;> try contradiction
  · obtain ⟨v, v', rfl, hv, hv'⟩ := vrs2 h
    cases hv
    cases hv'
    exact ⟨_, _, rfl, A.here R (.int _)⟩
theorem b_max (hc : X.calm = true) : CallR X (.builtin "max") (rB n .max) := by
  refine callr_wk (call_max2 hc) fun xs H Q ⟨ι, hp, ws, E, R, h, A⟩ => ?_
  unfold blt at A
  split at A <;> try contradiction
  · obtain ⟨v, v', rfl, hv, hv'⟩ := vrs2 h
    cases hv
    cases hv'
    exact ⟨_, _, rfl, A.here R (.int _)⟩
theorem b_sum (hK : X.K = n.K) (hc : X.calm = true) : CallR X (.builtin "sum") (rB n .sum) := by
  refine callr_wk (cr_sum hc) fun xs H Q ⟨ι, hp, ws, E, R, h, A⟩ => ?_
  unfold blt at A
  split at A <;> try contradiction
  · obtain ⟨v, rfl, hv⟩ := vrs1 h
    split at A
    · rename_i ns e
      obtain ⟨ws, e1, e2⟩ := Option.bind_eq_some_iff.mp e
      obtain ⟨p, vs, rfl, h1, h2⟩ := getL_rel R hv e1
      exact ⟨p, ns, rfl, hK ▸ intsOf_rel h2 e2 ▸ h1, A.here R (.int _)⟩
    · exact A.elim
theorem b_all (hK : X.K = n.K) (hc : X.calm = true) : CallR X (.builtin "all") (rB n .all) := by
  refine callr_wk (cr_all hc) fun xs H Q ⟨ι, hp, ws, E, R, h, A⟩ => ?_
  unfold blt at A
  split at A <;> try contradiction
  · obtain ⟨v, rfl, hv⟩ := vrs1 h
    split at A
    · rename_i ns e
      obtain ⟨ws, e1, e2⟩ := Option.bind_eq_some_iff.mp e
      obtain ⟨p, vs, rfl, h1, h2⟩ := getL_rel R hv e1
      exact ⟨p, ns, rfl, hK ▸ boolsOf_rel h2 e2 ▸ h1, A.here R (.bl _)⟩
    · exact A.elim
theorem b_any (hK : X.K = n.K) (hc : X.calm = true) : CallR X (.builtin "any") (rB n .any) := by
  refine callr_wk (cr_any hc) fun xs H Q ⟨ι, hp, ws, E, R, h, A⟩ => ?_
  unfold blt at A
  split at A <;> try contradiction
  · obtain ⟨v, rfl, hv⟩ := vrs1 h
    split at A
    · rename_i ns e
      obtain ⟨ws, e1, e2⟩ := Option.bind_eq_some_iff.mp e
      obtain ⟨p, vs, rfl, h1, h2⟩ := getL_rel R hv e1
      exact ⟨p, ns, rfl, hK ▸ boolsOf_rel h2 e2 ▸ h1, A.here R (.bl _)⟩
    · exact A.elim

/-! ### methods of lists -/
def rL (n : Nam) (m : Lm) : V → List V → Hp → VK → Prop := fun x xs H Q => ∃ ι hp a ws E, HR n ι H hp ∧ VR n ι H x a ∧ VRs n ι H xs ws ∧ Af n (VR n) ι H (lmop m a ws hp) Q E
theorem mtr_wk {id : String} {r r' : V → List V → Hp → VK → Prop} (h : MtR X id r) (w : ∀ x xs H Q, r' x xs H Q → r x xs H Q) : MtR X id r' := fun pins s σ H x xs v us Q I rx rxs q => h pins s σ H x xs v us Q I rx rxs (w x xs H Q q)
/-- the receiver is a cell with a list -/
theorem lm_ref (R : HR n ι H hp) {x : V} {a : Wv} (h : VR n ι H x a) {m : Lm} {ws : List Wv} {Q : VK} (A : Af n (VR n) ι H (lmop m a ws hp) Q E) :
    ∃ k p vs us, a = .ref k ∧ x = .ref p ∧ ι[k]? = some p ∧ H p = some (.lst vs) ∧ hp[k]? = some (.lst us) ∧ VRs n ι H vs us := by
  cases h <;> try exact A.elim
  rename_i k p hk
  simp only [lmop] at A
  split at A
  · rename_i us e
    obtain ⟨vs, g1, g2⟩ := R.lstAt hk e
    exact ⟨k, p, vs, us, rfl, rfl, hk, g1, e, g2⟩
  · exact A.elim
theorem l_append : MtR X "list.append" (rL n .append) := by
  refine mtr_wk mt_append fun x xs H Q ⟨ι, hp, a, ws, E, R, h, hs, A⟩ => ?_
  obtain ⟨k, p, vs, us, rfl, rfl, hk, g1, e, g2⟩ := lm_ref R h A
  simp only [lmop, e] at A
  split at A <;> try contradiction
  · obtain ⟨v, rfl, hv⟩ := vrs1 hs
    split at A
    · rename_i hz
      exact ⟨p, vs, v, rfl, rfl, g1, by rw [g2.length]; exact hz, setL_ok R hk (g2.append (.cons hv .nil)) .non A⟩
    · exact A.elim
theorem l_extend : MtR X "list.extend" (rL n .extend) := by
  refine mtr_wk mt_extend fun x xs H Q ⟨ι, hp, a, ws, E, R, h, hs, A⟩ => ?_
  obtain ⟨k, p, vs, us, rfl, rfl, hk, g1, e, g2⟩ := lm_ref R h A
  simp only [lmop, e] at A
  split at A <;> try contradiction
  · obtain ⟨v, rfl, hv⟩ := vrs1 hs
    split at A
    · rename_i b
      cases hv with
      | @ref _ p' hk' =>
        split at A
        · rename_i ys e2
          obtain ⟨vs2, g3, g4⟩ := R.lstAt hk' e2
          split at A
          · rename_i hz
            exact ⟨p, p', vs, vs2, rfl, rfl, g1, g3, by rw [g2.length, g4.length]; exact hz, setL_ok R hk (g2.append g4) .non A⟩
          · exact A.elim
        · exact A.elim
    · exact A.elim
theorem l_pop : MtR X "list.pop" (rL n .pop) := by
  refine mtr_wk mt_pop fun x xs H Q ⟨ι, hp, a, ws, E, R, h, hs, A⟩ => ?_
  obtain ⟨k, p, vs, us, rfl, rfl, hk, g1, e, g2⟩ := lm_ref R h A
  simp only [lmop, e] at A
  split at A <;> try contradiction
  · cases hs
    split at A
    · rename_i y ey
      obtain ⟨v, g3, g4⟩ := g2.get ey
      refine ⟨p, vs, v, rfl, rfl, g1, by rw [g2.length]; exact g3, setL_ok R hk g2.dropLast g4 A⟩
    · exact A.elim
theorem l_clear : MtR X "list.clear" (rL n .clear) := by
  refine mtr_wk mt_clear fun x xs H Q ⟨ι, hp, a, ws, E, R, h, hs, A⟩ => ?_
  obtain ⟨k, p, vs, us, rfl, rfl, hk, g1, e, g2⟩ := lm_ref R h A
  simp only [lmop, e] at A
  split at A <;> try contradiction
  · cases hs
    exact ⟨p, vs, rfl, rfl, g1, setL_ok R hk .nil .non A⟩
theorem l_reverse : MtR X "list.reverse" (rL n .reverse) := by
  refine mtr_wk mt_reverse fun x xs H Q ⟨ι, hp, a, ws, E, R, h, hs, A⟩ => ?_
  obtain ⟨k, p, vs, us, rfl, rfl, hk, g1, e, g2⟩ := lm_ref R h A
  simp only [lmop, e] at A
  split at A <;> try contradiction
  · cases hs
    exact ⟨p, vs, rfl, rfl, g1, setL_ok R hk g2.reverse .non A⟩
end
end SL

set_option maxRecDepth 100000
set_option maxHeartbeats 1000000
/-! Expressions by the evaluator. -/
namespace SL
open PySem L2 PyProof.Rows
set_option autoImplicit false

/-- the exception's own dict, its value -/
def XR (n : Nam) (ι : List Addr) (H : Hp) (d : Option Addr) (w : Wv) : Prop := ∃ dd v, d = some dd ∧ H dd = some (.xd [(n.nm n.atF, v)]) ∧ dd ∉ ι ∧ VR n ι H v w
def ofE (n : Nam) (E : XK) : Nat → Wv → Hs → List Addr → Hp → Prop := fun c w _ ι H => ∀ d, XR n ι H d w → E (.ref (n.xA c)) d H
def ofW (n : Nam) (W : WX) : Wx := fun σ c w _ ι H => ∀ d, XR n ι H d w → W (.ref (n.xA c)) d σ H
theorem ofE_ofW (n : Nam) (W : WX) (σ : L2.St) : ofE n (WE W σ) = ofW n W σ := rfl
def spW (n : Nam) (P : Wd) (f : Nat) : Sp := fun vs H Q E => ∃ ι hp ws, HR n ι H hp ∧ VRs n ι H vs ws ∧ Af n (VR n) ι H (P.run f ws hp) Q (ofE n E)
structure FnIs (X : Cx) (n : Nam) (P : Wd) (k : Nat) (f : Nat) (a : Addr) : Prop where
  ok : ∃ fd ps, Binds X.K fd ps [] ∧ FnOk X.prog X.w X.K X.mg X.base (L2.CX X.prog X.w) k a fd ps (spW n P f)

section
variable {n : Nam} {ι : List Addr} {H : Hp} {hp : Hs} {W : Wx} {X : Cx} {P : Wd}
abbrev G (n : Nam) (W : Wx) (P : Wd) (x : Ex) : TE := rd n W (ev P x)
abbrev GT (n : Nam) (W : Wx) (P : Wd) (x : Ex) : TT := rdT n W (tst P x)
abbrev GA (n : Nam) (W : Wx) (P : Wd) (x : List Ex) : TA := rdA n W (evs P x)

theorem g_var {i : Nat} {x : Str} {pos : Pos} (hN : X.N[i]? = some x) (hv : Vis X.env.scope x) (hd : (x == ("__debug__" : Str)) = false) (hcd : (x == ("__classdict__" : Str)) = false) : PE X (.Name x pos) (G n W P (.var i)) := by
  refine pe_wk (pe_var hN hv hd hcd) fun σ H Q ⟨ι, e, hp, S, A⟩ => ?_
  simp only [ev] at A
  split at A
  · rename_i w h
    obtain ⟨v, h1, h2⟩ := S.at_ i w h
    exact ⟨v, h1, A.here S.hr h2⟩
  · exact A.elim
theorem g_non {j : Nat} {pos : Pos} : PE X (.Constant .none j pos) (G n W P (.cst .non)) := pe_wk pe_non fun σ H Q ⟨ι, e, hp, S, A⟩ => by
  simp only [ev] at A
  exact A.here S.hr VR.non
theorem g_bl {b : Bool} {j : Nat} {pos : Pos} : PE X (.Constant (.bool b) j pos) (G n W P (.cst (.bl b))) := pe_wk pe_bl fun σ H Q ⟨ι, e, hp, S, A⟩ => by
  simp only [ev] at A
  exact A.here S.hr (VR.bl b)
theorem g_int {b : Int} {j : Nat} {pos : Pos} : PE X (.Constant (.int b) j pos) (G n W P (.cst (.int b))) := pe_wk pe_int fun σ H Q ⟨ι, e, hp, S, A⟩ => by
  simp only [ev] at A
  exact A.here S.hr (VR.int b)
theorem g_str {b : Str} {j : Nat} {pos : Pos} : PE X (.Constant (.str b) j pos) (G n W P (.cst (.str b))) := pe_wk pe_str fun σ H Q ⟨ι, e, hp, S, A⟩ => by
  simp only [ev] at A
  exact A.here S.hr (VR.str b)
/-- a module's int -/
theorem g_glo {x : Str} {g : Nat} {w : Wv} {pos : Pos} (hg : Gl X x) (hw : P.glo g = some w) {v : V} {u : Value} (hm : X.mg x = some u) (r : RelV v u) (hv : ∀ ι H, VR n ι H v w) (hd : (x == ("__debug__" : Str)) = false) : PE X (.Name x pos) (G n W P (.glo g)) :=
  pe_wk (pe_glob hg hm r hd) fun σ H Q ⟨ι, e, hp, S, A⟩ => by
    simp only [ev, hw, Rz.of_some] at A
    exact A.here S.hr (hv _ _)
theorem a_nil : PA X [] (GA n W P []) := pa_wk pa_nil fun σ H Q ⟨ι, e, hp, S, A⟩ => by
  simp only [evs] at A
  exact A.here S.hr .nil
theorem a_cons {e : Expr} {es : List Expr} {x : Ex} {xs : List Ex} (ha : PE X e (G n W P x)) (hr : PA X es (GA n W P xs)) (hs : starEach (e :: es) X.env = (false, eval e X.env) :: starEach es X.env) : PA X (e :: es) (GA n W P (x :: xs)) := by
  refine pa_wk (pa_cons ha hr hs) fun σ H Q ⟨ι, e, hp, S, A⟩ => ?_
  simp only [evs] at A
  refine ⟨ι, e, hp, S, (Af.bind A).mono ?_⟩
  rintro v H1 ⟨ι1, hp1, a, F1, R1, V1, A1⟩
  refine ⟨ι1, e, hp1, S.mono F1 R1, (Af.bind A1).mono ?_⟩
  rintro vs H2 ⟨ι2, hp2, as, F2, R2, V2, A2⟩
  exact A2.here R2 (.cons (V1.mono F2) V2)
theorem g_tup {es : List Expr} {xs : List Ex} {x1 : Nat} {pos : Pos} (h : PA X es (GA n W P xs)) : PE X (.Tuple es x1 pos) (G n W P (.tup xs)) := by
  refine pe_wk (pe_tup h) fun σ H Q ⟨ι, e, hp, S, A⟩ => ?_
  simp only [ev] at A
  refine ⟨ι, e, hp, S, (Af.bind A).mono ?_⟩
  rintro vs H1 ⟨ι1, hp1, ws, F1, R1, V1, A1⟩
  split at A1
  · rename_i hz
    exact ⟨by rw [V1.length]; exact hz, newT_ok R1 V1 A1⟩
  · exact A1.elim
theorem g_lst {es : List Expr} {xs : List Ex} {pos : Pos} (h : PA X es (GA n W P xs)) : PE X (.List es pos) (G n W P (.lst xs)) := by
  refine pe_wk (pe_lst h) fun σ H Q ⟨ι, e, hp, S, A⟩ => ?_
  simp only [ev] at A
  refine ⟨ι, e, hp, S, (Af.bind A).mono ?_⟩
  rintro vs H1 ⟨ι1, hp1, ws, F1, R1, V1, A1⟩
  exact newL_ok R1 V1 A1
theorem g_bin {a b : Expr} {x y : Ex} {o : Op2} {pos : Pos} (hK : X.K = n.K) (ha : PE X a (G n W P x)) (hb : PE X b (G n W P y)) : PE X (.BinOp a (opOf o) b pos) (G n W P (.bin o x y)) := by
  refine pe_wk (pe_op (bin_ok hK o) ha hb) fun σ H Q ⟨ι, e, hp, S, A⟩ => ?_
  simp only [ev] at A
  refine ⟨ι, e, hp, S, (Af.bind A).mono ?_⟩
  rintro v H1 ⟨ι1, hp1, w, F1, R1, V1, A1⟩
  refine ⟨ι1, e, hp1, S.mono F1 R1, (Af.bind A1).mono ?_⟩
  rintro u H2 ⟨ι2, hp2, w2, F2, R2, V2, A2⟩
  exact ⟨ι2, hp2, w, w2, _, R2, V1.mono F2, V2, A2⟩
theorem g_neg {a : Expr} {x : Ex} {pos : Pos} (ha : PE X a (G n W P x)) : PE X (.UnaryOp .USub a pos) (G n W P (.neg x)) := by
  refine pe_wk (pe_un un_neg ha) fun σ H Q ⟨ι, e, hp, S, A⟩ => ?_
  simp only [ev] at A
  refine ⟨ι, e, hp, S, (Af.bind A).mono ?_⟩
  rintro v H1 ⟨ι1, hp1, w, F1, R1, V1, A1⟩
  cases V1 <;> try exact A1.elim
  exact ⟨_, rfl, A1.here R1 (.int _)⟩
theorem g_not {a : Expr} {x : Ex} {pos : Pos} (hK : X.K = n.K) (ha : PE X a (G n W P x)) : PE X (.UnaryOp .Not a pos) (G n W P (.not x)) := by
  refine pe_wk (pe_notT ha) fun σ H Q ⟨ι, e, hp, S, A⟩ => ?_
  simp only [ev] at A
  refine ⟨ι, e, hp, S, (Af.bind A).mono ?_⟩
  rintro v H1 ⟨ι1, hp1, w, F1, R1, V1, A1⟩
  cases ht : truth hp1 w with
  | none => rw [ht] at A1; exact A1.elim
  | some k =>
    rw [ht] at A1
    exact ⟨k, hK ▸ truth_ok R1 V1 ht, A1.here R1 (.bl _)⟩
theorem g_and {a b : Expr} {rest : List Expr} {x y : Ex} {pos : Pos} (hK : X.K = n.K) (ha : PE X a (G n W P x)) (hb : PE X (.BoolOp .And (b :: rest) pos) (G n W P y)) : PE X (.BoolOp .And (a :: b :: rest) pos) (G n W P (.and x y)) := by
  refine pe_wk (pe_andT ha hb) fun σ H Q ⟨ι, e, hp, S, A⟩ => ?_
  simp only [ev] at A
  refine ⟨ι, e, hp, S, (Af.bind A).mono ?_⟩
  rintro v H1 ⟨ι1, hp1, w, F1, R1, V1, A1⟩
  cases ht : truth hp1 w with
  | none => rw [ht] at A1; exact A1.elim
  | some k =>
    rw [ht] at A1
    simp only [Rz.of_some, Rz.bind_ok] at A1
    refine ⟨k, hK ▸ truth_ok R1 V1 ht, ?_⟩
    cases k with
    | true => exact ⟨ι1, e, hp1, S.mono F1 R1, A1⟩
    | false => exact A1.here R1 V1
theorem g_or {a b : Expr} {rest : List Expr} {x y : Ex} {pos : Pos} (hK : X.K = n.K) (ha : PE X a (G n W P x)) (hb : PE X (.BoolOp .Or (b :: rest) pos) (G n W P y)) : PE X (.BoolOp .Or (a :: b :: rest) pos) (G n W P (.or x y)) := by
  refine pe_wk (pe_orT ha hb) fun σ H Q ⟨ι, e, hp, S, A⟩ => ?_
  simp only [ev] at A
  refine ⟨ι, e, hp, S, (Af.bind A).mono ?_⟩
  rintro v H1 ⟨ι1, hp1, w, F1, R1, V1, A1⟩
  cases ht : truth hp1 w with
  | none => rw [ht] at A1; exact A1.elim
  | some k =>
    rw [ht] at A1
    simp only [Rz.of_some, Rz.bind_ok] at A1
    refine ⟨k, hK ▸ truth_ok R1 V1 ht, ?_⟩
    cases k with
    | false => exact ⟨ι1, e, hp1, S.mono F1 R1, A1⟩
    | true => exact A1.here R1 V1
theorem g_ite {c a b : Expr} {z x y : Ex} {pos : Pos} (hc : PT X c (GT n W P z)) (ha : PE X a (G n W P x)) (hb : PE X b (G n W P y)) : PE X (.IfExp c a b pos) (G n W P (.ite z x y)) := by
  refine pe_wk (pe_ifExp hc ha hb) fun σ H Q ⟨ι, e, hp, S, A⟩ => ?_
  simp only [ev] at A
  refine ⟨ι, e, hp, S, (Af.bind A).mono ?_⟩
  rintro t H1 ⟨ι1, hp1, k, F1, R1, rfl, A1⟩
  cases t with
  | true => exact ⟨ι1, e, hp1, S.mono F1 R1, A1⟩
  | false => exact ⟨ι1, e, hp1, S.mono F1 R1, A1⟩
theorem cmp_two {c : Cm} {x y : Ex} {σ : L2.St} {Q : VK} (h : G n W P (.cmp c x y) σ H Q) : tOp (fun x y H Q => ∃ ι hp a b t, HR n ι H hp ∧ VR n ι H x a ∧ VR n ι H y b ∧ c.run hp a b = some t ∧ Q (.bl t) H) (G n W P x) (G n W P y) σ H Q := by
  obtain ⟨ι, e, hp, S, A⟩ := h
  simp only [ev] at A
  refine ⟨ι, e, hp, S, (Af.bind A).mono ?_⟩
  rintro v H1 ⟨ι1, hp1, w, F1, R1, V1, A1⟩
  refine ⟨ι1, e, hp1, S.mono F1 R1, (Af.bind A1).mono ?_⟩
  rintro u H2 ⟨ι2, hp2, w2, F2, R2, V2, A2⟩
  simp only [cmpop] at A2
  cases ht : c.run hp2 w w2 with
  | none => rw [ht] at A2; exact A2.elim
  | some t =>
    rw [ht] at A2
    exact ⟨ι2, hp2, w, w2, t, R2, V1.mono F2, V2, ht, A2.here R2 (.bl _)⟩
theorem g_cmp {a b : Expr} {x y : Ex} {c : Cm} {pos : Pos} (hK : X.K = n.K) (hu : X.A.units + 64 < cLine) (ha : PE X a (G n W P x)) (hb : PE X b (G n W P y)) (hm : behindInMarks (cmOf c) b = false) : PE X (.Compare a [cmOf c] [b] pos) (G n W P (.cmp c x y)) :=
  pe_wk (pe_cmpR (cm_ok hK hu c) ha hb hm) fun σ H Q h => cmp_two h
theorem g_chn {a b d : Expr} {x y z : Ex} {c c' : Cm} {pos : Pos} (hK : X.K = n.K) (hu : X.A.units + 64 < cLine) (ha : PE X a (G n W P x)) (hb : PE X b (G n W P y)) (hd : PE X d (G n W P z)) (hm : lastMarks [cmOf c, cmOf c'] [b, d] = false) :
    PE X (.Compare a [cmOf c, cmOf c'] [b, d] pos) (G n W P (.chn c c' x y z)) := by
  refine pe_wk (pe_chain (cm_ok hK hu c) (cm_ok hK hu c') ha hb hd hm) fun σ H Q ⟨ι, e, hp, S, A⟩ => ?_
  simp only [ev] at A
  refine ⟨ι, e, hp, S, (Af.bind A).mono ?_⟩
  rintro v H1 ⟨ι1, hp1, w, F1, R1, V1, A1⟩
  refine ⟨ι1, e, hp1, S.mono F1 R1, (Af.bind A1).mono ?_⟩
  rintro u H2 ⟨ι2, hp2, w2, F2, R2, V2, A2⟩
  cases ht : c.run hp2 w w2 with
  | none => rw [ht] at A2; exact A2.elim
  | some t =>
    rw [ht] at A2
    refine ⟨ι2, hp2, w, w2, t, R2, V1.mono F2, V2, ht, t, rfl, ?_⟩
    cases t with
    | false => exact A2.here R2 (.bl _)
    | true =>
      simp only [Rz.of_some, Rz.bind_ok, if_true] at A2 ⊢
      refine ⟨ι2, e, hp2, (S.mono F1 R1).mono F2 R2, (Af.bind A2).mono ?_⟩
      rintro u3 H3 ⟨ι3, hp3, w3, F3, R3, V3, A3⟩
      simp only [cmpop] at A3
      cases ht3 : c'.run hp3 w2 w3 with
      | none => rw [ht3] at A3; exact A3.elim
      | some t3 =>
        rw [ht3] at A3
        exact ⟨ι3, hp3, w2, w3, t3, R3, V2.mono F3, V3, ht3, A3.here R3 (.bl _)⟩
theorem Rz.bind_assoc {α β γ : Type} (r : Rz α) (f : α → Hs → Rz β) (g : β → Hs → Rz γ) : (r.bind f).bind g = r.bind fun a h => (f a h).bind g := by cases r <;> rfl
/-! ### tests -/
theorem t_gen {a : Expr} {x : Ex} (hK : X.K = n.K) (ha : PE X a (G n W P x)) (he : ∀ whole, isTrue a X.env whole = (do let v ← whole; standAt a.pos; holding [v] (truthy v)))
    (ht : ∀ e h, tst P x e h = (ev P x e h).bind fun w h1 => Rz.of (truth h1 w) h1) : PT X a (GT n W P x) := by
  refine pt_wk (pt_truth ha he) fun σ H Q ⟨ι, e, hp, S, A⟩ => ?_
  rw [ht] at A
  refine ⟨ι, e, hp, S, (Af.bind A).mono ?_⟩
  rintro v H1 ⟨ι1, hp1, w, F1, R1, V1, A1⟩
  cases hk : truth hp1 w with
  | none => rw [hk] at A1; exact A1.elim
  | some k =>
    rw [hk] at A1
    exact ⟨k, hK ▸ truth_ok R1 V1 hk, A1.here R1 rfl⟩
theorem t_cmp {a b : Expr} {x y : Ex} {c : Cm} {pos : Pos} (hK : X.K = n.K) (hu : X.A.units + 64 < cLine) (ha : PE X a (G n W P x)) (hb : PE X b (G n W P y)) (hm : behindInMarks (cmOf c) b = false) : PT X (.Compare a [cmOf c] [b] pos) (GT n W P (.cmp c x y)) := by
  refine pt_wk (pt_cmpR (cm_ok hK hu c) ha hb hm) fun σ H Q ⟨ι, e, hp, S, A⟩ => ?_
  simp only [tst, ev, Rz.bind_assoc] at A
  refine ⟨ι, e, hp, S, (Af.bind A).mono ?_⟩
  rintro v H1 ⟨ι1, hp1, w, F1, R1, V1, A1⟩
  refine ⟨ι1, e, hp1, S.mono F1 R1, (Af.bind A1).mono ?_⟩
  rintro u H2 ⟨ι2, hp2, w2, F2, R2, V2, A2⟩
  simp only [cmpop] at A2
  cases ht : c.run hp2 w w2 with
  | none => rw [ht] at A2; exact A2.elim
  | some t =>
    rw [ht] at A2
    exact ⟨ι2, hp2, w, w2, t, R2, V1.mono F2, V2, ht, t, rfl, A2.here R2 rfl⟩
theorem t_chn {a b d : Expr} {x y z : Ex} {c c' : Cm} {pos : Pos} (hK : X.K = n.K) (hu : X.A.units + 64 < cLine) (ha : PE X a (G n W P x)) (hb : PE X b (G n W P y)) (hd : PE X d (G n W P z)) (hm : lastMarks [cmOf c, cmOf c'] [b, d] = false) :
    PT X (.Compare a [cmOf c, cmOf c'] [b, d] pos) (GT n W P (.chn c c' x y z)) := by
  refine pt_wk (pt_chain (cm_ok hK hu c) (cm_ok hK hu c') ha hb hd hm) fun σ H Q ⟨ι, e, hp, S, A⟩ => ?_
  simp only [tst, ev, Rz.bind_assoc] at A
  refine ⟨ι, e, hp, S, (Af.bind A).mono ?_⟩
  rintro v H1 ⟨ι1, hp1, w, F1, R1, V1, A1⟩
  refine ⟨ι1, e, hp1, S.mono F1 R1, (Af.bind A1).mono ?_⟩
  rintro u H2 ⟨ι2, hp2, w2, F2, R2, V2, A2⟩
  cases ht : c.run hp2 w w2 with
  | none => rw [ht] at A2; exact A2.elim
  | some t =>
    rw [ht] at A2
    refine ⟨ι2, hp2, w, w2, t, R2, V1.mono F2, V2, ht, t, rfl, ?_⟩
    cases t with
    | false => exact ⟨false, rfl, A2.here R2 rfl⟩
    | true =>
      simp only [Rz.of_some, Rz.bind_ok, if_true, Rz.bind_assoc] at A2 ⊢
      refine ⟨ι2, e, hp2, (S.mono F1 R1).mono F2 R2, (Af.bind A2).mono ?_⟩
      rintro u3 H3 ⟨ι3, hp3, w3, F3, R3, V3, A3⟩
      simp only [cmpop] at A3
      cases ht3 : c'.run hp3 w2 w3 with
      | none => rw [ht3] at A3; exact A3.elim
      | some t3 =>
        rw [ht3] at A3
        exact ⟨ι3, hp3, w2, w3, t3, R3, V2.mono F3, V3, ht3, t3, rfl, A3.here R3 rfl⟩
theorem t_not {a : Expr} {x : Ex} {pos : Pos} (ha : PT X a (GT n W P x)) : PT X (.UnaryOp .Not a pos) (GT n W P (.not x)) := by
  refine pt_wk (pt_not ha) fun σ H Q ⟨ι, e, hp, S, A⟩ => ?_
  simp only [tst] at A
  refine ⟨ι, e, hp, S, (Af.bind A).mono ?_⟩
  rintro t H1 ⟨ι1, hp1, k, F1, R1, rfl, A1⟩
  exact A1.here R1 rfl
theorem w_and1 {a : Expr} {x : Ex} {pos : Pos} (ha : PT X a (GT n W P x)) : PW X (.BoolOp .And [a] pos) (GT n W P x) := pw_and1 ha
theorem w_or1 {a : Expr} {x : Ex} {pos : Pos} (ha : PT X a (GT n W P x)) : PW X (.BoolOp .Or [a] pos) (GT n W P x) := pw_or1 ha
theorem w_and {a b : Expr} {rest : List Expr} {x y : Ex} {pos : Pos} (ha : PT X a (GT n W P x)) (hb : PW X (.BoolOp .And (b :: rest) pos) (GT n W P y)) : PW X (.BoolOp .And (a :: b :: rest) pos) (GT n W P (.and x y)) := by
  refine pw_wk (pw_and ha hb) fun σ H Q ⟨ι, e, hp, S, A⟩ => ?_
  simp only [tst] at A
  refine ⟨ι, e, hp, S, (Af.bind A).mono ?_⟩
  rintro t H1 ⟨ι1, hp1, k, F1, R1, rfl, A1⟩
  cases t with
  | true => exact ⟨ι1, e, hp1, S.mono F1 R1, A1⟩
  | false => exact A1.here R1 rfl
theorem w_or {a b : Expr} {rest : List Expr} {x y : Ex} {pos : Pos} (ha : PT X a (GT n W P x)) (hb : PW X (.BoolOp .Or (b :: rest) pos) (GT n W P y)) : PW X (.BoolOp .Or (a :: b :: rest) pos) (GT n W P (.or x y)) := by
  refine pw_wk (pw_or ha hb) fun σ H Q ⟨ι, e, hp, S, A⟩ => ?_
  simp only [tst] at A
  refine ⟨ι, e, hp, S, (Af.bind A).mono ?_⟩
  rintro t H1 ⟨ι1, hp1, k, F1, R1, rfl, A1⟩
  cases t with
  | true => exact A1.here R1 rfl
  | false => exact ⟨ι1, e, hp1, S.mono F1 R1, A1⟩
end
end SL

set_option maxRecDepth 100000
set_option maxHeartbeats 1000000
/-! Expressions by the evaluator: parts of values, fields, calls. -/
namespace SL
open PySem L2 PyProof.Rows
set_option autoImplicit false

section
variable {n : Nam} {ι : List Addr} {H : Hp} {hp : Hs} {W : Wx} {V' : WX} {X : Cx} {P : Wd}
def noSlice : Expr → Bool
  | .Slice .. => false
  | _ => true
theorem plain_ix {b : Expr} (h : noSlice b = true) : PlainIx b := by
  intro o i
  cases b <;> first | rfl | cases h
theorem g_sub {a b : Expr} {x y : Ex} {pos : Pos} (hK : X.K = n.K) (ha : PE X a (G n W P x)) (hb : PE X b (G n W P y)) (hs : noSlice b = true) : PE X (.Subscript a b pos) (G n W P (.sub x y)) := by
  refine pe_wk (pe_ix (sub_ok hK) ha hb (plain_ix hs)) fun σ H Q ⟨ι, e, hp, S, A⟩ => ?_
  simp only [ev] at A
  refine ⟨ι, e, hp, S, (Af.bind A).mono ?_⟩
  rintro v H1 ⟨ι1, hp1, w, F1, R1, V1, A1⟩
  refine ⟨ι1, e, hp1, S.mono F1 R1, (Af.bind A1).mono ?_⟩
  rintro u H2 ⟨ι2, hp2, w2, F2, R2, V2, A2⟩
  exact ⟨ι2, hp2, w, w2, _, R2, V1.mono F2, V2, A2⟩
/-- a slice's part -/
def GO (n : Nam) (W : Wx) (P : Wd) (x : Option Ex) : TO := fun σ H Q => ∃ ι e hp, SR n ι H σ e hp ∧ Af n (fun _ _ b a => b = a) ι H (evo P x e hp) Q (W σ)
theorem po_wk {e : Option Expr} {t t' : TO} (h : PO X e t) (w : ∀ σ H Q, t' σ H Q → t σ H Q) : PO X e t' := ⟨fun pins s σ H Q I q => h.run pins s σ H Q I (w σ H Q q)⟩
theorem o_none : PO X none (GO n W P none) := po_wk po_none fun σ H Q ⟨ι, e, hp, S, A⟩ => by
  simp only [evo] at A
  exact A.here S.hr rfl
theorem o_some {a : Expr} {x : Ex} (ha : PE X a (G n W P x)) : PO X (some a) (GO n W P (some x)) := po_wk (po_some ha) fun σ H Q ⟨ι, e, hp, S, A⟩ => by
  simp only [evo] at A
  refine ⟨ι, e, hp, S, (Af.bind A).mono ?_⟩
  rintro v H1 ⟨ι1, hp1, w, F1, R1, V1, A1⟩
  cases V1 <;> try exact A1.elim
  exact ⟨_, rfl, A1.here R1 rfl⟩
theorem g_slc {a : Expr} {x : Ex} {lo hi : Option Expr} {l u : Option Ex} {p2 pos : Pos} (hK : X.K = n.K) (ha : PE X a (G n W P x)) (hl : PO X lo (GO n W P l)) (hu : PO X hi (GO n W P u)) : PE X (.Subscript a (.Slice lo hi none p2) pos) (G n W P (.slc x l u)) := by
  refine pe_wk (pe_slice (slc_ok hK) ha hl hu) fun σ H Q ⟨ι, e, hp, S, A⟩ => ?_
  simp only [ev] at A
  refine ⟨ι, e, hp, S, (Af.bind A).mono ?_⟩
  rintro v H1 ⟨ι1, hp1, w, F1, R1, V1, A1⟩
  refine ⟨ι1, e, hp1, S.mono F1 R1, (Af.bind A1).mono ?_⟩
  rintro l' H2 ⟨ι2, hp2, w2, F2, R2, rfl, A2⟩
  refine ⟨ι2, e, hp2, (S.mono F1 R1).mono F2 R2, (Af.bind A2).mono ?_⟩
  rintro u' H3 ⟨ι3, hp3, w3, F3, R3, rfl, A3⟩
  exact ⟨ι3, hp3, w, _, R3, (V1.mono F2).mono F3, A3⟩

/-! ### fields -/
theorem VRf.get : ∀ {fs : List (Str × V)} {ws : List (Nat × Wv)}, VRf n ι H fs ws → ∀ {f : Nat} {w : Wv}, ws.lookup f = some w → ∃ v, fs.lookup (n.nm f) = some v ∧ VR n ι H v w
  | _, _, .nil, f, w, e => by cases e
  | _, _, .cons (f := g) (vs := fs) (ws := ws) h t, f, w, e => by
    by_cases q : f = g
    · subst q
      rw [List.lookup_cons_self] at e; cases e
      exact ⟨_, List.lookup_cons_self, h⟩
    · have hb : (f == g) = false := beq_eq_false_iff_ne.mpr q
      have hb2 : (n.nm f == n.nm g) = false := beq_eq_false_iff_ne.mpr fun z => q (n.inj _ _ z)
      simp only [List.lookup, hb] at e
      obtain ⟨v, h1, h2⟩ := t.get e
      exact ⟨v, by simp only [List.lookup, hb2]; exact h1, h2⟩
theorem VRf.none : ∀ {fs : List (Str × V)} {ws : List (Nat × Wv)}, VRf n ι H fs ws → ∀ {f : Nat}, ws.lookup f = .none → fs.lookup (n.nm f) = .none
  | _, _, .nil, f, e => rfl
  | _, _, .cons (f := g) (vs := fs) (ws := ws) h t, f, e => by
    by_cases q : f = g
    · subst q
      rw [List.lookup_cons_self] at e; cases e
    · have hb : (f == g) = false := beq_eq_false_iff_ne.mpr q
      have hb2 : (n.nm f == n.nm g) = false := beq_eq_false_iff_ne.mpr fun z => q (n.inj _ _ z)
      simp only [List.lookup, hb] at e
      simp only [List.lookup, hb2]
      exact t.none e
theorem VRf.put {v : V} {w : Wv} (hv : VR n ι H v w) (f : Nat) : ∀ {fs : List (Str × V)} {ws : List (Nat × Wv)}, VRf n ι H fs ws → VRf n ι H (putF (n.nm f) v fs) (fput f w ws)
  | _, _, .nil => .cons hv .nil
  | _, _, .cons (f := g) h t => by
    unfold putF fput
    by_cases q : g = f
    · subst q
      rw [if_pos rfl, if_pos rfl]
      exact .cons hv t
    · rw [if_neg q, if_neg fun z => q (n.inj _ _ z)]
      exact .cons h (VRf.put hv f t)
theorem VRf.length : ∀ {fs : List (Str × V)} {ws : List (Nat × Wv)}, VRf n ι H fs ws → fs.length = ws.length
  | _, _, .nil => rfl
  | _, _, .cons _ t => by rw [List.length_cons, List.length_cons, t.length]
theorem getI_rel (R : HR n ι H hp) {v : V} {w : Wv} (h : VR n ι H v w) {c : Nat} {ws : List (Nat × Wv)} (e : getI hp w = some (c, ws)) : ∃ a dx fs, v = .ref a ∧ H a = some (.ins (n.cA c) dx fs) ∧ VRf n ι H fs ws := by
  cases h with
  | ins h h1 h2 => simp only [getI, Option.some.injEq, Prod.mk.injEq] at e; obtain ⟨rfl, rfl⟩ := e; exact ⟨_, _, _, rfl, h, h2⟩
  | @ref k a h =>
    simp only [getI] at e
    split at e
    · rename_i c' fs' q
      cases e
      obtain ⟨ho, h1, h2⟩ := R.at_ k a _ h q
      cases h2 with
      | ins h3 => exact ⟨a, _, _, rfl, h1, h3⟩
    · cases e
  | _ => simp [getI] at e
/-- what the class's text says of a field -/
def FldOk (n : Nam) (P : Wd) : Prop := ∀ c f, P.fld c f = true → Cls n.K (n.cA c) ∧ NoAttr n.K (n.cA c) (n.nm f)
theorem g_att {a : Expr} {x : Ex} {f : Nat} {pos : Pos} (hK : X.K = n.K) (hf : FldOk n P) (ha : PE X a (G n W P x)) (hb : attributeBase a (n.nm f) X.env (eval a X.env) = eval a X.env) : PE X (.Attribute a (n.nm f) pos) (G n W P (.att x f)) := by
  refine pe_wk (pe_fld ha hb) fun σ H Q ⟨ι, e, hp, S, A⟩ => ?_
  simp only [ev] at A
  refine ⟨ι, e, hp, S, (Af.bind A).mono ?_⟩
  rintro v H1 ⟨ι1, hp1, w, F1, R1, V1, A1⟩
  split at A1
  · rename_i c ws q
    split at A1
    · rename_i q2
      cases q3 : fget ws f with
      | none => rw [q3] at A1; exact A1.elim
      | some y =>
        rw [q3] at A1
        obtain ⟨p, dx, fs, rfl, g1, g2⟩ := getI_rel R1 V1 q
        obtain ⟨y', g3, g4⟩ := g2.get q3
        obtain ⟨c1, c2⟩ := hf c f q2
        exact ⟨p, _, dx, fs, y', rfl, g1, hK ▸ c1, hK ▸ c2, g3, A1.here R1 g4⟩
    · exact A1.elim
  · exact A1.elim

/-! ### calls of defs -/
theorem run_w {k f : Nat} {a : Addr} (F : FnIs X n P k f a) (hr : Room k X.A) (tk : Takes X V') {pins : List (Addr × Obj)} {σ : L2.St} {s : Shared} {Q : VK} {us : List Value} {vs : List V} {ws : List Wv} (I : Inv X pins σ H s) (r : Vals vs us)
    (R : HR n ι H hp) (h : VRs n ι H vs ws) (A : Af n (VR n) ι H (P.run f ws hp) Q (ofW n V' σ)) : wpAny (model X.prog X.w) X.A (call (.ref a) us) (EP X pins σ Q) X.xe s := by
  obtain ⟨fd, ps, hb, ok⟩ := F.ok
  exact run_fnS (E := WE V') ok hr hb (passAt tk σ) I r ⟨ι, hp, ws, R, h, A⟩
/-- the def that a module's name stands for -/
structure GlobFn (X : Cx) (n : Nam) (P : Wd) (k : Nat) (x : Str) (f : Nat) : Prop where
  at_ : ∃ a, X.mg x = some (.ref a) ∧ PySem.W.keepIn X.K (.ref a) = true ∧ FnIs X n P k f a
theorem g_call {x : Str} {k f : Nat} {p pos : Pos} {e : Expr} {es : List Expr} {xs : List Ex} (hr : Room k X.A) (tk : Takes X V') (hg : Gl X x) (F : GlobFn X n P k x f) (ha : PA X (e :: es) (GA n (ofW n V') P xs)) (hdb : (x == ("__debug__" : Str)) = false)
    (he : starEach (e :: es) X.env = (false, eval e X.env) :: starEach es X.env) (hpl : (backTo pos (starEach es X.env)).any (·.1) = false) : PE X (.Call (.Name x p) (e :: es) [] pos) (G n (ofW n V') P (.call f xs)) := by
  obtain ⟨a, hm, hk, F⟩ := F.at_
  refine ⟨fun pins s σ H Q I ⟨ι, ee, hp, S, A⟩ => ?_⟩
  simp only [ev] at A
  refine wpAny_Call_Name_kw (ld_glob I hg hm ?_ hdb)
  refine PySem.W.callWith_K (h₀ := X.base) I.ok.mod.kin hk (thn (ha.run pos pins s σ H _ I ⟨ι, ee, hp, S, Af.bind A⟩) fun us s1 h1 => ?_) he hpl
  obtain ⟨vs, H1, I1, r, ι1, hp1, ws, F1, R1, V1, A1⟩ := h1
  exact ⟨I1.kIn, run_w F hr tk I1 r R1 V1 A1⟩
theorem g_call0 {x : Str} {k f : Nat} {p pos : Pos} (hr : Room k X.A) (tk : Takes X V') (hg : Gl X x) (F : GlobFn X n P k x f) (hdb : (x == ("__debug__" : Str)) = false) : PE X (.Call (.Name x p) [] [] pos) (G n (ofW n V') P (.call f [])) := by
  obtain ⟨a, hm, hk, F⟩ := F.at_
  refine ⟨fun pins s σ H Q I ⟨ι, ee, hp, S, A⟩ => ?_⟩
  simp only [ev, evs, Rz.bind_ok] at A
  exact wpAny_Call_Name_kw (ld_glob I hg hm (PySem.W.callWith_K0 I.kIn hk (run_w (us := []) F hr tk I .nil S.hr .nil A)) hdb)

/-- the def that is a class's method -/
structure MethFn (X : Cx) (n : Nam) (P : Wd) (k c m f : Nat) : Prop where
  cls : Cls n.K (n.cA c)
  at_ : ∃ a, Meth n.K (n.cA c) (n.nm m) a ∧ FnIs X n P k f a
def MethsOk (X : Cx) (n : Nam) (P : Wd) (k : Nat) : Prop := ∀ c m f, methOf P c m = some f → MethFn X n P k c m f
theorem g_meth {o e : Expr} {es : List Expr} {x : Ex} {xs : List Ex} {k m : Nat} {apos pos : Pos} {pl : Sem Bool} (hK : X.K = n.K) (hr : Room k X.A) (tk : Takes X V') (M : MethsOk X n P k) (ho : PE X o (G n (ofW n V') P x)) (ha : PA X (e :: es) (GA n (ofW n V') P xs))
    (hst : starEach (e :: es) X.env = (false, eval e X.env) :: starEach es X.env) (hpl : (backTo pos (starEach es X.env)).any (·.1) = false)
    (ht : eval (.Call (.Attribute o (n.nm m) apos) (e :: es) [] pos) X.env = (do
      let ov ← eval o X.env
      standAt apos.atName
      let (f, first) ← holding [ov] (getMethod ov (n.nm m) pl)
      callWith pos f first (backTo pos (starEach (e :: es) X.env)) (backToKw pos (keywordEach [] X.env)))) :
    PE X (.Call (.Attribute o (n.nm m) apos) (e :: es) [] pos) (G n (ofW n V') P (.meth x m xs)) := by
  refine ⟨fun pins s σ H Q I ⟨ι, ee, hp, S, A⟩ => ?_⟩
  simp only [ev] at A
  refine PySem.W.methodCall_KW (pl := pl) (thn (ho.run pins s σ H _ I ⟨ι, ee, hp, S, Af.bind A⟩) fun u s1 h1 => ?_) ht
  obtain ⟨v, H1, I1, r, ι1, hp1, w, F1, R1, V1, A1⟩ := h1
  split at A1
  · rename_i c ws q
    split at A1
    · rename_i f q1 q2
      obtain ⟨cl, a, mt, F⟩ := M c m f q1
      obtain ⟨p, dx, fs, rfl, g1, g2⟩ := getI_rel R1 V1 q
      cases r
      refine getmeth_ok I1 g1 (hK ▸ cl) (hK ▸ mt) (g2.none q2) ?_
      refine PySem.W.callWith_K (first := [.ref p]) (h₀ := X.base) I1.ok.mod.kin (hK ▸ mt.kp) (thn (ha.run pos pins s1 σ H1 _ I1 ⟨ι1, ee, hp1, S.mono F1 R1, Af.bind A1⟩) fun us s2 h2 => ?_) hst hpl
      obtain ⟨vs, H2, I2, r2, ι2, hp2, ws2, F2, R2, V2, A2⟩ := h2
      exact ⟨I2.kIn, run_w (us := .ref p :: us) F hr tk I2 (Paired.cons (show RelV (.ref p) (.ref p) from rfl) r2) R2 (.cons (V1.mono F2) V2) A2⟩
    · exact A1.elim
  · exact A1.elim
theorem g_meth0 {o : Expr} {x : Ex} {k m : Nat} {apos pos : Pos} {pl : Sem Bool} (hK : X.K = n.K) (hr : Room k X.A) (tk : Takes X V') (M : MethsOk X n P k) (ho : PE X o (G n (ofW n V') P x))
    (ht : eval (.Call (.Attribute o (n.nm m) apos) [] [] pos) X.env = (do
      let ov ← eval o X.env
      standAt apos.atName
      let (f, first) ← holding [ov] (getMethod ov (n.nm m) pl)
      callWith pos f first (backTo pos (starEach [] X.env)) (backToKw pos (keywordEach [] X.env)))) :
    PE X (.Call (.Attribute o (n.nm m) apos) [] [] pos) (G n (ofW n V') P (.meth x m [])) := by
  refine ⟨fun pins s σ H Q I ⟨ι, ee, hp, S, A⟩ => ?_⟩
  simp only [ev] at A
  refine PySem.W.methodCall_KW (pl := pl) (thn (ho.run pins s σ H _ I ⟨ι, ee, hp, S, Af.bind A⟩) fun u s1 h1 => ?_) ht
  obtain ⟨v, H1, I1, r, ι1, hp1, w, F1, R1, V1, A1⟩ := h1
  split at A1
  · rename_i c ws q
    split at A1
    · rename_i f q1 q2
      simp only [evs, Rz.bind_ok] at A1
      obtain ⟨cl, a, mt, F⟩ := M c m f q1
      obtain ⟨p, dx, fs, rfl, g1, g2⟩ := getI_rel R1 V1 q
      cases r
      refine getmeth_ok I1 g1 (hK ▸ cl) (hK ▸ mt) (g2.none q2) ?_
      exact PySem.W.callWith_K0 (first := [.ref p]) I1.kIn (hK ▸ mt.kp) (run_w (us := [.ref p]) F hr tk I1 (Paired.cons (show RelV (.ref p) (.ref p) from rfl) .nil) R1 (.cons V1 .nil) A1)
    · exact A1.elim
  · exact A1.elim
end
end SL

set_option maxRecDepth 100000
set_option maxHeartbeats 1000000
/-! What a def's end leaves; classes made; built-in functions. -/
namespace SL
open PySem L2 PyProof.Rows
set_option autoImplicit false

section
variable {n : Nam} {ι ι1 : List Addr} {H : Hp} {hp : Hs}
/-! ### freezing -/
/-- the addresses of ι1 that ι has not are the cells' that rec gives -/
def Frees (n : Nam) (H : Hp) (ι1 ι : List Addr) (rec : Nat → Option Wv) : Prop := (∀ a, a ∈ ι → a ∈ ι1) ∧ ∀ k a w, ι1[k]? = some a → rec k = some w → VR n ι H (.ref a) w
mutual
theorem frz_vr {rec : Nat → Option Wv} (hr : Frees n H ι1 ι rec) : ∀ {v : V} {w : Wv}, VR n ι1 H v w → ∀ w', w.frz rec = some w' → VR n ι H v w'
  | _, _, .non, w', h => by simp [Wv.frz] at h; subst h; exact .non
  | _, _, .bl b, w', h => by simp [Wv.frz] at h; subst h; exact .bl b
  | _, _, .int b, w', h => by simp [Wv.frz] at h; subst h; exact .int b
  | _, _, .str b, w', h => by simp [Wv.frz] at h; subst h; exact .str b
  | _, _, .tup hs ht, w', h => by
    simp only [Wv.frz, Option.map_eq_some_iff] at h
    obtain ⟨ws', h1, rfl⟩ := h
    exact .tup (hs.imp (fun q => ⟨q.1, fun z => q.2 (hr.1 _ z)⟩) fun q => q) (frzs_vr hr ht _ h1)
  | _, _, .lst hs ht, w', h => by
    simp only [Wv.frz, Option.map_eq_some_iff] at h
    obtain ⟨ws', h1, rfl⟩ := h
    exact .lst (hs.imp (fun q => ⟨q.1, fun z => q.2 (hr.1 _ z)⟩) fun q => q) (frzs_vr hr ht _ h1)
  | _, _, .ins h1 h2 h3, w', h => by
    simp only [Wv.frz, Option.map_eq_some_iff] at h
    obtain ⟨ws', g1, rfl⟩ := h
    exact .ins h1 (fun z => h2 (hr.1 _ z)) (frzf_vr hr h3 _ g1)
  | _, _, .ref hk, w', h => hr.2 _ _ _ hk (by simpa [Wv.frz] using h)
theorem frzs_vr {rec : Nat → Option Wv} (hr : Frees n H ι1 ι rec) : ∀ {v : List V} {w : List Wv}, VRs n ι1 H v w → ∀ w', frzs rec w = some w' → VRs n ι H v w'
  | _, _, .nil, w', h => by simp [frzs] at h; subst h; exact .nil
  | _, _, .cons hv ht, w', h => by
    simp only [frzs] at h
    split at h
    · rename_i a b h1 h2
      cases h
      exact .cons (frz_vr hr hv _ h1) (frzs_vr hr ht _ h2)
    · cases h
theorem frzf_vr {rec : Nat → Option Wv} (hr : Frees n H ι1 ι rec) : ∀ {v : List (Str × V)} {w : List (Nat × Wv)}, VRf n ι1 H v w → ∀ w', frzf rec w = some w' → VRf n ι H v w'
  | _, _, .nil, w', h => by simp [frzf] at h; subst h; exact .nil
  | _, _, .cons hv ht, w', h => by
    simp only [frzf] at h
    split at h
    · rename_i a b h1 h2
      cases h
      exact .cons (frz_vr hr hv _ h1) (frzf_vr hr ht _ h2)
    · cases h
end
theorem frzC_frees (R : HR n ι1 H hp) {no : Nat → Bool} (hs : ∀ a, a ∈ ι → a ∈ ι1) (hno : ∀ k a, ι1[k]? = some a → no k = false → a ∉ ι) : ∀ fuel, Frees n H ι1 ι (frzC hp no fuel)
  | 0 => ⟨hs, fun k a w _ h => by simp [frzC] at h⟩
  | m + 1 => ⟨hs, fun k a w hk h => by
    simp only [frzC] at h
    split at h
    · cases h
    · rename_i hn
      have hna := hno k a hk (by simpa using hn)
      split at h
      · rename_i ws q
        obtain ⟨ws', h1, rfl⟩ := Option.map_eq_some_iff.mp h
        obtain ⟨vs, g1, g2⟩ := R.lstAt hk q
        exact .lst (.inl ⟨.inl g1, hna⟩) (frzs_vr (frzC_frees R hs hno m) g2 _ h1)
      · rename_i kvs q
        obtain ⟨ho, h1, h2⟩ := R.at_ k a _ hk q
        cases h2
      · rename_i c fs q
        obtain ⟨ws', h1, rfl⟩ := Option.map_eq_some_iff.mp h
        obtain ⟨ho, g1, g2⟩ := R.at_ k a _ hk q
        cases g2 with
        | ins g3 => exact .ins g1 hna (frzf_vr (frzC_frees R hs hno m) g3 _ h1)
      · cases h⟩
/-- the cells below lo stand in both, the second has no others than the first -/
structure Cut (lo : Nat) (ι1 ι : List Addr) : Prop where
  sub : ∀ a, a ∈ ι → a ∈ ι1
  low : ∀ (k : Nat) a, k < lo → ι1[k]? = some a → ι[k]? = some a
mutual
theorem VR.under {lo : Nat} (hl : Cut lo ι1 ι) : ∀ {v : V} {w : Wv}, VR n ι1 H v w → w.under lo = true → VR n ι H v w
  | _, _, .non, _ => .non
  | _, _, .bl b, _ => .bl b
  | _, _, .int b, _ => .int b
  | _, _, .str b, _ => .str b
  | _, _, .tup hs ht, h => .tup (hs.imp (fun q => ⟨q.1, fun z => q.2 (hl.sub _ z)⟩) fun q => q) (VRs.under hl ht (by simpa [Wv.under] using h))
  | _, _, .lst hs ht, h => .lst (hs.imp (fun q => ⟨q.1, fun z => q.2 (hl.sub _ z)⟩) fun q => q) (VRs.under hl ht (by simpa [Wv.under] using h))
  | _, _, .ins h1 h2 h3, h => .ins h1 (fun z => h2 (hl.sub _ z)) (VRf.under hl h3 (by simpa [Wv.under] using h))
  | _, _, .ref (k := k) hk, h => by
    simp only [Wv.under, decide_eq_true_eq] at h
    exact .ref (hl.low k _ h hk)
theorem VRs.under {lo : Nat} (hl : Cut lo ι1 ι) : ∀ {v : List V} {w : List Wv}, VRs n ι1 H v w → unders lo w = true → VRs n ι H v w
  | _, _, .nil, _ => .nil
  | _, _, .cons hv ht, h => by
    simp only [unders, Bool.and_eq_true] at h
    exact .cons (VR.under hl hv h.1) (VRs.under hl ht h.2)
theorem VRf.under {lo : Nat} (hl : Cut lo ι1 ι) : ∀ {v : List (Str × V)} {w : List (Nat × Wv)}, VRf n ι1 H v w → underf lo w = true → VRf n ι H v w
  | _, _, .nil, _ => .nil
  | _, _, .cons hv ht, h => by
    simp only [underf, Bool.and_eq_true] at h
    exact .cons (VR.under hl hv h.1) (VRf.under hl ht h.2)
end
theorem Cut.pre (hl : ι <+: ι1) : Cut ι.length ι1 ι := ⟨fun a h => hl.subset h, fun k a h e => by
  obtain ⟨t, rfl⟩ := hl
  rwa [List.getElem?_append_left h] at e⟩
mutual
theorem VR.is_under : ∀ {v : V} {w : Wv}, VR n ι H v w → w.under ι.length = true
  | _, _, .non => rfl
  | _, _, .bl b => rfl
  | _, _, .int b => rfl
  | _, _, .str b => rfl
  | _, _, .tup hs ht => by simp only [Wv.under]; exact VRs.is_under ht
  | _, _, .lst hs ht => by simp only [Wv.under]; exact VRs.is_under ht
  | _, _, .ins h1 h2 h3 => by simp only [Wv.under]; exact VRf.is_under h3
  | _, _, .ref (k := k) hk => by
    simp only [Wv.under, decide_eq_true_eq]
    exact (List.getElem?_eq_some_iff.mp hk).1
theorem VRs.is_under : ∀ {v : List V} {w : List Wv}, VRs n ι H v w → unders ι.length w = true
  | _, _, .nil => rfl
  | _, _, .cons hv ht => by simp only [unders, Bool.and_eq_true]; exact ⟨VR.is_under hv, VRs.is_under ht⟩
theorem VRf.is_under : ∀ {v : List (Str × V)} {w : List (Nat × Wv)}, VRf n ι H v w → underf ι.length w = true
  | _, _, .nil => rfl
  | _, _, .cons hv ht => by simp only [underf, Bool.and_eq_true]; exact ⟨VR.is_under hv, VRf.is_under ht⟩
end
theorem OR.is_under {ho : HO} {o : Ob} (h : OR n ι H ho o) : o.under ι.length = true := by
  cases h with
  | lst h => exact h.is_under
  | ins h => exact h.is_under
theorem OR.under {ho : HO} {o : Ob} {lo : Nat} (hl : Cut lo ι1 ι) (h : OR n ι1 H ho o) (u : o.under lo = true) : OR n ι H ho o := by
  cases h with
  | lst h => exact .lst (h.under hl u)
  | ins h => exact .ins (h.under hl u)
theorem shut_at {lo : Nat} : ∀ {a b : Hs}, shut lo a b = true → ∀ {k : Nat} {o : Ob}, a[k]? = some o → b[k]? = some o ∨ o.under lo = true
  | [], _, _, k, o, e => by simp at e
  | o :: os, [], h, 0, _, e => by
    simp only [shut, Bool.and_eq_true] at h
    simp at e; subst e; exact .inr h.1
  | o :: os, [], h, k + 1, _, e => by
    simp only [shut, Bool.and_eq_true] at h
    rcases shut_at h.2 (k := k) (by simpa using e) with q | q
    · simp at q
    · exact .inr q
  | o :: os, p :: ps, h, 0, _, e => by
    simp only [shut, Bool.and_eq_true, Bool.or_eq_true, decide_eq_true_eq] at h
    simp at e; subst e
    rcases h.1 with q | q
    · exact .inl (by rw [q]; rfl)
    · exact .inr q
  | o :: os, p :: ps, h, k + 1, _, e => by
    simp only [shut, Bool.and_eq_true] at h
    exact (shut_at h.2 (k := k) (by simpa using e)).imp (fun q => by simpa using q) fun q => q
/-- an old cell, behind a def's end -/
theorem HR.old {ι2 : List Addr} {H1 : Hp} {hp1 : Hs} (R : HR n ι H hp) (R1 : HR n ι1 H1 hp1) (hl : ι <+: ι1) (hc : Cut hp.length ι1 ι2) (h : SL.shut hp.length (hp1.take hp.length) hp = true) {k : Nat} {a : Addr} {o : Ob} (e1 : ι[k]? = some a) (e2 : (hp1.take hp.length)[k]? = some o) :
    ∃ ho, H1 a = some ho ∧ OR n ι2 H1 ho o := by
  have hk : k < hp.length := by rw [← R.len]; exact (List.getElem?_eq_some_iff.mp e1).1
  have e2' := e2
  rw [List.getElem?_take_of_lt hk] at e2
  obtain ⟨ho, h1, h2⟩ := R1.at_ k a o (pre_get hl e1) e2
  refine ⟨ho, h1, h2.under hc ?_⟩
  rcases shut_at h e2' with q | q
  · obtain ⟨ho', _, g2⟩ := R.at_ k a o e1 q
    rw [← R.len]; exact g2.is_under
  · exact q
theorem HR.shut {H1 : Hp} {hp1 : Hs} (R : HR n ι H hp) (R1 : HR n ι1 H1 hp1) (hl : ι <+: ι1) (h : SL.shut hp.length (hp1.take hp.length) hp = true) (hz : hp.length ≤ hp1.length) : HR n ι H1 (hp1.take hp.length) :=
  ⟨by rw [List.length_take, R.len]; omega, R.nd, fun k a o e1 e2 => R.old R1 hl (R.len ▸ Cut.pre hl) h e1 e2⟩
theorem pre_new {k : Nat} {a : Addr} (hl : ι <+: ι1) (nd : ι1.Nodup) (e : ι1[k]? = some a) (hk : ι.length ≤ k) : a ∉ ι := fun hm => by
  obtain ⟨j, hj, q⟩ := List.getElem_of_mem hm
  have e1 : ι1[j]? = some a := pre_get hl (by rw [List.getElem?_eq_getElem hj, q])
  obtain ⟨l1, g1⟩ := List.getElem?_eq_some_iff.mp e1
  obtain ⟨l2, g2⟩ := List.getElem?_eq_some_iff.mp e
  have := (List.getElem_inj nd).mp (g1.trans g2.symm)
  omega
/-- the reading of a def's end -/
theorem Af.ended {E : Nat → Wv → Hs → List Addr → Hp → Prop} {md : Md} {r : Rz Wv} {Q : VK} (R : HR n ι H hp) (A : Af n (VR n) ι H (r.bind fun w h1 => ended md hp.length hp w h1) Q E) : Af n (VR n) ι H r Q E := by
  cases r with
  | bad => exact A
  | exc c w hp1 => exact A
  | ok w hp1 =>
    intro v ι1 H1 F1 R1 V1
    have F : Fr ι H ι H1 := ⟨List.prefix_refl _, fun _ h h' => absurd h h', F1.keep⟩
    cases md with
    | «open» => exact A v ι1 H1 F1 R1 V1
    | cold =>
      simp only [Rz.bind_ok, SL.ended] at A
      split at A
      · rename_i w' q
        split at A
        · rename_i hc
          refine A v ι H1 F (R.shut R1 F1.pre hc.2 hc.1) (frz_vr (frzC_frees R1 (fun a h => F1.pre.subset h) (fun k a e hk => pre_new F1.pre R1.nd e ?_) _) V1 _ q)
          rw [R.len]; simpa using hk
        · exact A.elim
      · exact A.elim
    | fresh =>
      simp only [Rz.bind_ok, SL.ended] at A
      split at A
      · rename_i k
        split at A
        · exact A.elim
        · rename_i hk
          split at A
          · rename_i ws e
            split at A
            · rename_i us q
              split at A
              · rename_i hc
                cases V1 with
                | @ref _ a ha =>
                  obtain ⟨vs, g1, g2⟩ := R1.lstAt ha e
                  have hna : a ∉ ι := pre_new F1.pre R1.nd ha (by rw [R.len]; omega)
                  have R2 := R.shut R1 F1.pre hc.2 hc.1
                  have fr : VRs n (ι ++ [a]) H1 vs us := frzs_vr (frzC_frees R1 (fun b h => by
                      rcases List.mem_append.mp h with z | z
                      · exact F1.pre.subset z
                      · rw [List.mem_singleton.mp z]; exact List.mem_of_getElem? ha) (fun j b eb hj => fun hm => by
                        simp only [Bool.or_eq_false_iff, decide_eq_false_iff_not] at hj
                        rcases List.mem_append.mp hm with z | z
                        · exact pre_new F1.pre R1.nd eb (by rw [R.len]; omega) z
                        · rw [List.mem_singleton.mp z] at eb
                          obtain ⟨l1, y1⟩ := List.getElem?_eq_some_iff.mp eb
                          obtain ⟨l2, y2⟩ := List.getElem?_eq_some_iff.mp ha
                          exact hj.2 ((List.getElem_inj R1.nd).mp (y1.trans y2.symm))) _) g2 _ q
                  have F2 : Fr ι H (ι ++ [a]) H1 := by
                    refine ⟨⟨[a], rfl⟩, fun b hb hn => ?_, F1.keep⟩
                    rcases List.mem_append.mp hb with z | z
                    · exact absurd z hn
                    · rw [List.mem_singleton.mp z]
                      exact F1.new a (List.mem_of_getElem? ha) hna
                  have hlen : (hp1.take hp.length).length = ι.length := by rw [List.length_take, R.len]; omega
                  have hcut : Cut hp.length ι1 (ι ++ [a]) := by
                    refine ⟨fun b h => ?_, fun j b hj eb => ?_⟩
                    · rcases List.mem_append.mp h with z | z
                      · exact F1.pre.subset z
                      · rw [List.mem_singleton.mp z]; exact List.mem_of_getElem? ha
                    · rw [← R.len] at hj
                      rw [List.getElem?_append_left hj]
                      exact (Cut.pre F1.pre).low j b hj eb
                  refine A (.ref a) (ι ++ [a]) H1 F2 ⟨by simp [hlen], ?_, fun j b o e1 e2 => ?_⟩ (.ref (by rw [← R.len, List.getElem?_append_right (Nat.le_refl _), Nat.sub_self]; rfl))
                  · rw [List.nodup_append]
                    refine ⟨R.nd, by simp, fun x hx y hy => ?_⟩
                    rw [List.mem_singleton.mp hy]
                    exact fun e => hna (e ▸ hx)
                  · by_cases hj : j < ι.length
                    · rw [List.getElem?_append_left hj] at e1
                      rw [List.getElem?_append_left (by rw [hlen]; exact hj)] at e2
                      exact R.old R1 F1.pre hcut hc.2 e1 e2
                    · have hj' : j = ι.length := by
                        have := (List.getElem?_eq_some_iff.mp e1).1
                        simp at this; omega
                      subst hj'
                      rw [List.getElem?_append_right (Nat.le_refl _), Nat.sub_self] at e1
                      rw [List.getElem?_append_right (by rw [hlen]; exact Nat.le_refl _), hlen, Nat.sub_self] at e2
                      simp only [List.getElem?_cons_zero, Option.some.injEq] at e1 e2
                      subst e1 e2
                      exact ⟨_, g1, .lst fr⟩
              · exact A.elim
            · exact A.elim
          · exact A.elim
      · exact A.elim
end
end SL

set_option maxRecDepth 100000
set_option maxHeartbeats 1000000
/-! Classes made, built-in functions, methods of lists, isinstance. -/
namespace SL
open PySem L2 PyProof.Rows
set_option autoImplicit false

section
variable {n : Nam} {ι : List Addr} {H : Hp} {hp : Hs} {W : Wx} {V' : WX} {X : Cx} {P : Wd}
/-- what is tracked elsewhere does not matter -/
theorem HR.beside (R : HR n ι H hp) {p : Addr} (hn : H p = none) (ho : HO) : Fr ι H ι (upd H p ho) ∧ HR n ι (upd H p ho) hp := by
  have F : Fr ι H ι (upd H p ho) := ⟨List.prefix_refl _, fun _ h h' => absurd h h', fun b u e hb => by rw [upd_ne (ne_of_none e hn)]; exact e⟩
  refine ⟨F, R.len, R.nd, fun k a o e1 e2 => ?_⟩
  obtain ⟨ho', h1, h2⟩ := R.at_ k a o e1 e2
  exact ⟨ho', by rw [upd_ne (ne_of_none h1 hn)]; exact h1, h2.mono F⟩
structure ClsFn (X : Cx) (n : Nam) (P : Wd) (k : Nat) (x : Str) (c : Nat) : Prop where
  at_ : X.mg x = some (.ref (n.cA c))
  init : ∀ cl f, P.cls c = some cl → cl.init = some f → ∃ a, Mk X.K (n.cA c) a ∧ FnIs X n P k f a
theorem run_new {k : Nat} {x : Str} {c : Nat} (C : ClsFn X n P k x c) (hr : Room (k + 1) X.A) (tk : Takes X V') {pins : List (Addr × Obj)} {σ : L2.St} {s : Shared} {Q : VK} {us : List Value} {vs : List V} {ws : List Wv} (I : Inv X pins σ H s) (r : Vals vs us)
    (R : HR n ι H hp) (h : VRs n ι H vs ws) (A : Af n (VR n) ι H (make P c ws hp) Q (ofW n V' σ)) : wpAny (model X.prog X.w) X.A (call (.ref (n.cA c)) us) (EP X pins σ Q) X.xe s := by
  unfold make at A
  split at A
  · rename_i cl hcl
    split at A
    · rename_i f hf
      obtain ⟨a, M, fd, ps, hb, ok⟩ := C.init cl f hcl hf
      have A := Af.ended R A
      have x1 : H (s.heap.objs.size + 1) = none := I.hok.fresh (Nat.le_succ _)
      have x2 : H s.heap.objs.size = none := I.hok.fresh (Nat.le_refl _)
      have x3 : s.heap.objs.size + 1 ≠ s.heap.objs.size := Nat.succ_ne_self _
      obtain ⟨F1, R1⟩ := R.beside x2 (.own (s.heap.objs.size + 1))
      obtain ⟨F2, R2⟩ := R1.push (p := s.heap.objs.size + 1) (by rw [upd_ne x3]; exact x1) (ho := .ins (n.cA c) s.heap.objs.size []) (o := .ins c []) fun F => .ins .nil
      have hz : ι.length = hp.length := R.len
      have A2 : spW n P f (V.ref (s.heap.objs.size + 1) :: vs) (upd (upd H s.heap.objs.size (.own (s.heap.objs.size + 1))) (s.heap.objs.size + 1) (.ins (n.cA c) s.heap.objs.size [])) (fun v H2 => v = .non ∧ Q (.ref (s.heap.objs.size + 1)) H2) (WE V' σ) := by
        have vx : VR n (ι ++ [s.heap.objs.size + 1]) (upd (upd H s.heap.objs.size (.own (s.heap.objs.size + 1))) (s.heap.objs.size + 1) (.ins (n.cA c) s.heap.objs.size [])) (.ref (s.heap.objs.size + 1)) (.ref hp.length) :=
          .ref (by rw [← hz, List.getElem?_append_right (Nat.le_refl _), Nat.sub_self]; rfl)
        refine ⟨_, _, .ref hp.length :: ws, R2, .cons vx ((h.mono F1).mono F2), (Af.bind (A.at (F1.trans F2))).mono ?_⟩
        rintro v H2 ⟨ι2, hp2, w, F3, R3, V3, A3⟩
        cases V3 <;> try exact A3.elim
        exact ⟨rfl, A3.here R3 (vx.mono F3)⟩
      have I2 := Inv.made (C := n.cA c) I
      have r2 : Vals (V.ref (s.heap.objs.size + 1) :: vs) (Value.ref (s.heap.objs.size + 1) :: us) := Paired.cons (show RelV (.ref _) (.ref _) from rfl) r
      have hl : (Value.ref (s.heap.objs.size + 1) :: us ++ []).length = ps.length := by
        rw [List.append_nil, ← r2.length]; exact ok.len _ _ _ _ A2
      have bnd := hb _ (Value.ref (s.heap.objs.size + 1) :: us) I2.kIn hl
      rw [List.append_nil] at bnd
      have go := ok.run _ X.stack _ _ ⟨Value.ref (s.heap.objs.size + 1) :: us, []⟩ (Value.ref (s.heap.objs.size + 1) :: us) (V.ref (s.heap.objs.size + 1) :: vs) _ (WE V' σ) (hr.make (n.cA c) us []) (I2.env0.make (n.cA c) us []) bnd r2 A2
      refine wpAny_call (make_map (f := a) I.kIn M.makes M.init (beq_iff_eq.mp M.fn) (codeAny_mono go fun out s' hq => ?_))
      match out, hq with
      | .error e, hq => exact passAt tk σ pins _ _ e s' I2 hq
      | .ok (.ret u), hq =>
        obtain ⟨v, H', I3, rv, ev, q3⟩ := I2.after hq
        subst ev
        exact ⟨rv, V.ref (s.heap.objs.size + 1), H', I3, rfl, q3⟩
      | .ok .next, hq => exact False.elim hq
      | .ok .brk, hq => exact False.elim hq
      | .ok .cont, hq => exact False.elim hq
    · exact A.elim
  · exact A.elim
theorem g_make {x : Str} {k c : Nat} {p pos : Pos} {e : Expr} {es : List Expr} {xs : List Ex} (hr : Room (k + 1) X.A) (tk : Takes X V') (hg : Gl X x) (C : ClsFn X n P k x c) (hkp : PySem.W.keepIn X.K (.ref (n.cA c)) = true) (ha : PA X (e :: es) (GA n (ofW n V') P xs)) (hdb : (x == ("__debug__" : Str)) = false)
    (he : starEach (e :: es) X.env = (false, eval e X.env) :: starEach es X.env) (hpl : (backTo pos (starEach es X.env)).any (·.1) = false) : PE X (.Call (.Name x p) (e :: es) [] pos) (G n (ofW n V') P (.make c xs)) := by
  refine ⟨fun pins s σ H Q I ⟨ι, ee, hp, S, A⟩ => ?_⟩
  simp only [ev] at A
  refine wpAny_Call_Name_kw (ld_glob I hg C.at_ ?_ hdb)
  refine PySem.W.callWith_K (h₀ := X.base) I.ok.mod.kin hkp (thn (ha.run pos pins s σ H _ I ⟨ι, ee, hp, S, Af.bind A⟩) fun us s1 h1 => ?_) he hpl
  obtain ⟨vs, H1, I1, r, ι1, hp1, ws, F1, R1, V1, A1⟩ := h1
  exact ⟨I1.kIn, run_new C hr tk I1 r R1 V1 A1⟩
theorem g_make0 {x : Str} {k c : Nat} {p pos : Pos} (hr : Room (k + 1) X.A) (tk : Takes X V') (hg : Gl X x) (C : ClsFn X n P k x c) (hkp : PySem.W.keepIn X.K (.ref (n.cA c)) = true) (hdb : (x == ("__debug__" : Str)) = false) : PE X (.Call (.Name x p) [] [] pos) (G n (ofW n V') P (.make c [])) := by
  refine ⟨fun pins s σ H Q I ⟨ι, ee, hp, S, A⟩ => ?_⟩
  simp only [ev, evs, Rz.bind_ok] at A
  exact wpAny_Call_Name_kw (ld_glob I hg C.at_ (PySem.W.callWith_K0 I.kIn hkp (run_new (us := []) C hr tk I .nil S.hr .nil A)) hdb)

/-! ### built-in functions -/
theorem g_bltB {id : String} {x : Str} {b : Bf} {e : Expr} {es : List Expr} {xs : List Ex} {p pos : Pos} (hc : CallR X (.builtin id) (rB n b)) (hg : Gl X x) (hm : X.mg x = none) (hv : bootBuiltins x = some (.builtin id)) (ha : PA X (e :: es) (GA n W P xs)) (hn : x ≠ "__name__") (hdb : (x == ("__debug__" : Str)) = false)
    (he : starEach (e :: es) X.env = (false, eval e X.env) :: starEach es X.env) (hpl : (backTo pos (starEach es X.env)).any (·.1) = false) : PE X (.Call (.Name x p) (e :: es) [] pos) (G n W P (.blt b xs)) := by
  refine pe_wk (pe_callB hc hg hm hv ha hn hdb he hpl) fun σ H Q ⟨ι, ee, hp, S, A⟩ => ?_
  simp only [ev] at A
  refine ⟨ι, ee, hp, S, (Af.bind A).mono ?_⟩
  rintro vs H1 ⟨ι1, hp1, ws, F1, R1, V1, A1⟩
  exact ⟨ι1, hp1, ws, _, R1, V1, A1⟩
theorem g_bltT {id : String} {x : Str} {b : Bf} {e : Expr} {es : List Expr} {xs : List Ex} {p pos : Pos} (hc : CallR X (.type id) (rB n b)) (hg : Gl X x) (hm : X.mg x = none) (hv : bootBuiltins x = some (.type id)) (ha : PA X (e :: es) (GA n W P xs)) (hn : x ≠ "__name__") (hdb : (x == ("__debug__" : Str)) = false)
    (he : starEach (e :: es) X.env = (false, eval e X.env) :: starEach es X.env) (hpl : (backTo pos (starEach es X.env)).any (·.1) = false) : PE X (.Call (.Name x p) (e :: es) [] pos) (G n W P (.blt b xs)) := by
  refine pe_wk (pe_callTy hc hg hm hv ha hn hdb he hpl) fun σ H Q ⟨ι, ee, hp, S, A⟩ => ?_
  simp only [ev] at A
  refine ⟨ι, ee, hp, S, (Af.bind A).mono ?_⟩
  rintro vs H1 ⟨ι1, hp1, ws, F1, R1, V1, A1⟩
  exact ⟨ι1, hp1, ws, _, R1, V1, A1⟩
/-- the name of a built-in function, whether it is a type -/
def Bf.name : Bf → String × Bool
  | .len => ("len", false) | .list => ("list", true) | .tuple => ("tuple", true) | .int => ("int", true) | .str => ("str", true) | .sum => ("sum", false) | .all => ("all", false) | .any => ("any", false)
  | .abs => ("abs", false) | .min => ("min", false) | .max => ("max", false) | .sorted => ("sorted", false)
/-- those that are told so far -/
def Bf.there : Bf → Bool
  | .str => false
  | .sorted => false
  | _ => true
theorem boot_all1 : bootBuiltins "all" = some (.builtin "all") := by decide +kernel
theorem g_blt {x : Str} {b : Bf} {e : Expr} {es : List Expr} {xs : List Ex} {p pos : Pos} (hK : X.K = n.K) (hc : X.calm = true) (ht : b.there = true) (hx : x = Str.ofString b.name.1) (hg : Gl X x) (hm : X.mg x = none) (ha : PA X (e :: es) (GA n W P xs))
    (he : starEach (e :: es) X.env = (false, eval e X.env) :: starEach es X.env) (hpl : (backTo pos (starEach es X.env)).any (·.1) = false) : PE X (.Call (.Name x p) (e :: es) [] pos) (G n W P (.blt b xs)) := by
  subst hx
  cases b <;> try (cases ht; done)
  · exact g_bltB (b_len hK) hg hm (by decide +kernel) ha (by decide +kernel) (by decide +kernel) he hpl
  · exact g_bltT (b_list hK) hg hm (by decide +kernel) ha (by decide +kernel) (by decide +kernel) he hpl
  · exact g_bltT (b_tuple hK) hg hm (by decide +kernel) ha (by decide +kernel) (by decide +kernel) he hpl
  · exact g_bltT b_int hg hm (by decide +kernel) ha (by decide +kernel) (by decide +kernel) he hpl
  · exact g_bltB (b_sum hK hc) hg hm (by decide +kernel) ha (by decide +kernel) (by decide +kernel) he hpl
  · exact g_bltB (b_all hK hc) hg hm (by decide +kernel) ha (by decide +kernel) (by decide +kernel) he hpl
  · exact g_bltB (b_any hK hc) hg hm (by decide +kernel) ha (by decide +kernel) (by decide +kernel) he hpl
  · exact g_bltB b_abs hg hm (by decide +kernel) ha (by decide +kernel) (by decide +kernel) he hpl
  · exact g_bltB (b_min hc) hg hm (by decide +kernel) ha (by decide +kernel) (by decide +kernel) he hpl
  · exact g_bltB (b_max hc) hg hm (by decide +kernel) ha (by decide +kernel) (by decide +kernel) he hpl

/-! ### methods of lists -/
def Lm.name : Lm → String
  | .append => "append" | .extend => "extend" | .pop => "pop" | .insert => "insert" | .clear => "clear" | .reverse => "reverse" | .index => "index" | .remove => "remove"
theorem isL_typ {v : V} {a : Wv} (hK : X.K = n.K) (R : HR n ι H hp) (h : VR n ι H v a) (e : isL hp a = true) : tyV X.K "list" v H := by
  cases h <;> try (simp [isL] at e; done)
  rename_i k p hk
  simp only [isL] at e
  split at e
  · rename_i ws q
    obtain ⟨vs, g1, _⟩ := R.lstAt hk q
    exact .inl ⟨rfl, vs, SqL.of g1⟩
  · cases e
/-- not the call of a name without arguments (super() might be meant) -/
def noSup : Expr → Bool
  | .Call (.Name _ _) [] [] _ => false
  | _ => true
theorem noSup_ok {o : Expr} {m : Str} {env : Env} (h : noSup o = true) : attributeBase o m env (eval o env) = eval o env := by
  cases o <;> try rfl
  rename_i f args kws pos
  cases f <;> try rfl
  cases args <;> try rfl
  cases kws <;> try rfl
  cases h
theorem mtr_of {m : Lm} {id : String} (h : MtR X id (rL n m)) : MtR X id (rL n m) := h
theorem g_lm {id : String} {m : Lm} {o e : Expr} {es : List Expr} {x : Ex} {xs : List Ex} {apos cpos : Pos} {name : Str} (hK : X.K = n.K) (slot : Slot "list" name id) (hty : typeOf (.builtin id) = pure (.type "method_descriptor")) (hm : MtR X id (rL n m)) (ho : PE X o (G n W P x)) (ha : PA X (e :: es) (GA n W P xs))
    (hb : noSup o = true) (hfew : ((backTo cpos (starEach (e :: es) X.env)).all (fun x => !x.1) && (backToKw cpos (keywordEach [] X.env)).all (fun x => x.1.isSome)
      && decide ((e :: es).length + ([] : List Keyword).length + (if ([] : List Keyword).isEmpty then 0 else 1) < 30)) = true)
    (hline : (apos.endLine == cpos.line) = true) (hs : starEach (e :: es) X.env = (false, eval e X.env) :: starEach es X.env) (hpl : (backTo cpos (starEach es X.env)).any (·.1) = false) :
    PE X (.Call (.Attribute o name apos) (e :: es) [] cpos) (G n W P (.lm m x xs)) := by
  refine pe_wk (pe_bm PySem.F.plainAttrs_list slot hty hm ho ha (noSup_ok hb) hfew hline hs hpl) fun σ H Q ⟨ι, ee, hp, S, A⟩ => ?_
  simp only [ev] at A
  refine ⟨ι, ee, hp, S, (Af.bind A).mono ?_⟩
  rintro v H1 ⟨ι1, hp1, w, F1, R1, V1, A1⟩
  split at A1
  · rename_i hl
    refine ⟨isL_typ hK R1 V1 hl, ι1, ee, hp1, S.mono F1 R1, (Af.bind A1).mono ?_⟩
    rintro vs H2 ⟨ι2, hp2, ws, F2, R2, V2, A2⟩
    exact ⟨ι2, hp2, w, ws, _, R2, V1.mono F2, V2, A2⟩
  · exact A1.elim
theorem g_lm0 {id : String} {m : Lm} {o : Expr} {x : Ex} {apos cpos : Pos} {name : Str} (hK : X.K = n.K) (slot : Slot "list" name id) (hty : typeOf (.builtin id) = pure (.type "method_descriptor")) (hm : MtR X id (rL n m)) (ho : PE X o (G n W P x))
    (hb : noSup o = true) (hline : (apos.endLine == cpos.line) = true) : PE X (.Call (.Attribute o name apos) [] [] cpos) (G n W P (.lm m x [])) := by
  refine pe_wk (pe_bm0 PySem.F.plainAttrs_list slot hty hm ho (noSup_ok hb) hline) fun σ H Q ⟨ι, ee, hp, S, A⟩ => ?_
  simp only [ev] at A
  refine ⟨ι, ee, hp, S, (Af.bind A).mono ?_⟩
  rintro v H1 ⟨ι1, hp1, w, F1, R1, V1, A1⟩
  split at A1
  · rename_i hl
    simp only [evs, Rz.bind_ok] at A1
    exact ⟨isL_typ hK R1 V1 hl, ι1, hp1, w, [], _, R1, V1, .nil, A1⟩
  · exact A1.elim
def Lm.there : Lm → Bool
  | .append | .extend | .pop | .clear | .reverse => true
  | _ => false
theorem l_slot (m : Lm) (h : m.there = true) : ∃ id, Slot "list" (Str.ofString m.name) id ∧ typeOf (.builtin id) = pure (.type "method_descriptor") ∧ MtR X id (rL n m) := by
  cases m <;> try (cases h; done)
  · exact ⟨_, PySem.F.slot_list_append, PySem.F.type_list_append, l_append⟩
  · exact ⟨_, PySem.F.slot_list_extend, PySem.F.type_list_extend, l_extend⟩
  · exact ⟨_, PySem.F.slot_list_pop, PySem.F.type_list_pop, l_pop⟩
  · exact ⟨_, PySem.F.slot_list_clear, PySem.F.type_list_clear, l_clear⟩
  · exact ⟨_, PySem.F.slot_list_reverse, PySem.F.type_list_reverse, l_reverse⟩

/-! ### isinstance -/
theorem boot_ty (t : Ty) : bootBuiltins (Str.ofString t.name) = some (.type t.name) := by cases t <;> decide +kernel
theorem lst_ty {K : PySem.W.Frag} {a : Addr} {vs : List V} (h : SqL K H a vs) : TyX K H (.ref a) (.type "list") := by
  rcases h with (h | ⟨o, h⟩) | ⟨o, its, m, h1, h2, _⟩
  · exact .base (.lst h)
  · exact .base (.frz h)
  · exact .kList h1 h2
theorem tup_ty {K : PySem.W.Frag} {a : Addr} {vs : List V} (h : SqT K H a vs) : TyX K H (.ref a) (.type "tuple") := by
  rcases h with (h | ⟨o, h⟩) | ⟨o, its, m, h1, h2, _⟩
  · exact .base (.tup h)
  · exact .fTuple h
  · exact .kTuple h1 h2
/-- what a value is, as the text says it -/
theorem has_ok {K : PySem.W.Frag} (hK : K = n.K) (R : HR n ι H hp) {v : V} {w : Wv} (h : VR n ι H v w) {t : Ty} {b : Bool} (e : t.has hp w = some b) : ∃ ty, TyX K H v ty ∧ PySem.W.kitOne K ty (.type t.name) = some b := by
  obtain ⟨T, h1, h2⟩ := Option.map_eq_some_iff.mp e
  have key : TyX K H v (.type T) := by
    cases h with
    | non => cases h1; exact .base .non
    | bl i => cases h1; exact .base (.bl i)
    | int i => cases h1; exact .base (.int i)
    | str i => cases h1; exact .base (.str i)
    | tup h hs => cases h1; exact tup_ty (hK ▸ h.seq)
    | lst h hs => cases h1; exact lst_ty (hK ▸ h.seq)
    | ins h h1' h2 => cases h1
    | @ref k a h =>
      simp only [tyOf] at h1
      split at h1
      · rename_i ws q
        cases h1
        obtain ⟨vs, g1, g2⟩ := R.lstAt h q
        exact lst_ty (SqL.of g1)
      · cases h1
  have fin : ∀ T, T ∈ ["NoneType", "bool", "int", "str", "tuple", "list"] → kitB T t.name = some (decide (T = t.name) || (decide (T = "bool") && decide (t.name = "int"))) := by
    cases t <;> decide +kernel
  have hT : T ∈ ["NoneType", "bool", "int", "str", "tuple", "list"] := by
    cases w <;> simp only [tyOf, Option.some.injEq, reduceCtorEq] at h1 <;> (try subst h1) <;> (try decide)
    split at h1
    · cases h1; decide
    · cases h1
  exact ⟨_, key, kit_ty (h2 ▸ fin T hT)⟩
theorem g_isi {a : Expr} {x : Ex} {t : Ty} {p q pos : Pos} (hK : X.K = n.K) (hg : Gl X "isinstance") (hm : X.mg "isinstance" = none) (hg2 : Gl X (Str.ofString t.name)) (hm2 : X.mg (Str.ofString t.name) = none) (ha : PE X a (G n W P x))
    (hs : starEach [a, .Name (Str.ofString t.name) q] X.env = (false, eval a X.env) :: starEach [.Name (Str.ofString t.name) q] X.env) :
    PE X (.Call (.Name "isinstance" p) [a, .Name (Str.ofString t.name) q] [] pos) (G n W P (.isi x [t])) := by
  have h2 : PE X (.Name (Str.ofString t.name) q) (tC (.ty t.name)) := pe_bltn hg2 hm2 (boot_ty t) rfl (by cases t <;> decide +kernel) (by cases t <;> decide +kernel)
  refine pe_wk (pe_callB call_isi hg hm PyProof.Rows.boot_isinstance (pa_cons ha (pa_cons h2 pa_nil rfl) hs) (by decide +kernel) (by decide +kernel) hs rfl) fun σ H Q ⟨ι, ee, hp, S, A⟩ => ?_
  simp only [ev] at A
  refine ⟨ι, ee, hp, S, (Af.bind A).mono ?_⟩
  rintro v H1 ⟨ι1, hp1, w, F1, R1, V1, A1⟩
  cases ht : t.has hp1 w with
  | none => rw [ht] at A1; exact A1.elim
  | some b =>
    rw [ht] at A1
    obtain ⟨ty, g1, g2⟩ := has_ok hK R1 V1 ht
    exact ⟨v, .ty t.name, ty, _, b, rfl, .ty _, g1, g2, A1.here R1 (.bl _)⟩
end
end SL

set_option maxRecDepth 100000
set_option maxHeartbeats 1000000
/-! What loops walk: lists and tuples, enumerate, zip. -/
namespace SL
open PySem L2 PyProof.Rows
set_option autoImplicit false

def SqB (K : PySem.W.Frag) (H : Hp) (b : Bool) (a : Addr) (xs : List V) : Prop := match b with | true => SqT K H a xs | false => SqL K H a xs
def ItB (h : Heap) (b : Bool) (it a : Addr) (i : Nat) : Prop := match b with | true => h.IsTupleIter it a i | false => h.IsListIter it a i
def IsB (h : Heap) (b : Bool) (a : Addr) (its : Array Value) : Prop := match b with | true => h.IsTuple a its | false => h.IsList a its
def obB (b : Bool) (a : Addr) : Obj := match b with | true => { cls := .type "tuple_iterator", data := .fields #[.ref a, .int 0 0] } | false => { cls := .type "list_iterator", data := .fields #[.ref a, .int 0 0] }
section
variable {X : Cx} {pins : List (Addr × Obj)} {σ : L2.St} {H : Hp} {s : Shared}
theorem seqB (I : Inv X pins σ H s) {b : Bool} {a : Addr} {xs : List V} (h : SqB X.K H b a xs) : ∃ its : List Value, Vals xs its ∧ IsB s.heap b a its.toArray ∧ a < s.heap.objs.size := by
  cases b with
  | true =>
    obtain ⟨its, rv, p, hz⟩ := I.tuple h
    obtain ⟨o, ho, _⟩ := id p
    exact ⟨its, rv, p, Heap.lt_size ho⟩
  | false =>
    obtain ⟨its, rv, p, hz⟩ := I.list h
    exact ⟨its, rv, p.isList, p.lt⟩
theorem seqB_inj (I : Inv X pins σ H s) {b : Bool} {a : Addr} {xs ys : List V} (h : SqB X.K H b a xs) (h' : SqB X.K H b a ys) : xs = ys := by
  cases b with
  | true => exact I.tuple_inj h h'
  | false => exact I.list_inj h h'
theorem ItB.keep {h h' : Heap} {b : Bool} {it a : Addr} {i : Nat} (x : ItB h b it a i) (k : ∀ o, h.get? it = some o → h'.get? it = some o) : ItB h' b it a i := by
  cases b with
  | true => exact Heap.IsTupleIter.at x k
  | false => exact Heap.IsListIter.at x k
theorem ItB.obj {h : Heap} {b : Bool} {it a : Addr} {i : Nat} (x : ItB h b it a i) : ∃ o, h.get? it = some o ∧ ∀ v, o.data ≠ .cell v := by
  cases b with
  | true =>
    obtain ⟨o, e, c, d⟩ := x
    exact ⟨o, e, fun v z => by rw [d] at z; cases z⟩
  | false =>
    obtain ⟨o, e, c, d⟩ := x
    exact ⟨o, e, fun v z => by rw [d] at z; cases z⟩
theorem itB_new {h : Heap} {b : Bool} {it a : Addr} (e : h.get? it = some (obB b a)) : ItB h b it a 0 := by
  cases b with
  | true => exact ⟨_, e, rfl, rfl⟩
  | false => exact ⟨_, e, rfl, rfl⟩
theorem drawsB {prog : Program} {w : World} {A : Around} (hh : A.handled = none) (b : Bool) (it a : Addr) (hne : a ≠ it) (items : Array Value) :
    Draws prog w A it [it, a] items.size (fun i v => items[i]? = some v) (fun i h => ItB h b it a i ∧ IsB h b a items) := by
  cases b with
  | true => exact Draws.tuple hh it a hne items
  | false => exact Draws.list hh it a hne items
theorem beginsB (b : Bool) (a : Addr) (items : Array Value) : Begins (.ref a) (obB b a) fun h => IsB h b a items := by
  cases b with
  | true => exact begins_tuple a items
  | false => exact begins_list a items
theorem obB_free (b : Bool) (a : Addr) : (obB b a).isFreed = false := by cases b <;> rfl

/-- an iterator of new tuples -/
theorem turn_goes {P : Program} {w : World} {K : PySem.W.Frag} {tg : Expr} {J : It} {own wr : List Addr} {it : Addr} {tn : Nat → Heap → Prop} (mem : it ∈ own) (sub : ∀ b ∈ wr, b ∈ own)
    (obj : ∀ i h, tn i h → ∀ b ∈ own, ∃ o, h.get? b = some o ∧ ∀ v, o.data ≠ .cell v) (keep : ∀ i h h', tn i h → (∀ b ∈ own, ∀ o, h.get? b = some o → h'.get? b = some o) → tn i h')
    (go : ∀ (X : Cx), X.prog = P → X.w = w → X.K = K → X.calm = true → ∀ (i : Nat) (pins : List (Addr × Obj)) (s : Shared) (σ : L2.St) (H : Hp), Inv X pins σ H s → tn i s.heap → J.go i H →
      ∃ (fp : List Addr) (n : Nat) (Y : Nat → Heap → Value → Heap → Prop) (St : Nat → Heap → Prop), GoesN P w X.A tg it fp wr n Y St ∧ St i s.heap ∧ i < n ∧
        ∀ v h', Y i s.heap v h' → St (i + 1) h' → tn (i + 1) h' ∧ ∃ (T : Addr) (xs : List V) (its : List Value), v = .ref T ∧ s.heap.objs.size ≤ T ∧ h'.IsTuple T its.toArray ∧ xs.length ≤ sizeLine ∧ Vals xs its ∧ (H T = none → J.yld i H (.ref T) (upd H T (.tup xs))))
    (stop : ∀ (X : Cx), X.prog = P → X.w = w → X.K = K → X.calm = true → ∀ (i : Nat) (pins : List (Addr × Obj)) (s : Shared) (σ : L2.St) (H : Hp), Inv X pins σ H s → tn i s.heap → J.stop i H →
      ∃ (fp : List Addr) (Y : Nat → Heap → Value → Heap → Prop) (St : Nat → Heap → Prop), GoesN P w X.A tg it fp wr i Y St ∧ St i s.heap)
    (self : ∀ (A : Around) (i : Nat) (s : Shared) (Q : Value → Shared → Prop) (E : Value → Shared → Prop), tn i s.heap → Q (.ref it) s → wpAny (model P w) A (pyIter (.ref it)) Q E s) : Turn P w K tg J own it tn where
  mem := mem
  obj := obj
  keep := keep
  item := by
    intro X hP hw hK hc i pins s σ H E I hf st hg
    obtain ⟨fp, n, Y, St, G, hst, hi, next⟩ := go X hP hw hK hc i pins s σ H I st hg
    subst hP hw hK
    refine G.goes i s _ E hi hst fun v h' tk hY hst' hk htk => ?_
    obtain ⟨st', T, xs, its, rfl, hT, hTt, hz, rv, y⟩ := next v h' hY hst'
    have hn : H T = none := I.hok.fresh hT
    have new : ObjOk X.prog X.w (upd H T (.tup xs)) h' T (.tup xs) := ⟨hz, its, rv, hTt⟩
    have I1 : Inv X pins σ (upd H T (.tup xs)) { s with heap := h', toks := tk } := I.turnedNew (ch := own) (fun b o hb e => hk b o (fun z => hb (sub b z)) e) hf hT new
    refine ⟨.ref T, _, I1, rfl, y hn, st', fun b hb => ?_⟩
    obtain ⟨o, ho, _⟩ := obj _ _ st b hb
    rw [upd_ne (Nat.ne_of_lt (Nat.lt_of_lt_of_le (Heap.lt_size ho) hT))]
    exact (hf b hb).1
  done := by
    intro X hP hw hK hc i pins s σ H E I hf st hg
    obtain ⟨fp, Y, St, G, hst⟩ := stop X hP hw hK hc i pins s σ H I st hg
    subst hP hw hK
    exact G.stops s _ E hst fun h' tk hk htk => I.turnedL (ch := own) (fun b o hb e => hk b o (fun z => hb (sub b z)) e) hf
  self := self
end
end SL

set_option maxRecDepth 100000
set_option maxHeartbeats 1000000
/-! enumerate and zip by walks; what the evaluator's sources are. -/
namespace SL
open PySem L2 PyProof.Rows
set_option autoImplicit false

def JS (K : PySem.W.Frag) (b : Bool) (a : Addr) : It :=
  ⟨fun i H => ∃ xs x, SqB K H b a xs ∧ xs[i]? = some x, fun i H x H' => H' = H ∧ ∀ xs, SqB K H b a xs → xs[i]? = some x, fun i H => ∃ xs, SqB K H b a xs ∧ xs.length ≤ i⟩
def JE (K : PySem.W.Frag) (b : Bool) (a : Addr) : It :=
  ⟨fun i H => ∃ (xs : List V) (x : V), SqB K H b a xs ∧ xs[i]? = some x, fun i H v H' => ∃ T x, v = .ref T ∧ H T = none ∧ H' = upd H T (.tup [.int (i : Nat), x]) ∧ ∀ xs, SqB K H b a xs → xs[i]? = some x, fun i H => ∃ xs : List V, SqB K H b a xs ∧ xs.length = i⟩
def JZ (K : PySem.W.Frag) (b : Bool) (a : Addr) (b' : Bool) (a' : Addr) : It :=
  ⟨fun i H => ∃ (xs ys : List V) (x y : V), SqB K H b a xs ∧ SqB K H b' a' ys ∧ xs[i]? = some x ∧ ys[i]? = some y,
    fun i H v H' => ∃ T x y, v = .ref T ∧ H T = none ∧ H' = upd H T (.tup [x, y]) ∧ (∀ xs, SqB K H b a xs → xs[i]? = some x) ∧ ∀ ys, SqB K H b' a' ys → ys[i]? = some y,
    fun i H => ∃ xs ys : List V, SqB K H b a xs ∧ SqB K H b' a' ys ∧ i = min xs.length ys.length⟩
def JZ3 (K : PySem.W.Frag) (b : Bool) (a : Addr) (b' : Bool) (a' : Addr) (b2 : Bool) (a2 : Addr) : It :=
  ⟨fun i H => ∃ (xs ys zs : List V) (x y z : V), SqB K H b a xs ∧ SqB K H b' a' ys ∧ SqB K H b2 a2 zs ∧ xs[i]? = some x ∧ ys[i]? = some y ∧ zs[i]? = some z,
    fun i H v H' => ∃ T x y z, v = .ref T ∧ H T = none ∧ H' = upd H T (.tup [x, y, z]) ∧ (∀ xs, SqB K H b a xs → xs[i]? = some x) ∧ (∀ ys, SqB K H b' a' ys → ys[i]? = some y) ∧ ∀ zs, SqB K H b2 a2 zs → zs[i]? = some z,
    fun i H => ∃ xs ys zs : List V, SqB K H b a xs ∧ SqB K H b' a' ys ∧ SqB K H b2 a2 zs ∧ i = min (min xs.length ys.length) zs.length⟩
theorem get_of {xs : List V} {its : List Value} (rv : Vals xs its) {i : Nat} {x : V} (hx : xs[i]? = some x) {u : Value} (hu : its.toArray[i]? = some u) : RelV x u := by
  obtain ⟨u', h1, h2⟩ := rv.get hx
  have : its.toArray[i]? = some u' := by simpa using h1
  rw [hu] at this; cases this; exact h2
theorem lt_of_get {α : Type} {l : List α} {i : Nat} {x : α} (h : l[i]? = some x) : i < l.length := (List.getElem?_eq_some_iff.mp h).1
theorem vlen {xs : List V} {its : List Value} (rv : Vals xs its) : its.toArray.size = xs.length := by rw [List.size_toArray, rv.length]
theorem two_line : 2 ≤ sizeLine := by decide
theorem three_line : 3 ≤ sizeLine := by decide

theorem turn_enumB {P : Program} {w : World} {K : PySem.W.Frag} {elts : List Expr} {kk : Nat} {tpos : Pos} (b : Bool) (a e it : Addr) (h1 : e ≠ it) (h2 : e ≠ a) (h3 : a ≠ it) :
    Turn P w K (.Tuple elts kk tpos) (JE K b a) [e, it] e (fun i h => (∃ old, IsEnum h e it (0 + (i : Int)) old) ∧ ItB h b it a i) := by
  refine turn_goes (wr := [e, it]) (by simp) (fun b hb => hb) (fun i h st c hc => ?_) (fun i h h' st k => ?_) (fun X hP hw hK hcalm i pins s σ H I st hg => ?_) (fun X hP hw hK hcalm i pins s σ H I st hg => ?_) fun A i s Q E st h => ?_
  · obtain ⟨⟨old, he⟩, hi⟩ := st
    have e' : c = e ∨ c = it := by simpa using hc
    rcases e' with z | z
    · rw [z]; exact ⟨_, he, fun v q => nomatch q⟩
    · rw [z]; exact hi.obj
  · obtain ⟨⟨old, he⟩, hi⟩ := st
    exact ⟨⟨old, k e (by simp) _ he⟩, hi.keep fun o q => k it (by simp) o q⟩
  · subst hP hw hK
    obtain ⟨xs, x, hq, hx⟩ := hg
    obtain ⟨its, rv, p, _⟩ := seqB I hq
    have D := drawsB (prog := X.prog) (w := X.w) (A := X.A.in1) (I.ok.hd hcalm) b it a h3 its.toArray
    refine ⟨_, _, _, _, GoesN.enumFrom 0 D e h1 (by simp [h1, h2]) (by simp), ⟨st.1, st.2, p⟩, by rw [vlen rv]; exact lt_of_get hx, fun v h' hY hst' => ⟨⟨hst'.1, hst'.2.1⟩, ?_⟩⟩
    obtain ⟨T, t, u, ev, hn, hu, hT⟩ := hY
    refine ⟨T, [.int (i : Nat), x], [.int (0 + (i : Int)) t, u], ev, hn, hT, two_line, .cons ⟨t, by simp⟩ (.cons (get_of rv hx hu) .nil), fun hnn => ⟨T, x, rfl, hnn, rfl, fun ys hy => ?_⟩⟩
    rw [seqB_inj I hy hq]; exact hx
  · subst hP hw hK
    obtain ⟨xs, hq, hx⟩ := hg
    obtain ⟨its, rv, p, _⟩ := seqB I hq
    have D := drawsB (prog := X.prog) (w := X.w) (A := X.A.in1) (I.ok.hd hcalm) b it a h3 its.toArray
    rw [vlen rv, hx] at D
    exact ⟨_, _, _, GoesN.enumFrom 0 D e h1 (by simp [h1, h2]) (by simp), st.1, st.2, p⟩
  · obtain ⟨⟨old, he⟩, hi⟩ := st
    exact wpAny_pyIter_enum he h
theorem sep2 {N a a' : Addr} (h1 : a < N) (h2 : a' < N) : ZipSep2 (N + 4) (N + 2) (N + 3) N (N + 1) [N, a] [N + 1, a'] := zip_sep2 (fp1 := [a]) (fp2 := [a']) (by simpa using h1) (by simpa using h2)
theorem sep3 {N a a' a2 : Addr} (h1 : a < N) (h2 : a' < N) (h3 : a2 < N) : ZipSep3 (N + 5) (N + 3) (N + 4) N (N + 1) (N + 2) [N, a] [N + 1, a'] [N + 2, a2] := zip_sep3 (fp1 := [a]) (fp2 := [a']) (fp3 := [a2]) (by simpa using h1) (by simpa using h2) (by simpa using h3)
theorem turn_zipB {P : Program} {w : World} {K : PySem.W.Frag} {elts : List Expr} {kk : Nat} {tpos : Pos} (b : Bool) (a : Addr) (b' : Bool) (a' : Addr) (N : Addr) (h1 : a < N) (h2 : a' < N) :
    Turn P w K (.Tuple elts kk tpos) (JZ K b a b' a') [N + 4, N + 2, N + 3, N, N + 1] (N + 4) (fun i h => IsZip h (N + 4) (N + 2) (N + 3) .none ∧ IsTupOf2 h (N + 2) (.ref N) (.ref (N + 1)) ∧ (∃ x y, IsTupOf2 h (N + 3) x y) ∧ ItB h b N a i ∧ ItB h b' (N + 1) a' i) := by
  have S := sep2 h1 h2
  refine turn_goes (wr := [N + 4, N + 3, N, N + 1]) (by simp) (fun b hb => by simp only [List.mem_cons, List.not_mem_nil, or_false] at hb; rcases hb with q | q | q | q <;> simp [q]) (fun i h st c hc => ?_) (fun i h h' st k => ?_) (fun X hP hw hK hcalm i pins s σ H I st hg => ?_) (fun X hP hw hK hcalm i pins s σ H I st hg => ?_) fun A i s Q E st h => wpAny_pyIter_zip st.1 h
  · obtain ⟨hz, hTI, ⟨x, y, hTO⟩, i1, i2⟩ := st
    simp only [List.mem_cons, List.not_mem_nil, or_false] at hc
    rcases hc with q | q | q | q | q <;> rw [q]
    · exact ⟨_, hz, fun v q => nomatch q⟩
    · exact ⟨_, hTI, fun v q => nomatch q⟩
    · exact ⟨_, hTO, fun v q => nomatch q⟩
    · exact i1.obj
    · exact i2.obj
  · obtain ⟨hz, hTI, ⟨x, y, hTO⟩, i1, i2⟩ := st
    exact ⟨k _ (by simp) _ hz, k _ (by simp) _ hTI, ⟨x, y, k _ (by simp) _ hTO⟩, i1.keep fun o q => k _ (by simp) o q, i2.keep fun o q => k _ (by simp) o q⟩
  · subst hP hw hK
    obtain ⟨xs, ys, x, y, hq, hq', hx, hy⟩ := hg
    obtain ⟨its, rv, p, _⟩ := seqB I hq
    obtain ⟨its', rv', p', _⟩ := seqB I hq'
    have D := drawsB (prog := X.prog) (w := X.w) (A := X.A.in1) (I.ok.hd hcalm) b N a (Nat.ne_of_lt h1) its.toArray
    have D' := drawsB (prog := X.prog) (w := X.w) (A := X.A.in1) (I.ok.hd hcalm) b' (N + 1) a' (Nat.ne_of_lt (Nat.lt_succ_of_lt h2)) its'.toArray
    refine ⟨_, _, _, _, GoesN.zip2 S D D', ⟨st.1, st.2.1, st.2.2.1, ⟨st.2.2.2.1, p⟩, st.2.2.2.2, p'⟩, ?_, fun v h' hY hst' => ⟨⟨hst'.1, hst'.2.1, hst'.2.2.1, hst'.2.2.2.1.1, hst'.2.2.2.2.1⟩, ?_⟩⟩
    · have := lt_of_get hx
      have := lt_of_get hy
      rw [vlen rv, vlen rv']; omega
    · obtain ⟨T, u, u', ev, hn, hu, hu', hT⟩ := hY
      refine ⟨T, [x, y], [u, u'], ev, hn, hT, two_line, .cons (get_of rv hx hu) (.cons (get_of rv' hy hu') .nil), fun hnn => ⟨T, x, y, rfl, hnn, rfl, fun l hl => ?_, fun l hl => ?_⟩⟩
      · rw [seqB_inj I hl hq]; exact hx
      · rw [seqB_inj I hl hq']; exact hy
  · subst hP hw hK
    obtain ⟨xs, ys, hq, hq', hi⟩ := hg
    obtain ⟨its, rv, p, _⟩ := seqB I hq
    obtain ⟨its', rv', p', _⟩ := seqB I hq'
    have D := drawsB (prog := X.prog) (w := X.w) (A := X.A.in1) (I.ok.hd hcalm) b N a (Nat.ne_of_lt h1) its.toArray
    have D' := drawsB (prog := X.prog) (w := X.w) (A := X.A.in1) (I.ok.hd hcalm) b' (N + 1) a' (Nat.ne_of_lt (Nat.lt_succ_of_lt h2)) its'.toArray
    have G := GoesN.zip2 (elts := elts) (x1 := kk) (pos := tpos) S D D'
    rw [vlen rv, vlen rv', ← hi] at G
    exact ⟨_, _, _, G, st.1, st.2.1, st.2.2.1, ⟨st.2.2.2.1, p⟩, st.2.2.2.2, p'⟩
theorem turn_zipB3 {P : Program} {w : World} {K : PySem.W.Frag} {elts : List Expr} {kk : Nat} {tpos : Pos} (b : Bool) (a : Addr) (b' : Bool) (a' : Addr) (b2 : Bool) (a2 : Addr) (N : Addr) (h1 : a < N) (h2 : a' < N) (h3 : a2 < N) :
    Turn P w K (.Tuple elts kk tpos) (JZ3 K b a b' a' b2 a2) [N + 5, N + 3, N + 4, N, N + 1, N + 2] (N + 5) (fun i h => IsZip h (N + 5) (N + 3) (N + 4) .none ∧ IsTupOf3 h (N + 3) (.ref N) (.ref (N + 1)) (.ref (N + 2)) ∧ (∃ x y z, IsTupOf3 h (N + 4) x y z) ∧ ItB h b N a i ∧ ItB h b' (N + 1) a' i ∧ ItB h b2 (N + 2) a2 i) := by
  have S := sep3 h1 h2 h3
  refine turn_goes (wr := [N + 5, N + 4, N, N + 1, N + 2]) (by simp) (fun b hb => by simp only [List.mem_cons, List.not_mem_nil, or_false] at hb; rcases hb with q | q | q | q | q <;> simp [q]) (fun i h st c hc => ?_) (fun i h h' st k => ?_) (fun X hP hw hK hcalm i pins s σ H I st hg => ?_) (fun X hP hw hK hcalm i pins s σ H I st hg => ?_) fun A i s Q E st h => wpAny_pyIter_zip st.1 h
  · obtain ⟨hz, hTI, ⟨x, y, z, hTO⟩, i1, i2, i3⟩ := st
    simp only [List.mem_cons, List.not_mem_nil, or_false] at hc
    rcases hc with q | q | q | q | q | q <;> rw [q]
    · exact ⟨_, hz, fun v q => nomatch q⟩
    · exact ⟨_, hTI, fun v q => nomatch q⟩
    · exact ⟨_, hTO, fun v q => nomatch q⟩
    · exact i1.obj
    · exact i2.obj
    · exact i3.obj
  · obtain ⟨hz, hTI, ⟨x, y, z, hTO⟩, i1, i2, i3⟩ := st
    exact ⟨k _ (by simp) _ hz, k _ (by simp) _ hTI, ⟨x, y, z, k _ (by simp) _ hTO⟩, i1.keep fun o q => k _ (by simp) o q, i2.keep fun o q => k _ (by simp) o q, i3.keep fun o q => k _ (by simp) o q⟩
  · subst hP hw hK
    obtain ⟨xs, ys, zs, x, y, z, hq, hq', hq2, hx, hy, hz⟩ := hg
    obtain ⟨its, rv, p, _⟩ := seqB I hq
    obtain ⟨its', rv', p', _⟩ := seqB I hq'
    obtain ⟨its2, rv2, p2, _⟩ := seqB I hq2
    have D := drawsB (prog := X.prog) (w := X.w) (A := X.A.in1) (I.ok.hd hcalm) b N a (Nat.ne_of_lt h1) its.toArray
    have D' := drawsB (prog := X.prog) (w := X.w) (A := X.A.in1) (I.ok.hd hcalm) b' (N + 1) a' (Nat.ne_of_lt (Nat.lt_succ_of_lt h2)) its'.toArray
    have D2 := drawsB (prog := X.prog) (w := X.w) (A := X.A.in1) (I.ok.hd hcalm) b2 (N + 2) a2 (Nat.ne_of_lt (Nat.lt_succ_of_lt (Nat.lt_succ_of_lt h3))) its2.toArray
    refine ⟨_, _, _, _, GoesN.zip3 S D D' D2, ⟨st.1, st.2.1, st.2.2.1, ⟨st.2.2.2.1, p⟩, ⟨st.2.2.2.2.1, p'⟩, st.2.2.2.2.2, p2⟩, ?_, fun v h' hY hst' => ⟨⟨hst'.1, hst'.2.1, hst'.2.2.1, hst'.2.2.2.1.1, hst'.2.2.2.2.1.1, hst'.2.2.2.2.2.1⟩, ?_⟩⟩
    · have := lt_of_get hx
      have := lt_of_get hy
      have := lt_of_get hz
      rw [vlen rv, vlen rv', vlen rv2]; omega
    · obtain ⟨T, u, u', u2, ev, hn, hu, hu', hu2, hT⟩ := hY
      refine ⟨T, [x, y, z], [u, u', u2], ev, hn, hT, three_line, .cons (get_of rv hx hu) (.cons (get_of rv' hy hu') (.cons (get_of rv2 hz hu2) .nil)), fun hnn => ⟨T, x, y, z, rfl, hnn, rfl, fun l hl => ?_, fun l hl => ?_, fun l hl => ?_⟩⟩
      · rw [seqB_inj I hl hq]; exact hx
      · rw [seqB_inj I hl hq']; exact hy
      · rw [seqB_inj I hl hq2]; exact hz
  · subst hP hw hK
    obtain ⟨xs, ys, zs, hq, hq', hq2, hi⟩ := hg
    obtain ⟨its, rv, p, _⟩ := seqB I hq
    obtain ⟨its', rv', p', _⟩ := seqB I hq'
    obtain ⟨its2, rv2, p2, _⟩ := seqB I hq2
    have D := drawsB (prog := X.prog) (w := X.w) (A := X.A.in1) (I.ok.hd hcalm) b N a (Nat.ne_of_lt h1) its.toArray
    have D' := drawsB (prog := X.prog) (w := X.w) (A := X.A.in1) (I.ok.hd hcalm) b' (N + 1) a' (Nat.ne_of_lt (Nat.lt_succ_of_lt h2)) its'.toArray
    have D2 := drawsB (prog := X.prog) (w := X.w) (A := X.A.in1) (I.ok.hd hcalm) b2 (N + 2) a2 (Nat.ne_of_lt (Nat.lt_succ_of_lt (Nat.lt_succ_of_lt h3))) its2.toArray
    have G := GoesN.zip3 (elts := elts) (x1 := kk) (pos := tpos) S D D' D2
    rw [vlen rv, vlen rv', vlen rv2, ← hi] at G
    exact ⟨_, _, _, G, st.1, st.2.1, st.2.2.1, ⟨st.2.2.2.1, p⟩, ⟨st.2.2.2.2.1, p'⟩, st.2.2.2.2.2, p2⟩

/-! ### the readings -/
section
variable {X : Cx} {tg : Expr}
def iSq (K : PySem.W.Frag) (te : TE) : TI := fun σ H R => te σ H fun x H1 => ∃ b a, x = .ref a ∧ (∃ xs, SqB K H1 b a xs) ∧ R (JS K b a) H1
theorem pi_sq {e : Expr} {te : TE} (he : PE X e te) : PI X tg e (iSq X.K te) := by
  refine ⟨fun pins s σ H R I h => ?_⟩
  refine thn (he.run pins s σ H _ I h) fun v s1 ⟨x, H1, I1, r1, q1⟩ => ?_
  obtain ⟨b, a, ex, ⟨xs, hq⟩, q⟩ := q1
  subst ex
  cases r1
  cases b with
  | false =>
    obtain ⟨its, rv, p, hz⟩ := I1.list hq
    exact wpAny_pyIter_list p.isList (pi_one (tk := s1.toks) I1 _ (turn_list a _) ⟨_, Heap.get?_push_size _ rfl, rfl, rfl⟩ q)
  | true =>
    obtain ⟨its, rv, p, hz⟩ := I1.tuple hq
    exact wpAny_pyIter_tuple (show s1.heap.IsTuple a its.toArray from p) (pi_one (tk := s1.toks) I1 _ (turn_tuple a _) ⟨_, Heap.get?_push_size _ rfl, rfl, rfl⟩ q)
theorem fresh_fp {pins : List (Addr × Obj)} {σ : L2.St} {H : Hp} {s : Shared} (I : Inv X pins σ H s) {c : Addr} (h : s.heap.objs.size ≤ c) : FpOk X pins H c := I.fpOk h (I.hok.fresh h)
def iEn (K : PySem.W.Frag) (ta : TA) : TI := fun σ H R => ta σ H fun vs H1 => ∃ a xs, vs = [.ref a] ∧ SqB K H1 false a xs ∧ R (JE K false a) H1
theorem pi_en {e : Expr} {ta : TA} {p pos tpos : Pos} {elts : List Expr} {kk : Nat} (hg : Gl X "enumerate") (hm : X.mg "enumerate" = none) (ha : PA X [e] ta) (hs : starEach [e] X.env = [(false, eval e X.env)]) :
    PI X (.Tuple elts kk tpos) (.Call (.Name "enumerate" p) [e] [] pos) (iEn X.K ta) := by
  refine ⟨fun pins s σ H R I h => ?_⟩
  refine Call_ (ld_blt I hg hm boot_enumerate (PyProof.Rows.callWith_type1 (thn (ha.run pos pins s σ H _ I h) fun us s1 ⟨vs, H1, I1, r1, q1⟩ => ?_) hs rfl))
  obtain ⟨a, xs, ex, hq, q⟩ := q1
  subst ex
  cases r1 with
  | cons r rr =>
    cases rr
    cases r
    obtain ⟨its, rv, p', hz⟩ := I1.list (show SqL X.K H1 a xs from hq)
    have la : a < s1.heap.objs.size := p'.lt
    refine call_enumerate_list p'.isList fun h' he hit hsz hk => wpAny_pyIter_enum he ?_
    have I2 : Inv X pins σ H1 { s1 with heap := h' } := I1.kept (t' := s1.toks) hk
    refine ⟨s1.heap.objs.size + 1, [s1.heap.objs.size + 1, s1.heap.objs.size], _, _, H1, rfl, I2, turn_enumB false a (s1.heap.objs.size + 1) s1.heap.objs.size (Nat.succ_ne_self _) (Nat.ne_of_gt (Nat.lt_succ_of_lt la)) (Nat.ne_of_lt la), ⟨⟨.none, he⟩, hit⟩, fun b hb => ?_, q⟩
    simp only [List.mem_cons, List.not_mem_nil, or_false] at hb
    rcases hb with z | z <;> rw [z] <;> exact fresh_fp I1 (by simp)
def iZp (K : PySem.W.Frag) (ta : TA) : TI := fun σ H R => ta σ H fun vs H1 => ∃ b a xs b' a' ys, vs = [.ref a, .ref a'] ∧ SqB K H1 b a xs ∧ SqB K H1 b' a' ys ∧ R (JZ K b a b' a') H1
theorem pi_zp {e e2 : Expr} {ta : TA} {p pos tpos : Pos} {elts : List Expr} {kk : Nat} (hg : Gl X "zip") (hm : X.mg "zip" = none) (ha : PA X [e, e2] ta)
    (hs : starEach [e, e2] X.env = (false, eval e X.env) :: starEach [e2] X.env) (hpl : (backTo pos (starEach [e2] X.env)).any (·.1) = false) :
    PI X (.Tuple elts kk tpos) (.Call (.Name "zip" p) [e, e2] [] pos) (iZp X.K ta) := by
  refine ⟨fun pins s σ H R I h => ?_⟩
  refine Call_ (ld_blt I hg hm PyProof.Rows.boot_zip (PyProof.Rows.callWith_type1 (thn (ha.run pos pins s σ H _ I h) fun us s1 ⟨vs, H1, I1, r1, q1⟩ => ?_) hs hpl))
  obtain ⟨b, a, xs, b', a', ys, ex, hq, hq', q⟩ := q1
  subst ex
  cases r1 with
  | cons r rr =>
    cases rr with
    | cons r' rr =>
      cases rr
      cases r
      cases r'
      obtain ⟨its, rv, p1, l1⟩ := seqB I1 hq
      obtain ⟨its', rv', p2, l2⟩ := seqB I1 hq'
      refine zip_begins2 (beginsB b a its.toArray) (beginsB b' a' its'.toArray) p1 p2 fun h' hz hTI hTO h1 h2 hsz hk => wpAny_pyIter_zip hz ?_
      have I2 : Inv X pins σ H1 { s1 with heap := h' } := I1.kept (t' := s1.toks) hk
      refine ⟨s1.heap.objs.size + 4, [s1.heap.objs.size + 4, s1.heap.objs.size + 2, s1.heap.objs.size + 3, s1.heap.objs.size, s1.heap.objs.size + 1], _, _, H1, rfl, I2, turn_zipB b a b' a' s1.heap.objs.size l1 l2, ⟨hz, hTI, ⟨_, _, hTO⟩, itB_new h1, itB_new h2⟩, fun c hc => ?_, q⟩
      simp only [List.mem_cons, List.not_mem_nil, or_false] at hc
      rcases hc with z | z | z | z | z <;> rw [z] <;> exact fresh_fp I1 (by simp)
def iZp3 (K : PySem.W.Frag) (ta : TA) : TI := fun σ H R => ta σ H fun vs H1 => ∃ b a xs b' a' ys b2 a2 zs, vs = [.ref a, .ref a', .ref a2] ∧ SqB K H1 b a xs ∧ SqB K H1 b' a' ys ∧ SqB K H1 b2 a2 zs ∧ R (JZ3 K b a b' a' b2 a2) H1
theorem pi_zp3 {e e2 e3 : Expr} {ta : TA} {p pos tpos : Pos} {elts : List Expr} {kk : Nat} (hg : Gl X "zip") (hm : X.mg "zip" = none) (ha : PA X [e, e2, e3] ta)
    (hs : starEach [e, e2, e3] X.env = (false, eval e X.env) :: starEach [e2, e3] X.env) (hpl : (backTo pos (starEach [e2, e3] X.env)).any (·.1) = false) :
    PI X (.Tuple elts kk tpos) (.Call (.Name "zip" p) [e, e2, e3] [] pos) (iZp3 X.K ta) := by
  refine ⟨fun pins s σ H R I h => ?_⟩
  refine Call_ (ld_blt I hg hm PyProof.Rows.boot_zip (PyProof.Rows.callWith_type1 (thn (ha.run pos pins s σ H _ I h) fun us s1 ⟨vs, H1, I1, r1, q1⟩ => ?_) hs hpl))
  obtain ⟨b, a, xs, b', a', ys, b2, a2, zs, ex, hq, hq', hq2, q⟩ := q1
  subst ex
  cases r1 with
  | cons r rr =>
    cases rr with
    | cons r' rr =>
      cases rr with
      | cons r2 rr =>
        cases rr
        cases r
        cases r'
        cases r2
        obtain ⟨its, rv, p1, l1⟩ := seqB I1 hq
        obtain ⟨its', rv', p2, l2⟩ := seqB I1 hq'
        obtain ⟨its2, rv2, p3, l3⟩ := seqB I1 hq2
        refine zip_begins3 (beginsB b a its.toArray) (beginsB b' a' its'.toArray) (beginsB b2 a2 its2.toArray) p1 p2 p3 fun h' hz hTI hTO h1 h2 h3 hsz hk => wpAny_pyIter_zip hz ?_
        have I2 : Inv X pins σ H1 { s1 with heap := h' } := I1.kept (t' := s1.toks) hk
        refine ⟨s1.heap.objs.size + 5, [s1.heap.objs.size + 5, s1.heap.objs.size + 3, s1.heap.objs.size + 4, s1.heap.objs.size, s1.heap.objs.size + 1, s1.heap.objs.size + 2], _, _, H1, rfl, I2, turn_zipB3 b a b' a' b2 a2 s1.heap.objs.size l1 l2 l3, ⟨hz, hTI, ⟨_, _, _, hTO⟩, itB_new h1, itB_new h2, itB_new h3⟩, fun c hc => ?_, q⟩
        simp only [List.mem_cons, List.not_mem_nil, or_false] at hc
        rcases hc with z | z | z | z | z | z <;> rw [z] <;> exact fresh_fp I1 (by simp)
end
end SL

set_option maxRecDepth 100000
set_option maxHeartbeats 1000000
/-! The evaluator's walks, targets, comprehensions. -/
namespace SL
open PySem L2 PyProof.Rows
set_option autoImplicit false

section
variable {n : Nam} {ι : List Addr} {H : Hp} {hp : Hs}
abbrev Ck := List (Nat × List Wv)
theorem stay_append {h : Hs} : ∀ {p q : Ck}, stay h (p ++ q) = true → stay h p = true ∧ stay h q = true
  | [], _, e => ⟨rfl, e⟩
  | (k, ws) :: p, q, e => by
    simp only [List.cons_append, stay, Bool.and_eq_true] at e ⊢
    obtain ⟨h1, h2⟩ := stay_append e.2
    exact ⟨⟨e.1, h1⟩, h2⟩
/-- the items there, as long as the cells stay -/
def El (n : Nam) (ι : List Addr) (H : Hp) (b : Bool) (a : Addr) (ws : List Wv) (ck : Ck) : Prop :=
  ∀ ι' H' hp', Fr ι H ι' H' → HR n ι' H' hp' → stay hp' ck = true → ∃ vs, SqB n.K H' b a vs ∧ VRs n ι' H' vs ws
theorem srcOf_el (R : HR n ι H hp) {v : V} {w : Wv} (h : VR n ι H v w) {ws : List Wv} {ck : Ck} (e : srcOf hp w = some (ws, ck)) : ∃ b a, v = .ref a ∧ El n ι H b a ws ck ∧ stay hp ck = true := by
  cases h with
  | tup h hs =>
    simp only [srcOf, getS, Option.map_some, Option.some.injEq, Prod.mk.injEq] at e
    obtain ⟨rfl, rfl⟩ := e
    exact ⟨true, _, rfl, fun ι' H' hp' F R' st => ⟨_, (F.tup h).seq, hs.mono F⟩, rfl⟩
  | lst h hs =>
    simp only [srcOf, getS, getL, Option.map_some, Option.some.injEq, Prod.mk.injEq] at e
    obtain ⟨rfl, rfl⟩ := e
    exact ⟨false, _, rfl, fun ι' H' hp' F R' st => ⟨_, (F.lst h).seq, hs.mono F⟩, rfl⟩
  | @ref k a h =>
    simp only [srcOf, Option.map_eq_some_iff, Prod.mk.injEq] at e
    obtain ⟨ws', e1, rfl, rfl⟩ := e
    have e2 := getL_ref.mp e1
    refine ⟨false, a, rfl, fun ι' H' hp' F R' st => ?_, by simp [stay, e2]⟩
    simp only [stay, Bool.and_true, decide_eq_true_eq] at st
    obtain ⟨vs, g1, g2⟩ := R'.lstAt (pre_get F.pre h) st
    exact ⟨vs, SqL.of g1, g2⟩
  | _ => simp [srcOf, getS, getL] at e
theorem srcL_el (R : HR n ι H hp) {v : V} {w : Wv} (h : VR n ι H v w) {ws : List Wv} {ck : Ck} (e : srcL hp w = some (ws, ck)) : ∃ a, v = .ref a ∧ El n ι H false a ws ck ∧ stay hp ck = true := by
  cases h with
  | tup h hs => simp [srcL] at e
  | lst h hs =>
    simp only [srcL, srcOf, getS, getL, Option.map_some, Option.some.injEq, Prod.mk.injEq] at e
    obtain ⟨rfl, rfl⟩ := e
    exact ⟨_, rfl, fun ι' H' hp' F R' st => ⟨_, (F.lst h).seq, hs.mono F⟩, rfl⟩
  | @ref k a h =>
    simp only [srcL, srcOf, Option.map_eq_some_iff, Prod.mk.injEq] at e
    obtain ⟨ws', e1, rfl, rfl⟩ := e
    have e2 := getL_ref.mp e1
    refine ⟨a, rfl, fun ι' H' hp' F R' st => ?_, by simp [stay, e2]⟩
    simp only [stay, Bool.and_true, decide_eq_true_eq] at st
    obtain ⟨vs, g1, g2⟩ := R'.lstAt (pre_get F.pre h) st
    exact ⟨vs, SqL.of g1, g2⟩
  | _ => simp [srcL, srcOf, getS, getL] at e
/-- the walk J gives these items -/
structure Wk (n : Nam) (ι : List Addr) (H : Hp) (J : It) (ws : List Wv) (ck : Ck) : Prop where
  go : ∀ ι' H' hp' i, Fr ι H ι' H' → HR n ι' H' hp' → stay hp' ck = true → i < ws.length → J.go i H'
  yld : ∀ ι' H' hp' i w, Fr ι H ι' H' → HR n ι' H' hp' → stay hp' ck = true → ws[i]? = some w → ∀ v H2, J.yld i H' v H2 → Fr ι' H' ι' H2 ∧ HR n ι' H2 hp' ∧ VR n ι' H2 v w
  stop : ∀ ι' H' hp', Fr ι H ι' H' → HR n ι' H' hp' → stay hp' ck = true → J.stop ws.length H'
theorem VRs.get1 {vs : List V} {ws : List Wv} (h : VRs n ι H vs ws) {i : Nat} (hi : i < ws.length) : ∃ v, vs[i]? = some v ∧ VR n ι H v ws[i] := h.get (List.getElem?_eq_getElem hi)
theorem VRs.both {vs : List V} {ws : List Wv} (h : VRs n ι H vs ws) {i : Nat} {v : V} {w : Wv} (hv : vs[i]? = some v) (hw : ws[i]? = some w) : VR n ι H v w := by
  obtain ⟨v', h1, h2⟩ := h.get hw
  rw [hv] at h1; cases h1; exact h2
theorem wk_seq {b : Bool} {a : Addr} {ws : List Wv} {ck : Ck} (E : El n ι H b a ws ck) : Wk n ι H (JS n.K b a) ws ck where
  go := fun ι' H' hp' i F R st hi => by
    obtain ⟨vs, h1, h2⟩ := E ι' H' hp' F R st
    obtain ⟨v, h3, _⟩ := h2.get1 hi
    exact ⟨vs, v, h1, h3⟩
  yld := fun ι' H' hp' i w F R st hw v H2 y => by
    obtain ⟨vs, h1, h2⟩ := E ι' H' hp' F R st
    obtain ⟨rfl, y⟩ := y
    exact ⟨Fr.refl _ _, R, h2.both (y vs h1) hw⟩
  stop := fun ι' H' hp' F R st => by
    obtain ⟨vs, h1, h2⟩ := E ι' H' hp' F R st
    exact ⟨vs, h1, Nat.le_of_eq h2.length⟩
/-- a new tuple beside -/
theorem HR.newT (R : HR n ι H hp) {T : Addr} (hn : H T = none) {vs : List V} {ws : List Wv} (h : VRs n ι H vs ws) : Fr ι H ι (upd H T (.tup vs)) ∧ HR n ι (upd H T (.tup vs)) hp ∧ VR n ι (upd H T (.tup vs)) (.ref T) (.tup ws) := by
  obtain ⟨F, R'⟩ := R.beside hn (.tup vs)
  exact ⟨F, R', .tup (.inl ⟨.inl upd_same, R.fresh hn⟩) (h.mono F)⟩
theorem enumd_length : ∀ (k : Nat) (ws : List Wv), (enumd k ws).length = ws.length
  | _, [] => rfl
  | k, w :: ws => by rw [enumd, List.length_cons, List.length_cons, enumd_length]
theorem enumd_get : ∀ (k : Nat) (ws : List Wv) (i : Nat), (enumd k ws)[i]? = ws[i]?.map fun w => Wv.tup [.int ((k + i : Nat) : Int), w]
  | _, [], i => by simp [enumd]
  | k, w :: ws, 0 => by simp [enumd]
  | k, w :: ws, i + 1 => by
    rw [enumd, List.getElem?_cons_succ, List.getElem?_cons_succ, enumd_get, show k + 1 + i = k + (i + 1) by omega]
theorem wk_enum {b : Bool} {a : Addr} {ws : List Wv} {ck : Ck} (E : El n ι H b a ws ck) : Wk n ι H (JE n.K b a) (enumd 0 ws) ck where
  go := fun ι' H' hp' i F R st hi => by
    obtain ⟨vs, h1, h2⟩ := E ι' H' hp' F R st
    obtain ⟨v, h3, _⟩ := h2.get1 (by rwa [enumd_length] at hi)
    exact ⟨vs, v, h1, h3⟩
  yld := fun ι' H' hp' i w F R st hw v H2 y => by
    obtain ⟨vs, h1, h2⟩ := E ι' H' hp' F R st
    obtain ⟨T, x, rfl, hn, rfl, y⟩ := y
    rw [enumd_get, Option.map_eq_some_iff] at hw
    obtain ⟨w', hw', rfl⟩ := hw
    exact R.newT hn (.cons (by rw [Nat.zero_add]; exact .int _) (.cons (h2.both (y vs h1) hw') .nil))
  stop := fun ι' H' hp' F R st => by
    obtain ⟨vs, h1, h2⟩ := E ι' H' hp' F R st
    exact ⟨vs, h1, by rw [enumd_length]; exact h2.length⟩
theorem zip2_length : ∀ (xs ys : List Wv), (zip2 xs ys).length = min xs.length ys.length
  | [], ys => by simp [zip2]
  | x :: xs, [] => by simp [zip2]
  | x :: xs, y :: ys => by rw [zip2, List.length_cons, List.length_cons, List.length_cons, zip2_length]; omega
theorem zip2_get : ∀ (xs ys : List Wv) (i : Nat) (w : Wv), (zip2 xs ys)[i]? = some w → ∃ x y, xs[i]? = some x ∧ ys[i]? = some y ∧ w = .tup [x, y]
  | [], ys, i, w, h => by simp [zip2] at h
  | x :: xs, [], i, w, h => by simp [zip2] at h
  | x :: xs, y :: ys, 0, w, h => by
    simp only [zip2, List.getElem?_cons_zero, Option.some.injEq] at h
    exact ⟨x, y, rfl, rfl, h.symm⟩
  | x :: xs, y :: ys, i + 1, w, h => by
    rw [zip2, List.getElem?_cons_succ] at h
    simpa using zip2_get xs ys i w h
theorem wk_zip {b : Bool} {a : Addr} {ws : List Wv} {ck : Ck} {b' : Bool} {a' : Addr} {ws' : List Wv} {ck' : Ck} (E : El n ι H b a ws ck) (E' : El n ι H b' a' ws' ck') : Wk n ι H (JZ n.K b a b' a') (zip2 ws ws') (ck ++ ck') where
  go := fun ι' H' hp' i F R st hi => by
    obtain ⟨s1, s2⟩ := stay_append st
    obtain ⟨vs, h1, h2⟩ := E ι' H' hp' F R s1
    obtain ⟨us, h1', h2'⟩ := E' ι' H' hp' F R s2
    rw [zip2_length] at hi
    obtain ⟨v, h3, _⟩ := h2.get1 (i := i) (by omega)
    obtain ⟨u, h3', _⟩ := h2'.get1 (i := i) (by omega)
    exact ⟨vs, us, v, u, h1, h1', h3, h3'⟩
  yld := fun ι' H' hp' i w F R st hw v H2 y => by
    obtain ⟨s1, s2⟩ := stay_append st
    obtain ⟨vs, h1, h2⟩ := E ι' H' hp' F R s1
    obtain ⟨us, h1', h2'⟩ := E' ι' H' hp' F R s2
    obtain ⟨T, x, x', rfl, hn, rfl, y, y'⟩ := y
    obtain ⟨p, q, g1, g2, rfl⟩ := zip2_get _ _ _ _ hw
    exact R.newT hn (.cons (h2.both (y vs h1) g1) (.cons (h2'.both (y' us h1') g2) .nil))
  stop := fun ι' H' hp' F R st => by
    obtain ⟨s1, s2⟩ := stay_append st
    obtain ⟨vs, h1, h2⟩ := E ι' H' hp' F R s1
    obtain ⟨us, h1', h2'⟩ := E' ι' H' hp' F R s2
    exact ⟨vs, us, h1, h1', by rw [zip2_length, h2.length, h2'.length]⟩
theorem zip3_length : ∀ (xs ys zs : List Wv), (zip3 xs ys zs).length = min (min xs.length ys.length) zs.length
  | [], ys, zs => by simp [zip3]
  | x :: xs, [], zs => by simp [zip3]
  | x :: xs, y :: ys, [] => by simp [zip3]
  | x :: xs, y :: ys, z :: zs => by rw [zip3, List.length_cons, List.length_cons, List.length_cons, List.length_cons, zip3_length]; omega
theorem zip3_get : ∀ (xs ys zs : List Wv) (i : Nat) (w : Wv), (zip3 xs ys zs)[i]? = some w → ∃ x y z, xs[i]? = some x ∧ ys[i]? = some y ∧ zs[i]? = some z ∧ w = .tup [x, y, z]
  | [], ys, zs, i, w, h => by simp [zip3] at h
  | x :: xs, [], zs, i, w, h => by simp [zip3] at h
  | x :: xs, y :: ys, [], i, w, h => by simp [zip3] at h
  | x :: xs, y :: ys, z :: zs, 0, w, h => by
    simp only [zip3, List.getElem?_cons_zero, Option.some.injEq] at h
    exact ⟨x, y, z, rfl, rfl, rfl, h.symm⟩
  | x :: xs, y :: ys, z :: zs, i + 1, w, h => by
    rw [zip3, List.getElem?_cons_succ] at h
    simpa using zip3_get xs ys zs i w h
theorem wk_zip3 {b : Bool} {a : Addr} {ws : List Wv} {ck : Ck} {b' : Bool} {a' : Addr} {ws' : List Wv} {ck' : Ck} {b2 : Bool} {a2 : Addr} {ws2 : List Wv} {ck2 : Ck} (E : El n ι H b a ws ck) (E' : El n ι H b' a' ws' ck') (E2 : El n ι H b2 a2 ws2 ck2) :
    Wk n ι H (JZ3 n.K b a b' a' b2 a2) (zip3 ws ws' ws2) (ck ++ (ck' ++ ck2)) where
  go := fun ι' H' hp' i F R st hi => by
    obtain ⟨s1, s23⟩ := stay_append st
    obtain ⟨s2, s3⟩ := stay_append s23
    obtain ⟨vs, h1, h2⟩ := E ι' H' hp' F R s1
    obtain ⟨us, h1', h2'⟩ := E' ι' H' hp' F R s2
    obtain ⟨ts, h12, h22⟩ := E2 ι' H' hp' F R s3
    rw [zip3_length] at hi
    obtain ⟨v, h3, _⟩ := h2.get1 (i := i) (by omega)
    obtain ⟨u, h3', _⟩ := h2'.get1 (i := i) (by omega)
    obtain ⟨t, h32, _⟩ := h22.get1 (i := i) (by omega)
    exact ⟨vs, us, ts, v, u, t, h1, h1', h12, h3, h3', h32⟩
  yld := fun ι' H' hp' i w F R st hw v H2 y => by
    obtain ⟨s1, s23⟩ := stay_append st
    obtain ⟨s2, s3⟩ := stay_append s23
    obtain ⟨vs, h1, h2⟩ := E ι' H' hp' F R s1
    obtain ⟨us, h1', h2'⟩ := E' ι' H' hp' F R s2
    obtain ⟨ts, h12, h22⟩ := E2 ι' H' hp' F R s3
    obtain ⟨T, x, x', x2, rfl, hn, rfl, y, y', y2⟩ := y
    obtain ⟨p, q, r, g1, g2, g3, rfl⟩ := zip3_get _ _ _ _ _ hw
    exact R.newT hn (.cons (h2.both (y vs h1) g1) (.cons (h2'.both (y' us h1') g2) (.cons (h22.both (y2 ts h12) g3) .nil)))
  stop := fun ι' H' hp' F R st => by
    obtain ⟨s1, s23⟩ := stay_append st
    obtain ⟨s2, s3⟩ := stay_append s23
    obtain ⟨vs, h1, h2⟩ := E ι' H' hp' F R s1
    obtain ⟨us, h1', h2'⟩ := E' ι' H' hp' F R s2
    obtain ⟨ts, h12, h22⟩ := E2 ι' H' hp' F R s3
    exact ⟨vs, us, ts, h1, h1', h12, by rw [zip3_length, h2.length, h2'.length, h22.length]⟩
theorem upTo_get {lo : Int} {m i : Nat} {w : Wv} (h : (upTo lo m)[i]? = some w) : w = .int (lo + (i : Nat)) := by
  unfold upTo at h
  rw [List.getElem?_map, Option.map_eq_some_iff] at h
  obtain ⟨j, h1, rfl⟩ := h
  have := List.getElem?_range (n := m) (i := i)
  rw [List.getElem?_eq_some_iff] at h1
  obtain ⟨h2, h3⟩ := h1
  rw [List.getElem_range] at h3
  rw [h3]
theorem upTo_length {lo : Int} {m : Nat} : (upTo lo m).length = m := by simp [upTo]
theorem wk_rng {lo : Int} {m : Nat} : Wk n ι H (L2.Itr lo m) (upTo lo m) [] where
  go := fun ι' H' hp' i F R st hi => by rwa [upTo_length] at hi
  yld := fun ι' H' hp' i w F R st hw v H2 y => by
    obtain ⟨rfl, rfl⟩ := y
    rw [upTo_get hw]
    exact ⟨Fr.refl _ _, R, .int _⟩
  stop := fun ι' H' hp' F R st => by rw [upTo_length]; exact Nat.le_refl m
theorem rev_get {α : Type} {l : List α} {i : Nat} {x : α} (h : l.reverse[i]? = some x) : l[l.length - 1 - i]? = some x := by
  have hi : i < l.length := by simpa using (List.getElem?_eq_some_iff.mp h).1
  rw [List.getElem?_reverse hi] at h; exact h
theorem wk_rev {b : Bool} {a : Addr} {ws : List Wv} {ck : Ck} (E : El n ι H b a ws ck) : Wk n ι H (match b with | true => RT.ItvT n.K a ws.length | false => L2.Itv n.K a ws.length) ws.reverse ck := by
  cases b with
  | true =>
    refine ⟨fun ι' H' hp' i F R st hi => ?_, fun ι' H' hp' i w F R st hw v H2 y => ?_, fun ι' H' hp' F R st => ?_⟩
    · obtain ⟨vs, h1, h2⟩ := E ι' H' hp' F R st
      rw [List.length_reverse] at hi
      obtain ⟨v, h3, _⟩ := h2.get1 (i := ws.length - 1 - i) (by omega)
      exact ⟨hi, vs, v, h1, h3⟩
    · obtain ⟨vs, h1, h2⟩ := E ι' H' hp' F R st
      obtain ⟨rfl, y⟩ := y
      exact ⟨Fr.refl _ _, R, h2.both (y vs h1) (rev_get hw)⟩
    · rw [List.length_reverse]; exact Nat.le_refl _
  | false =>
    refine ⟨fun ι' H' hp' i F R st hi => ?_, fun ι' H' hp' i w F R st hw v H2 y => ?_, fun ι' H' hp' F R st => ?_⟩
    · obtain ⟨vs, h1, h2⟩ := E ι' H' hp' F R st
      rw [List.length_reverse] at hi
      obtain ⟨v, h3, _⟩ := h2.get1 (i := ws.length - 1 - i) (by omega)
      exact ⟨hi, vs, v, h1, h3⟩
    · obtain ⟨vs, h1, h2⟩ := E ι' H' hp' F R st
      obtain ⟨rfl, y⟩ := y
      exact ⟨Fr.refl _ _, R, h2.both (y vs h1) (rev_get hw)⟩
    · rw [List.length_reverse]; exact Nat.le_refl _
end

/-! ### the readings of what is walked -/
section
variable {n : Nam} {ι : List Addr} {H : Hp} {hp : Hs} {W : Wx} {X : Cx} {P : Wd} {tg : Expr}
def GI (n : Nam) (W : Wx) (P : Wd) (it : Itr) : TI := fun σ H R => ∃ ι e hp, SR n ι H σ e hp ∧ Af n (fun ι H (J : It) (src : Src) => Wk n ι H J src.1 src.2) ι H (evi P it e hp) R (W σ)
theorem pi_wk {e : Expr} {t t' : TI} (h : PI X tg e t) (w : ∀ σ H R, t' σ H R → t σ H R) : PI X tg e t' := ⟨fun pins s σ H R I q => h.run pins s σ H R I (w σ H R q)⟩
theorem i_seq {a : Expr} {x : Ex} (hK : X.K = n.K) (ha : PE X a (G n W P x)) : PI X tg a (GI n W P (.seq x)) := by
  refine pi_wk (pi_sq ha) fun σ H R ⟨ι, e, hp, S, A⟩ => ?_
  simp only [evi] at A
  refine ⟨ι, e, hp, S, (Af.bind A).mono ?_⟩
  rintro v H1 ⟨ι1, hp1, w, F1, R1, V1, A1⟩
  cases hs : srcOf hp1 w with
  | none => rw [hs] at A1; exact A1.elim
  | some src =>
    obtain ⟨ws, ck⟩ := src
    rw [hs] at A1
    obtain ⟨b, p, rfl, E, st⟩ := srcOf_el R1 V1 hs
    obtain ⟨vs, h1, h2⟩ := E ι1 H1 hp1 (Fr.refl _ _) R1 st
    exact ⟨b, p, rfl, ⟨vs, hK ▸ h1⟩, A1.here R1 (hK ▸ wk_seq E)⟩
theorem Rz.bind_congr {α β : Type} {r : Rz α} {f g : α → Hs → Rz β} (h : ∀ a h', r = .ok a h' → f a h' = g a h') : r.bind f = r.bind g := by
  cases r with
  | ok a h' => exact h a h' rfl
  | exc c w h' => rfl
  | bad => rfl
theorem evs_length : ∀ {xs : List Ex} {e : Ev} {h h' : Hs} {ws : List Wv}, evs P xs e h = .ok ws h' → ws.length = xs.length
  | [], e, h, h', ws, q => by
    simp only [evs] at q; cases q; rfl
  | x :: xs, e, h, h', ws, q => by
    simp only [evs] at q
    cases h1 : ev P x e h with
    | ok w k =>
      rw [h1, Rz.bind_ok] at q
      cases h2 : evs P xs e k with
      | ok us k2 =>
        rw [h2, Rz.bind_ok] at q
        cases q
        rw [List.length_cons, List.length_cons, evs_length h2]
      | exc c w2 k2 => rw [h2] at q; cases q
      | bad => rw [h2] at q; cases q
    | exc c w k => rw [h1] at q; cases q
    | bad => rw [h1] at q; cases q
/-- the values of so many expressions -/
theorem Af.evs {α β : Type} {Rel : List Addr → Hp → β → α → Prop} {xs : List Ex} {e : Ev} {k : List Wv → Hs → Rz α} {Q : β → Hp → Prop} {E : Nat → Wv → Hs → List Addr → Hp → Prop} (A : Af n Rel ι H ((evs P xs e hp).bind k) Q E) :
    Af n (VRs n) ι H (SL.evs P xs e hp) (fun vs H1 => ∃ ι1 hp1 ws, Fr ι H ι1 H1 ∧ HR n ι1 H1 hp1 ∧ VRs n ι1 H1 vs ws ∧ ws.length = xs.length ∧ Af n Rel ι1 H1 (k ws hp1) Q E) E := by
  have q : (SL.evs P xs e hp).bind k = (SL.evs P xs e hp).bind fun ws h1 => if ws.length = xs.length then k ws h1 else .bad := Rz.bind_congr fun a h' h => by rw [if_pos (evs_length h)]
  rw [q] at A
  refine (Af.bind A).mono ?_
  rintro vs H1 ⟨ι1, hp1, ws, F1, R1, V1, A1⟩
  split at A1
  · rename_i hl
    exact ⟨ι1, hp1, ws, F1, R1, V1, hl, A1⟩
  · exact A1.elim
theorem VRs.one {vs : List V} {ws : List Wv} (h : VRs n ι H vs ws) (hl : ws.length = 1) : ∃ v w, vs = [v] ∧ ws = [w] ∧ VR n ι H v w := by
  cases h with
  | nil => cases hl
  | cons h t =>
    cases t with
    | nil => exact ⟨_, _, rfl, rfl, h⟩
    | cons _ _ => simp at hl
theorem VRs.two {vs : List V} {ws : List Wv} (h : VRs n ι H vs ws) (hl : ws.length = 2) : ∃ v w v' w', vs = [v, v'] ∧ ws = [w, w'] ∧ VR n ι H v w ∧ VR n ι H v' w' := by
  cases h with
  | nil => cases hl
  | cons h t =>
    obtain ⟨v, w, rfl, rfl, h'⟩ := t.one (by simpa using hl)
    exact ⟨_, _, _, _, rfl, rfl, h, h'⟩
theorem VRs.three {vs : List V} {ws : List Wv} (h : VRs n ι H vs ws) (hl : ws.length = 3) : ∃ v w v' w' v2 w2, vs = [v, v', v2] ∧ ws = [w, w', w2] ∧ VR n ι H v w ∧ VR n ι H v' w' ∧ VR n ι H v2 w2 := by
  cases h with
  | nil => cases hl
  | cons h t =>
    obtain ⟨v, w, v', w', rfl, rfl, h', h2⟩ := t.two (by simpa using hl)
    exact ⟨_, _, _, _, _, _, rfl, rfl, h, h', h2⟩
theorem i_enm {a : Expr} {x : Ex} {p pos tpos : Pos} {elts : List Expr} {kk : Nat} (hK : X.K = n.K) (hg : Gl X "enumerate") (hm : X.mg "enumerate" = none) (ha : PA X [a] (GA n W P [x])) (hs : starEach [a] X.env = [(false, eval a X.env)]) :
    PI X (.Tuple elts kk tpos) (.Call (.Name "enumerate" p) [a] [] pos) (GI n W P (.enm x)) := by
  refine pi_wk (pi_en hg hm ha hs) fun σ H R ⟨ι, e, hp, S, A⟩ => ?_
  simp only [evi] at A
  refine ⟨ι, e, hp, S, ?_⟩
  have A' : Af n (fun ι H (J : It) (src : Src) => Wk n ι H J src.1 src.2) ι H ((evs P [x] e hp).bind fun ws h1 => match ws with | [w] => Rz.of ((srcL h1 w).map fun s => (enumd 0 s.1, s.2)) h1 | _ => .bad) R (W σ) := by
    simp only [evs, Rz.bind_assoc, Rz.bind_ok]
    exact A
  refine (Af.evs A').mono ?_
  rintro v H1 ⟨ι1, hp1, ws, F1, R1, V1, hl, A1⟩
  obtain ⟨v, w, rfl, rfl, V2⟩ := V1.one hl
  simp only at A1
  cases hs : srcL hp1 w with
  | none => rw [hs] at A1; exact A1.elim
  | some src =>
    obtain ⟨ws, ck⟩ := src
    rw [hs] at A1
    obtain ⟨p, rfl, E, st⟩ := srcL_el R1 V2 hs
    obtain ⟨vs, h1, h2⟩ := E ι1 H1 hp1 (Fr.refl _ _) R1 st
    exact ⟨p, vs, rfl, hK ▸ h1, A1.here R1 (hK ▸ wk_enum E)⟩
theorem i_zip2 {a b : Expr} {x y : Ex} {p pos tpos : Pos} {elts : List Expr} {kk : Nat} (hK : X.K = n.K) (hg : Gl X "zip") (hm : X.mg "zip" = none) (ha : PA X [a, b] (GA n W P [x, y]))
    (hs : starEach [a, b] X.env = (false, eval a X.env) :: starEach [b] X.env) (hpl : (backTo pos (starEach [b] X.env)).any (·.1) = false) :
    PI X (.Tuple elts kk tpos) (.Call (.Name "zip" p) [a, b] [] pos) (GI n W P (.zip [x, y])) := by
  refine pi_wk (pi_zp hg hm ha hs hpl) fun σ H R ⟨ι, e, hp, S, A⟩ => ?_
  simp only [evi] at A
  refine ⟨ι, e, hp, S, (Af.evs A).mono ?_⟩
  rintro vs H1 ⟨ι1, hp1, ws, F1, R1, V1, hl, A1⟩
  obtain ⟨v, w, v', w', rfl, rfl, V1, V2⟩ := V1.two hl
  simp only [srcZip] at A1
  split at A1
  · rename_i q1 q2
    · obtain ⟨b1, p1, rfl, E1, st1⟩ := srcOf_el R1 V1 q1
      obtain ⟨b2, p2, rfl, E2, st2⟩ := srcOf_el R1 V2 q2
      obtain ⟨vs1, h1, _⟩ := E1 ι1 H1 hp1 (Fr.refl _ _) R1 st1
      obtain ⟨vs2, h2, _⟩ := E2 ι1 H1 hp1 (Fr.refl _ _) R1 st2
      exact ⟨b1, p1, vs1, b2, p2, vs2, rfl, hK ▸ h1, hK ▸ h2, A1.here R1 (hK ▸ wk_zip E1 E2)⟩
  · exact A1.elim
theorem i_zip3 {a b d : Expr} {x y z : Ex} {p pos tpos : Pos} {elts : List Expr} {kk : Nat} (hK : X.K = n.K) (hg : Gl X "zip") (hm : X.mg "zip" = none) (ha : PA X [a, b, d] (GA n W P [x, y, z]))
    (hs : starEach [a, b, d] X.env = (false, eval a X.env) :: starEach [b, d] X.env) (hpl : (backTo pos (starEach [b, d] X.env)).any (·.1) = false) :
    PI X (.Tuple elts kk tpos) (.Call (.Name "zip" p) [a, b, d] [] pos) (GI n W P (.zip [x, y, z])) := by
  refine pi_wk (pi_zp3 hg hm ha hs hpl) fun σ H R ⟨ι, e, hp, S, A⟩ => ?_
  simp only [evi] at A
  refine ⟨ι, e, hp, S, (Af.evs A).mono ?_⟩
  rintro vs H1 ⟨ι1, hp1, ws, F1, R1, V1, hl, A1⟩
  obtain ⟨v, w, v', w', v2, w2, rfl, rfl, V1, V2, V3⟩ := V1.three hl
  simp only [srcZip] at A1
  split at A1
  · rename_i q1 q2 q3
    · obtain ⟨b1, p1, rfl, E1, st1⟩ := srcOf_el R1 V1 q1
      obtain ⟨b2, p2, rfl, E2, st2⟩ := srcOf_el R1 V2 q2
      obtain ⟨b3, p3, rfl, E3, st3⟩ := srcOf_el R1 V3 q3
      obtain ⟨vs1, h1, _⟩ := E1 ι1 H1 hp1 (Fr.refl _ _) R1 st1
      obtain ⟨vs2, h2, _⟩ := E2 ι1 H1 hp1 (Fr.refl _ _) R1 st2
      obtain ⟨vs3, h3, _⟩ := E3 ι1 H1 hp1 (Fr.refl _ _) R1 st3
      exact ⟨b1, p1, vs1, b2, p2, vs2, b3, p3, vs3, rfl, hK ▸ h1, hK ▸ h2, hK ▸ h3, A1.here R1 (hK ▸ wk_zip3 E1 E2 E3)⟩
  · exact A1.elim
theorem small_of {j : Int} (h : small62 j = true) : -(2 ^ 62) ≤ j ∧ j < 2 ^ 62 := by
  unfold small62 at h
  simp only [Bool.and_eq_true, decide_eq_true_eq] at h
  exact h
theorem i_rng1 {a : Expr} {x : Ex} {p pos : Pos} (hg : Gl X "range") (hm : X.mg "range" = none) (ha : PA X [a] (GA n W P [x])) (hs : starEach [a] X.env = [(false, eval a X.env)]) : PI X tg (.Call (.Name "range" p) [a] [] pos) (GI n W P (.rng [x])) := by
  refine pi_wk (pi_range1 hg hm ha hs) fun σ H R ⟨ι, e, hp, S, A⟩ => ?_
  simp only [evi] at A
  refine ⟨ι, e, hp, S, (Af.evs A).mono ?_⟩
  rintro vs H1 ⟨ι1, hp1, ws, F1, R1, V1, hl, A1⟩
  obtain ⟨v, w, rfl, rfl, V⟩ := V1.one hl
  cases V with
  | int j =>
    simp only [srcRange] at A1
    split at A1
    · rename_i hj
      obtain ⟨q1, q2⟩ := small_of hj
      exact ⟨j, rfl, q1, q2, A1.here R1 wk_rng⟩
    · exact A1.elim
  | _ => exact A1.elim
theorem i_rng2 {a b : Expr} {x y : Ex} {p pos : Pos} (hg : Gl X "range") (hm : X.mg "range" = none) (ha : PA X [a, b] (GA n W P [x, y])) (hs : starEach [a, b] X.env = [(false, eval a X.env), (false, eval b X.env)]) (hs2 : starEach [b] X.env = [(false, eval b X.env)]) : PI X tg (.Call (.Name "range" p) [a, b] [] pos) (GI n W P (.rng [x, y])) := by
  refine pi_wk (pi_range2 hg hm ha hs hs2) fun σ H R ⟨ι, e, hp, S, A⟩ => ?_
  simp only [evi] at A
  refine ⟨ι, e, hp, S, (Af.evs A).mono ?_⟩
  rintro vs H1 ⟨ι1, hp1, ws, F1, R1, V1, hl, A1⟩
  obtain ⟨v, w, v', w', rfl, rfl, V, V'⟩ := V1.two hl
  cases V with
  | int i =>
    cases V' with
    | int j =>
      simp only [srcRange] at A1
      split at A1
      · rename_i hj
        simp only [Bool.and_eq_true] at hj
        obtain ⟨q1, q2⟩ := small_of hj.1
        obtain ⟨q3, q4⟩ := small_of hj.2
        exact ⟨i, j, rfl, ⟨q1, q2, q3, q4⟩, A1.here R1 wk_rng⟩
      · exact A1.elim
    | _ => exact A1.elim
  | _ => exact A1.elim
theorem i_rev {a : Expr} {x : Ex} {p pos : Pos} (hK : X.K = n.K) (hg : Gl X "reversed") (hm : X.mg "reversed" = none) (ha : PE X a (G n W P x)) (hs : starEach [a] X.env = (false, eval a X.env) :: starEach [] X.env) : PI X tg (.Call (.Name "reversed" p) [a] [] pos) (GI n W P (.rev x)) := by
  refine pi_wk (RT.pi_revA hg hm ha hs) fun σ H R ⟨ι, e, hp, S, A⟩ => ?_
  simp only [evi] at A
  refine ⟨ι, e, hp, S, (Af.bind A).mono ?_⟩
  rintro v H1 ⟨ι1, hp1, w, F1, R1, V1, A1⟩
  cases hs : srcOf hp1 w with
  | none => rw [hs] at A1; exact A1.elim
  | some src =>
    obtain ⟨ws, ck⟩ := src
    rw [hs] at A1
    obtain ⟨b, p, rfl, E, st⟩ := srcOf_el R1 V1 hs
    obtain ⟨vs, h1, h2⟩ := E ι1 H1 hp1 (Fr.refl _ _) R1 st
    have K := wk_rev E
    rw [← h2.length] at K
    refine ⟨p, vs, rfl, ?_⟩
    cases b with
    | false => exact .inl ⟨hK ▸ h1, A1.here R1 (hK ▸ K)⟩
    | true => exact .inr ⟨hK ▸ h1, A1.here R1 (hK ▸ K)⟩
end
end SL

set_option maxRecDepth 100000
set_option maxHeartbeats 1000000
/-! Targets, comprehensions. -/
namespace SL
open PySem L2 PyProof.Rows
set_option autoImplicit false

section
variable {n : Nam} {ι : List Addr} {H : Hp} {hp : Hs} {σ σ' : L2.St} {e e' : Ev}
/-- names by their values -/
structure ER (n : Nam) (ι : List Addr) (H : Hp) (σ : L2.St) (e : Ev) : Prop where
  len : σ.length = e.length
  at_ : ∀ (i : Nat) (w : Wv), e[i]? = some (some w) → ∃ v, σ[i]? = some (some v) ∧ VR n ι H v w
theorem SR.er (S : SR n ι H σ e hp) : ER n ι H σ e := ⟨S.len, S.at_⟩
theorem ER.sr (S : ER n ι H σ e) (R : HR n ι H hp) : SR n ι H σ e hp := ⟨R, S.len, S.at_⟩
theorem ER.mono {ι' : List Addr} {H' : Hp} (S : ER n ι H σ e) (F : Fr ι H ι' H') : ER n ι' H' σ e := ⟨S.len, fun i w h => let ⟨v, h1, h2⟩ := S.at_ i w h; ⟨v, h1, h2.mono F⟩⟩
theorem ER.set (S : ER n ι H σ e) {v : V} {w : Wv} (h : VR n ι H v w) (i : Nat) : ER n ι H (σ.set i (some v)) (e.set i (some w)) where
  len := by rw [List.length_set, List.length_set, S.len]
  at_ := fun j u q => by
    by_cases hj : i = j
    · subst hj
      by_cases hl : i < e.length
      · rw [List.getElem?_set_self hl] at q
        cases q
        exact ⟨v, List.getElem?_set_self (by rw [S.len]; exact hl), h⟩
      · rw [List.getElem?_eq_none (by rw [List.length_set]; omega)] at q; cases q
    · rw [List.getElem?_set_ne hj] at q ⊢
      exact S.at_ j u q
theorem ER.unset (S : ER n ι H σ e) (i : Nat) : ER n ι H (σ.set i none) (e.set i none) where
  len := by rw [List.length_set, List.length_set, S.len]
  at_ := fun j u q => by
    by_cases hj : i = j
    · subst hj
      by_cases hl : i < e.length
      · rw [List.getElem?_set_self hl] at q; cases q
      · rw [List.getElem?_eq_none (by rw [List.length_set]; omega)] at q; cases q
    · rw [List.getElem?_set_ne hj] at q ⊢
      exact S.at_ j u q
theorem ER.wipe (S : ER n ι H σ e) : ∀ vs : List Nat, ER n ι H (L2.wipe σ vs) (wipes e vs)
  | [] => S
  | v :: vs => (S.wipe vs).unset v
mutual
def Tg.slots : Tg → List Nat
  | .name i => [i]
  | .tup ts => tgSlots ts
def tgSlots : List Tg → List Nat
  | [] => []
  | t :: ts => t.slots ++ tgSlots ts
end
/-- only these names were changed -/
structure Sm2 (vs : List Nat) (σ σ' : L2.St) : Prop where
  len : σ'.length = σ.length
  at_ : ∀ i, i ∉ vs → σ'[i]? = σ[i]?
theorem Sm2.refl (vs : List Nat) (σ : L2.St) : Sm2 vs σ σ := ⟨rfl, fun _ _ => rfl⟩
theorem Sm2.trans {vs vs' : List Nat} {σ2 : L2.St} (a : Sm2 vs σ σ') (b : Sm2 vs' σ' σ2) : Sm2 (vs ++ vs') σ σ2 := ⟨b.len.trans a.len, fun i h => by
  rw [List.mem_append, not_or] at h
  rw [b.at_ i h.2, a.at_ i h.1]⟩
theorem wipe_get (σ : L2.St) : ∀ (vs : List Nat) (i : Nat), (L2.wipe σ vs)[i]? = if i ∈ vs then (if i < σ.length then some none else none) else σ[i]?
  | [], i => by simp [L2.wipe]
  | v :: vs, i => by
    rw [L2.wipe, List.getElem?_set]
    by_cases h : v = i
    · subst h
      rw [if_pos rfl, wipe_length, if_pos List.mem_cons_self]
    · rw [if_neg h, wipe_get σ vs i]
      have : (i ∈ v :: vs) ↔ i ∈ vs := by simp only [List.mem_cons, Ne.symm h, false_or]
      simp only [this]
theorem Sm2.wipe {vs us : List Nat} (h : Sm2 us σ σ') (hs : ∀ i ∈ us, i ∈ vs) : L2.wipe σ' vs = L2.wipe σ vs := by
  apply List.ext_getElem?
  intro i
  rw [wipe_get, wipe_get, h.len]
  split
  · rfl
  · rename_i q
    exact h.at_ i fun z => q (hs i z)
theorem wipe_wipe (vs : List Nat) : L2.wipe (L2.wipe σ vs) vs = L2.wipe σ vs := by
  apply List.ext_getElem?
  intro i
  rw [wipe_get, wipe_length, wipe_get]
  split <;> rfl
/-- a target's reading -/
def gB (n : Nam) (t : Tg) : TG := fun v σ H Q => ∃ ι e hp w e', SR n ι H σ e hp ∧ VR n ι H v w ∧ t.bind w e = some e' ∧ ∀ σ', ER n ι H σ' e' → Sm2 t.slots σ σ' → Q σ' H
def gBs (n : Nam) (ts : List Tg) : TGs := fun vs σ H Q => ∃ ι e hp ws e', SR n ι H σ e hp ∧ VRs n ι H vs ws ∧ binds ts ws e = some e' ∧ ∀ σ', ER n ι H σ' e' → Sm2 (tgSlots ts) σ σ' → Q σ' H
variable {X : Cx}
theorem pg_wk {e : Expr} {t t' : TG} (h : PG X e t) (w : ∀ v σ H Q, t' v σ H Q → t v σ H Q) : PG X e t' := ⟨fun pins s σ H v u Q I r q => h.run pins s σ H v u Q I r (w v σ H Q q)⟩
theorem pgs_wk {e : List Expr} {t t' : TGs} (h : PGs X e t) (w : ∀ v σ H Q, t' v σ H Q → t v σ H Q) : PGs X e t' := ⟨fun pins s σ H v u Q I r q => h.run pins s σ H v u Q I r (w v σ H Q q)⟩
theorem tg_name {i : Nat} {x : Str} {pos : Pos} (hN : X.N.Nodup) (hi : X.N[i]? = some x) (hx : Loc X.env.scope x) (hf : X.fn x = true ∨ X.env.scope.names.lookup x = some .local) : PG X (.Name x pos) (gB n (.name i)) :=
  pg_wk (pg_name hN hi hx hf) fun v σ H Q ⟨ι, e, hp, w, e', S, V, b, q⟩ => by
    simp only [Tg.bind] at b
    split at b
    · cases b
      refine q _ (S.er.set V i) ⟨List.length_set .., fun j h => ?_⟩
      simp only [Tg.slots, List.mem_singleton] at h
      exact List.getElem?_set_ne (Ne.symm h)
    · cases b
theorem tgs_nil : PGs X [] (gBs n []) := pgs_wk pgs_nil fun vs σ H Q ⟨ι, e, hp, ws, e', S, V, b, q⟩ => by
  cases ws with
  | nil =>
    simp only [binds, Option.some.injEq] at b
    subst b
    cases V
    exact ⟨rfl, q _ S.er (Sm2.refl _ _)⟩
  | cons w ws => simp [binds] at b
theorem tgs_cons {a : Expr} {es : List Expr} {t : Tg} {ts : List Tg} (h1 : PG X a (gB n t)) (h2 : PGs X es (gBs n ts)) (hs : (assignEach (a :: es) X.env).map (·.2) = assign a X.env :: (assignEach es X.env).map (·.2)) : PGs X (a :: es) (gBs n (t :: ts)) :=
  pgs_wk (pgs_cons h1 h2 hs) fun vs σ H Q ⟨ι, e, hp, ws, e', S, V, b, q⟩ => by
    cases V with
    | nil => simp [binds] at b
    | cons V1 V2 =>
      simp only [binds] at b
      split at b
      · rename_i e1 b1
        exact ⟨_, _, rfl, ι, e, hp, _, e1, S, V1, b1, fun σ1 S1 m1 => ⟨ι, e1, hp, _, e', S1.sr S.hr, V2, b, fun σ2 S2 m2 => q σ2 S2 (m1.trans m2)⟩⟩
      · cases b
theorem binds_length : ∀ {ts : List Tg} {ws : List Wv} {e e' : Ev}, binds ts ws e = some e' → ws.length = ts.length
  | [], [], e, e', h => rfl
  | [], _ :: _, e, e', h => by simp [binds] at h
  | _ :: _, [], e, e', h => by simp [binds] at h
  | t :: ts, w :: ws, e, e', h => by
    simp only [binds] at h
    split at h
    · rw [List.length_cons, List.length_cons, binds_length h]
    · cases h
theorem tg_tup {es : List Expr} {k : Nat} {ts : List Tg} {pos : Pos} (hK : X.K = n.K) (hc : X.calm = true) (h : PGs X es (gBs n ts)) (hn : (assignEach es X.env).length = ts.length) (hst : (assignEach es X.env).findIdx? (·.1) = none) : PG X (.Tuple es k pos) (gB n (.tup ts)) :=
  pg_wk (pg_tup hc h hn hst) fun v σ H Q ⟨ι, e, hp, w, e', S, V, b, q⟩ => by
    cases w <;> try (simp [Tg.bind] at b; done)
    rename_i ws
    simp only [Tg.bind] at b
    cases V with
    | tup h hs => exact ⟨_, _, rfl, hK ▸ h.seq, by rw [hs.length, binds_length b], ι, e, hp, ws, e', S, hs, b, fun σ' S' m => q σ' S' (by simpa [Tg.slots] using m)⟩

/-! ### comprehensions -/
variable {P : Wd} {W : Wx}
def noW : Wx := fun _ _ _ _ _ _ => False
theorem Af.quiet {α β : Type} {Rel : List Addr → Hp → β → α → Prop} {r : Rz α} {Q : β → Hp → Prop} {E E' : Nat → Wv → Hs → List Addr → Hp → Prop} (A : Af n Rel ι H r.quiet Q E) : Af n Rel ι H r Q E' := by
  cases r with
  | ok a h => exact A
  | exc c w h => exact A.elim
  | bad => exact A.elim
/-- an outcome's relation is what one takes -/
theorem Af.quietBind {α γ β δ : Type} {Rel2 : List Addr → Hp → δ → γ → Prop} {Rel : List Addr → Hp → β → α → Prop} {r : Rz α} {k : α → Hs → Rz γ} {Q : δ → Hp → Prop} {E E' : Nat → Wv → Hs → List Addr → Hp → Prop} (A : Af n Rel2 ι H (r.quiet.bind k) Q E) :
    Af n Rel ι H r (fun b H1 => ∃ ι1 hp1 a, Fr ι H ι1 H1 ∧ HR n ι1 H1 hp1 ∧ Rel ι1 H1 b a ∧ Af n Rel2 ι1 H1 (k a hp1) Q E) E' := (Af.bind A).quiet
/-- one turn of a walk -/
def turnC (P : Wd) (elt : Ex) (own : List Nat) (tg : Tg) (cd : Option Ex) (e : Ev) : Wv → Hs → Rz (Option Wv) := fun w h2 => (Rz.of (tg.bind w (wipes e own)) h2).bind fun e' h3 => match cd with
  | none => (ev P elt e' h3).bind fun v h4 => .ok (some v) h4
  | some c => (tst P c e' h3).bind fun t h4 => if t = true then (ev P elt e' h4).bind fun v h5 => .ok (some v) h5 else .ok none h4
theorem turnC_no {P : Wd} {elt : Ex} {own : List Nat} {tg : Tg} {cd : Option Ex} {e : Ev} {w : Wv} (h : tg.bind w (wipes e own) = none) (hp : Hs) : turnC P elt own tg cd e w hp = .bad := by simp only [turnC, h, Rz.of_none, Rz.bind_bad]
theorem turnC_none {P : Wd} {elt : Ex} {own : List Nat} {tg : Tg} {e e' : Ev} {w : Wv} (h : tg.bind w (wipes e own) = some e') (hp : Hs) : turnC P elt own tg none e w hp = (ev P elt e' hp).bind fun v h4 => .ok (some v) h4 := by simp only [turnC, h, Rz.of_some, Rz.bind_ok]
theorem turnC_some {P : Wd} {elt : Ex} {own : List Nat} {tg : Tg} {c : Ex} {e e' : Ev} {w : Wv} (h : tg.bind w (wipes e own) = some e') (hp : Hs) : turnC P elt own tg (some c) e w hp = (tst P c e' hp).bind fun t h4 => if t = true then (ev P elt e' h4).bind fun v h5 => .ok (some v) h5 else .ok none h4 := by simp only [turnC, h, Rz.of_some, Rz.bind_ok]
theorem ev_comp (elt : Ex) (own : List Nat) (tg : Tg) (it : Itr) (cd : Option Ex) (e : Ev) (h : Hs) : ev P (.comp elt own tg it cd) e h = (evi P it e h).bind fun (src : Src) h1 => compL (turnC P elt own tg cd e) src.2 h1.length src.1 (h1 ++ [.lst []]) := by
  rw [ev]; rfl
def GC (n : Nam) (P : Wd) : Option Ex → TT
  | none => tYes
  | some c => GT n noW P c
theorem compL_at {turn : Wv → Hs → Rz (Option Wv)} {ck : Ck} {k : Nat} {ws : List Wv} {i : Nat} {w : Wv} (h : ws[i]? = some w) (hp : Hs) : compL turn ck k (ws.drop i) hp = if stay hp ck then (turn w hp).quiet.bind fun o h' => match o with
      | some v => match h'[k]? with
        | some (.lst acc) => if acc.length < sizeLine then compL turn ck k (ws.drop (i + 1)) (h'.set k (.lst (acc ++ [v]))) else .bad
        | _ => .bad
      | none => compL turn ck k (ws.drop (i + 1)) h'
    else .bad := by
  obtain ⟨hl, e⟩ := List.getElem?_eq_some_iff.mp h
  rw [List.drop_eq_getElem_cons hl, e, compL]
  all_goals rfl
theorem quiet_bind {α β : Type} (r : Rz α) (f : α → Hs → Rz β) : (r.bind f).quiet = r.quiet.bind fun a h => (f a h).quiet := by cases r <;> rfl
theorem VRs.snoc {vs : List V} {ws : List Wv} (h : VRs n ι H vs ws) {v : V} {w : Wv} (hv : VR n ι H v w) : VRs n ι H (vs ++ [v]) (ws ++ [w]) := h.append (.cons hv .nil)
theorem comp_core {elt : Ex} {own : List Nat} {tg : Tg} {it : Itr} {cd : Option Ex} (hs : ∀ i ∈ tg.slots, i ∈ own) : ∀ σ H Q, G n W P (.comp elt own tg it cd) σ H Q → tLc (GI n W P it) (gB n tg) (GC n P cd) (G n noW P elt) own σ H Q := by
  rintro σ H Q ⟨ι, e, hp, S, A⟩
  rw [ev_comp] at A
  refine ⟨ι, e, hp, S, (Af.bind A).mono ?_⟩
  rintro J H1 ⟨ι1, hp1, ⟨ws, ck⟩, F1, R1, K, A1⟩ D hD
  have K : Wk n ι1 H1 J ws ck := K
  obtain ⟨F2, R2⟩ := R1.push hD (ho := .lst []) (o := .lst []) fun _ => .lst .nil
  have hk : (ι1 ++ [D])[hp1.length]? = some D := by rw [← R1.len, List.getElem?_append_right (Nat.le_refl _), Nat.sub_self]; rfl
  let Nx : Nat → Hp → Prop := fun i H' => ∃ ι' hp', Fr (ι1 ++ [D]) (upd H1 D (.lst [])) ι' H' ∧ HR n ι' H' hp' ∧ Af n (VR n) ι' H' (compL (turnC P elt own tg cd e) ck hp1.length (ws.drop i) hp') Q (W σ)
  refine ⟨fun i m H' => m = ws.length - i ∧ i ≤ ws.length ∧ Nx i H', ⟨ws.length, rfl, Nat.zero_le _, _, _, Fr.refl _ _, R2, A1.at F2⟩, ?_⟩
  rintro i m H' ⟨rfl, hi, ι', hp', F3, R3, A3⟩
  have F23 := F2.trans F3
  by_cases hlt : i < ws.length
  · have hw : ws[i]? = some ws[i] := List.getElem?_eq_getElem hlt
    rw [compL_at hw] at A3
    split at A3
    · rename_i st
      refine .inr ⟨K.go ι' H' hp' i F23 R3 st hlt, Nx (i + 1), fun H2 q => ⟨ws.length - (i + 1), by omega, rfl, hlt, q⟩, fun v H2 y => ?_⟩
      obtain ⟨F4, R4, V4⟩ := K.yld ι' H' hp' i _ F23 R3 st hw v H2 y
      have S4 := (((S.er.mono F1).mono F23).mono F4).wipe own
      have A4 := A3.at F4
      have F34 := F3.trans F4
      have hk' : ι'[hp1.length]? = some D := pre_get F3.pre hk
      -- a turn's end
      have fin : ∀ ι5 hp5 H5 (z : V) (w : Wv), Fr ι' H2 ι5 H5 → HR n ι5 H5 hp5 → VR n ι5 H5 z w → Af n (VR n) ι5 H5 (match hp5[hp1.length]? with
          | some (.lst acc) => if acc.length < sizeLine then compL (turnC P elt own tg cd e) ck hp1.length (ws.drop (i + 1)) (hp5.set hp1.length (.lst (acc ++ [w]))) else .bad
          | _ => .bad) Q (W σ) → ∃ acc, H5 D = some (.lst acc) ∧ acc.length < sizeLine ∧ Nx (i + 1) (upd H5 D (.lst (acc ++ [z]))) := by
        intro ι5 hp5 H5 z w F5 R5 V5 A5
        split at A5
        · rename_i acc q
          split at A5
          · rename_i hz
            have hk5 := pre_get F5.pre hk'
            obtain ⟨vs, g1, g2⟩ := R5.lstAt hk5 q
            obtain ⟨F6, R6⟩ := R5.set hk5 (ho := .lst (vs ++ [z])) (o := .lst (acc ++ [w])) fun F => .lst ((g2.mono F).snoc (V5.mono F))
            exact ⟨vs, g1, by rw [g2.length]; exact hz, ι5, _, (F34.trans F5).trans F6, R6, A5.at F6⟩
          · exact A5.elim
        · exact A5.elim
      cases hb : tg.bind ws[i] (wipes e own) with
      | none =>
        exfalso
        rw [turnC_no hb] at A4
        exact A4
      | some e' =>
        refine ⟨ι', wipes e own, hp', ws[i], e', S4.sr R4, V4, hb, fun σ2 S2 m2 => ⟨?_, ?_⟩⟩
        · rw [m2.wipe hs, wipe_wipe]
        · cases cd with
          | none =>
            unfold GC tYes
            simp only [if_true]
            rw [turnC_none hb, quiet_bind, Rz.bind_assoc] at A4
            refine ⟨ι', e', hp', S2.sr R4, A4.quietBind.mono ?_⟩
            rintro z H5 ⟨ι5, hp5, w, F5, R5, V5, A5⟩
            exact fin ι5 hp5 H5 z w F5 R5 V5 A5
          | some c =>
            rw [turnC_some hb, quiet_bind, Rz.bind_assoc] at A4
            refine ⟨ι', e', hp', S2.sr R4, A4.quietBind.mono ?_⟩
            rintro b H5 ⟨ι5, hp5, t, F5, R5, rfl, A5⟩
            cases b with
            | false =>
              simp only [Bool.false_eq_true, if_false] at A5 ⊢
              exact ⟨ι5, hp5, F34.trans F5, R5, A5⟩
            | true =>
              simp only [if_true] at A5 ⊢
              rw [quiet_bind, Rz.bind_assoc] at A5
              refine ⟨ι5, e', hp5, (S2.mono F5).sr R5, A5.quietBind.mono ?_⟩
              rintro z H6 ⟨ι6, hp6, w, F6, R6, V6, A6⟩
              exact fin ι6 hp6 H6 z w (F5.trans F6) R6 V6 A6
    · exact A3.elim
  · have e1 : i = ws.length := by omega
    subst e1
    rw [List.drop_length, compL] at A3
    split at A3
    · rename_i st
      exact .inl ⟨K.stop ι' H' hp' F23 R3 st, A3.here R3 (.ref (pre_get F3.pre hk))⟩
    · exact A3.elim
/-- a comprehension's parts, in the block's own context -/
structure CompOk (X : Cx) (n : Nam) (P : Wd) (elt tg : Expr) (ifs : List Expr) (scope : Scope) (x : Ex) (t : Tg) (cd : Option Ex) : Prop where
  tgt : ∀ (s : Shared) (H : Hp) (C : Addr) (cl : List (Str × Addr)) (fp : List Addr), PG (X.blk s H scope (compEnvC scope cl C X.env) fp) tg (gB n t)
  tst : ∀ (s : Shared) (H : Hp) (C : Addr) (cl : List (Str × Addr)) (fp : List Addr), PTs (X.blk s H scope (compEnvC scope cl C X.env) fp) ifs (GC n P cd)
  elt : ∀ (s : Shared) (H : Hp) (C : Addr) (cl : List (Str × Addr)) (fp : List Addr), PE (X.blk s H scope (compEnvC scope cl C X.env) fp) elt (G n noW P x)
theorem g_comp {elt tg iter : Expr} {ifs : List Expr} {scope : Scope} {own : List (Str × Nat)} {pos : Pos} {x : Ex} {t : Tg} {it : Itr} {cd : Option Ex} (hc : X.calm = true) (hN : X.N.Nodup) (hi : PI X tg iter (GI n W P it)) (ok : BlkOk X.N X.env.scope scope own) (C : CompOk X n P elt tg ifs scope x t cd)
    (hs : ∀ i ∈ t.slots, i ∈ own.map (·.2)) (hf : ∀ x, foldedSetIterable iter X.env x = pure x) : PE X (.ListComp elt [⟨tg, iter, ifs, 0⟩] scope pos) (G n W P (.comp x (own.map (·.2)) t it cd)) :=
  pe_wk (pe_lc hc hN hi ok C.tgt C.tst C.elt hf) (comp_core hs)
end
end SL

set_option maxRecDepth 100000
set_option maxHeartbeats 1000000
/-! Statements by the evaluator. -/
namespace SL
open PySem L2 PyProof.Rows
set_option autoImplicit false

/-- how a statement ends, by values -/
inductive FV where
  | nx (σ : L2.St) | bk (σ : L2.St) | ct (σ : L2.St) | rt (v : V)
def FR (n : Nam) (ι : List Addr) (H : Hp) : FV → Fl → Prop
  | .nx σ, .nx e => ER n ι H σ e
  | .bk σ, .brk e => ER n ι H σ e
  | .ct σ, .cont e => ER n ι H σ e
  | .rt v, .ret w => VR n ι H v w
  | _, _ => False
def qD (D : Ends) : FV → Hp → Prop
  | .nx σ, H => D.nx σ H
  | .bk σ, H => D.bk σ H
  | .ct σ, H => D.ct σ H
  | .rt v, H => D.rt v H
def GS (n : Nam) (W : Wx) (m : Ev → Hs → Rz Fl) : TS := fun D σ H => ∃ ι e hp, SR n ι H σ e hp ∧ Af n (FR n) ι H (m e hp) (qD D) (W σ)
section
variable {n : Nam} {ι : List Addr} {H : Hp} {hp : Hs} {σ σ' : L2.St} {e e' : Ev} {X : Cx} {W : Wx} {P : Wd} {D : Ends} {E : Nat → Wv → Hs → List Addr → Hp → Prop}
theorem ps_wk {st : Stmt} {t t' : TS} (h : PS X st t) (w : ∀ D σ H, t' D σ H → t D σ H) : PS X st t' := ⟨fun pins s σ H D I q => h.run pins s σ H D I (w D σ H q)⟩
theorem pss_wk {st : List Stmt} {t t' : TS} (h : PSs X st t) (w : ∀ D σ H, t' D σ H → t D σ H) : PSs X st t' := ⟨fun pins s σ H D I q => h.run pins s σ H D I (w D σ H q)⟩
theorem Af.nx (A : Af n (FR n) ι H (.ok (.nx e) hp) (qD D) E) (R : HR n ι H hp) (S : ER n ι H σ e) : D.nx σ H := Af.here (b := FV.nx σ) A R S
/-- what comes behind a block -/
theorem Af.flow {D' : Ends} {r : Rz Fl} {k : Fl → Hs → Rz Fl} (A : Af n (FR n) ι H (r.bind k) (qD D) E)
    (h1 : ∀ ι1 H1 hp1 σ e, Fr ι H ι1 H1 → HR n ι1 H1 hp1 → ER n ι1 H1 σ e → Af n (FR n) ι1 H1 (k (.nx e) hp1) (qD D) E → D'.nx σ H1)
    (h2 : ∀ ι1 H1 hp1 σ e, Fr ι H ι1 H1 → HR n ι1 H1 hp1 → ER n ι1 H1 σ e → Af n (FR n) ι1 H1 (k (.brk e) hp1) (qD D) E → D'.bk σ H1)
    (h3 : ∀ ι1 H1 hp1 σ e, Fr ι H ι1 H1 → HR n ι1 H1 hp1 → ER n ι1 H1 σ e → Af n (FR n) ι1 H1 (k (.cont e) hp1) (qD D) E → D'.ct σ H1)
    (h4 : ∀ ι1 H1 hp1 v w, Fr ι H ι1 H1 → HR n ι1 H1 hp1 → VR n ι1 H1 v w → Af n (FR n) ι1 H1 (k (.ret w) hp1) (qD D) E → D'.rt v H1) : Af n (FR n) ι H r (qD D') E := by
  refine (Af.bind (Rel := FR n) A).mono ?_
  rintro b H1 ⟨ι1, hp1, a, F, R, V, A1⟩
  cases b <;> cases a <;> first | exact V.elim | skip
  · exact h1 _ _ _ _ _ F R V A1
  · exact h2 _ _ _ _ _ F R V A1
  · exact h3 _ _ _ _ _ F R V A1
  · exact h4 _ _ _ _ _ F R V A1

/-! ### small statements -/
theorem bind_name {i : Nat} {w : Wv} {e e' : Ev} (h : (Tg.name i).bind w e = some e') : e' = e.set i (some w) := by
  simp only [Tg.bind] at h
  split at h
  · exact (Option.some.inj h).symm
  · cases h
theorem s_name {a : Expr} {x : Ex} {i : Nat} {y : Str} {p pos : Pos} (hN : X.N.Nodup) (hi : X.N[i]? = some y) (hx : Loc X.env.scope y) (hf : X.fn y = true ∨ X.env.scope.names.lookup y = some .local) (ha : PE X a (G n W P x)) (hs : swapsWith a (some (.Name y p)) pos.line X.env = pure false) :
    PS X (.Assign [.Name y p] a pos) (GS n W (ex P (.asg (.tg (.name i)) x))) := by
  refine ps_wk (ps_set hN hi hx ha hs hf) fun D σ H ⟨ι, e, hp, S, A⟩ => ?_
  simp only [ex] at A
  refine ⟨ι, e, hp, S, (Af.bind A).mono ?_⟩
  rintro v H1 ⟨ι1, hp1, w, F1, R1, V1, A1⟩
  simp only [store] at A1
  split at A1
  · rename_i e' b
    rw [bind_name b] at A1
    exact A1.nx R1 (((S.er.mono F1).set V1 i))
  · exact A1.elim
theorem s_nameLc {elt tg iter : Expr} {ifs : List Expr} {scope : Scope} {own : List (Str × Nat)} {cpos p pos : Pos} {x : Ex} {t : Tg} {it : Itr} {cd : Option Ex} {i : Nat} {y : Str} (hc : X.calm = true) (hN : X.N.Nodup) (hi : X.N[i]? = some y) (hyl : X.env.scope.names.lookup y = some .local)
    (hsw : swapsWith (.ListComp elt [⟨tg, iter, ifs, 0⟩] scope cpos) (some (.Name y p)) pos.line X.env = pure true) (hit : PI X tg iter (GI n W P it)) (ok : BlkOk X.N X.env.scope scope own) (C : CompOk X n P elt tg ifs scope x t cd)
    (hs : ∀ i ∈ t.slots, i ∈ own.map (·.2)) (hf : ∀ x, foldedSetIterable iter X.env x = pure x) :
    PS X (.Assign [.Name y p] (.ListComp elt [⟨tg, iter, ifs, 0⟩] scope cpos) pos) (GS n W (ex P (.asg (.tg (.name i)) (.comp x (own.map (·.2)) t it cd)))) := by
  refine ps_wk (ps_setLc hc hN hi hyl hsw hit ok C.tgt C.tst C.elt hf) fun D σ H ⟨ι, e, hp, S, A⟩ => ?_
  rw [ex] at A
  refine comp_core hs σ H _ ⟨ι, e, hp, S, (Af.bind A).mono ?_⟩
  rintro v H1 ⟨ι1, hp1, w, F1, R1, V1, A1⟩
  simp only [store] at A1
  split at A1
  · rename_i e' b
    rw [bind_name b] at A1
    exact A1.nx R1 (((S.er.mono F1).set V1 i))
  · exact A1.elim
theorem s_tg {a tg : Expr} {x : Ex} {t : Tg} {pos : Pos} (ha : PE X a (G n W P x)) (hg : PG X tg (gB n t)) (hs : swapsWithSole [tg] a pos.line X.env = pure false) (hw : swappedStores [tg] a X.env = pure none) (h1 : (assignEach [tg] X.env).map (·.2) = [assign tg X.env]) :
    PS X (.Assign [tg] a pos) (GS n W (ex P (.asg (.tg t) x))) := by
  refine ps_wk (ps_asg ha hg hs hw h1) fun D σ H ⟨ι, e, hp, S, A⟩ => ?_
  simp only [ex] at A
  refine ⟨ι, e, hp, S, (Af.bind A).mono ?_⟩
  rintro v H1 ⟨ι1, hp1, w, F1, R1, V1, A1⟩
  simp only [store] at A1
  split at A1
  · rename_i e' b
    exact ⟨ι1, e, hp1, w, e', S.mono F1 R1, V1, b, fun σ' S' m => A1.nx R1 S'⟩
  · exact A1.elim
theorem s_par {a b : Expr} {x y : Ex} {i j : Nat} {u v : Str} {px py pt pos : Pos} {kt k2 : Nat} {pt2 : Pos} (hc : X.calm = true) (hN : X.N.Nodup) (hi : X.N[i]? = some u) (hj : X.N[j]? = some v) (hij : i ≠ j) (hx : X.env.scope.names.lookup u = some .local) (hy : X.env.scope.names.lookup v = some .local) (ha : PA X [a, b] (GA n W P [x, y]))
    (hw : swappedStores [.Tuple [.Name u px, .Name v py] kt pt] (.Tuple [a, b] k2 pt2) X.env = pure (some [u, v])) (hs : swapsWithSole [.Tuple [.Name u px, .Name v py] kt pt] (.Tuple [a, b] k2 pt2) pos.line X.env = pure false) :
    PS X (.Assign [.Tuple [.Name u px, .Name v py] kt pt] (.Tuple [a, b] k2 pt2) pos) (GS n W (ex P (.par i j x y))) := by
  refine ps_wk (ps_par hc hN hi hj hij hx hy ha hw hs) fun D σ H ⟨ι, e, hp, S, A⟩ => ?_
  have A' : Af n (FR n) ι H ((evs P [x, y] e hp).bind fun ws h2 => match ws with | [w, w'] => if i < e.length ∧ j < e.length then .ok (.nx ((e.set i (some w)).set j (some w'))) h2 else .bad | _ => .bad) (qD D) (W σ) := by
    simp only [evs, Rz.bind_assoc, Rz.bind_ok]
    simpa only [ex] using A
  refine ⟨ι, e, hp, S, (Af.evs A').mono ?_⟩
  rintro vs H1 ⟨ι1, hp1, ws, F1, R1, V1, hl, A1⟩
  obtain ⟨v1, w1, v2, w2, rfl, rfl, V2, V3⟩ := V1.two hl
  simp only at A1
  split at A1
  · exact ⟨_, _, rfl, A1.nx R1 (((S.er.mono F1).set V2 i).set V3 j)⟩
  · exact A1.elim
theorem s_sub {a b c : Expr} {x y z : Ex} {tpos pos : Pos} (hK : X.K = n.K) (ha : PE X a (G n W P x)) (hb : PE X b (G n W P y)) (hv : PE X c (G n W P z)) (hns : noSlice b = true) (hs : swapsWithSole [.Subscript a b tpos] c pos.line X.env = pure false) (hw : swappedStores [.Subscript a b tpos] c X.env = pure none) :
    PS X (.Assign [.Subscript a b tpos] c pos) (GS n W (ex P (.asg (.sub x y) z))) := by
  refine ps_wk (ps_asg hv (pg_sub (pos := tpos) ha hb (store_ok (n := n)) (by intro v; cases b <;> first | rfl | cases hns)) hs hw (by cases b <;> first | rfl | cases hns)) fun D σ H ⟨ι, e, hp, S, A⟩ => ?_
  simp only [ex] at A
  refine ⟨ι, e, hp, S, (Af.bind A).mono ?_⟩
  rintro v H1 ⟨ι1, hp1, w, F1, R1, V1, A1⟩
  simp only [store] at A1
  refine ⟨ι1, e, hp1, S.mono F1 R1, (Af.bind A1).mono ?_⟩
  rintro v2 H2 ⟨ι2, hp2, w2, F2, R2, V2, A2⟩
  refine ⟨ι2, e, hp2, (S.mono F1 R1).mono F2 R2, (Af.bind A2).mono ?_⟩
  rintro v3 H3 ⟨ι3, hp3, w3, F3, R3, V3, A3⟩
  refine ⟨ι3, hp3, w2, w3, w, _, R3, V2.mono F3, V3, (V1.mono F2).mono F3, (Af.bind A3).mono ?_⟩
  rintro _ H4 ⟨ι4, hp4, _, F4, R4, _, A4⟩
  exact A4.nx R4 ((((S.er.mono F1).mono F2).mono F3).mono F4)
theorem s_att {o a : Expr} {x y : Ex} {f : Nat} {p pos : Pos} (hK : X.K = n.K) (hf : FldOk n P) (ho : PE X o (G n W P y)) (ha : PE X a (G n W P x)) (hs : swapsWith a (some (.Attribute o (n.nm f) p)) pos.line X.env = pure false) :
    PS X (.Assign [.Attribute o (n.nm f) p] a pos) (GS n W (ex P (.asg (.att y f) x))) := by
  refine ps_wk (ps_fld ho ha hs) fun D σ H ⟨ι, e, hp, S, A⟩ => ?_
  simp only [ex] at A
  refine ⟨ι, e, hp, S, (Af.bind A).mono ?_⟩
  rintro v H1 ⟨ι1, hp1, w, F1, R1, V1, A1⟩
  simp only [store] at A1
  refine ⟨ι1, e, hp1, S.mono F1 R1, (Af.bind A1).mono ?_⟩
  rintro u H2 ⟨ι2, hp2, w2, F2, R2, V2, A2⟩
  cases V2 <;> try exact A2.elim
  rename_i k a hk
  simp only at A2
  split at A2
  · rename_i c fs q
    split at A2
    · rename_i hc
      obtain ⟨ho, h1, h2⟩ := R2.at_ k a _ hk q
      cases h2 with
      | ins h3 =>
        rename_i dx vs
        obtain ⟨c1, c2⟩ := hf c f hc.1
        obtain ⟨F3, R3⟩ := R2.set hk (ho := .ins (n.cA c) dx (putF (n.nm f) v vs)) (o := .ins c (fput f w fs)) fun F => .ins (VRf.put ((V1.mono F2).mono F) f (h3.mono F))
        exact ⟨a, _, dx, vs, rfl, h1, hK ▸ c1, hK ▸ c2, by rw [h3.length]; exact hc.2, (A2.at F3).nx R3 (((S.er.mono F1).mono F2).mono F3)⟩
    · exact A2.elim
  · exact A2.elim
theorem s_augn {a : Expr} {x : Ex} {i : Nat} {y : Str} {p pos : Pos} (hK : X.K = n.K) (hN : X.N.Nodup) (hi : X.N[i]? = some y) (hx : Loc X.env.scope y) (hf : X.fn y = true ∨ X.env.scope.names.lookup y = some .local) (ha : PE X a (G n W P x)) :
    PS X (.AugAssign (.Name y p) .Add a pos) (GS n W (ex P (.augn i .add x))) := by
  refine ps_wk (ps_aug hN hi hx ha ip_add hf) fun D σ H ⟨ι, e, hp, S, A⟩ => ?_
  simp only [ex] at A
  split at A
  · rename_i w0 q
    obtain ⟨v0, g1, g2⟩ := S.at_ i w0 q
    refine ⟨v0, g1, ι, e, hp, S, (Af.bind A).mono ?_⟩
    rintro v H1 ⟨ι1, hp1, w, F1, R1, V1, A1⟩
    split at A1
    · rename_i a1 b1
      cases g2
      cases V1
      exact ⟨_, _, rfl, rfl, A1.nx R1 ((S.er.mono F1).set (.int _) i)⟩
    · exact A1.elim
  · exact A.elim
theorem s_augf {o a : Expr} {x y : Ex} {f : Nat} {p pos : Pos} (hK : X.K = n.K) (hf : FldOk n P) (ho : PE X o (G n W P y)) (ha : PE X a (G n W P x)) :
    PS X (.AugAssign (.Attribute o (n.nm f) p) .Add a pos) (GS n W (ex P (.augf y f .add x))) := by
  refine ps_wk (ps_fldaug ho ha ip_add) fun D σ H ⟨ι, e, hp, S, A⟩ => ?_
  simp only [ex] at A
  refine ⟨ι, e, hp, S, (Af.bind A).mono ?_⟩
  rintro u H1 ⟨ι1, hp1, w, F1, R1, V1, A1⟩
  cases V1 <;> try exact A1.elim
  rename_i k a hk
  simp only at A1
  split at A1
  · rename_i c fs q
    split at A1
    · rename_i hc
      split at A1
      · rename_i w0 q0
        obtain ⟨ho, h1, h2⟩ := R1.at_ k a _ hk q
        cases h2 with
        | ins h3 =>
          obtain ⟨v0, g1, g2⟩ := h3.get q0
          obtain ⟨c1, c2⟩ := hf c f hc
          refine ⟨a, _, _, _, v0, rfl, h1, hK ▸ c1, hK ▸ c2, g1, ι1, e, hp1, S.mono F1 R1, (Af.bind A1).mono ?_⟩
          rintro v H2 ⟨ι2, hp2, w2, F2, R2, V2, A2⟩
          split at A2
          · rename_i i1 j1
            cases V2
            have g3 := g2.mono F2
            cases g3
            refine ⟨_, _, rfl, rfl, ?_⟩
            simp only [binop, Rz.bind_ok] at A2
            split at A2
            · rename_i c' fs' q2
              split at A2
              · rename_i hcc
                obtain ⟨rfl, hl⟩ := hcc
                have hk2 := pre_get F2.pre hk
                obtain ⟨ho2, h12, h22⟩ := R2.at_ k a _ hk2 q2
                cases h22 with
                | ins h4 =>
                  rename_i dx2 vs2
                  obtain ⟨F3, R3⟩ := R2.set hk2 (ho := .ins (n.cA c') dx2 (putF (n.nm f) (.int (i1 + j1)) vs2)) (o := .ins c' (fput f (.int (i1 + j1)) fs')) fun F => .ins (VRf.put (.int _) f (h4.mono F))
                  exact ⟨dx2, vs2, h12, by rw [h4.length]; exact hl, (A2.at F3).nx R3 (((S.er.mono F1).mono F2).mono F3)⟩
              · exact A2.elim
            · exact A2.elim
          · exact A2.elim
      · exact A1.elim
    · exact A1.elim
  · exact A1.elim
theorem s_exp {a : Expr} {x : Ex} {pos : Pos} (ha : PE X a (G n W P x)) (hs : swapsWith a none pos.line X.env = pure false) : PS X (.Expr a pos) (GS n W (ex P (.exp x))) := by
  refine ps_wk (ps_expr ha hs) fun D σ H ⟨ι, e, hp, S, A⟩ => ?_
  simp only [ex] at A
  refine ⟨ι, e, hp, S, (Af.bind A).mono ?_⟩
  rintro v H1 ⟨ι1, hp1, w, F1, R1, V1, A1⟩
  exact A1.nx R1 (S.er.mono F1)
theorem s_doc {z : Str} {j : Nat} {p pos : Pos} : PS X (.Expr (.Constant (.str z) j p) pos) (GS n W (ex P .pass)) := ps_wk ps_doc fun D σ H ⟨ι, e, hp, S, A⟩ => by
  simp only [ex] at A
  exact A.nx S.hr S.er
theorem s_pass {pos : Pos} : PS X (.Pass pos) (GS n W (ex P .pass)) := ps_wk ps_pass fun D σ H ⟨ι, e, hp, S, A⟩ => by
  simp only [ex] at A
  exact A.nx S.hr S.er
theorem s_brk {pos : Pos} : PS X (.Break pos) (GS n W (ex P .brk)) := ps_wk ps_break fun D σ H ⟨ι, e, hp, S, A⟩ => by
  simp only [ex] at A
  exact Af.here (b := FV.bk σ) A S.hr S.er
theorem s_cont {pos : Pos} : PS X (.Continue pos) (GS n W (ex P .cont)) := ps_wk ps_continue fun D σ H ⟨ι, e, hp, S, A⟩ => by
  simp only [ex] at A
  exact Af.here (b := FV.ct σ) A S.hr S.er
theorem s_ret {a : Expr} {x : Ex} {pos : Pos} (ha : PE X a (G n W P x)) : PS X (.Return (some a) pos) (GS n W (ex P (.ret x))) := by
  refine ps_wk (ps_ret ha) fun D σ H ⟨ι, e, hp, S, A⟩ => ?_
  simp only [ex] at A
  refine ⟨ι, e, hp, S, (Af.bind A).mono ?_⟩
  rintro v H1 ⟨ι1, hp1, w, F1, R1, V1, A1⟩
  exact Af.here (b := FV.rt v) A1 R1 V1
theorem s_retn {pos : Pos} : PS X (.Return none pos) (GS n W (ex P .retn)) := ps_wk ps_retN fun D σ H ⟨ι, e, hp, S, A⟩ => by
  simp only [ex] at A
  exact Af.here (b := FV.rt .non) A S.hr VR.non
theorem s_never {st : Stmt} : PS X st (GS n W (ex P .never)) := ps_wk ps_never fun D σ H ⟨ι, e, hp, S, A⟩ => by
  simp only [ex] at A
  exact A.elim
/-! ### blocks -/
theorem ss_nil : PSs X [] (GS n W (exs P [])) := pss_wk pss_nil fun D σ H ⟨ι, e, hp, S, A⟩ => by
  simp only [exs] at A
  exact A.nx S.hr S.er
theorem ss_cons {st : Stmt} {rest : List Stmt} {y : Sm} {ys : List Sm} (hW : ∀ σ σ', W σ = W σ') (h1 : PS X st (GS n W (ex P y))) (h2 : PSs X rest (GS n W (exs P ys))) : PSs X (st :: rest) (GS n W (exs P (y :: ys))) := by
  refine pss_wk (pss_cons h1 h2) fun D σ H ⟨ι, e, hp, S, A⟩ => ?_
  simp only [exs] at A
  refine ⟨ι, e, hp, S, A.flow (fun ι1 H1 hp1 σ1 e1 F R S1 A1 => ⟨ι1, e1, hp1, S1.sr R, hW σ σ1 ▸ A1⟩) (fun ι1 H1 hp1 σ1 e1 F R S1 A1 => Af.here (b := FV.bk σ1) A1 R S1) (fun ι1 H1 hp1 σ1 e1 F R S1 A1 => Af.here (b := FV.ct σ1) A1 R S1) fun ι1 H1 hp1 v w F R V A1 => Af.here (b := FV.rt v) A1 R V⟩
theorem s_if {c : Expr} {a b : List Stmt} {x : Ex} {p q : List Sm} {pos : Pos} (hc : PT X c (GT n W P x)) (ha : PSs X a (GS n W (exs P p))) (hb : PSs X b (GS n W (exs P q))) : PS X (.If c a b pos) (GS n W (ex P (.ifs x p q))) := by
  refine ps_wk (ps_if hc ha hb) fun D σ H ⟨ι, e, hp, S, A⟩ => ?_
  simp only [ex] at A
  refine ⟨ι, e, hp, S, (Af.bind A).mono ?_⟩
  rintro t H1 ⟨ι1, hp1, k, F1, R1, rfl, A1⟩
  cases t with
  | true => exact ⟨ι1, e, hp1, S.mono F1 R1, A1⟩
  | false => exact ⟨ι1, e, hp1, S.mono F1 R1, A1⟩
theorem s_whl {c : Expr} {b : List Stmt} {x : Ex} {q : List Sm} {pos : Pos} (hW : ∀ σ σ', W σ = W σ') (hp : PassesOwn (model X.prog X.w) X.A X.env X.xe) (hc : PT X c (GT n W P x)) (hb : PSs X b (GS n W (exs P q))) : PS X (.While c b [] pos) (GS n W (ex P (.whl x q))) := by
  refine ps_wk (ps_while hp hc hb) fun D σ0 H0 ⟨ι0, e0, hp0, S0, A0⟩ => ?_
  simp only [ex] at A0
  refine ⟨fun m σ H => ∃ ι e hp, SR n ι H σ e hp ∧ Af n (FR n) ι H (whlL (tst P x) (exs P q) m e hp) (qD D) (W σ0), ⟨P.turns, ι0, e0, hp0, S0, A0⟩, ?_⟩
  rintro m σ H ⟨ι, e, hp, S, A⟩
  cases m with
  | zero => exact A.elim
  | succ m =>
    simp only [whlL] at A
    refine ⟨ι, e, hp, S, hW σ0 σ ▸ (Af.bind A).mono ?_⟩
    rintro t H1 ⟨ι1, hp1, k, F1, R1, rfl, A1⟩
    cases t with
    | false => exact A1.nx R1 (S.er.mono F1)
    | true =>
      simp only [if_true] at A1 ⊢
      refine ⟨fun σ' H' => ∃ ι e hp, SR n ι H' σ' e hp ∧ Af n (FR n) ι H' (whlL (tst P x) (exs P q) m e hp) (qD D) (W σ0), fun σ' H' h => ⟨m, Nat.lt_succ_self _, h⟩, ι1, e, hp1, S.mono F1 R1, hW σ0 σ ▸ ?_⟩
      exact A1.flow (fun ι1 H1 hp1 σ1 e1 F R S1 A1 => ⟨ι1, e1, hp1, S1.sr R, A1⟩) (fun ι1 H1 hp1 σ1 e1 F R S1 A1 => A1.nx R S1) (fun ι1 H1 hp1 σ1 e1 F R S1 A1 => ⟨ι1, e1, hp1, S1.sr R, A1⟩) fun ι1 H1 hp1 v w F R V A1 => Af.here (b := FV.rt v) A1 R V
theorem forL_at {body : Ev → Hs → Rz Fl} {tg : Tg} {ck : Ck} {ws : List Wv} {i : Nat} {w : Wv} (h : ws[i]? = some w) (e : Ev) (hp : Hs) : forL body tg ck (ws.drop i) e hp = if stay hp ck then (match tg.bind w e with
      | some e1 => (body e1 hp).bind fun f h2 => match f with
        | .nx e2 => forL body tg ck (ws.drop (i + 1)) e2 h2
        | .cont e2 => forL body tg ck (ws.drop (i + 1)) e2 h2
        | .brk e2 => .ok (.nx e2) h2
        | .ret v => .ok (.ret v) h2
      | none => .bad) else .bad := by
  obtain ⟨hl, e⟩ := List.getElem?_eq_some_iff.mp h
  rw [List.drop_eq_getElem_cons hl, e, forL]
  all_goals rfl
theorem s_for {tg iter : Expr} {b : List Stmt} {t : Tg} {it : Itr} {q : List Sm} {pos : Pos} (hW : ∀ σ σ', W σ = W σ') (hp : PassesOwn (model X.prog X.w) X.A X.env X.xe) (hc : X.calm = true) (hi : PI X tg iter (GI n W P it)) (hg : PG X tg (gB n t)) (hb : PSs X b (GS n W (exs P q)))
    (hs : ∀ x, foldedSetIterable iter X.env x = pure x) : PS X (.For tg iter b [] pos) (GS n W (ex P (.for t it q))) := by
  refine ps_wk (ps_for hp hc hi hg hb hs) fun D σ0 H0 ⟨ι0, e0, hp0, S0, A0⟩ => ?_
  simp only [ex] at A0
  refine ⟨ι0, e0, hp0, S0, (Af.bind A0).mono ?_⟩
  rintro J H1 ⟨ι1, hp1, ⟨ws, ck⟩, F1, R1, K, A1⟩
  have K : Wk n ι1 H1 J ws ck := K
  let Nx : Nat → L2.St → Hp → Prop := fun i σ H => ∃ ι e hp, Fr ι1 H1 ι H ∧ SR n ι H σ e hp ∧ Af n (FR n) ι H (forL (exs P q) t ck (ws.drop i) e hp) (qD D) (W σ0)
  refine ⟨fun i m σ H => m = ws.length - i ∧ i ≤ ws.length ∧ Nx i σ H, ⟨ws.length, rfl, Nat.zero_le _, ι1, e0, hp1, Fr.refl _ _, S0.mono F1 R1, A1⟩, ?_⟩
  rintro i m σ H ⟨rfl, hi, ι, e, hp, F, S, A⟩
  by_cases hlt : i < ws.length
  · have hw : ws[i]? = some ws[i] := List.getElem?_eq_getElem hlt
    rw [forL_at hw] at A
    split at A
    · rename_i st
      refine .inr ⟨K.go ι H hp i F S.hr st hlt, Nx (i + 1), fun σ' H' h => ⟨ws.length - (i + 1), by omega, rfl, hlt, h⟩, fun v H2 y => ?_⟩
      obtain ⟨F2, R2, V2⟩ := K.yld ι H hp i _ F S.hr st hw v H2 y
      split at A
      · rename_i e1 hb1
        refine ⟨ι, e, hp, ws[i], e1, S.mono F2 R2, V2, hb1, fun σ2 S2 m2 => ⟨ι, e1, hp, S2.sr R2, hW σ0 σ2 ▸ ?_⟩⟩
        have A2 := A.at F2
        have F12 := F.trans F2
        exact A2.flow (fun ι3 H3 hp3 σ3 e3 F3 R3 S3 A3 => ⟨ι3, e3, hp3, F12.trans F3, S3.sr R3, A3⟩) (fun ι3 H3 hp3 σ3 e3 F3 R3 S3 A3 => A3.nx R3 S3) (fun ι3 H3 hp3 σ3 e3 F3 R3 S3 A3 => ⟨ι3, e3, hp3, F12.trans F3, S3.sr R3, A3⟩) fun ι3 H3 hp3 v w F3 R3 V3 A3 => Af.here (b := FV.rt v) A3 R3 V3
      · exact A.elim
    · exact A.elim
  · have e1 : i = ws.length := by omega
    subst e1
    rw [List.drop_length, forL] at A
    split at A
    · rename_i st
      exact .inl ⟨K.stop ι H hp F S.hr st, A.nx S.hr S.er⟩
    · exact A.elim
end
end SL

set_option maxRecDepth 100000
set_option maxHeartbeats 1000000
/-! A base class's method; a list turned; small words for the program's forms. -/
namespace SL
open PySem L2 PyProof.Rows
set_option autoImplicit false
section
variable {n : Nam} {ι : List Addr} {H : Hp} {hp : Hs} {W : Wx} {V' : WX} {X : Cx} {P : Wd}
/-- a class by its name, its methods -/
structure SupFn (X : Cx) (n : Nam) (P : Wd) (k : Nat) (x : Str) (c : Nat) : Prop where
  at_ : X.mg x = some (.ref (n.cA c))
  get : PySem.W.specialIn X.K (.ref (n.cA c)) "__getattribute__" = some (some (.builtin "type.__getattribute__"))
  rds : PySem.W.readsIn X.K (n.cA c) (.type "type") = true
  meth : ∀ m f, methOf P c m = some f → ∃ a, PySem.W.findCls X.K (.ref (n.cA c)) (.type "type") (n.nm m) = some (.val (.ref a)) ∧ PySem.W.handedIn (.ref a) = true ∧ PySem.W.keepIn X.K (.ref a) = true ∧ FnIs X n P k f a
theorem g_sup {x : Str} {k c m : Nat} {p1 p2 pos : Pos} {e : Expr} {es : List Expr} {xs : List Ex} {pl : Sem Bool} (hr : Room k X.A) (tk : Takes X V') (hg : Gl X x) (S : SupFn X n P k x c) (ha : PA X (e :: es) (GA n (ofW n V') P xs)) (hdb : (x == ("__debug__" : Str)) = false)
    (he : starEach (e :: es) X.env = (false, eval e X.env) :: starEach es X.env) (hpl : (backTo pos (starEach es X.env)).any (·.1) = false)
    (ht : eval (.Call (.Attribute (.Name x p1) (n.nm m) p2) (e :: es) [] pos) X.env = (do
      let ov ← eval (.Name x p1) X.env
      standAt p2.atName
      let (f, first) ← holding [ov] (getMethod ov (n.nm m) pl)
      callWith pos f first (backTo pos (starEach (e :: es) X.env)) (backToKw pos (keywordEach [] X.env)))) :
    PE X (.Call (.Attribute (.Name x p1) (n.nm m) p2) (e :: es) [] pos) (G n (ofW n V') P (.sup c m xs)) := by
  refine ⟨fun pins s σ H Q I ⟨ι, ee, hp, S', A⟩ => ?_⟩
  simp only [ev] at A
  split at A
  · rename_i f q
    obtain ⟨a, h1, h2, h3, F⟩ := S.meth m f q
    refine PySem.W.methodCall_KW (pl := pl) (ld_glob I hg S.at_ ?_ hdb) ht
    refine PySem.W.method_cls I.kIn S.get (PySem.W.cls_value I.kIn S.rds h1 h2 ?_)
    refine PySem.W.callWith_K (first := []) (h₀ := X.base) I.ok.mod.kin h3 (thn (ha.run pos pins _ σ H _ (I.tok _) ⟨ι, ee, hp, S', Af.bind A⟩) fun us s1 h1 => ?_) he hpl
    obtain ⟨vs, H1, I1, r, ι1, hp1, ws, F1, R1, V1, A1⟩ := h1
    exact ⟨I1.kIn, run_w F hr tk I1 r R1 V1 A1⟩
  · exact A.elim
theorem g_rvs {a : Expr} {x : Ex} {k : Nat} {p1 p2 p3 pos : Pos} (hK : X.K = n.K) (ha : PE X a (G n W P x)) : PE X (.Subscript a (.Slice none none (some (.UnaryOp .USub (.Constant (.int 1) k p1) p2)) p3) pos) (G n W P (.rvs x)) := by
  refine pe_wk (pe_revL ha) fun σ H Q ⟨ι, e, hp, S, A⟩ => ?_
  simp only [ev] at A
  refine ⟨ι, e, hp, S, (Af.bind A).mono ?_⟩
  rintro v H1 ⟨ι1, hp1, w, F1, R1, V1, A1⟩
  split at A1
  · rename_i ws q
    obtain ⟨p, vs, rfl, h1, h2⟩ := getL_rel R1 V1 q
    exact ⟨p, vs, rfl, hK ▸ h1, (newL_ok R1 h2.reverse A1).2⟩
  · exact A1.elim

/-! ### the program's forms -/
def noStar : Expr → Bool
  | .Starred .. => false
  | _ => true
theorem star_cons {a : Expr} {es : List Expr} {env : Env} (h : noStar a = true) : starEach (a :: es) env = (false, eval a env) :: starEach es env := by
  cases a <;> first | rfl | cases h
theorem star_any {env : Env} {pos : Pos} : ∀ {es : List Expr}, es.all noStar = true → (backTo pos (starEach es env)).any (·.1) = false
  | [], _ => rfl
  | a :: es, h => by
    rw [List.all_cons, Bool.and_eq_true] at h
    rw [star_cons h.1]
    have := star_any (env := env) (pos := pos) h.2
    simp only [backTo, List.map_cons, List.any_cons, Bool.false_or] at this ⊢
    exact this
theorem star_all {env : Env} {pos : Pos} : ∀ {es : List Expr}, es.all noStar = true → (backTo pos (starEach es env)).all (fun x => !x.1) = true
  | [], _ => rfl
  | a :: es, h => by
    rw [List.all_cons, Bool.and_eq_true] at h
    rw [star_cons h.1]
    have := star_all (env := env) (pos := pos) h.2
    simp only [backTo, List.map_cons, List.all_cons, Bool.not_false, Bool.true_and] at this ⊢
    exact this
theorem asg_cons {a : Expr} {es : List Expr} {env : Env} (h : noStar a = true) : assignEach (a :: es) env = (false, assign a env) :: assignEach es env := by
  cases a <;> first | rfl | cases h
theorem asg_length {env : Env} : ∀ es : List Expr, (assignEach es env).length = es.length
  | [] => rfl
  | a :: es => by
    have := asg_length (env := env) es
    cases a <;> (show (_ :: assignEach es env).length = _; rw [List.length_cons, List.length_cons, this])
theorem asg_none {env : Env} : ∀ {es : List Expr}, es.all noStar = true → (assignEach es env).findIdx? (·.1) = none
  | [], _ => rfl
  | a :: es, h => by
    rw [List.all_cons, Bool.and_eq_true] at h
    rw [asg_cons h.1, List.findIdx?_cons]
    simp [asg_none (env := env) h.2]
def noSet : Expr → Bool
  | .Set .. => false
  | _ => true
theorem set_pure {a : Expr} {env : Env} (h : noSet a = true) (x : Value) : foldedSetIterable a env x = pure x := by
  cases a <;> first | rfl | cases h
theorem marks_of {op : CmpOp} {a : Expr} (h : noSet a = true) : behindInMarks op a = false := by
  cases a <;> first | rfl | cases h
/-- no comprehension -/
def noComp : Expr → Bool
  | .ListComp .. => false
  | .SetComp .. => false
  | .DictComp .. => false
  | _ => true
theorem sw_no {a : Expr} {t : Option Expr} {l : Nat} {env : Env} (h : noComp a = true) : swapsWith a t l env = pure false := by
  cases a <;> first | rfl | cases h
def noTup : Expr → Bool
  | .Tuple .. => false
  | .List .. => false
  | _ => true
theorem sws_no {a t : Expr} {env : Env} (h : noTup a = true) : swappedStores [t] a env = pure none := by
  cases a <;> first | (cases t <;> rfl) | cases h
theorem sws_no2 {a t : Expr} {env : Env} (h : noTup t = true) : swappedStores [t] a env = pure none := by
  cases t <;> first | (cases a <;> rfl) | cases h
end
end SL

set_option maxRecDepth 100000
set_option maxHeartbeats 1000000
/-! From the program's text to the evaluator's. -/
namespace SL
open PySem L2 PyProof.Rows
set_option autoImplicit false

/-- the module's names -/
structure Tb where
  fns : List (Str × Nat)
  cls : List (Str × Nat)
  con : List (Str × Nat)
  att : List Str
  xcs : List (Str × List Str)
  atN : Str
/-- a refusal's class by its name -/
def xix (tb : Tb) (t : Str) : Option Nat := (tb.xcs.findIdx? fun q => decide (q.1 = t))
def okT (tb : Tb) (t : Str) : Bool := decide (t = ("ValueError" : Str)) || (xix tb t).isSome
def yesOf (tb : Tb) (ts : List Str) : List Nat := (List.range tb.xcs.length).filter fun c => match tb.xcs[c]? with
  | some q => ts.any fun t => q.2.contains t
  | none => false
def noOf (tb : Tb) (ts : List Str) : List Nat := (List.range tb.xcs.length).filter fun c => match tb.xcs[c]? with
  | some q => !(ts.any fun t => q.2.contains t)
  | none => false
/-- a def's names; those that may be stored -/
structure Sc where
  N : List Str
  sc : Scope
  st : Str → Bool
def ixS : List Str → Str → Nat → Option Nat
  | [], _, _ => none
  | y :: ys, x, i => if y = x then some i else ixS ys x (i + 1)
theorem ixS_get : ∀ {N : List Str} {x : Str} {i j : Nat}, ixS N x i = some j → ∃ k, j = i + k ∧ N[k]? = some x
  | [], x, i, j, h => by simp [ixS] at h
  | y :: ys, x, i, j, h => by
    simp only [ixS] at h
    split at h
    · rename_i e
      cases h
      exact ⟨0, rfl, by rw [e]; rfl⟩
    · obtain ⟨k, h1, h2⟩ := ixS_get h
      exact ⟨k + 1, by omega, by simpa using h2⟩
theorem ixS_get0 {N : List Str} {x : Str} {j : Nat} (h : ixS N x 0 = some j) : N[j]? = some x := by
  obtain ⟨k, h1, h2⟩ := ixS_get h
  rw [h1, Nat.zero_add]; exact h2
def isVis (s : Sc) (x : Str) : Bool := match s.sc.names.lookup x with
  | some .local => true
  | some .cell => true
  | some .free => true
  | _ => false
def isLoc (s : Sc) (x : Str) : Bool := match s.sc.names.lookup x with
  | some .local => true
  | some .cell => true
  | _ => false
def isGl (s : Sc) (x : Str) : Bool := match s.sc.names.lookup x with
  | some .globalImplicit => true
  | _ => false
def okName (x : Str) : Bool := !(x == ("__debug__" : Str)) && !(x == ("__classdict__" : Str))
theorem isVis_ok {s : Sc} {x : Str} (h : isVis s x = true) : Vis s.sc x := by
  unfold isVis at h
  split at h
  · exact .inl (by assumption)
  · exact .inr (.inl (by assumption))
  · exact .inr (.inr (by assumption))
  · cases h
theorem isLoc_ok {s : Sc} {x : Str} (h : isLoc s x = true) : Loc s.sc x := by
  unfold isLoc at h
  split at h
  · exact .inl (by assumption)
  · exact .inr (by assumption)
  · cases h
theorem isGl_ok {s : Sc} {x : Str} (h : isGl s x = true) : s.sc.names.lookup x = some .globalImplicit := by
  unfold isGl at h
  split at h
  · assumption
  · cases h
theorem okName_ok {x : Str} (h : okName x = true) : (x == ("__debug__" : Str)) = false ∧ (x == ("__classdict__" : Str)) = false := by
  unfold okName at h
  simpa [Bool.and_eq_true, Bool.not_eq_true'] using h

def op2 : Operator → Option Op2
  | .Add => some .add
  | .Sub => some .sub
  | .Mult => some .mul
  | .FloorDiv => some .fdiv
  | .Mod => some .mod
  | .Pow => some .pow
  | .LShift => some .shl
  | .RShift => some .shr
  | .BitAnd => some .band
  | .BitOr => some .bor
  | _ => none
theorem op2_ok {o : Operator} {p : Op2} (h : op2 o = some p) : o = opOf p := by cases o <;> simp [op2] at h <;> subst h <;> rfl
def cm2 : CmpOp → Cm
  | .Eq => .eq
  | .NotEq => .ne
  | .Lt => .lt
  | .LtE => .le
  | .Gt => .gt
  | .GtE => .ge
  | .Is => .isn
  | .IsNot => .notn
  | .In => .isin
  | .NotIn => .notin
theorem cm2_ok (o : CmpOp) : cmOf (cm2 o) = o := by cases o <;> rfl
def cst2 : Const → Option Wv
  | .none => some .non
  | .bool b => some (.bl b)
  | .int i => some (.int i)
  | .str x => some (.str x)
  | _ => none
def bfs : List Bf := [.len, .list, .tuple, .int, .str, .sum, .all, .any, .abs, .min, .max, .sorted]
def bfOf (x : Str) : Option Bf := bfs.find? fun b => decide (x = Str.ofString b.name.1)
theorem bfOf_ok {x : Str} {b : Bf} (h : bfOf x = some b) : x = Str.ofString b.name.1 := by
  have := List.find?_some h
  simpa using this
def lms : List Lm := [.append, .extend, .pop, .insert, .clear, .reverse, .index, .remove]
def lmOf (x : Str) : Option Lm := lms.find? fun b => decide (x = Str.ofString b.name)
theorem lmOf_ok {x : Str} {b : Lm} (h : lmOf x = some b) : x = Str.ofString b.name := by
  have := List.find?_some h
  simpa using this
def tys : List Ty := [.int, .bool, .str, .list, .tuple, .dict]
def tyOf2 (x : Str) : Option Ty := tys.find? fun b => decide (x = Str.ofString b.name)
theorem tyOf2_ok {x : Str} {b : Ty} (h : tyOf2 x = some b) : x = Str.ofString b.name := by
  have := List.find?_some h
  simpa using this
/-- the built-in names that are asked -/
def bltNames : List Str := (bfs.map fun b => Str.ofString b.name.1) ++ (tys.map fun t => Str.ofString t.name) ++ (["range", "enumerate", "zip", "reversed", "isinstance", "ValueError"] : List Str)

def erL (f : Expr → Option Ex) : List Expr → Option (List Ex)
  | [] => some []
  | a :: as => if noStar a = true then (match f a, erL f as with
    | some x, some xs => some (x :: xs)
    | _, _ => none) else none
def erB (isAnd : Bool) (f : Expr → Option Ex) : List Expr → Option Ex
  | [] => none
  | [a] => f a
  | a :: b :: as => match f a, erB isAnd f (b :: as) with
    | some x, some y => some (if isAnd = true then .and x y else .or x y)
    | _, _ => none
def erO (f : Expr → Option Ex) : Option Expr → Option (Option Ex)
  | none => some none
  | some a => (f a).map some
def erTl (f : Expr → Option Tg) : List Expr → Option (List Tg)
  | [] => some []
  | a :: as => if noStar a = true then (match f a, erTl f as with
    | some x, some xs => some (x :: xs)
    | _, _ => none) else none
def erT (s : Sc) : Nat → Expr → Option Tg
  | 0, _ => none
  | k + 1, .Name x _ => if (s.st x && isLoc s x) = true then (ixS s.N x 0).map .name else none
  | k + 1, .Tuple es _ _ => (erTl (erT s k) es).map .tup
  | _ + 1, _ => none
/-- a comprehension's own names, with their places -/
def ownOf (N : List Str) (scope : Scope) : List (Str × Nat) := scope.names.filterMap fun y => match y.2 with
  | .local => (ixS N y.1 0).map fun i => (y.1, i)
  | .cell => (ixS N y.1 0).map fun i => (y.1, i)
  | _ => none
def blkS (s : Sc) (scope : Scope) : Sc := ⟨s.N, relS scope s.sc, fun x => scope.names.lookup x == some .cell || (relS scope s.sc).names.lookup x == some .local⟩
def isTup : Expr → Bool
  | .Tuple .. => true
  | _ => false

/-- f(args), f a module's name -/
def erC (tb : Tb) (s : Sc) (f : Expr → Option Ex) (x : Str) (args : List Expr) : Option Ex :=
  if (isGl s x && okName x) = true then (match tb.fns.lookup x with
    | some g => (erL f args).map (.call g)
    | none => match tb.cls.lookup x with
      | some c => (erL f args).map (.make c)
      | none => if x = "isinstance" then (match args with
          | [a, .Name t _] => if (noStar a && isGl s t) = true then (match f a, tyOf2 t with
            | some v, some T => some (.isi v [T])
            | _, _ => none) else none
          | _ => none)
        else match bfOf x, args with
          | some b, a :: as => if b.there = true then (erL f (a :: as)).map (.blt b) else none
          | _, _ => none)
  else none
/-- o.m(args) -/
def erM (tb : Tb) (f : Expr → Option Ex) (o : Expr) (m : Str) (apos pos : Pos) (args : List Expr) : Option Ex :=
  if (noSup o && (apos.endLine == pos.line) && decide (args.length < 30)) = true then (match lmOf m with
    | some l => if l.there = true then (match f o, erL f args with
      | some x, some xs => some (.lm l x xs)
      | _, _ => none) else none
    | none => match ixS tb.att m 0, f o, erL f args with
      | some i, some x, some xs => some (.meth x i xs)
      | _, _, _ => none)
  else none
/-- C.m(args), C a class's name -/
def erU (tb : Tb) (s : Sc) (f : Expr → Option Ex) (x m : Str) (apos pos : Pos) (args : List Expr) : Option Ex :=
  if (okName x && (apos.endLine == pos.line) && decide (args.length < 30)) = true then (match args with
    | [] => none
    | a :: as => match tb.cls.lookup x, ixS tb.att m 0, erL f (a :: as) with
      | some c, some i, some xs => some (.sup c i xs)
      | _, _, _ => none)
  else none
/-- what is walked; tt: the target is a tuple -/
def erIt (tb : Tb) (s : Sc) (f : Expr → Option Ex) (tt : Bool) : Expr → Option Itr
  | .Call (.Name x p) args [] pos => if (isGl s x && (tb.fns.lookup x).isNone) = true then (
      if x = "range" then (match args with
        | [a] => if noStar a = true then (f a).map fun v => .rng [v] else none
        | [a, b] => if (noStar a && noStar b) = true then (match f a, f b with | some v, some w => some (.rng [v, w]) | _, _ => none) else none
        | _ => none)
      else if x = "enumerate" then (match args with
        | [a] => if (noStar a && tt) = true then (f a).map .enm else none
        | _ => none)
      else if x = "zip" then (match args with
        | [a, b] => if (noStar a && noStar b && tt) = true then (match f a, f b with | some v, some w => some (.zip [v, w]) | _, _ => none) else none
        | [a, b, c] => if (noStar a && noStar b && noStar c && tt) = true then (match f a, f b, f c with | some v, some w, some u => some (.zip [v, w, u]) | _, _, _ => none) else none
        | _ => none)
      else if x = "reversed" then (match args with
        | [a] => if noStar a = true then (f a).map .rev else none
        | _ => none)
      else (f (.Call (.Name x p) args [] pos)).map .seq)
    else (f (.Call (.Name x p) args [] pos)).map .seq
  | a => (f a).map .seq
def erK (tb : Tb) (s : Sc) (k : Nat) (f : Sc → Expr → Option Ex) (elt : Expr) (tg iter : Expr) (ifs : List Expr) (scope : Scope) : Option (Ex × List Nat × Tg × Itr × Option Ex) :=
  if (blkC s.N s.sc scope (ownOf s.N scope) && noSet iter) = true then (match erT (blkS s scope) k tg, erIt tb s (f s) (isTup tg) iter, f (blkS s scope) elt with
    | some t, some it, some x => if t.slots.all (fun i => ((ownOf s.N scope).map (·.2)).contains i) = true then (match ifs with
      | [] => some (x, (ownOf s.N scope).map (·.2), t, it, none)
      | [c] => (f (blkS s scope) c).map fun z => (x, (ownOf s.N scope).map (·.2), t, it, some z)
      | _ => none) else none
    | _, _, _ => none)
  else none
def erN (tb : Tb) (s : Sc) (x : Str) : Option Ex := if isVis s x = true then (if okName x = true then (ixS s.N x 0).map .var else none) else if (isGl s x && okName x) = true then (tb.con.lookup x).map .glo else none
def erUn (f : Expr → Option Ex) (o : UnaryOp) (a : Expr) : Option Ex := match o with
  | .USub => (f a).map .neg
  | .Not => (f a).map .not
  | _ => none
def erBi (f : Expr → Option Ex) (o : Operator) (a b : Expr) : Option Ex := match op2 o, f a, f b with
  | some p, some x, some y => some (.bin p x y)
  | _, _, _ => none
def erBo (f : Expr → Option Ex) (o : BoolOp) (es : List Expr) : Option Ex := match o with
  | .And => erB true f es
  | .Or => erB false f es
def erIf (f : Expr → Option Ex) (c a b : Expr) : Option Ex := match f c, f a, f b with
  | some z, some x, some y => some (.ite z x y)
  | _, _, _ => none
def erCm (f : Expr → Option Ex) (a : Expr) (os : List CmpOp) (bs : List Expr) : Option Ex := match os, bs with
  | [o], [b] => if noSet b = true then (match f a, f b with
    | some x, some y => some (.cmp (cm2 o) x y)
    | _, _ => none) else none
  | [o, o'], [b, d] => if noSet d = true then (match f a, f b, f d with
    | some x, some y, some z => some (.chn (cm2 o) (cm2 o') x y z)
    | _, _, _ => none) else none
  | _, _ => none
/-- the slice's step is -1, written so -/
def isRev : Expr → Bool
  | .Slice none none (some (.UnaryOp .USub (.Constant (.int 1) _ _) _)) _ => true
  | _ => false
def erSb (f : Expr → Option Ex) (a i : Expr) : Option Ex := if isRev i = true then (f a).map .rvs else match i with
  | .Slice lo hi none _ => (match f a, erO f lo, erO f hi with
    | some x, some l, some u => some (.slc x l u)
    | _, _, _ => none)
  | b => if noSlice b = true then (match f a, f b with
    | some x, some y => some (.sub x y)
    | _, _ => none) else none
def erAt (tb : Tb) (f : Expr → Option Ex) (a : Expr) (g : Str) : Option Ex := if noSup a = true then (match f a, ixS tb.att g 0 with
    | some x, some i => some (.att x i)
    | _, _ => none) else none
def glName (s : Sc) : Expr → Bool
  | .Name x _ => isGl s x
  | _ => false
def erCa (tb : Tb) (s : Sc) (f : Expr → Option Ex) (g : Expr) (args : List Expr) (kws : List Keyword) (pos : Pos) : Option Ex := match kws with
  | [] => (match g with
    | .Name x _ => erC tb s f x args
    | .Attribute o m apos => if glName s o = true then (match o with
        | .Name x _ => erU tb s f x m apos pos args
        | _ => none) else erM tb f o m apos pos args
    | _ => none)
  | _ => none
def erLc (tb : Tb) (s : Sc) (k : Nat) (f : Sc → Expr → Option Ex) (elt : Expr) (gens : List Comprehension) (scope : Scope) : Option Ex := match gens with
  | [⟨tg, iter, ifs, ia⟩] => if ia = 0 then (erK tb s k f elt tg iter ifs scope).map fun q => .comp q.1 q.2.1 q.2.2.1 q.2.2.2.1 q.2.2.2.2 else none
  | _ => none
def erE (tb : Tb) : Nat → Sc → Expr → Option Ex
  | 0, _, _ => none
  | k + 1, s, e => match e with
    | .Name x _ => erN tb s x
    | .Constant c _ _ => (cst2 c).map .cst
    | .Tuple es _ _ => (erL (erE tb k s) es).map .tup
    | .List es _ => (erL (erE tb k s) es).map .lst
    | .BinOp a o b _ => erBi (erE tb k s) o a b
    | .UnaryOp o a _ => erUn (erE tb k s) o a
    | .BoolOp o es _ => erBo (erE tb k s) o es
    | .IfExp c a b _ => erIf (erE tb k s) c a b
    | .Compare a os bs _ => erCm (erE tb k s) a os bs
    | .Subscript a i _ => erSb (erE tb k s) a i
    | .Attribute a f _ => erAt tb (erE tb k s) a f
    | .Call g args kws pos => erCa tb s (erE tb k s) g args kws pos
    | .ListComp elt gens scope _ => erLc tb s k (erE tb k) elt gens scope
    | _ => none

/-! ### the method call's form -/
theorem meth_eq {o : Expr} {m : Str} {apos pos : Pos} {args : List Expr} {env : Env} (h1 : noSup o = true) (h2 : (apos.endLine == pos.line) = true) (h3 : args.length < 30) (h4 : args.all noStar = true) :
    eval (.Call (.Attribute o m apos) args [] pos) env = (do
      let ov ← eval o env
      standAt apos.atName
      let (f, first) ← holding [ov] (getMethod ov m (do return (← importBound o env).getD true))
      callWith pos f first (backTo pos (starEach args env)) (backToKw pos (keywordEach [] env))) := by
  have q : eval (.Call (.Attribute o m apos) args [] pos) env = (do
      let ov ← attributeBase o m env (eval o env)
      standAt apos.atName
      methodCall o m apos pos env ov (args.length + ([] : List Keyword).length) (backTo pos (starEach args env)) (backToKw pos (keywordEach [] env))) := rfl
  have f : methodCallForm (args.length + ([] : List Keyword).length) (backTo pos (starEach args env)) (backToKw pos (keywordEach [] env)) = true := by
    unfold methodCallForm
    rw [star_all h4]
    have : (backToKw pos (keywordEach [] env)) = [] := rfl
    rw [this]
    simpa using h3
  rw [q, noSup_ok h1]
  unfold methodCall
  rw [f]
  unfold calleeOf methodCallPos
  simp only [if_true, Bool.not_true, Bool.false_or, h2, pure_bind]
end SL

set_option maxRecDepth 100000
set_option maxHeartbeats 1000000
/-! Refusals by the evaluator: raise, try .. except .. as. -/
namespace SL
open PySem L2 PyProof.Rows
set_option autoImplicit false

/-! ### the class's text -/
def oexB (K : PySem.W.Frag) (C : Addr) : Bool :=
  (match K.lookup C with
    | some ⟨.type "type", _, .cls cc, ss⟩ => (match cc.mro, ss.toList with
      | .ref C2 :: rest, [_, _, _, _, some (.builtin nw), _] => C2 == C && (nw == "ValueError.__new__" && (!cc.hasDel && (cc.hasDict && PySem.HandSPX.refsVE rest)))
      | _, _ => false)
    | _ => false) &&
  (decide (PySem.W.findIn K (.ref C) "__setattr__" = some (some (.builtin "object.__setattr__"))) && (decide (PySem.W.subIn K (.ref C) (.type "BaseException") = some true) && (decide (PySem.W.typeIn K (.ref C) = some (.type "type")) && PySem.W.keepIn K (.ref C))))
theorem oexB_ok {K : PySem.W.Frag} {C : Addr} (h : oexB K C = true) : OexC K C := by
  unfold oexB at h
  simp only [Bool.and_eq_true, decide_eq_true_eq] at h
  obtain ⟨h0, h1, h2, h3, h4⟩ := h
  refine ⟨?_, h1, h2, h3, h4⟩
  split at h0
  · rename_i dd cc ss ho
    split at h0
    · rename_i C2 rest k0 k1 k2 k3 nw k5 hm hs
      simp only [Bool.and_eq_true, beq_iff_eq, Bool.not_eq_true'] at h0
      obtain ⟨rfl, rfl, hdel, hdict, hr⟩ := h0
      obtain ⟨nm, bs, mro, ns, qn, hd, sn, sub, ab, col, del⟩ := cc
      dsimp only at hm hdel hdict
      subst hm hdel hdict
      have hsl : ss = #[k0, k1, k2, k3, some (.builtin "ValueError.__new__"), k5] := by
        obtain ⟨l⟩ := ss
        simp only at hs
        rw [hs]
      subst hsl
      exact ⟨nm, qn, ns, bs, rest, sn, sub, ab, col, dd, k0, k1, k2, k3, k5, ho, hr⟩
    · cases h0
  · cases h0
/-- what isinstance wants of it -/
structure IsC (K : PySem.W.Frag) (C : Addr) : Prop where
  cl : (PySem.W.clsIn K C).isSome = true
  ga : PySem.W.findIn K (.ref C) "__getattribute__" = some (some (.builtin "BaseException.__getattribute__"))
  gt : PySem.W.findIn K (.ref C) "__getattr__" = some none
  sb : PySem.W.subIn K (.ref C) (.type "BaseException") = some true
  ca : PySem.W.findIn K (.ref C) "__class__" = some (some (.builtin "object.__class__"))
  sp : PySem.W.specialIn K (.builtin "object.__class__") "__get__" = some (some (.builtin "getset_descriptor.__get__"))
  tk : PySem.W.takesIn K (.builtin "object.__class__") = some true
  mr : PySem.W.mroIn K C (.type "object") = some true
  hd : PySem.W.hasDictIn K C = true
def isB (K : PySem.W.Frag) (C : Addr) : Bool := (PySem.W.clsIn K C).isSome && (decide (PySem.W.findIn K (.ref C) "__getattribute__" = some (some (.builtin "BaseException.__getattribute__"))) && (decide (PySem.W.findIn K (.ref C) "__getattr__" = some none) &&
  (decide (PySem.W.subIn K (.ref C) (.type "BaseException") = some true) && (decide (PySem.W.findIn K (.ref C) "__class__" = some (some (.builtin "object.__class__"))) && (decide (PySem.W.specialIn K (.builtin "object.__class__") "__get__" = some (some (.builtin "getset_descriptor.__get__"))) &&
    (decide (PySem.W.takesIn K (.builtin "object.__class__") = some true) && (decide (PySem.W.mroIn K C (.type "object") = some true) && PySem.W.hasDictIn K C)))))))
theorem isB_ok {K : PySem.W.Frag} {C : Addr} (h : isB K C = true) : IsC K C := by
  unfold isB at h
  simp only [Bool.and_eq_true, decide_eq_true_eq] at h
  obtain ⟨h1, h2, h3, h4, h5, h6, h7, h8, h9⟩ := h
  exact ⟨h1, h2, h3, h4, h5, h6, h7, h8, h9⟩
theorem IsC.kit {K : PySem.W.Frag} {C : Addr} (T : IsC K C) (x : Addr) (ox : Obj) (od : Option Obj) : PySem.W.KitX K (.ref x) (.ref C) (fun h => PySem.W.InstAt h x ox C od) :=
  PySem.W.kitx_exc T.cl T.ga T.gt T.sb T.ca T.sp T.tk T.mr
theorem IsC.xf {K : PySem.W.Frag} {C : Addr} (T : IsC K C) : XfC K C := ⟨T.ga, T.gt, T.sb, T.hd⟩

/-! ### raise -/
/-- __init__(self, at): ValueError.__init__(self, ..); self.at = at -/
def spI (K : PySem.W.Frag) (f : Str) : Sp := fun vs H Q _ => ∃ (a C : Addr) (v : V), vs = [.ref a, v] ∧ OexC K C ∧ PySem.W.findIn K (.ref C) f = some none ∧ H a = some (exo a C none) ∧
  ∀ dx, H dx = none → dx ≠ a → Q .non (upd (upd H dx (exd dx [(f, v)])) a (exo a C (some dx)))
/-- what is known of a refusal's class; ups: the names of the classes that it is -/
structure XcOk (X : Cx) (n : Nam) (k : Nat) (x : Str) (a : Addr) : Prop where
  mg : X.mg x = some (.ref a)
  ox : OexC X.K a
  is : IsC X.K a
  no : PySem.W.findIn X.K (.ref a) (n.nm n.atF) = some none
  ini : ∃ fI fd ps, PySem.W.findIn X.K (.ref a) "__init__" = some (some (.ref fI)) ∧ PySem.W.typeIn X.K (.ref fI) = some (.type "function") ∧ Binds X.K fd ps [] ∧ FnOk X.prog X.w X.K X.mg X.base (L2.CX X.prog X.w) k fI fd ps (spI X.K (n.nm n.atF))
section
variable {n : Nam} {ι : List Addr} {H : Hp} {hp : Hs} {σ : L2.St} {e : Ev} {X : Cx} {W : Wx} {V' : WX} {P : Wd} {D : Ends} {E : Nat → Wv → Hs → List Addr → Hp → Prop}
theorem XR.mono {ι' : List Addr} {H' : Hp} {d : Option Addr} {w : Wv} (h : XR n ι H d w) (F : Fr ι H ι' H') : XR n ι' H' d w := by
  obtain ⟨dd, v, rfl, h1, h2, h3⟩ := h
  exact ⟨dd, v, rfl, F.keep _ _ h1 h2, F.notin h1 h2, h3.mono F⟩
theorem s_rse {x : Str} {c k : Nat} {a : Expr} {y : Ex} {p pos pos' : Pos} (hc : X.calm = true) (tk : Takes X V') (F : XcOk X n k x (n.xA c)) (hr : Room (k + 1) X.A) (hg : Gl X x) (ha : PA X [a] (GA n (ofW n V') P [y])) (hdb : (x == ("__debug__" : Str)) = false)
    (he : starEach [a] X.env = (false, eval a X.env) :: starEach [] X.env) :
    PS X (.Raise (some (.Call (.Name x p) [a] [] pos)) none pos') (GS n (ofW n V') (ex P (.rse c y))) := by
  obtain ⟨fI, fd, ps, i1, i2, i3, i4⟩ := F.ini
  refine ps_wk (ps_raise hc tk (pmk_oex F.ox i1 i2 i4 hr i3 .nil passL hg F.mg ha hdb he rfl)) fun D σ H ⟨ι, e, hp, S, A⟩ => ?_
  have A' : Af n (FR n) ι H ((evs P [y] e hp).bind fun ws h1 => match ws with
      | [v] => .exc c v h1
      | _ => .bad) (qD D) (ofW n V' σ) := by
    simp only [evs, Rz.bind_assoc, Rz.bind_ok]
    simpa only [ex] using A
  refine ⟨ι, e, hp, S, (Af.evs A').mono ?_⟩
  rintro vs H1 ⟨ι1, hp1, ws, F1, R1, V1, hl, A1⟩
  obtain ⟨v, rfl⟩ : ∃ v, ws = [v] := by
    match ws, hl with
    | [v], _ => exact ⟨v, rfl⟩
  cases V1 with
  | cons V2 V3 =>
    cases V3
    rename_i v0
    refine ⟨by simp, fun aa hn => ⟨aa, n.xA c, v0, rfl, F.ox, F.no, upd_same, fun dx hd hne => ⟨rfl, dx, [(n.nm n.atF, v0)], upd_same, ?_, ?_, ?_⟩⟩⟩
    · rw [upd_ne hne, upd_same]
    · rw [upd_ne hne] at hd; exact hd
    · rw [upd_ne hne] at hd
      have e1 : upd (del (upd (upd (upd H1 aa (exo aa (n.xA c) none)) dx (exd dx [(n.nm n.atF, v0)])) aa (exo aa (n.xA c) (some dx))) aa) dx (.xd [(n.nm n.atF, v0)]) = upd H1 dx (.xd [(n.nm n.atF, v0)]) := by
        funext b
        by_cases hb : b = dx
        · subst hb; rw [upd_same, upd_same]
        · rw [upd_ne hb, upd_ne hb]
          by_cases hb2 : b = aa
          · subst hb2; rw [del_same, hn]
          · rw [del_ne hb2, upd_ne hb2, upd_ne hb, upd_ne hb2]
      rw [e1]
      have hni : dx ∉ ι1 := R1.fresh hd
      have F2 : Fr ι1 H1 ι1 (upd H1 dx (.xd [(n.nm n.atF, v0)])) := ⟨List.prefix_refl _, fun _ h h' => absurd h h', fun b o hb hn' => by
        rw [upd_ne (ne_of_none hb hd)]; exact hb⟩
      have R2 : HR n ι1 (upd H1 dx (.xd [(n.nm n.atF, v0)])) hp1 := ⟨R1.len, R1.nd, fun k a o h1 h2 => by
        obtain ⟨ho, g1, g2⟩ := R1.at_ k a o h1 h2
        exact ⟨ho, by rw [upd_ne (ne_of_none g1 hd)]; exact g1, g2.mono F2⟩⟩
      exact A1 ι1 _ F2 R2 (some dx) ⟨dx, v0, rfl, upd_same, hni, V2.mono F2⟩
end
end SL

set_option maxRecDepth 100000
set_option maxHeartbeats 1000000
/-! Except suites by the evaluator. -/
namespace SL
open PySem L2 PyProof.Rows
set_option autoImplicit false

/-- the state within a suite: slot i holds the refusal at a, its own dict d, its value w -/
structure HSt (n : Nam) (ι : List Addr) (H : Hp) (σ : L2.St) (e : Ev) (hp : Hs) (a : Addr) (d : Option Addr) (w : Wv) (i : Nat) : Prop where
  sr : SR n ι H σ e hp
  xr : XR n ι H d w
  sl : σ[i]? = some (some (.ref a))
def noX : Nat → Wv → Hs → List Addr → Hp → Prop := fun _ _ _ _ _ => False
section
variable {n : Nam} {ι ι' : List Addr} {H H' : Hp} {hp hp' : Hs} {σ : L2.St} {e : Ev} {X : Cx} {a : Addr} {d : Option Addr} {c : Nat} {w : Wv} {i : Nat}
theorem HSt.mono (S : HSt n ι H σ e hp a d w i) (F : Fr ι H ι' H') (R : HR n ι' H' hp') : HSt n ι' H' σ e hp' a d w i := ⟨S.sr.mono F R, S.xr.mono F, S.sl⟩
def gH (n : Nam) (a : Addr) (d : Option Addr) (w : Wv) (i : Nat) (m : Ev → Hs → Rz Wv) : TE := fun σ H Q => ∃ ι e hp, HSt n ι H σ e hp a d w i ∧ Af n (VR n) ι H (m e hp) Q noX
def aH (n : Nam) (a : Addr) (d : Option Addr) (w : Wv) (i : Nat) (m : Ev → Hs → Rz (List Wv)) : TA := fun σ H Q => ∃ ι e hp, HSt n ι H σ e hp a d w i ∧ Af n (VRs n) ι H (m e hp) Q noX
def tH (n : Nam) (a : Addr) (d : Option Addr) (w : Wv) (i : Nat) (m : Ev → Hs → Rz Bool) : TT := fun σ H Q => ∃ ι e hp, HSt n ι H σ e hp a d w i ∧ Af n (fun _ _ b a => b = a) ι H (m e hp) Q noX
theorem h_var {j : Nat} {x : Str} {pos : Pos} (hN : X.N[j]? = some x) (hv : Vis X.env.scope x) (hd : (x == ("__debug__" : Str)) = false) (hcd : (x == ("__classdict__" : Str)) = false) : PE X (.Name x pos) (gH n a d w i (hev c w (.var j))) := by
  refine pe_wk (pe_var hN hv hd hcd) fun σ H Q ⟨ι, e, hp, S, A⟩ => ?_
  simp only [hev] at A
  split at A
  · rename_i v h
    obtain ⟨u, h1, h2⟩ := S.sr.at_ j v h
    exact ⟨u, h1, A.here S.sr.hr h2⟩
  · exact A.elim
theorem h_cst {k : Const} {j : Nat} {pos : Pos} {v : Wv} (h : cst2 k = some v) : PE X (.Constant k j pos) (gH n a d w i (hev c w (.cst v))) := by
  cases k <;> simp only [cst2, Option.some.injEq, reduceCtorEq] at h <;> subst h
  · exact pe_wk pe_non fun σ H Q ⟨ι, e, hp, S, A⟩ => by
      simp only [hev] at A
      exact A.here S.sr.hr VR.non
  · exact pe_wk pe_bl fun σ H Q ⟨ι, e, hp, S, A⟩ => by
      simp only [hev] at A
      exact A.here S.sr.hr (VR.bl _)
  · exact pe_wk pe_int fun σ H Q ⟨ι, e, hp, S, A⟩ => by
      simp only [hev] at A
      exact A.here S.sr.hr (VR.int _)
  · exact pe_wk pe_str fun σ H Q ⟨ι, e, hp, S, A⟩ => by
      simp only [hev] at A
      exact A.here S.sr.hr (VR.str _)
theorem ha_nil : PA X [] (aH n a d w i (hevs c w [])) := pa_wk pa_nil fun σ H Q ⟨ι, e, hp, S, A⟩ => by
  simp only [hevs] at A
  exact A.here S.sr.hr .nil
theorem ha_cons {e : Expr} {es : List Expr} {x : Hx} {xs : List Hx} (h1 : PE X e (gH n a d w i (hev c w x))) (hr : PA X es (aH n a d w i (hevs c w xs))) (hs : starEach (e :: es) X.env = (false, eval e X.env) :: starEach es X.env) : PA X (e :: es) (aH n a d w i (hevs c w (x :: xs))) := by
  refine pa_wk (pa_cons h1 hr hs) fun σ H Q ⟨ι, e, hp, S, A⟩ => ?_
  simp only [hevs] at A
  refine ⟨ι, e, hp, S, (Af.bind A).mono ?_⟩
  rintro v H1 ⟨ι1, hp1, b, F1, R1, V1, A1⟩
  refine ⟨ι1, e, hp1, S.mono F1 R1, (Af.bind A1).mono ?_⟩
  rintro vs H2 ⟨ι2, hp2, as, F2, R2, V2, A2⟩
  exact A2.here R2 (.cons (V1.mono F2) V2)
theorem h_tup {es : List Expr} {xs : List Hx} {x1 : Nat} {pos : Pos} (h : PA X es (aH n a d w i (hevs c w xs))) : PE X (.Tuple es x1 pos) (gH n a d w i (hev c w (.tup xs))) := by
  refine pe_wk (pe_tup h) fun σ H Q ⟨ι, e, hp, S, A⟩ => ?_
  simp only [hev] at A
  refine ⟨ι, e, hp, S, (Af.bind A).mono ?_⟩
  rintro vs H1 ⟨ι1, hp1, ws, F1, R1, V1, A1⟩
  split at A1
  · rename_i hz
    exact ⟨by rw [V1.length]; exact hz, newT_ok R1 V1 A1⟩
  · exact A1.elim
theorem ht_val {b : Expr} {x : Hx} (h : PE X b (gH n a d w i (hev c w x))) (he : ∀ whole, isTrue b X.env whole = (do let v ← whole; standAt b.pos; holding [v] (truthy v)))
    (ht : ∀ e h, htst c w x e h = (hev c w x e h).bind fun v h1 => match v with | .bl t => .ok t h1 | _ => .bad) : PT X b (tH n a d w i (htst c w x)) := by
  refine pt_wk (pt_val h he) fun σ H Q ⟨ι, e, hp, S, A⟩ => ?_
  rw [ht] at A
  refine ⟨ι, e, hp, S, (Af.bind A).mono ?_⟩
  rintro v H1 ⟨ι1, hp1, u, F1, R1, V1, A1⟩
  cases V1 <;> try exact A1.elim
  exact ⟨_, rfl, A1.here R1 rfl⟩
theorem ht_not {b : Expr} {x : Hx} {pos : Pos} (h : PT X b (tH n a d w i (htst c w x))) : PT X (.UnaryOp .Not b pos) (tH n a d w i (htst c w (.not x))) := by
  refine pt_wk (pt_not h) fun σ H Q ⟨ι, e, hp, S, A⟩ => ?_
  simp only [htst] at A
  refine ⟨ι, e, hp, S, (Af.bind A).mono ?_⟩
  rintro t H1 ⟨ι1, hp1, k, F1, R1, rfl, A1⟩
  exact A1.here R1 rfl
theorem hw_or {b : Expr} {b2 : Expr} {rest : List Expr} {x y : Hx} {pos : Pos} (h1 : PT X b (tH n a d w i (htst c w x))) (h2 : PW X (.BoolOp .Or (b2 :: rest) pos) (tH n a d w i (htst c w y))) : PW X (.BoolOp .Or (b :: b2 :: rest) pos) (tH n a d w i (htst c w (.or x y))) := by
  refine pw_wk (pw_or h1 h2) fun σ H Q ⟨ι, e, hp, S, A⟩ => ?_
  simp only [htst] at A
  refine ⟨ι, e, hp, S, (Af.bind A).mono ?_⟩
  rintro t H1 ⟨ι1, hp1, k, F1, R1, rfl, A1⟩
  cases t with
  | true => exact A1.here R1 rfl
  | false => exact ⟨ι1, e, hp1, S.mono F1 R1, A1⟩
theorem hw_and {b : Expr} {b2 : Expr} {rest : List Expr} {x y : Hx} {pos : Pos} (h1 : PT X b (tH n a d w i (htst c w x))) (h2 : PW X (.BoolOp .And (b2 :: rest) pos) (tH n a d w i (htst c w y))) : PW X (.BoolOp .And (b :: b2 :: rest) pos) (tH n a d w i (htst c w (.and x y))) := by
  refine pw_wk (pw_and h1 h2) fun σ H Q ⟨ι, e, hp, S, A⟩ => ?_
  simp only [htst] at A
  refine ⟨ι, e, hp, S, (Af.bind A).mono ?_⟩
  rintro t H1 ⟨ι1, hp1, k, F1, R1, rfl, A1⟩
  cases t with
  | true => exact ⟨ι1, e, hp1, S.mono F1 R1, A1⟩
  | false => exact A1.here R1 rfl

/-! ### the refusal's own value, its class -/
theorem h_atv {oe : Obj} {pn : List (Addr × Obj)} {x : Str} {p pos : Pos} (T : IsC X.K (n.xA c)) (hno : PySem.W.findIn X.K (.ref (n.xA c)) (n.nm n.atF) = some none) (hz : Zc (.ref (n.xA c)) d oe) (hf : ∃ vs, oe.data = .fields vs)
    (hN : X.N[i]? = some x) (hv : Vis X.env.scope x) (hd : (x == ("__debug__" : Str)) = false) (hcd : (x == ("__classdict__" : Str)) = false) :
    PE (X.suite a ((a, oe) :: pn)) (.Attribute (.Name x p) (n.nm n.atF) pos) (gH n a d w i (hev c w .atv)) := by
  have he : PE (X.suite a ((a, oe) :: pn)) (.Name x p) (tVar i) := pe_var hN hv hd hcd
  refine pe_wk (pe_xf T.xf hno hz hf he rfl) fun σ H Q ⟨ι, e, hp, S, A⟩ => ?_
  simp only [hev] at A
  obtain ⟨dd, v, rfl, g1, g2, g3⟩ := S.xr
  exact ⟨_, S.sl, rfl, rfl, dd, _, v, rfl, g1, by simp, A.here S.sr.hr g3⟩
/-- isinstance(e, T), isinstance(e, (T, ..)) -/
def rIsX (K : PySem.W.Frag) (D a : Addr) (d : Option Addr) : List V → Hp → VK → Prop := fun xs H Q => ∃ (dd : Addr) (fs : List (Str × V)) (t : V) (b : Bool), d = some dd ∧ H dd = some (.xd fs) ∧ xs = [.ref a, t] ∧ Q (.bl b) H ∧
  ((∃ cv, (∀ u, RelV t u → u = cv) ∧ PySem.W.kitOne K (.ref D) cv = some b) ∨ ∃ (tp : Addr) (vs : List V), t = .ref tp ∧ H tp = some (.tup vs) ∧ ∀ us, Vals vs us → PySem.W.kitAny K (.ref D) us = some b)
theorem call_isX {D : Addr} {oe : Obj} {pn : List (Addr × Obj)} (T : IsC X.K D) (hz : Zc (.ref D) d oe) (hf : ∃ vs, oe.data = .fields vs) : CallR (X.suite a ((a, oe) :: pn)) (.builtin "isinstance") (rIsX X.K D a d) := by
  intro pins s σ H xs us Q I r h
  obtain ⟨dd, fs, t, b, rfl, hdd, rfl, q, hk⟩ := h
  cases r with
  | cons rx rr =>
    cases rr with
    | cons rt rr =>
      cases rr
      cases rx
      rename_i ut
      obtain ⟨hget, _⟩ := I.pin (a, oe) (List.mem_append.mpr (.inl List.mem_cons_self))
      obtain ⟨vs0, hv0⟩ := hf
      have hx : ObjOk X.prog X.w H s.heap dd (.xd fs) := I.hok dd _ hdd
      obtain ⟨mA, hns, hr⟩ := hx
      obtain ⟨od, ho, hl⟩ := lookIn_ns hns
      have J : PySem.W.InstAt s.heap a oe D (some od) := by
        refine ⟨hget, hz.1, ?_, ?_⟩
        · unfold PySem.W.notCls; rw [hv0] <;> rfl
        · rw [hz.2]; exact ho
      rcases hk with ⟨cv, hcv, e⟩ | ⟨tp, ts, rfl, hT, e⟩
      · have ec := hcv _ rt
        subst ec
        exact PySem.W.kia_one (T.kit a oe (some od)) I.kIn J e (fun z => nomatch z) fun tk => ⟨.bl b, H, I.kept (t' := tk) fun _ _ z => z, rfl, q⟩
      · obtain rfl : ut = Value.ref tp := rt
        have ht : ObjOk X.prog X.w H s.heap tp (.tup ts) := I.hok tp _ hT
        obtain ⟨_, its, rv, ob, hob, hcls, nn, hdat⟩ := ht
        obtain ⟨oc, odd, oda, osl⟩ := ob
        dsimp only at hcls hdat
        subst hcls hdat
        exact PySem.W.kia_tup (T.kit a oe (some od)) I.kIn J hob (e its rv) (fun z => nomatch z) fun tk => ⟨.bl b, H, I.kept (t' := tk) fun _ _ z => z, rfl, q⟩
/-- a class that isinstance is asked for -/
structure ClsV (X : Cx) (t : Expr) (v : V) (u : Value) : Prop where
  pe : PE X t (tC v)
  rel : ∀ u', RelV v u' → u' = u
theorem h_is1 {oe : Obj} {pn : List (Addr × Obj)} {x : Str} {p p2 pos : Pos} {t : Expr} {v : V} {u : Value} {b : Bool} {yes no : List Nat} (T : IsC X.K (n.xA c)) (hz : Zc (.ref (n.xA c)) d oe) (hf : ∃ vs, oe.data = .fields vs)
    (hN : X.N[i]? = some x) (hv : Vis X.env.scope x) (hd : (x == ("__debug__" : Str)) = false) (hcd : (x == ("__classdict__" : Str)) = false) (hg : Gl X "isinstance") (hm : X.mg "isinstance" = none)
    (ht : ClsV (X.suite a ((a, oe) :: pn)) t v u) (hs : starEach [t] X.env = (false, eval t X.env) :: starEach [] X.env) (hs2 : starEach [.Name x p2, t] X.env = (false, eval (.Name x p2) X.env) :: starEach [t] X.env) (hpl : (backTo pos (starEach [t] X.env)).any (·.1) = false) (hk : PySem.W.kitOne X.K (.ref (n.xA c)) u = some b)
    (hy : yes.contains c = true → b = true) (hn : no.contains c = true → yes.contains c = false → b = false) :
    PE (X.suite a ((a, oe) :: pn)) (.Call (.Name "isinstance" p) [.Name x p2, t] [] pos) (gH n a d w i (hev c w (.isx yes no))) := by
  have he : PE (X.suite a ((a, oe) :: pn)) (.Name x p2) (tVar i) := pe_var hN hv hd hcd
  refine pe_wk (pe_callB (call_isX T hz hf) hg hm PyProof.Rows.boot_isinstance (pa_cons he (pa_cons ht.pe pa_nil hs) hs2) (by decide) (by decide) hs2 hpl) fun σ H Q ⟨ι, e, hp, S, A⟩ => ?_
  obtain ⟨dd, v0, rfl, g1, g2, g3⟩ := S.xr
  have key : Q (.bl b) H := by
    simp only [hev] at A
    split at A
    · rename_i h1
      rw [hy h1]
      exact A.here S.sr.hr (VR.bl _)
    · rename_i h1
      split at A
      · rename_i h2
        rw [hn h2 (by simpa using h1)]
        exact A.here S.sr.hr (VR.bl _)
      · exact A.elim
  exact ⟨_, S.sl, dd, _, v, b, rfl, g1, rfl, key, .inl ⟨u, ht.rel, hk⟩⟩
/-- many of them -/
inductive ClsVs (X : Cx) : List Expr → List V → List Value → Prop
  | nil : ClsVs X [] [] []
  | cons {t : Expr} {v : V} {u : Value} {ts : List Expr} {vs : List V} {us : List Value} : ClsV X t v u → starEach (t :: ts) X.env = (false, eval t X.env) :: starEach ts X.env → ClsVs X ts vs us → ClsVs X (t :: ts) (v :: vs) (u :: us)
def tCs (vs : List V) : TA := fun _ H Q => Q vs H
theorem ClsVs.pa {X : Cx} {ts : List Expr} {vs : List V} {us : List Value} (h : ClsVs X ts vs us) : PA X ts (tCs vs) := by
  induction h with
  | nil => exact pa_wk pa_nil fun σ H Q q => q
  | cons h1 hs h2 ih => exact pa_wk (pa_cons h1.pe ih hs) fun σ H Q q => q
theorem ClsVs.rel {X : Cx} {ts : List Expr} {vs : List V} {us : List Value} (h : ClsVs X ts vs us) : ∀ {us'}, Vals vs us' → us' = us := by
  induction h with
  | nil => intro us' r; cases r; rfl
  | cons h1 hs h2 ih =>
    intro us' r
    cases r with
    | cons r1 r2 => rw [h1.rel _ r1, ih r2]
theorem h_isN {oe : Obj} {pn : List (Addr × Obj)} {x : Str} {p p2 p3 pos : Pos} {k : Nat} {ts : List Expr} {vs : List V} {us : List Value} {b : Bool} {yes no : List Nat} (T : IsC X.K (n.xA c)) (hz : Zc (.ref (n.xA c)) d oe) (hf : ∃ vs, oe.data = .fields vs)
    (hN : X.N[i]? = some x) (hv : Vis X.env.scope x) (hd : (x == ("__debug__" : Str)) = false) (hcd : (x == ("__classdict__" : Str)) = false) (hg : Gl X "isinstance") (hm : X.mg "isinstance" = none)
    (ht : ClsVs (X.suite a ((a, oe) :: pn)) ts vs us) (hl : vs.length ≤ sizeLine) (hs : starEach [.Tuple ts k p3] X.env = (false, eval (.Tuple ts k p3) X.env) :: starEach [] X.env) (hs2 : starEach [.Name x p2, .Tuple ts k p3] X.env = (false, eval (.Name x p2) X.env) :: starEach [.Tuple ts k p3] X.env)
    (hpl : (backTo pos (starEach [.Tuple ts k p3] X.env)).any (·.1) = false) (hk : PySem.W.kitAny X.K (.ref (n.xA c)) us = some b)
    (hy : yes.contains c = true → b = true) (hn : no.contains c = true → yes.contains c = false → b = false) :
    PE (X.suite a ((a, oe) :: pn)) (.Call (.Name "isinstance" p) [.Name x p2, .Tuple ts k p3] [] pos) (gH n a d w i (hev c w (.isx yes no))) := by
  have he : PE (X.suite a ((a, oe) :: pn)) (.Name x p2) (tVar i) := pe_var hN hv hd hcd
  refine pe_wk (pe_callB (call_isX T hz hf) hg hm PyProof.Rows.boot_isinstance (pa_cons he (pa_cons (pe_tup ht.pa) pa_nil hs) hs2) (by decide) (by decide) hs2 hpl) fun σ H Q ⟨ι, e, hp, S, A⟩ => ?_
  have key : ∀ tp, H tp = none → Q (.bl b) (upd H tp (.tup vs)) := fun tp hn0 => by
    have F : Fr ι H ι (upd H tp (.tup vs)) := ⟨List.prefix_refl _, fun _ h h' => absurd h h', fun b o hb hn' => by
      rw [upd_ne (ne_of_none hb hn0)]; exact hb⟩
    have R : HR n ι (upd H tp (.tup vs)) hp := ⟨S.sr.hr.len, S.sr.hr.nd, fun k a o h1 h2 => by
      obtain ⟨ho, g1, g2⟩ := S.sr.hr.at_ k a o h1 h2
      exact ⟨ho, by rw [upd_ne (ne_of_none g1 hn0)]; exact g1, g2.mono F⟩⟩
    simp only [hev] at A
    split at A
    · rename_i h1
      rw [hy h1]
      exact A (.bl true) ι _ F R (VR.bl _)
    · rename_i h1
      split at A
      · rename_i h2
        rw [hn h2 (by simpa using h1)]
        exact A (.bl false) ι _ F R (VR.bl _)
      · exact A.elim
  obtain ⟨dd, v0, rfl, g1, g2, g3⟩ := S.xr
  refine ⟨_, S.sl, ?_⟩
  exact ⟨hl, fun tp hn0 => ⟨dd, _, .ref tp, b, rfl, by rw [upd_ne (ne_of_none g1 hn0)]; exact g1, rfl, key tp hn0, .inr ⟨tp, vs, rfl, upd_same, fun us' r => by rw [ht.rel r]; exact hk⟩⟩⟩

/-! ### a suite's statements -/
def FRH (n : Nam) (a : Addr) (i : Nat) (ι : List Addr) (H : Hp) : FV → Fl → Prop
  | .nx σ, .nx e => ER n ι H σ e ∧ σ[i]? = some (some (.ref a))
  | .rt v, .ret w => VR n ι H v w
  | _, _ => False
def mH (n : Nam) (a : Addr) (d : Option Addr) (w : Wv) (i : Nat) (m : Ev → Hs → Rz Fl) : TS := fun D σ H => ∃ ι e hp, HSt n ι H σ e hp a d w i ∧ Af n (FRH n a i) ι H (m e hp) (qD D) noX
theorem m_asg {b : Expr} {x : Hx} {j : Nat} {y : Str} {p pos : Pos} (hN : X.N.Nodup) (hi : X.N[j]? = some y) (hx : Loc X.env.scope y) (hf : X.fn y = true ∨ X.env.scope.names.lookup y = some .local) (hb : PE X b (gH n a d w i (hev c w x))) (hs : swapsWith b (some (.Name y p)) pos.line X.env = pure false) :
    PS X (.Assign [.Name y p] b pos) (mH n a d w i (hex i c w (.asg j x))) := by
  refine ps_wk (ps_set hN hi hx hb hs hf) fun D σ H ⟨ι, e, hp, S, A⟩ => ?_
  simp only [hex] at A
  refine ⟨ι, e, hp, S, (Af.bind A).mono ?_⟩
  rintro v H1 ⟨ι1, hp1, u, F1, R1, V1, A1⟩
  split at A1
  · exact A1.elim
  · rename_i hne
    exact Af.here (b := FV.nx (σ.set j (some v))) A1 R1 ⟨(S.sr.er.mono F1).set V1 j, by rw [List.getElem?_set_ne (fun q => hne (.inl q))]; exact S.sl⟩
theorem m_ret {b : Expr} {x : Hx} {pos : Pos} (hb : PE X b (gH n a d w i (hev c w x))) : PS X (.Return (some b) pos) (mH n a d w i (hex i c w (.ret x))) := by
  refine ps_wk (ps_ret hb) fun D σ H ⟨ι, e, hp, S, A⟩ => ?_
  simp only [hex] at A
  refine ⟨ι, e, hp, S, (Af.bind A).mono ?_⟩
  rintro v H1 ⟨ι1, hp1, u, F1, R1, V1, A1⟩
  exact Af.here (b := FV.rt v) A1 R1 V1
theorem ms_nil : PSs X [] (mH n a d w i (hexs i c w [])) := pss_wk pss_nil fun D σ H ⟨ι, e, hp, S, A⟩ => by
  simp only [hexs] at A
  exact Af.here (b := FV.nx σ) A S.sr.hr ⟨S.sr.er, S.sl⟩
theorem ms_cons {st : Stmt} {rest : List Stmt} {y : Hm} {ys : List Hm} (h1 : PS X st (mH n a d w i (hex i c w y))) (h2 : PSs X rest (mH n a d w i (hexs i c w ys))) : PSs X (st :: rest) (mH n a d w i (hexs i c w (y :: ys))) := by
  refine pss_wk (pss_cons h1 h2) fun D σ H ⟨ι, e, hp, S, A⟩ => ?_
  simp only [hexs] at A
  refine ⟨ι, e, hp, S, (Af.bind (Rel := FRH n a i) A).mono ?_⟩
  rintro b H1 ⟨ι1, hp1, f, F1, R1, V1, A1⟩
  cases b <;> cases f <;> first | exact V1.elim | skip
  · exact ⟨ι1, _, hp1, ⟨V1.1.sr R1, S.xr.mono F1, V1.2⟩, A1⟩
  · rename_i v u
    have A2 : Af n (FRH n a i) ι1 H1 (.ok (.ret u) hp1) (qD D) noX := A1
    have q : qD D (FV.rt v) H1 := Af.here (b := FV.rt v) A2 R1 V1
    exact q
theorem m_ifs {t : Expr} {b : List Stmt} {x : Hx} {ys : List Hm} {pos : Pos} (h1 : PT X t (tH n a d w i (htst c w x))) (h2 : PSs X b (mH n a d w i (hexs i c w ys))) : PS X (.If t b [] pos) (mH n a d w i (hex i c w (.ifs x ys))) := by
  refine ps_wk (ps_if h1 h2 pss_nil) fun D σ H ⟨ι, e, hp, S, A⟩ => ?_
  simp only [hex] at A
  refine ⟨ι, e, hp, S, (Af.bind A).mono ?_⟩
  rintro r H1 ⟨ι1, hp1, k, F1, R1, rfl, A1⟩
  cases r with
  | true => exact ⟨ι1, e, hp1, S.mono F1 R1, A1⟩
  | false => exact Af.here (b := FV.nx σ) A1 R1 ⟨S.sr.er.mono F1, S.sl⟩
end
end SL

set_option maxRecDepth 100000
set_option maxHeartbeats 1000000
/-! The text's expressions keep what the evaluator says. -/
namespace SL
open PySem L2 PyProof.Rows
set_option autoImplicit false

/-- a class as isinstance is handed it -/
def clsVal (n : Nam) (tb : Tb) (t : Str) : Value := match xix tb t with
  | some c => .ref (n.xA c)
  | none => .type "ValueError"
/-- a context that the tables tell -/
structure Good (n : Nam) (P : Wd) (tb : Tb) (k : Nat) (X : Cx) (s : Sc) (V' : WX) : Prop where
  hK : X.K = n.K
  calm : X.calm = true
  kind : X.env.scope.kind = .function
  scp : X.env.scope = s.sc
  nN : X.N = s.N
  nd : s.N.Nodup
  stk : ∀ x, s.st x = true → X.fn x = true ∨ X.env.scope.names.lookup x = some .local
  hr : Room (k + 1) X.A
  tk : Takes X V'
  fld : FldOk n P
  meths : MethsOk X n P k
  fns : ∀ x f, tb.fns.lookup x = some f → GlobFn X n P k x f
  cls : ∀ x c, tb.cls.lookup x = some c → ClsFn X n P k x c ∧ PySem.W.keepIn X.K (.ref (n.cA c)) = true ∧ SupFn X n P k x c
  con : ∀ x g, tb.con.lookup x = some g → ∃ w v u, P.glo g = some w ∧ X.mg x = some u ∧ RelV v u ∧ ∀ ι H, VR n ι H v w
  att : ∀ i a, tb.att[i]? = some a → n.nm i = a
  blt : ∀ x, bltNames.contains x = true → X.mg x = none
  k1 : 1 ≤ k
  atn : n.nm n.atF = tb.atN
  xc : ∀ c q, tb.xcs[c]? = some q → XcOk X n 1 q.1 (n.xA c) ∧ (∀ t, okT tb t = true → PySem.W.kitOne X.K (.ref (n.xA c)) (clsVal n tb t) = some (q.2.contains t)) ∧ ∀ t c', xix tb t = some c' → PySem.W.exmOne X.K (.ref (n.xA c)) (.ref (n.xA c')) = some (q.2.contains t)
section
variable {n : Nam} {P : Wd} {tb : Tb} {k : Nat} {X : Cx} {s : Sc} {V' : WX}
abbrev GE (n : Nam) (V' : WX) (P : Wd) (x : Ex) : TE := G n (ofW n V') P x
theorem Good.vis (g : Good n P tb k X s V') {x : Str} (h : isVis s x = true) : Vis X.env.scope x := g.scp ▸ isVis_ok h
theorem Good.loc (g : Good n P tb k X s V') {x : Str} (h : isLoc s x = true) : Loc X.env.scope x := g.scp ▸ isLoc_ok h
theorem Good.gl (g : Good n P tb k X s V') {x : Str} (h : isGl s x = true) : Gl X x := by
  show X.env.scope.names.lookup x = some .globalImplicit
  rw [g.scp]; exact isGl_ok h
theorem Good.ix (g : Good n P tb k X s V') {x : Str} {i : Nat} (h : ixS s.N x 0 = some i) : X.N[i]? = some x := by rw [g.nN]; exact ixS_get0 h
theorem Good.ndx (g : Good n P tb k X s V') : X.N.Nodup := g.nN ▸ g.nd
theorem Good.nmx (g : Good n P tb k X s V') {m : Str} {i : Nat} (h : ixS tb.att m 0 = some i) : n.nm i = m := g.att _ _ (ixS_get0 h)
theorem Good.room (g : Good n P tb k X s V') : Room k X.A := g.hr.mono (Nat.le_succ k)
theorem takes_bot (X : Cx) : Takes X (fun _ _ _ _ => False) := fun u s' ⟨a, B, sI, pins, σ, H, cls, d, e, I, nb, up, sky, na, os, ag, w⟩ => w.elim
/-- the block's context -/
theorem Good.blk (g : Good n P tb k X s V') {scope : Scope} (hk : scope.kind = .function) (sh : Shared) (H : Hp) (C : Addr) (cl : List (Str × Addr)) (fp : List Addr) : Good n P tb k (X.blk sh H scope (compEnvC scope cl C X.env) fp) (blkS s scope) (fun _ _ _ _ => False) where
  hK := g.hK
  calm := g.calm
  kind := hk
  scp := by
    show relS scope X.env.scope = relS scope s.sc
    rw [g.scp]
  nN := g.nN
  nd := g.nd
  stk := fun x h => by
    have h : (scope.names.lookup x == some .cell || (relS scope s.sc).names.lookup x == some .local) = true := h
    rw [Bool.or_eq_true] at h
    rcases h with h | h
    · exact .inl h
    · refine .inr ?_
      show (relS scope X.env.scope).names.lookup x = some .local
      rw [g.scp]
      simpa using h
  hr := g.hr
  tk := takes_bot _
  fld := g.fld
  meths := fun c m f h => let M := g.meths c m f h; ⟨M.cls, M.at_.imp fun a q => ⟨q.1, ⟨q.2.ok⟩⟩⟩
  fns := fun x f h => ⟨(g.fns x f h).at_.imp fun a q => ⟨q.1, q.2.1, ⟨q.2.2.ok⟩⟩⟩
  cls := fun x c h => let q := g.cls x c h; ⟨⟨q.1.at_, fun cl f h1 h2 => (q.1.init cl f h1 h2).imp fun a z => ⟨z.1, ⟨z.2.ok⟩⟩⟩, q.2.1, ⟨q.2.2.at_, q.2.2.get, q.2.2.rds, fun m f h => (q.2.2.meth m f h).imp fun a z => ⟨z.1, z.2.1, z.2.2.1, ⟨z.2.2.2.ok⟩⟩⟩⟩
  con := g.con
  att := g.att
  blt := g.blt
  k1 := g.k1
  atn := g.atn
  xc := fun c q h => let z := g.xc c q h; ⟨⟨z.1.mg, z.1.ox, z.1.is, z.1.no, z.1.ini⟩, z.2⟩
/-- within the body of a try -/
theorem Good.tr (g : Good n P tb k X s V') {W' : WX} {pn : List (Addr × Obj)} {xe : Value → Shared → Prop} (tk : Takes (X.tr pn xe) W') : Good n P tb k (X.tr pn xe) s W' where
  hK := g.hK
  calm := g.calm
  kind := g.kind
  scp := g.scp
  nN := g.nN
  nd := g.nd
  stk := g.stk
  hr := g.hr
  tk := tk
  fld := g.fld
  meths := fun c m f h => let M := g.meths c m f h; ⟨M.cls, M.at_.imp fun a q => ⟨q.1, ⟨q.2.ok⟩⟩⟩
  fns := fun x f h => ⟨(g.fns x f h).at_.imp fun a q => ⟨q.1, q.2.1, ⟨q.2.2.ok⟩⟩⟩
  cls := fun x c h => let q := g.cls x c h; ⟨⟨q.1.at_, fun cl f h1 h2 => (q.1.init cl f h1 h2).imp fun a z => ⟨z.1, ⟨z.2.ok⟩⟩⟩, q.2.1, ⟨q.2.2.at_, q.2.2.get, q.2.2.rds, fun m f h => (q.2.2.meth m f h).imp fun a z => ⟨z.1, z.2.1, z.2.2.1, ⟨z.2.2.2.ok⟩⟩⟩⟩
  con := g.con
  att := g.att
  blt := g.blt
  k1 := g.k1
  atn := g.atn
  xc := fun c q h => let z := g.xc c q h; ⟨⟨z.1.mg, z.1.ox, z.1.is, z.1.no, z.1.ini⟩, z.2⟩

/-- a reading for each expression that f takes -/
def Snd (n : Nam) (P : Wd) (tb : Tb) (k : Nat) (f : Sc → Expr → Option Ex) : Prop := ∀ (X : Cx) (s : Sc) (V' : WX), Good n P tb k X s V' → ∀ e x, f s e = some x → PE X e (GE n V' P x) ∧ PT X e (GT n (ofW n V') P x)
/-- the same within one context -/
abbrev Snd1 (n : Nam) (P : Wd) (X : Cx) (V' : WX) (f : Expr → Option Ex) : Prop := ∀ e x, f e = some x → PE X e (GE n V' P x) ∧ PT X e (GT n (ofW n V') P x)
theorem erL_ok {f : Expr → Option Ex} (F : Snd1 n P X V' f) : ∀ {es : List Expr} {xs : List Ex}, erL f es = some xs → PA X es (GA n (ofW n V') P xs) ∧ es.all noStar = true
  | [], xs, h => by
    simp only [erL, Option.some.injEq] at h
    subst h
    exact ⟨a_nil, rfl⟩
  | a :: as, xs, h => by
    simp only [erL] at h
    split at h
    · rename_i hs
      split at h
      · rename_i y ys h1 h2
        cases h
        obtain ⟨h3, h4⟩ := erL_ok F h2
        exact ⟨a_cons (F a y h1).1 h3 (star_cons hs), by rw [List.all_cons, hs, h4]; rfl⟩
      · cases h
    · cases h
theorem erO_ok {f : Expr → Option Ex} (F : Snd1 n P X V' f) {o : Option Expr} {x : Option Ex} (h : erO f o = some x) : PO X o (GO n (ofW n V') P x) := by
  cases o with
  | none =>
    simp only [erO, Option.some.injEq] at h
    subst h
    exact o_none
  | some a =>
    simp only [erO, Option.map_eq_some_iff] at h
    obtain ⟨y, h1, rfl⟩ := h
    exact o_some (F a y h1).1
/-- truth by the value -/
theorem t_plain {a : Expr} {x : Ex} (hK : X.K = n.K) (ha : PE X a (GE n V' P x)) (he : ∀ whole, isTrue a X.env whole = (do let v ← whole; standAt a.pos; holding [v] (truthy v)))
    (ht : ∀ e h, tst P x e h = (ev P x e h).bind fun w h1 => Rz.of (truth h1 w) h1) : PE X a (GE n V' P x) ∧ PT X a (GT n (ofW n V') P x) := ⟨ha, t_gen hK ha he ht⟩
theorem erB_and {f : Expr → Option Ex} (F : Snd1 n P X V' f) (hK : X.K = n.K) {pos : Pos} : ∀ {es : List Expr} {x : Ex}, erB true f es = some x → PE X (.BoolOp .And es pos) (GE n V' P x) ∧ PW X (.BoolOp .And es pos) (GT n (ofW n V') P x)
  | [], x, h => by simp [erB] at h
  | [a], x, h => by
    simp only [erB] at h
    exact ⟨pe_one (F a x h).1, w_and1 (F a x h).2⟩
  | a :: b :: es, x, h => by
    simp only [erB] at h
    split at h
    · rename_i y z h1 h2
      simp only [if_true, Option.some.injEq] at h
      subst h
      obtain ⟨h3, h4⟩ := erB_and F hK (pos := pos) h2
      exact ⟨g_and hK (F a y h1).1 h3, w_and (F a y h1).2 h4⟩
    · cases h
theorem erB_or {f : Expr → Option Ex} (F : Snd1 n P X V' f) (hK : X.K = n.K) {pos : Pos} : ∀ {es : List Expr} {x : Ex}, erB false f es = some x → PE X (.BoolOp .Or es pos) (GE n V' P x) ∧ PW X (.BoolOp .Or es pos) (GT n (ofW n V') P x)
  | [], x, h => by simp [erB] at h
  | [a], x, h => by
    simp only [erB] at h
    exact ⟨pe_one (F a x h).1, w_or1 (F a x h).2⟩
  | a :: b :: es, x, h => by
    simp only [erB] at h
    split at h
    · rename_i y z h1 h2
      simp only [Bool.false_eq_true, if_false, Option.some.injEq] at h
      subst h
      obtain ⟨h3, h4⟩ := erB_or F hK (pos := pos) h2
      exact ⟨g_or hK (F a y h1).1 h3, w_or (F a y h1).2 h4⟩
    · cases h
theorem t_ite {c a b : Expr} {z x y : Ex} {pos : Pos} {W : Wx} (hc : PT X c (GT n W P z)) (ha : PT X a (GT n W P x)) (hb : PT X b (GT n W P y)) : PT X (.IfExp c a b pos) (GT n W P (.ite z x y)) := by
  refine ⟨fun pins s σ H Q I ⟨ι, e, hp, S, A⟩ => ?_⟩
  simp only [tst] at A
  show wpAny _ _ (do if ← isTrue c X.env (eval c X.env) then isTrue a X.env (eval a X.env) else isTrue b X.env (eval b X.env)) _ _ _
  refine wpAny_bind (thn (hc.run pins s σ H _ I ⟨ι, e, hp, S, Af.bind A⟩) fun t s1 ⟨H1, I1, q⟩ => ?_)
  obtain ⟨ι1, hp1, t', F1, R1, rfl, A1⟩ := q
  cases t with
  | true => exact ha.run pins s1 σ H1 _ I1 ⟨ι1, e, hp1, S.mono F1 R1, A1⟩
  | false => exact hb.run pins s1 σ H1 _ I1 ⟨ι1, e, hp1, S.mono F1 R1, A1⟩
theorem Good.bn (g : Good n P tb k X s V') {x : Str} (h : x ∈ bltNames) : X.mg x = none := g.blt x (List.contains_iff_mem.mpr h)
theorem bf_mem (b : Bf) : Str.ofString b.name.1 ∈ bltNames := by cases b <;> decide +kernel
theorem ty_mem (b : Ty) : Str.ofString b.name ∈ bltNames := by cases b <;> decide +kernel
theorem erC_ok {f : Expr → Option Ex} (g : Good n P tb k X s V') (F : Snd1 n P X V' f) {x : Str} {args : List Expr} {y : Ex} {p pos : Pos} (h : erC tb s f x args = some y) : PE X (.Call (.Name x p) args [] pos) (GE n V' P y) := by
  unfold erC at h
  split at h
  · rename_i hx
    simp only [Bool.and_eq_true] at hx
    have hg := g.gl hx.1
    have hd := (okName_ok hx.2).1
    split at h
    · rename_i fi q
      obtain ⟨ys, h1, rfl⟩ := Option.map_eq_some_iff.mp h
      obtain ⟨h2, h3⟩ := erL_ok F h1
      cases args with
      | nil =>
        simp only [erL, Option.some.injEq] at h1
        subst h1
        exact g_call0 g.room g.tk hg (g.fns x fi q) hd
      | cons a as =>
        rw [List.all_cons, Bool.and_eq_true] at h3
        exact g_call g.room g.tk hg (g.fns x fi q) h2 hd (star_cons h3.1) (star_any h3.2)
    · split at h
      · rename_i c q
        obtain ⟨ys, h1, rfl⟩ := Option.map_eq_some_iff.mp h
        obtain ⟨h2, h3⟩ := erL_ok F h1
        obtain ⟨c1, c2, c3⟩ := g.cls x c q
        cases args with
        | nil =>
          simp only [erL, Option.some.injEq] at h1
          subst h1
          exact g_make0 g.hr g.tk hg c1 c2 hd
        | cons a as =>
          rw [List.all_cons, Bool.and_eq_true] at h3
          exact g_make g.hr g.tk hg c1 c2 h2 hd (star_cons h3.1) (star_any h3.2)
      · split at h
        · rename_i hx2
          subst hx2
          split at h
          · rename_i a t tp
            split at h
            · rename_i hs
              simp only [Bool.and_eq_true] at hs
              split at h
              · rename_i v T h1 h2
                cases h
                have e := tyOf2_ok h2
                subst e
                exact g_isi g.hK hg (g.bn (by decide +kernel)) (g.gl hs.2) (g.bn (ty_mem T)) (F a v h1).1 (star_cons hs.1)
              · cases h
            · cases h
          · cases h
        · split at h
          · rename_i b a as h1
            split at h
            · rename_i ht
              obtain ⟨ys, h2, rfl⟩ := Option.map_eq_some_iff.mp h
              obtain ⟨h3, h4⟩ := erL_ok F h2
              have e := bfOf_ok h1
              rw [List.all_cons, Bool.and_eq_true] at h4
              exact g_blt g.hK g.calm ht e hg (e ▸ g.bn (bf_mem b)) h3 (star_cons h4.1) (star_any h4.2)
            · cases h
          · cases h
  · cases h
theorem erM_ok {f : Expr → Option Ex} (g : Good n P tb k X s V') (F : Snd1 n P X V' f) {o : Expr} {m : Str} {apos pos : Pos} {args : List Expr} {y : Ex} (h : erM tb f o m apos pos args = some y) : PE X (.Call (.Attribute o m apos) args [] pos) (GE n V' P y) := by
  unfold erM at h
  split at h
  · rename_i hc
    simp only [Bool.and_eq_true, decide_eq_true_eq] at hc
    obtain ⟨⟨c1, c2⟩, c3⟩ := hc
    split at h
    · rename_i l hl
      split at h
      · rename_i ht
        split at h
        · rename_i x xs h1 h2
          cases h
          obtain ⟨h3, h4⟩ := erL_ok F h2
          obtain ⟨id, s1, s2, s3⟩ := l_slot (X := X) (n := n) l ht
          have e := lmOf_ok hl
          subst e
          cases args with
          | nil =>
            simp only [erL, Option.some.injEq] at h2
            subst h2
            exact g_lm0 g.hK s1 s2 s3 (F o x h1).1 c1 c2
          | cons a as =>
            have h5 := h4
            rw [List.all_cons, Bool.and_eq_true] at h5
            refine g_lm g.hK s1 s2 s3 (F o x h1).1 h3 c1 ?_ c2 (star_cons h5.1) (star_any h5.2)
            rw [star_all h4]
            have : (backToKw pos (keywordEach [] X.env)) = [] := rfl
            rw [this]
            simpa using c3
        · cases h
      · cases h
    · split at h
      · rename_i i x xs h0 h1 h2
        cases h
        obtain ⟨h3, h4⟩ := erL_ok F h2
        have e := g.nmx h0
        subst e
        cases args with
        | nil =>
          simp only [erL, Option.some.injEq] at h2
          subst h2
          exact g_meth0 g.hK g.room g.tk g.meths (F o x h1).1 (meth_eq c1 c2 c3 h4)
        | cons a as =>
          have h5 := h4
          rw [List.all_cons, Bool.and_eq_true] at h5
          exact g_meth g.hK g.room g.tk g.meths (F o x h1).1 h3 (star_cons h5.1) (star_any h5.2) (meth_eq c1 c2 c3 h4)
      · cases h
  · cases h
theorem erU_ok {f : Expr → Option Ex} (g : Good n P tb k X s V') (F : Snd1 n P X V' f) {x m : Str} {p apos pos : Pos} {args : List Expr} {y : Ex} (hx : isGl s x = true) (h : erU tb s f x m apos pos args = some y) : PE X (.Call (.Attribute (.Name x p) m apos) args [] pos) (GE n V' P y) := by
  unfold erU at h
  split at h
  · rename_i hc
    simp only [Bool.and_eq_true, decide_eq_true_eq] at hc
    obtain ⟨⟨c1, c2⟩, c3⟩ := hc
    split at h
    · cases h
    · rename_i a as
      split at h
      · rename_i c i xs h0 h1 h2
        cases h
        obtain ⟨h3, h4⟩ := erL_ok F h2
        have h5 := h4
        rw [List.all_cons, Bool.and_eq_true] at h5
        have e := g.nmx h1
        subst e
        exact g_sup g.room g.tk (g.gl hx) (g.cls x c h0).2.2 h3 (okName_ok c1).1 (star_cons h5.1) (star_any h5.2) (meth_eq rfl c2 c3 h4)
      · cases h
  · cases h
theorem erIt_ok {f : Expr → Option Ex} (g : Good n P tb k X s V') (F : Snd1 n P X V' f) {tg e : Expr} {it : SL.Itr} (h : erIt tb s f (isTup tg) e = some it) : PI X tg e (GI n (ofW n V') P it) := by
  have seq : ∀ {e : Expr} {it : SL.Itr}, (f e).map Itr.seq = some it → PI X tg e (GI n (ofW n V') P it) := fun {e it} h => by
    obtain ⟨x, h1, rfl⟩ := Option.map_eq_some_iff.mp h
    exact i_seq g.hK (F e x h1).1
  have tup : isTup tg = true → ∃ es k p, tg = .Tuple es k p := fun h => by
    cases tg <;> first | exact ⟨_, _, _, rfl⟩ | cases h
  have one : ∀ {a : Expr} {v : Ex}, f a = some v → noStar a = true → PA X [a] (GA n (ofW n V') P [v]) := fun {a v} h hs => a_cons (F a v h).1 a_nil (star_cons hs)
  have two : ∀ {a b : Expr} {v w : Ex}, f a = some v → f b = some w → noStar a = true → noStar b = true → PA X [a, b] (GA n (ofW n V') P [v, w]) := fun {a b v w} h h' hs hs' => a_cons (F a v h).1 (one h' hs') (star_cons hs)
  have se1 : ∀ {a : Expr}, noStar a = true → starEach [a] X.env = [(false, eval a X.env)] := fun {a} h => star_cons h
  unfold erIt at h
  split at h
  · rename_i x p args pos
    split at h
    · rename_i hx
      simp only [Bool.and_eq_true] at hx
      have hg := g.gl hx.1
      split at h
      · rename_i ex
        subst ex
        split at h
        · rename_i a
          split at h
          · rename_i hs
            obtain ⟨v, h1, rfl⟩ := Option.map_eq_some_iff.mp h
            exact i_rng1 hg (g.bn (by decide +kernel)) (one h1 hs) (se1 hs)
          · cases h
        · rename_i a b
          split at h
          · rename_i hs
            simp only [Bool.and_eq_true] at hs
            split at h
            · rename_i v w h1 h2
              cases h
              exact i_rng2 hg (g.bn (by decide +kernel)) (two h1 h2 hs.1 hs.2) (by rw [star_cons hs.1, star_cons hs.2]; rfl) (se1 hs.2)
            · cases h
          · cases h
        · cases h
      · split at h
        · rename_i ex
          subst ex
          split at h
          · rename_i a
            split at h
            · rename_i hs
              simp only [Bool.and_eq_true] at hs
              obtain ⟨v, h1, rfl⟩ := Option.map_eq_some_iff.mp h
              obtain ⟨es, kk, tp, rfl⟩ := tup hs.2
              exact i_enm g.hK hg (g.bn (by decide +kernel)) (one h1 hs.1) (se1 hs.1)
            · cases h
          · cases h
        · split at h
          · rename_i ex
            subst ex
            split at h
            · rename_i a b
              split at h
              · rename_i hs
                simp only [Bool.and_eq_true] at hs
                split at h
                · rename_i v w h1 h2
                  cases h
                  obtain ⟨es, kk, tp, rfl⟩ := tup hs.2
                  exact i_zip2 g.hK hg (g.bn (by decide +kernel)) (two h1 h2 hs.1.1 hs.1.2) (star_cons hs.1.1) (star_any (by rw [List.all_cons, hs.1.2]; rfl))
                · cases h
              · cases h
            · rename_i a b c
              split at h
              · rename_i hs
                simp only [Bool.and_eq_true] at hs
                split at h
                · rename_i v w u h1 h2 h3
                  cases h
                  obtain ⟨es, kk, tp, rfl⟩ := tup hs.2
                  exact i_zip3 g.hK hg (g.bn (by decide +kernel)) (a_cons (F a v h1).1 (two h2 h3 hs.1.1.2 hs.1.2) (star_cons hs.1.1.1)) (star_cons hs.1.1.1) (star_any (by rw [List.all_cons, List.all_cons, hs.1.1.2, hs.1.2]; rfl))
                · cases h
              · cases h
            · cases h
          · split at h
            · rename_i ex
              subst ex
              split at h
              · rename_i a
                split at h
                · rename_i hs
                  obtain ⟨v, h1, rfl⟩ := Option.map_eq_some_iff.mp h
                  exact i_rev g.hK hg (g.bn (by decide +kernel)) (F a v h1).1 (star_cons hs)
                · cases h
              · cases h
            · exact seq h
    · exact seq h
  · exact seq h
theorem erT_ok (g : Good n P tb k X s V') : ∀ (j : Nat) {e : Expr} {t : Tg}, erT s j e = some t → PG X e (gB n t)
  | 0, e, t, h => by simp [erT] at h
  | j + 1, e, t, h => by
    have lst : ∀ {es : List Expr} {ts : List Tg}, erTl (erT s j) es = some ts → PGs X es (gBs n ts) ∧ es.all noStar = true ∧ es.length = ts.length := by
      intro es
      induction es with
      | nil =>
        intro ts h
        simp only [erTl, Option.some.injEq] at h
        subst h
        exact ⟨tgs_nil, rfl, rfl⟩
      | cons a as ih =>
        intro ts h
        simp only [erTl] at h
        split at h
        · rename_i hs
          split at h
          · rename_i x xs h1 h2
            cases h
            obtain ⟨h3, h4, h5⟩ := ih h2
            exact ⟨tgs_cons (erT_ok g j h1) h3 (by rw [asg_cons hs]; rfl), by rw [List.all_cons, hs, h4]; rfl, by rw [List.length_cons, List.length_cons, h5]⟩
          · cases h
        · cases h
    cases e with
    | Name x p =>
      simp only [erT] at h
      split at h
      · rename_i hx
        simp only [Bool.and_eq_true] at hx
        obtain ⟨i, h1, rfl⟩ := Option.map_eq_some_iff.mp h
        exact tg_name g.ndx (g.ix h1) (g.loc hx.2) (g.stk _ hx.1)
      · cases h
    | Tuple es kk p =>
      simp only [erT] at h
      obtain ⟨ts, h1, rfl⟩ := Option.map_eq_some_iff.mp h
      obtain ⟨h3, h4, h5⟩ := lst h1
      exact tg_tup g.hK g.calm h3 (by rw [asg_length, h5]) (asg_none h4)
    | _ => simp [erT] at h
theorem Af.noE {α β : Type} {Rel : List Addr → Hp → β → α → Prop} {ι : List Addr} {H : Hp} {r : Rz α} {Q : β → Hp → Prop} {E E' : Nat → Wv → Hs → List Addr → Hp → Prop} (hE : ∀ c w h ι H, E c w h ι H → False) (A : Af n Rel ι H r Q E) : Af n Rel ι H r Q E' := by
  cases r with
  | ok a h => exact A
  | exc c w h => exact fun ι' H' F R => (hE _ _ _ _ _ (A ι' H' F R)).elim
  | bad => exact A
theorem noW_pe {X : Cx} {e : Expr} {x : Ex} (h : PE X e (GE n V' P x)) : PE X e (G n noW P x) := pe_wk h fun σ H Q ⟨ι, ee, hp, S, A⟩ => ⟨ι, ee, hp, S, A.noE fun _ _ _ _ _ z => z⟩
theorem noW_pt {X : Cx} {e : Expr} {x : Ex} (h : PT X e (GT n (ofW n V') P x)) : PT X e (GT n noW P x) := pt_wk h fun σ H Q ⟨ι, ee, hp, S, A⟩ => ⟨ι, ee, hp, S, A.noE fun _ _ _ _ _ z => z⟩
def plainX : Ex → Bool
  | .not _ => false
  | .and _ _ => false
  | .or _ _ => false
  | .ite _ _ _ => false
  | _ => true
theorem tst_plain {x : Ex} (h : plainX x = true) (e : Ev) (hs : Hs) : tst P x e hs = (ev P x e hs).bind fun w h1 => Rz.of (truth h1 w) h1 := by
  cases x <;> first | (cases h; done) | (rw [tst] <;> simp)
theorem plain_ca {f : Expr → Option Ex} {c : Expr} {args : List Expr} {kws : List Keyword} {p : Pos} {x : Ex} (h : erCa tb s f c args kws p = some x) : plainX x = true := by
  simp only [erCa, erC, erM, erU] at h
  (repeat' split at h) <;> first | (obtain ⟨_, _, rfl⟩ := Option.map_eq_some_iff.mp h; rfl) | (cases h; rfl) | (cases h; done)
theorem own_ix {N : List Str} {scope : Scope} : ∀ p ∈ ownOf N scope, N[p.2]? = some p.1 := fun p hp => by
  unfold ownOf at hp
  obtain ⟨y, h1, h2⟩ := List.mem_filterMap.mp hp
  split at h2
  · obtain ⟨i, h3, rfl⟩ := Option.map_eq_some_iff.mp h2
    exact ixS_get0 h3
  · obtain ⟨i, h3, rfl⟩ := Option.map_eq_some_iff.mp h2
    exact ixS_get0 h3
  · cases h2
theorem erK_ok {f : Sc → Expr → Option Ex} (g : Good n P tb k X s V') (F : Snd n P tb k f) {j : Nat} {elt tg iter : Expr} {ifs : List Expr} {scope : Scope} {q : Ex × List Nat × Tg × SL.Itr × Option Ex} (h : erK tb s j f elt tg iter ifs scope = some q) :
    PI X tg iter (GI n (ofW n V') P q.2.2.2.1) ∧ BlkOk X.N X.env.scope scope (ownOf s.N scope) ∧ q.2.1 = (ownOf s.N scope).map (·.2) ∧ CompOk X n P elt tg ifs scope q.1 q.2.2.1 q.2.2.2.2 ∧ (∀ i ∈ q.2.2.1.slots, i ∈ (ownOf s.N scope).map (·.2)) ∧ noSet iter = true := by
  unfold erK at h
  split at h
  · rename_i hc
    simp only [Bool.and_eq_true] at hc
    have B : BlkOk X.N X.env.scope scope (ownOf s.N scope) := by
      rw [g.nN, g.scp]; exact blkOk_by hc.1
    split at h
    · rename_i t it x h1 h2 h3
      split at h
      · rename_i hs
        have hs' : ∀ i ∈ t.slots, i ∈ (ownOf s.N scope).map (·.2) := fun i hi => by
          have := List.all_eq_true.mp hs i hi
          exact List.contains_iff_mem.mp this
        have hi := erIt_ok (tg := tg) g (F X s V' g) h2
        split at h
        · cases h
          exact ⟨hi, B, rfl, ⟨fun sh H C cl fp => erT_ok (g.blk B.kind sh H C cl fp) j h1, fun sh H C cl fp => pts_nil, fun sh H C cl fp => noW_pe (F _ _ _ (g.blk B.kind sh H C cl fp) elt x h3).1⟩, hs', hc.2⟩
        · rename_i c
          obtain ⟨z, h4, rfl⟩ := Option.map_eq_some_iff.mp h
          exact ⟨hi, B, rfl, ⟨fun sh H C cl fp => erT_ok (g.blk B.kind sh H C cl fp) j h1, fun sh H C cl fp => pts_one (noW_pt (F _ _ _ (g.blk B.kind sh H C cl fp) c z h4).2), fun sh H C cl fp => noW_pe (F _ _ _ (g.blk B.kind sh H C cl fp) elt x h3).1⟩, hs', hc.2⟩
        · cases h
      · cases h
    · cases h
  · cases h
theorem cst_ok {c : Const} {w : Wv} {j : Nat} {pos : Pos} (h : cst2 c = some w) : PE X (.Constant c j pos) (GE n V' P (.cst w)) := by
  cases c <;> simp only [cst2, Option.some.injEq, reduceCtorEq] at h <;> subst h
  · exact g_non
  · exact g_bl
  · exact g_int
  · exact g_str
/-- THE READING of an expression -/
theorem er_ok : ∀ j, Snd n P tb k (erE tb j)
  | 0 => fun X s V' g e x h => by simp [erE] at h
  | j + 1 => fun X s V' g e x h => by
    have IH := er_ok j
    have F : Snd1 n P X V' (erE tb j s) := IH X s V' g
    have hu := g.hr.units
    cases e with
    | Name y p =>
      simp only [erE, erN] at h
      split at h
      · rename_i hv
        split at h
        · rename_i hn
          obtain ⟨i, h1, rfl⟩ := Option.map_eq_some_iff.mp h
          exact t_plain g.hK (g_var (g.ix h1) (g.vis hv) (okName_ok hn).1 (okName_ok hn).2) (fun _ => rfl) fun _ _ => by rw [tst] <;> simp
        · cases h
      · split at h
        · rename_i hn
          simp only [Bool.and_eq_true] at hn
          obtain ⟨i, h1, rfl⟩ := Option.map_eq_some_iff.mp h
          obtain ⟨w, v, u, c1, c2, c3, c4⟩ := g.con y i h1
          exact t_plain g.hK (g_glo (g.gl hn.1) c1 c2 c3 c4 (okName_ok hn.2).1) (fun _ => rfl) fun _ _ => by rw [tst] <;> simp
        · cases h
    | Constant c j p =>
      simp only [erE] at h
      obtain ⟨w, h1, rfl⟩ := Option.map_eq_some_iff.mp h
      exact t_plain g.hK (cst_ok h1) (fun _ => rfl) fun _ _ => by rw [tst] <;> simp
    | Tuple es kk p =>
      simp only [erE] at h
      obtain ⟨w, h1, rfl⟩ := Option.map_eq_some_iff.mp h
      exact t_plain g.hK (g_tup (erL_ok F h1).1) (fun _ => rfl) fun _ _ => by rw [tst] <;> simp
    | List es p =>
      simp only [erE] at h
      obtain ⟨w, h1, rfl⟩ := Option.map_eq_some_iff.mp h
      exact t_plain g.hK (g_lst (erL_ok F h1).1) (fun _ => rfl) fun _ _ => by rw [tst] <;> simp
    | BinOp a o b p =>
      simp only [erE, erBi] at h
      split at h
      · rename_i q y z h0 h1 h2
        cases h
        have e := op2_ok h0
        subst e
        exact t_plain g.hK (g_bin g.hK (F a y h1).1 (F b z h2).1) (fun _ => rfl) fun _ _ => by rw [tst] <;> simp
      · cases h
    | UnaryOp o a p =>
      simp only [erE, erUn] at h
      split at h
      · obtain ⟨w, h1, rfl⟩ := Option.map_eq_some_iff.mp h
        exact t_plain g.hK (g_neg (F a w h1).1) (fun _ => rfl) fun _ _ => by rw [tst] <;> simp
      · obtain ⟨w, h1, rfl⟩ := Option.map_eq_some_iff.mp h
        exact ⟨g_not g.hK (F a w h1).1, t_not (F a w h1).2⟩
      · cases h
    | BoolOp o es p =>
      simp only [erE, erBo] at h
      split at h
      · obtain ⟨h1, h2⟩ := erB_and F g.hK (pos := p) h
        exact ⟨h1, h2.pt⟩
      · obtain ⟨h1, h2⟩ := erB_or F g.hK (pos := p) h
        exact ⟨h1, h2.pt⟩
    | IfExp c a b p =>
      simp only [erE, erIf] at h
      split at h
      · rename_i z y w h0 h1 h2
        cases h
        exact ⟨g_ite (F c z h0).2 (F a y h1).1 (F b w h2).1, t_ite (F c z h0).2 (F a y h1).2 (F b w h2).2⟩
      · cases h
    | Compare a os bs p =>
      simp only [erE, erCm] at h
      split at h
      · rename_i o b
        split at h
        · rename_i hb
          split at h
          · rename_i y z h1 h2
            cases h
            have e := cm2_ok o
            rw [← e]
            exact ⟨by simpa only [e] using g_cmp (c := cm2 o) g.hK hu (F a y h1).1 (F b z h2).1 (marks_of hb), by simpa only [e] using t_cmp (c := cm2 o) g.hK hu (F a y h1).1 (F b z h2).1 (marks_of hb)⟩
          · cases h
        · cases h
      · rename_i o o' b d
        split at h
        · rename_i hb
          split at h
          · rename_i y z w h1 h2 h3
            cases h
            have e := cm2_ok o
            have e' := cm2_ok o'
            have hm : lastMarks [cmOf (cm2 o), cmOf (cm2 o')] [b, d] = false := marks_of hb
            rw [← e, ← e']
            exact ⟨by simpa only [e, e'] using g_chn (c := cm2 o) (c' := cm2 o') g.hK hu (F a y h1).1 (F b z h2).1 (F d w h3).1 hm, by simpa only [e, e'] using t_chn (c := cm2 o) (c' := cm2 o') g.hK hu (F a y h1).1 (F b z h2).1 (F d w h3).1 hm⟩
          · cases h
        · cases h
      · cases h
    | Subscript a i p =>
      simp only [erE, erSb] at h
      split at h
      · rename_i hr
        obtain ⟨w, h1, rfl⟩ := Option.map_eq_some_iff.mp h
        unfold isRev at hr
        split at hr
        · exact t_plain g.hK (g_rvs g.hK (F a w h1).1) (fun _ => rfl) fun _ _ => by rw [tst] <;> simp
        · cases hr
      · split at h
        · rename_i lo hi p2
          split at h
          · rename_i y l u h1 h2 h3
            cases h
            exact t_plain g.hK (g_slc g.hK (F a y h1).1 (erO_ok F h2) (erO_ok F h3)) (fun _ => rfl) fun _ _ => by rw [tst] <;> simp
          · cases h
        · split at h
          · rename_i hs
            split at h
            · rename_i y z h1 h2
              cases h
              exact t_plain g.hK (g_sub g.hK (F a y h1).1 (F i z h2).1 hs) (fun _ => rfl) fun _ _ => by rw [tst] <;> simp
            · cases h
          · cases h
    | Attribute a f p =>
      simp only [erE, erAt] at h
      split at h
      · rename_i hs
        split at h
        · rename_i y i h1 h2
          cases h
          have e := g.nmx h2
          subst e
          exact t_plain g.hK (g_att g.hK g.fld (F a y h1).1 (noSup_ok hs)) (fun _ => rfl) fun _ _ => by rw [tst] <;> simp
        · cases h
      · cases h
    | Call c args kws p =>
      have tp : ∀ {x : Ex}, PE X (.Call c args kws p) (GE n V' P x) → (∀ e h, tst P x e h = (ev P x e h).bind fun w h1 => Rz.of (truth h1 w) h1) → PE X (.Call c args kws p) (GE n V' P x) ∧ PT X (.Call c args kws p) (GT n (ofW n V') P x) := fun h1 h2 => t_plain g.hK h1 (fun _ => rfl) h2
      simp only [erE] at h
      refine tp ?_ (tst_plain (plain_ca h))
      unfold erCa at h
      split at h
      · split at h
        · exact erC_ok g F h
        · rename_i o m apos
          split at h
          · rename_i hg
            split at h
            · exact erU_ok g F hg h
            · cases h
          · exact erM_ok g F h
        · cases h
      · cases h
    | ListComp elt gens scope p =>
      simp only [erE, erLc] at h
      split at h
      · rename_i tg iter ifs ia
        split at h
        · rename_i hia
          subst hia
          obtain ⟨q, h1, rfl⟩ := Option.map_eq_some_iff.mp h
          obtain ⟨k1, k2, k3, k4, k5, k6⟩ := erK_ok g IH h1
          rw [k3]
          exact t_plain g.hK (g_comp g.calm g.ndx k1 k2 k4 k5 (set_pure k6)) (fun _ => rfl) fun _ _ => by rw [tst] <;> simp
        · cases h
      · cases h
    | _ => simp [erE] at h
end
end SL

set_option maxRecDepth 100000
set_option maxHeartbeats 1000000
/-! try .. except .. as, from the text. -/
namespace SL
open PySem L2 PyProof.Rows
set_option autoImplicit false
mutual
theorem hev_quiet (c : Nat) (w : Wv) : ∀ (x : Hx) (e : Ev) (h : Hs) (c' : Nat) (w' : Wv) (h' : Hs), hev c w x e h ≠ .exc c' w' h'
  | .atv, e, h, c', w', h' => by rw [hev]; intro q; cases q
  | .var j, e, h, c', w', h' => by
    rw [hev]
    split
    · intro q; cases q
    · intro q; cases q
  | .cst v, e, h, c', w', h' => by
    cases v <;> rw [hev] <;> first | (intro q; cases q; done) | simp
  | .tup xs, e, h, c', w', h' => by
    rw [hev]
    cases q : hevs c w xs e h with
    | ok ws h1 =>
      rw [Rz.bind_ok]
      split
      · intro z; cases z
      · intro z; cases z
    | exc a b d => exact absurd q (hevs_quiet c w xs e h a b d)
    | bad => intro z; cases z
  | .isx yes no, e, h, c', w', h' => by
    rw [hev]
    split
    · intro q; cases q
    · split
      · intro q; cases q
      · intro q; cases q
  | .not a, e, h, c', w', h' => by rw [hev]; intro q; cases q
  | .or a b, e, h, c', w', h' => by rw [hev]; intro q; cases q
  | .and a b, e, h, c', w', h' => by rw [hev]; intro q; cases q
theorem hevs_quiet (c : Nat) (w : Wv) : ∀ (xs : List Hx) (e : Ev) (h : Hs) (c' : Nat) (w' : Wv) (h' : Hs), hevs c w xs e h ≠ .exc c' w' h'
  | [], e, h, c', w', h' => by rw [hevs]; intro q; cases q
  | x :: xs, e, h, c', w', h' => by
    rw [hevs]
    cases q : hev c w x e h with
    | ok v h1 =>
      rw [Rz.bind_ok]
      cases q2 : hevs c w xs e h1 with
      | ok vs h2 => intro z; cases z
      | exc a b d => exact absurd q2 (hevs_quiet c w xs e h1 a b d)
      | bad => intro z; cases z
    | exc a b d => exact absurd q (hev_quiet c w x e h a b d)
    | bad => intro z; cases z
end
theorem hval_quiet (c : Nat) (w : Wv) (x : Hx) (e : Ev) (h : Hs) (c' : Nat) (w' : Wv) (h' : Hs) : ((hev c w x e h).bind fun v h1 => match v with | .bl t => (Rz.ok t h1 : Rz Bool) | _ => .bad) ≠ .exc c' w' h' := by
  cases q : hev c w x e h with
  | ok v h1 =>
    rw [Rz.bind_ok]
    split
    · intro z; cases z
    · intro z; cases z
  | exc a b d => exact absurd q (hev_quiet c w x e h a b d)
  | bad => intro z; cases z
theorem htst_quiet (c : Nat) (w : Wv) : ∀ (x : Hx) (e : Ev) (h : Hs) (c' : Nat) (w' : Wv) (h' : Hs), htst c w x e h ≠ .exc c' w' h'
  | .not a, e, h, c', w', h' => by
    rw [htst]
    cases q : htst c w a e h with
    | ok v h1 => intro z; cases z
    | exc a' b d => exact absurd q (htst_quiet c w a e h a' b d)
    | bad => intro z; cases z
  | .or a b, e, h, c', w', h' => by
    rw [htst]
    cases q : htst c w a e h with
    | ok v h1 =>
      rw [Rz.bind_ok]
      split
      · intro z; cases z
      · exact htst_quiet c w b e h1 c' w' h'
    | exc a' b d => exact absurd q (htst_quiet c w a e h a' b d)
    | bad => intro z; cases z
  | .and a b, e, h, c', w', h' => by
    rw [htst]
    cases q : htst c w a e h with
    | ok v h1 =>
      rw [Rz.bind_ok]
      split
      · exact htst_quiet c w b e h1 c' w' h'
      · intro z; cases z
    | exc a' b d => exact absurd q (htst_quiet c w a e h a' b d)
    | bad => intro z; cases z
  | .atv, e, h, c', w', h' => by rw [htst]; exact hval_quiet c w .atv e h c' w' h'; all_goals simp
  | .var j, e, h, c', w', h' => by rw [htst]; exact hval_quiet c w (.var j) e h c' w' h'; all_goals simp
  | .cst v, e, h, c', w', h' => by rw [htst]; exact hval_quiet c w (.cst v) e h c' w' h'; all_goals simp
  | .tup xs, e, h, c', w', h' => by rw [htst]; exact hval_quiet c w (.tup xs) e h c' w' h'; all_goals simp
  | .isx yes no, e, h, c', w', h' => by rw [htst]; exact hval_quiet c w (.isx yes no) e h c' w' h'; all_goals simp
mutual
theorem hex_quiet (i c : Nat) (w : Wv) : ∀ (s : Hm) (e : Ev) (h : Hs) (c' : Nat) (w' : Wv) (h' : Hs), hex i c w s e h ≠ .exc c' w' h'
  | .asg j x, e, h, c', w', h' => by
    rw [hex]
    cases q : hev c w x e h with
    | ok v h1 =>
      rw [Rz.bind_ok]
      split
      · intro z; cases z
      · intro z; cases z
    | exc a b d => exact absurd q (hev_quiet c w x e h a b d)
    | bad => intro z; cases z
  | .ret x, e, h, c', w', h' => by
    rw [hex]
    cases q : hev c w x e h with
    | ok v h1 => intro z; cases z
    | exc a b d => exact absurd q (hev_quiet c w x e h a b d)
    | bad => intro z; cases z
  | .ifs t b, e, h, c', w', h' => by
    rw [hex]
    cases q : htst c w t e h with
    | ok v h1 =>
      rw [Rz.bind_ok]
      split
      · exact hexs_quiet i c w b e h1 c' w' h'
      · intro z; cases z
    | exc a b d => exact absurd q (htst_quiet c w t e h a b d)
    | bad => intro z; cases z
theorem hexs_quiet (i c : Nat) (w : Wv) : ∀ (ss : List Hm) (e : Ev) (h : Hs) (c' : Nat) (w' : Wv) (h' : Hs), hexs i c w ss e h ≠ .exc c' w' h'
  | [], e, h, c', w', h' => by rw [hexs]; intro q; cases q
  | s :: ss, e, h, c', w', h' => by
    rw [hexs]
    cases q : hex i c w s e h with
    | ok f h1 =>
      rw [Rz.bind_ok]
      cases f with
      | nx e1 => exact hexs_quiet i c w ss e1 h1 c' w' h'
      | brk e1 => intro z; cases z
      | cont e1 => intro z; cases z
      | ret v => intro z; cases z
    | exc a b d => exact absurd q (hex_quiet i c w s e h a b d)
    | bad => intro z; cases z
end
section
variable {n : Nam} {P : Wd} {tb : Tb} {k : Nat} {X : Cx} {s : Sc} {V' : WX} {ι : List Addr} {H : Hp}
theorem Af.swapE {α β : Type} {Rel : List Addr → Hp → β → α → Prop} {r : Rz α} {Q : β → Hp → Prop} {E E' : Nat → Wv → Hs → List Addr → Hp → Prop} (hr : ∀ c w h, r ≠ .exc c w h) (A : Af n Rel ι H r Q E) : Af n Rel ι H r Q E' := by
  cases r with
  | ok a h => exact A
  | exc c w h => exact absurd rfl (hr c w h)
  | bad => exact A
/-- try: one statement; except C as e: a suite -/
theorem s_try {x en : Str} {cV : Value} {i : Nat} {st b0 : Stmt} {suite : List Stmt} {np pos pos' : Pos} {y : Sm} {yes no : List Nat} {hs : List Hm} (hst : X.stack = X.env :: X.outer) (hfr : X.env.frame = some X.env.locals) (hN : X.N.Nodup) (hi : X.N[i]? = some en) (hln : X.env.kindOf en = some .local)
    (hc : Names X x cV) (tk : Takes X V') (hb : ∀ (W' : WX) (pn : List (Addr × Obj)) (xe : Value → Shared → Prop), Takes (X.tr pn xe) W' → PS (X.tr pn xe) st (GS n (ofW n W') (ex P y)))
    (hsu : ∀ (a : Addr) (oe : Obj) (d : Option Addr) (pn : List (Addr × Obj)) (c : Nat) (w : Wv), yes.contains c = true → Zc (.ref (n.xA c)) d oe → (∃ vs, oe.data = .fields vs) → PSs (X.suite a ((a, oe) :: pn)) (b0 :: suite) (mH n a d w i (hexs i c w hs)))
    (hx : ∀ c, yes.contains c = true ∨ no.contains c = true → PySem.W.exmOne X.K (.ref (n.xA c)) cV = some (yes.contains c)) :
    PS X (.Try [st] [.ExceptHandler (some (.Name x np)) (some en) (b0 :: suite) pos'] [] [] pos) (GS n (ofW n V') (ex P (.tryx y i yes no hs))) := by
  refine ps_wk (ps_try_as (tb := fun W' => GS n (ofW n W') (ex P y)) (ts := fun a cls d D σ H => ∃ c w ι e hp, cls = .ref (n.xA c) ∧ yes.contains c = true ∧ HSt n ι H σ e hp a d w i ∧ Af n (FRH n a i) ι H (hexs i c w hs e hp) (qD D) noX)
    hst hfr hN hi hln hc tk (fun W' pn xe tkw _ => pss_one (hb W' pn xe tkw)) fun a oe cls d pn hz hf => ⟨fun pins s σ H D I ⟨c, w, ι, e, hp, hcl, hy, S, A⟩ => ?_⟩) fun D σ H ⟨ι, e, hp, S, A⟩ => ?_
  · subst hcl
    exact (hsu a oe d pn c w hy hz hf).run pins s σ H D I ⟨ι, e, hp, S, A⟩
  · refine ⟨ι, e, hp, S, ?_⟩
    simp only [ex] at A
    cases q : ex P y e hp with
    | ok f h1 =>
      rw [q] at A
      exact A
    | bad =>
      rw [q] at A
      exact A.elim
    | exc c w h1 =>
      rw [q] at A
      simp only at A
      intro ι1 H1 F R d xr
      by_cases hy : yes.contains c = true
      · rw [if_pos hy] at A
        split at A
        · rename_i hlt
          refine ⟨true, by rw [hx c (.inl hy), hy], fun _ a ha => ⟨c, w, ι1, e.set i none, h1, rfl, hy, ⟨?_, xr, ?_⟩, ?_⟩, fun z => absurd z (by decide)⟩
          · have E1 := S.er.mono F
            refine ⟨R, by rw [List.length_set, List.length_set]; exact E1.len, fun j v hj => ?_⟩
            by_cases hij : i = j
            · subst hij
              rw [List.getElem?_set_self hlt] at hj
              cases hj
            · rw [List.getElem?_set_ne hij] at hj
              rw [List.getElem?_set_ne hij]
              exact E1.at_ j v hj
          · rw [List.getElem?_set_self (by rw [S.len]; exact hlt)]
          · have A1 := A.at F
            refine (Af.swapE (hexs_quiet i c w hs _ _) (Af.bind (Rel := FRH n a i) A1)).mono ?_
            rintro b H2 ⟨ι2, hp2, f, F2, R2, V2, A2⟩
            cases b <;> cases f <;> first | exact V2.elim | skip
            · rename_i σ2 e2
              have A3 : Af n (FR n) ι2 H2 (.ok (.nx (e2.set i none)) hp2) (qD D) (ofW n V' σ) := A2
              have q2 : qD D (FV.nx (σ2.set i none)) H2 := Af.here (b := FV.nx (σ2.set i none)) A3 R2 (by
                refine ⟨by rw [List.length_set, List.length_set]; exact V2.1.len, fun j v hj => ?_⟩
                by_cases hij : i = j
                · subst hij
                  by_cases hl2 : i < e2.length
                  · rw [List.getElem?_set_self hl2] at hj
                    cases hj
                  · rw [List.getElem?_eq_none (by rw [List.length_set]; omega)] at hj
                    cases hj
                · rw [List.getElem?_set_ne hij] at hj
                  rw [List.getElem?_set_ne hij]
                  exact V2.1.at_ j v hj)
              exact q2
            · rename_i v u
              have A3 : Af n (FR n) ι2 H2 (.ok (.ret u) hp2) (qD D) (ofW n V' σ) := A2
              have q2 : qD D (FV.rt v) H2 := Af.here (b := FV.rt v) A3 R2 V2
              exact q2
        · exact A.elim
      · rw [if_neg hy] at A
        split at A
        · rename_i hno
          refine ⟨false, by rw [hx c (.inr hno)]; simpa using hy, fun z => absurd z (by decide), fun _ => A ι1 H1 F R d xr⟩
        · exact A.elim
end
end SL

set_option maxRecDepth 100000
set_option maxHeartbeats 1000000
/-! Assignments, except suites, from the text. -/
namespace SL
open PySem L2 PyProof.Rows
set_option autoImplicit false
def erNm (s : Sc) (y : Str) : Option Nat := if (s.st y && isLoc s y) = true then ixS s.N y 0 else none
def erAsg (tb : Tb) (s : Sc) (j : Nat) (t e : Expr) : Option Sm := match t with
  | .Name y _ => (match e with
    | .ListComp elt [⟨tg, iter, ifs, ia⟩] scope _ => if ia = 0 then (match erNm s y, erK tb s j (erE tb j) elt tg iter ifs scope with
      | some i, some q => some (.asg (.tg (.name i)) (.comp q.1 q.2.1 q.2.2.1 q.2.2.2.1 q.2.2.2.2))
      | _, _ => none) else none
    | e => if noComp e = true then (match erNm s y, erE tb j s e with
      | some i, some x => some (.asg (.tg (.name i)) x)
      | _, _ => none) else none)
  | .Tuple es k p => if noTup e = true then (match erT s j (.Tuple es k p), erE tb j s e with
      | some t, some x => some (.asg (.tg t) x)
      | _, _ => none) else none
  | .Subscript a b _ => if noSlice b = true then (match erE tb j s a, erE tb j s b, erE tb j s e with
      | some x, some y, some z => some (.asg (.sub x y) z)
      | _, _, _ => none) else none
  | .Attribute o f _ => (match ixS tb.att f 0, erE tb j s o, erE tb j s e with
      | some i, some x, some z => some (.asg (.att x i) z)
      | _, _, _ => none)
  | _ => none
def erAug (tb : Tb) (s : Sc) (j : Nat) (t : Expr) (o : Operator) (e : Expr) : Option Sm := match o with
  | .Add => (match t with
    | .Name y _ => (match erNm s y, erE tb j s e with
      | some i, some x => some (.augn i .add x)
      | _, _ => none)
    | .Attribute a f _ => (match ixS tb.att f 0, erE tb j s a, erE tb j s e with
      | some i, some x, some z => some (.augf x i .add z)
      | _, _, _ => none)
    | _ => none)
  | _ => none
def isDoc : Expr → Bool
  | .Constant (.str _) _ _ => true
  | _ => false
section
variable {n : Nam} {P : Wd} {tb : Tb} {k : Nat} {X : Cx} {s : Sc} {V' : WX}
theorem sw_other {e t : Expr} {l : Nat} {env : Env} (h : (match t with | .Name .. => false | _ => true) = true) : swapsWith e (some t) l env = pure false := by
  cases t <;> first | (cases h; done) | (cases e <;> rfl)
theorem sw_lc {elt : Expr} {gs : List Comprehension} {scope : Scope} {pos py : Pos} {y : Str} {l : Nat} {env : Env} (hk : env.scope.kind = .function) :
    swapsWith (.ListComp elt gs scope pos) (some (.Name y py)) l env = pure (env.kindOf y == some .local && py.line == pos.line && !(scope.names.any fun (n, k) => n == y && (k == .local || k == .cell))) := by
  have hb : env.blockKind = .function := by unfold Env.blockKind; rw [hk]; rfl
  unfold swapsWith
  simp only [hb, Expr.pos]
  rfl
theorem erNm_ok (g : Good n P tb k X s V') {y : Str} {i : Nat} (h : erNm s y = some i) : X.N[i]? = some y ∧ Loc X.env.scope y ∧ (X.fn y = true ∨ X.env.scope.names.lookup y = some .local) := by
  unfold erNm at h
  split at h
  · rename_i hc
    simp only [Bool.and_eq_true] at hc
    exact ⟨g.ix h, g.loc hc.2, g.stk _ hc.1⟩
  · cases h
theorem erAsg_ok (g : Good n P tb k X s V') {j : Nat} {t e : Expr} {y : Sm} {pos : Pos} (h : erAsg tb s j t e = some y) : PS X (.Assign [t] e pos) (GS n (ofW n V') (ex P y)) := by
  have F : Snd1 n P X V' (erE tb j s) := er_ok j X s V' g
  cases t with
  | Name x py =>
    simp only [erAsg] at h
    split at h
    · rename_i elt tg iter ifs ia scope cpos
      split at h
      · rename_i hia
        subst hia
        split at h
        · rename_i i q h1 h2
          cases h
          obtain ⟨n1, n2, n3⟩ := erNm_ok g h1
          obtain ⟨k1, k2, k3, k4, k5, k6⟩ := erK_ok g (er_ok j) h2
          rw [k3]
          have sw := sw_lc (elt := elt) (gs := [⟨tg, iter, ifs, 0⟩]) (scope := scope) (pos := cpos) (py := py) (y := x) (l := pos.line) g.kind
          cases hb : (X.env.kindOf x == some .local && py.line == cpos.line && !(scope.names.any fun (n, k) => n == x && (k == .local || k == .cell))) with
          | true =>
            have hl : X.env.scope.names.lookup x = some .local := by
              simp only [Bool.and_eq_true, beq_iff_eq] at hb
              exact hb.1.1
            rw [hb] at sw
            exact s_nameLc g.calm g.ndx n1 hl sw k1 k2 k4 k5 (set_pure k6)
          | false =>
            rw [hb] at sw
            exact s_name g.ndx n1 n2 n3 (g_comp g.calm g.ndx k1 k2 k4 k5 (set_pure k6)) sw
        · cases h
      · cases h
    · split at h
      · rename_i hn
        split at h
        · rename_i i z h1 h2
          cases h
          obtain ⟨n1, n2, n3⟩ := erNm_ok g h1
          exact s_name g.ndx n1 n2 n3 (F e z h2).1 (sw_no hn)
        · cases h
      · cases h
  | Tuple es kk p =>
    simp only [erAsg] at h
    split at h
    · rename_i hn
      split at h
      · rename_i t z h1 h2
        cases h
        exact s_tg (F e z h2).1 (erT_ok g j h1) (show swapsWith e (some (.Tuple es kk p)) pos.line X.env = pure false from sw_other rfl) (sws_no hn) rfl
      · cases h
    · cases h
  | Subscript a b p =>
    simp only [erAsg] at h
    split at h
    · rename_i hn
      split at h
      · rename_i x z w h1 h2 h3
        cases h
        exact s_sub g.hK (F a x h1).1 (F b z h2).1 (F e w h3).1 hn (show swapsWith e (some (.Subscript a b p)) pos.line X.env = pure false from sw_other rfl) (sws_no2 rfl)
      · cases h
    · cases h
  | Attribute o f p =>
    simp only [erAsg] at h
    split at h
    · rename_i i x z h0 h1 h2
      cases h
      have e1 := g.nmx h0
      subst e1
      exact s_att g.hK g.fld (F o x h1).1 (F e z h2).1 (sw_other rfl)
    · cases h
  | _ => simp [erAsg] at h
theorem erAug_ok (g : Good n P tb k X s V') {j : Nat} {t e : Expr} {o : Operator} {y : Sm} {pos : Pos} (h : erAug tb s j t o e = some y) : PS X (.AugAssign t o e pos) (GS n (ofW n V') (ex P y)) := by
  have F : Snd1 n P X V' (erE tb j s) := er_ok j X s V' g
  cases o with
  | Add =>
    cases t with
    | Name x p =>
      simp only [erAug] at h
      split at h
      · rename_i i z h1 h2
        cases h
        obtain ⟨n1, n2, n3⟩ := erNm_ok g h1
        exact s_augn g.hK g.ndx n1 n2 n3 (F e z h2).1
      · cases h
    | Attribute a f p =>
      simp only [erAug] at h
      split at h
      · rename_i i x z h0 h1 h2
        cases h
        have e1 := g.nmx h0
        subst e1
        exact s_augf g.hK g.fld (F a x h1).1 (F e z h2).1
      · cases h
    | _ => simp [erAug] at h
  | _ => simp [erAug] at h
end

/-! ### except suites -/
def erHl (f : Expr → Option Hx) : List Expr → Option (List Hx)
  | [] => some []
  | a :: as => if noStar a = true then (match f a, erHl f as with
    | some x, some xs => some (x :: xs)
    | _, _ => none) else none
def erHb (isAnd : Bool) (f : Expr → Option Hx) : List Expr → Option Hx
  | [] => none
  | [a] => f a
  | a :: b :: as => match f a, erHb isAnd f (b :: as) with
    | some x, some y => some (if isAnd = true then .and x y else .or x y)
    | _, _ => none
def clsNm (tb : Tb) (s : Sc) : Expr → Option Str
  | .Name t _ => if (isGl s t && (okName t && okT tb t)) = true then some t else none
  | _ => none
def clsNms (tb : Tb) (s : Sc) : List Expr → Option (List Str)
  | [] => some []
  | a :: as => match clsNm tb s a, clsNms tb s as with
    | some x, some xs => some (x :: xs)
    | _, _ => none
def erHc (tb : Tb) (s : Sc) (en : Str) (c : Expr) (args : List Expr) (kws : List Keyword) : Option Hx := match c, args, kws with
  | .Name z _, [.Name x _, t], [] => if (decide (z = ("isinstance" : Str)) && (isGl s z && (decide (x = en) && (isVis s x && okName x)))) = true then (match t with
      | .Tuple ts _ _ => (clsNms tb s ts).bind fun l => if l.length ≤ 100 then some (.isx (yesOf tb l) (noOf tb l)) else none
      | t => (clsNm tb s t).map fun l => .isx (yesOf tb [l]) (noOf tb [l])) else none
  | _, _, _ => none
def erHx (tb : Tb) (s : Sc) (en : Str) : Nat → Expr → Option Hx
  | 0, _ => none
  | m + 1, e => match e with
    | .Name x _ => if (isVis s x && okName x) = true then (ixS s.N x 0).map .var else none
    | .Constant c _ _ => (cst2 c).map .cst
    | .Attribute o f _ => (match o with
      | .Name x _ => if (decide (x = en) && (isVis s x && (okName x && decide (f = tb.atN)))) = true then some .atv else none
      | _ => none)
    | .Tuple es _ _ => (erHl (erHx tb s en m) es).map .tup
    | .Call c args kws _ => erHc tb s en c args kws
    | .UnaryOp o a _ => (match o with
      | .Not => (erHx tb s en m a).map .not
      | _ => none)
    | .BoolOp o es _ => if 2 ≤ es.length then (match o with
      | .And => erHb true (erHx tb s en m) es
      | .Or => erHb false (erHx tb s en m) es) else none
    | _ => none
def erMs (f : Stmt → Option Hm) : List Stmt → Option (List Hm)
  | [] => some []
  | a :: as => match f a, erMs f as with
    | some x, some xs => some (x :: xs)
    | _, _ => none
def erHm (tb : Tb) (s : Sc) (en : Str) (j : Nat) : Nat → Stmt → Option Hm
  | 0, _ => none
  | m + 1, st => match st with
    | .Assign ts e _ => (match ts with
      | [.Name y _] => if noComp e = true then (match erNm s y, erHx tb s en j e with
        | some i, some x => some (.asg i x)
        | _, _ => none) else none
      | _ => none)
    | .Return o _ => (match o with
      | some e => (erHx tb s en j e).map .ret
      | none => none)
    | .If t b o _ => (match o with
      | [] => (match erHx tb s en j t, erMs (erHm tb s en j m) b with
        | some x, some ys => some (.ifs x ys)
        | _, _ => none)
      | _ => none)
    | _ => none
section
variable {n : Nam} {P : Wd} {tb : Tb} {k : Nat} {X : Cx} {s : Sc} {V' : WX}
theorem xix_get {t : Str} {c : Nat} (h : xix tb t = some c) : ∃ q, tb.xcs[c]? = some q ∧ q.1 = t := by
  unfold xix at h
  rw [List.findIdx?_eq_some_iff_getElem] at h
  obtain ⟨hl, h1, _⟩ := h
  exact ⟨_, List.getElem?_eq_getElem hl, of_decide_eq_true h1⟩
theorem yes_of {ts : List Str} {c : Nat} (h : (yesOf tb ts).contains c = true) : ∃ q, tb.xcs[c]? = some q ∧ (ts.any fun t => q.2.contains t) = true := by
  have h := List.contains_iff_mem.mp h
  obtain ⟨h1, h2⟩ := List.mem_filter.mp h
  split at h2
  · exact ⟨_, by assumption, h2⟩
  · cases h2
theorem no_of {ts : List Str} {c : Nat} (h : (noOf tb ts).contains c = true) : ∃ q, tb.xcs[c]? = some q ∧ (ts.any fun t => q.2.contains t) = false := by
  have h := List.contains_iff_mem.mp h
  obtain ⟨h1, h2⟩ := List.mem_filter.mp h
  split at h2
  · exact ⟨_, by assumption, by simpa using h2⟩
  · cases h2
theorem clsV_ok (g : Good n P tb k X s V') {t : Expr} {x : Str} (h : clsNm tb s t = some x) (a : Addr) (pn : List (Addr × Obj)) : okT tb x = true ∧ noStar t = true ∧ ∃ v, ClsV (X.suite a pn) t v (clsVal n tb x) := by
  unfold clsNm at h
  split at h
  · split at h
    · rename_i t' p hc
      cases h
      simp only [Bool.and_eq_true] at hc
      obtain ⟨c1, c2, c3⟩ := hc
      refine ⟨c3, rfl, ?_⟩
      cases hx : xix tb x with
      | some c =>
        obtain ⟨q, q1, q2⟩ := xix_get hx
        have m := (g.xc c q q1).1.mg
        rw [q2] at m
        have ev : clsVal n tb x = .ref (n.xA c) := by unfold clsVal; rw [hx]
        rw [ev]
        exact ⟨.ref (n.xA c), ⟨pe_glob (X := X.suite a pn) (g.gl c1) m rfl (okName_ok c2).1, fun u' r => r⟩⟩
      | none =>
        unfold okT at c3
        rw [hx] at c3
        simp only [Option.isSome_none, Bool.or_false, decide_eq_true_eq] at c3
        have ev : clsVal n tb x = .type "ValueError" := by unfold clsVal; rw [hx]
        rw [ev]
        subst c3
        exact ⟨.ty "ValueError", ⟨pe_bltn (X := X.suite a pn) (g.gl c1) (g.bn (by decide +kernel)) PyProof.Rows.Boot.«ValueError» rfl (by decide +kernel) (by decide +kernel), fun u' r => r⟩⟩
    · cases h
  · cases h
theorem clsVs_ok (g : Good n P tb k X s V') (a : Addr) (pn : List (Addr × Obj)) : ∀ {ts : List Expr} {l : List Str}, clsNms tb s ts = some l → (∀ x ∈ l, okT tb x = true) ∧ ts.all noStar = true ∧ ∃ vs, vs.length = l.length ∧ ClsVs (X.suite a pn) ts vs (l.map (clsVal n tb))
  | [], l, h => by
    simp only [clsNms, Option.some.injEq] at h
    subst h
    exact ⟨fun _ h => (by cases h), rfl, [], rfl, ClsVs.nil⟩
  | t :: ts, l, h => by
    simp only [clsNms] at h
    split at h
    · rename_i x xs h1 h2
      cases h
      obtain ⟨k1, k2, v, k3⟩ := clsV_ok g h1 a pn
      obtain ⟨m1, m2, vs, m3, m4⟩ := clsVs_ok g a pn h2
      exact ⟨fun y hy => (List.mem_cons.mp hy).elim (fun e => e ▸ k1) (m1 y), by rw [List.all_cons, k2, m2]; rfl, v :: vs, by simp [m3], .cons k3 (star_cons k2) m4⟩
    · cases h
theorem kits_ok (g : Good n P tb k X s V') {c : Nat} {q : Str × List Str} (hq : tb.xcs[c]? = some q) : ∀ {l : List Str}, (∀ x ∈ l, okT tb x = true) → PySem.W.kitAny X.K (.ref (n.xA c)) (l.map (clsVal n tb)) = some (l.any fun t => q.2.contains t)
  | [], _ => rfl
  | t :: l, h => by
    rw [List.map_cons, PySem.W.kitAny, (g.xc c q hq).2.1 t (h t List.mem_cons_self), List.any_cons]
    have ih := kits_ok g hq (l := l) fun x hx => h x (List.mem_cons_of_mem _ hx)
    cases q.2.contains t with
    | true => rfl
    | false => exact ih
theorem pe_no {e : Expr} {t : TE} (h : ∀ σ H Q, t σ H Q → False) : PE X e t := ⟨fun pins s σ H Q I q => (h σ H Q q).elim⟩
section
variable {a : Addr} {oe : Obj} {d : Option Addr} {pn : List (Addr × Obj)} {c i : Nat} {w : Wv} {en : Str} {q : Str × List Str}
theorem erHb_two {isAnd : Bool} {f : Expr → Option Hx} : ∀ {es : List Expr} {x : Hx}, 2 ≤ es.length → erHb isAnd f es = some x → ∃ y z, x = if isAnd = true then .and y z else .or y z
  | [], x, hl, h => by simp at hl
  | [e], x, hl, h => by simp at hl
  | e :: e2 :: es, x, hl, h => by
    simp only [erHb] at h
    split at h
    · cases h
      exact ⟨_, _, rfl⟩
    · cases h
theorem erHb_ok {Y : Cx} {isAnd : Bool} {f : Expr → Option Hx} (F : ∀ e x, f e = some x → PT Y e (tH n a d w i (htst c w x))) {pos : Pos} : ∀ {es : List Expr} {x : Hx}, erHb isAnd f es = some x → PW Y (.BoolOp (if isAnd = true then .And else .Or) es pos) (tH n a d w i (htst c w x))
  | [], x, h => by simp [erHb] at h
  | [e], x, h => by
    simp only [erHb] at h
    cases isAnd with
    | true => exact pw_and1 (F e x h)
    | false => exact pw_or1 (F e x h)
  | e :: e2 :: es, x, h => by
    simp only [erHb] at h
    split at h
    · rename_i y z h1 h2
      cases h
      have ih := erHb_ok F (pos := pos) h2
      cases isAnd with
      | true => exact hw_and (F e y h1) ih
      | false => exact hw_or (F e y h1) ih
    · cases h
theorem erHl_ok {Y : Cx} {f : Expr → Option Hx} (F : ∀ e x, f e = some x → PE Y e (gH n a d w i (hev c w x))) : ∀ {es : List Expr} {xs : List Hx}, erHl f es = some xs → PA Y es (aH n a d w i (hevs c w xs))
  | [], xs, h => by
    simp only [erHl, Option.some.injEq] at h
    subst h
    exact ha_nil
  | e :: es, xs, h => by
    simp only [erHl] at h
    split at h
    · rename_i hs
      split at h
      · rename_i y ys h1 h2
        cases h
        exact ha_cons (F e y h1) (erHl_ok F h2) (star_cons hs)
      · cases h
    · cases h
theorem erHx_ok (g : Good n P tb k X s V') (hi : X.N[i]? = some en) (hq : tb.xcs[c]? = some q) (hz : Zc (.ref (n.xA c)) d oe) (hf : ∃ vs, oe.data = .fields vs) : ∀ (m : Nat) (e : Expr) (x : Hx), erHx tb s en m e = some x →
    PE (X.suite a ((a, oe) :: pn)) e (gH n a d w i (hev c w x)) ∧ PT (X.suite a ((a, oe) :: pn)) e (tH n a d w i (htst c w x))
  | 0, e, x, h => by simp [erHx] at h
  | m + 1, e, x, h => by
    have IH := fun e x h => erHx_ok g hi hq hz hf m e x h
    cases e with
    | Name y p =>
      simp only [erHx] at h
      split at h
      · rename_i hv
        simp only [Bool.and_eq_true] at hv
        obtain ⟨j, h1, rfl⟩ := Option.map_eq_some_iff.mp h
        have r : PE (X.suite a ((a, oe) :: pn)) (.Name y p) (gH n a d w i (hev c w (.var j))) := h_var (X := X.suite a ((a, oe) :: pn)) (g.ix h1) (g.vis hv.1) (okName_ok hv.2).1 (okName_ok hv.2).2
        exact ⟨r, ht_val r (fun _ => rfl) fun _ _ => by rw [htst]; all_goals first | rfl | (intro _ h; cases h; done) | (intro _ _ h; cases h; done)⟩
      · cases h
    | Constant k0 j p =>
      simp only [erHx] at h
      obtain ⟨v, h1, rfl⟩ := Option.map_eq_some_iff.mp h
      have r : PE (X.suite a ((a, oe) :: pn)) (.Constant k0 j p) (gH n a d w i (hev c w (.cst v))) := h_cst h1
      exact ⟨r, ht_val r (fun _ => rfl) fun _ _ => by rw [htst]; all_goals first | rfl | (intro _ h; cases h; done) | (intro _ _ h; cases h; done)⟩
    | Attribute o f p =>
      simp only [erHx] at h
      split at h
      · rename_i y p2
        split at h
        · rename_i hv
          simp only [Bool.and_eq_true, decide_eq_true_eq] at hv
          obtain ⟨rfl, h1, h2, rfl⟩ := hv
          cases h
          have T := (g.xc c q hq).1
          have r : PE (X.suite a ((a, oe) :: pn)) (.Attribute (.Name y p2) (n.nm n.atF) p) (gH n a d w i (hev c w .atv)) := h_atv T.is T.no hz hf hi (g.vis h1) (okName_ok h2).1 (okName_ok h2).2
          rw [g.atn] at r
          exact ⟨r, ht_val r (fun _ => rfl) fun _ _ => by rw [htst]; all_goals first | rfl | (intro _ h; cases h; done) | (intro _ _ h; cases h; done)⟩
        · cases h
      · cases h
    | Tuple es kk p =>
      simp only [erHx] at h
      obtain ⟨xs, h1, rfl⟩ := Option.map_eq_some_iff.mp h
      have r : PE (X.suite a ((a, oe) :: pn)) (.Tuple es kk p) (gH n a d w i (hev c w (.tup xs))) := h_tup (erHl_ok (fun e x h => (IH e x h).1) h1)
      exact ⟨r, ht_val r (fun _ => rfl) fun _ _ => by rw [htst]; all_goals first | rfl | (intro _ h; cases h; done) | (intro _ _ h; cases h; done)⟩
    | Call cc args kws p =>
      simp only [erHx] at h
      unfold erHc at h
      split at h
      · rename_i z pz y py t
        split at h
        · rename_i hv
          simp only [Bool.and_eq_true, decide_eq_true_eq] at hv
          obtain ⟨rfl, h1, rfl, h2, h3⟩ := hv
          have T := (g.xc c q hq).1
          have r : PE (X.suite a ((a, oe) :: pn)) (.Call (.Name "isinstance" pz) [.Name y py, t] [] p) (gH n a d w i (hev c w x)) ∧ ∀ e h, htst c w x e h = (hev c w x e h).bind fun v h1 => match v with | .bl t => .ok t h1 | _ => .bad := by
            split at h
            · rename_i ts kk pt
              rw [Option.bind_eq_some_iff] at h
              obtain ⟨l, h4, h5⟩ := h
              split at h5
              · rename_i hl
                cases h5
                obtain ⟨m1, m2, vs, m3, m4⟩ := clsVs_ok g a ((a, oe) :: pn) h4
                have zl : 100 ≤ sizeLine := by decide
                refine ⟨h_isN T.is hz hf hi (g.vis h2) (okName_ok h3).1 (okName_ok h3).2 (g.gl h1) (g.bn (by decide +kernel)) m4 (by rw [m3]; omega) rfl rfl rfl (kits_ok g hq m1) (fun hy => ?_) (fun hn _ => ?_), fun _ _ => by rw [htst]; all_goals first | rfl | (intro _ h; cases h; done) | (intro _ _ h; cases h; done)⟩
                · obtain ⟨q', e1, e2⟩ := yes_of hy
                  rw [hq] at e1; cases e1; exact e2
                · obtain ⟨q', e1, e2⟩ := no_of hn
                  rw [hq] at e1; cases e1; exact e2
              · cases h5
            · obtain ⟨l, h4, rfl⟩ := Option.map_eq_some_iff.mp h
              obtain ⟨m1, m2, v, m3⟩ := clsV_ok g h4 a ((a, oe) :: pn)
              refine ⟨h_is1 T.is hz hf hi (g.vis h2) (okName_ok h3).1 (okName_ok h3).2 (g.gl h1) (g.bn (by decide +kernel)) m3 (star_cons m2) (star_cons rfl) (star_any (by rw [List.all_cons, m2]; rfl)) ((g.xc c q hq).2.1 l m1) (fun hy => ?_) (fun hn _ => ?_), fun _ _ => by rw [htst]; all_goals first | rfl | (intro _ h; cases h; done) | (intro _ _ h; cases h; done)⟩
              · obtain ⟨q', e1, e2⟩ := yes_of hy
                rw [hq] at e1; cases e1; simpa using e2
              · obtain ⟨q', e1, e2⟩ := no_of hn
                rw [hq] at e1; cases e1; simpa using e2
          exact ⟨r.1, ht_val r.1 (fun _ => rfl) r.2⟩
        · cases h
      · cases h
    | UnaryOp o b p =>
      simp only [erHx] at h
      split at h
      · obtain ⟨y, h1, rfl⟩ := Option.map_eq_some_iff.mp h
        exact ⟨pe_no fun σ H Q ⟨ι, e, hp, S, A⟩ => by simp only [hev] at A; exact A, ht_not (IH b y h1).2⟩
      · cases h
    | BoolOp o es p =>
      simp only [erHx] at h
      split at h
      · rename_i hl
        split at h
        · refine ⟨pe_no fun σ H Q ⟨ι, e, hp, S, A⟩ => ?_, (erHb_ok (isAnd := true) (fun e x h => (IH e x h).2) h).pt⟩
          obtain ⟨y, z, rfl⟩ := erHb_two hl h
          simp only [if_true, hev] at A
          exact A
        · refine ⟨pe_no fun σ H Q ⟨ι, e, hp, S, A⟩ => ?_, (erHb_ok (isAnd := false) (fun e x h => (IH e x h).2) h).pt⟩
          obtain ⟨y, z, rfl⟩ := erHb_two hl h
          simp only [Bool.false_eq_true, if_false, hev] at A
          exact A
      · cases h
    | _ => simp [erHx] at h
theorem erMs_ok {Y : Cx} {f : Stmt → Option Hm} (F : ∀ st y, f st = some y → PS Y st (mH n a d w i (hex i c w y))) : ∀ {ss : List Stmt} {ys : List Hm}, erMs f ss = some ys → PSs Y ss (mH n a d w i (hexs i c w ys))
  | [], ys, h => by
    simp only [erMs, Option.some.injEq] at h
    subst h
    exact ms_nil
  | st :: ss, ys, h => by
    simp only [erMs] at h
    split at h
    · rename_i x xs h1 h2
      cases h
      exact ms_cons (F st x h1) (erMs_ok F h2)
    · cases h
theorem erHm_ok (g : Good n P tb k X s V') (hi : X.N[i]? = some en) (hq : tb.xcs[c]? = some q) (hz : Zc (.ref (n.xA c)) d oe) (hf : ∃ vs, oe.data = .fields vs) (j : Nat) : ∀ (m : Nat) (st : Stmt) (y : Hm), erHm tb s en j m st = some y →
    PS (X.suite a ((a, oe) :: pn)) st (mH n a d w i (hex i c w y))
  | 0, st, y, h => by simp [erHm] at h
  | m + 1, st, y, h => by
    have F := fun e x h => erHx_ok g hi hq hz hf (w := w) (pn := pn) (a := a) j e x h
    cases st with
    | Assign ts e pos =>
      simp only [erHm] at h
      split at h
      · rename_i z pz
        split at h
        · rename_i hn
          split at h
          · rename_i i2 x h1 h2
            cases h
            obtain ⟨n1, n2, n3⟩ := erNm_ok g h1
            exact m_asg (X := X.suite a ((a, oe) :: pn)) g.ndx n1 n2 n3 (F e x h2).1 (sw_no hn)
          · cases h
        · cases h
      · cases h
    | Return o pos =>
      simp only [erHm] at h
      split at h
      · obtain ⟨x, h1, rfl⟩ := Option.map_eq_some_iff.mp h
        exact m_ret (F _ x h1).1
      · cases h
    | If t b o pos =>
      simp only [erHm] at h
      split at h
      · split at h
        · rename_i x ys h1 h2
          cases h
          exact m_ifs (F t x h1).2 (erMs_ok (fun st y h => erHm_ok g hi hq hz hf j m st y h) h2)
        · cases h
      · cases h
    | _ => simp [erHm] at h
end
/-! ### raise, try -/
def erRs (tb : Tb) (s : Sc) (j : Nat) (x : Str) (a : Expr) : Option Sm := if (isGl s x && (okName x && noStar a)) = true then (match xix tb x, erE tb j s a with
    | some c, some v => some (.rse c v)
    | _, _ => none) else none
theorem erRs_ok (g : Good n P tb k X s V') {j : Nat} {x : Str} {a : Expr} {y : Sm} {p pos pos' : Pos} (h : erRs tb s j x a = some y) : PS X (.Raise (some (.Call (.Name x p) [a] [] pos)) none pos') (GS n (ofW n V') (ex P y)) := by
  unfold erRs at h
  split at h
  · rename_i hc
    simp only [Bool.and_eq_true] at hc
    obtain ⟨c1, c2, c3⟩ := hc
    split at h
    · rename_i c v h1 h2
      cases h
      obtain ⟨q, q1, q2⟩ := xix_get h1
      have T := (g.xc c q q1).1
      rw [q2] at T
      exact s_rse g.calm g.tk T (g.hr.mono (by have := g.k1; omega)) (g.gl c1) (a_cons (er_ok j X s V' g a v h2).1 a_nil (star_cons c3)) (okName_ok c2).1 (star_cons c3)
    · cases h
  · cases h
def erBd (tb : Tb) (s : Sc) (j : Nat) : Stmt → Option Sm
  | .Assign ts e _ => (match ts with
    | [t] => erAsg tb s j t e
    | _ => none)
  | .Expr e _ => if noComp e = true then (erE tb j s e).map .exp else none
  | _ => none
theorem erBd_ok (g : Good n P tb k X s V') {j : Nat} {st : Stmt} {y : Sm} (h : erBd tb s j st = some y) : PS X st (GS n (ofW n V') (ex P y)) := by
  cases st with
  | Assign ts e pos =>
    simp only [erBd] at h
    split at h
    · exact erAsg_ok g h
    · cases h
  | Expr e pos =>
    simp only [erBd] at h
    split at h
    · rename_i hn
      obtain ⟨x, h1, rfl⟩ := Option.map_eq_some_iff.mp h
      exact s_exp (er_ok j X s V' g e x h1).1 (sw_no hn)
    · cases h
  | _ => simp [erBd] at h
def erTr (tb : Tb) (s : Sc) (j : Nat) (body : List Stmt) (hs : List ExceptHandler) (o fin : List Stmt) : Option Sm := match body, hs, o, fin with
  | [st], [.ExceptHandler (some (.Name x _)) (some en) (b0 :: suite) _], [], [] => if (isGl s x && (okName x && (s.sc.names.lookup en == some .local))) = true then (match erBd tb s j st, ixS s.N en 0, xix tb x, erMs (erHm tb s en j 20) (b0 :: suite) with
      | some y, some i, some _, some ys => some (.tryx y i (yesOf tb [x]) (noOf tb [x]) ys)
      | _, _, _, _ => none) else none
  | _, _, _, _ => none
theorem erTr_ok (g : Good n P tb k X s V') (hst : X.stack = X.env :: X.outer) (hfr : X.env.frame = some X.env.locals) {j : Nat} {body : List Stmt} {hs : List ExceptHandler} {o fin : List Stmt} {y : Sm} {pos : Pos} (h : erTr tb s j body hs o fin = some y) : PS X (.Try body hs o fin pos) (GS n (ofW n V') (ex P y)) := by
  unfold erTr at h
  split at h
  · rename_i st x px en b0 suite ph
    split at h
    · rename_i hc
      simp only [Bool.and_eq_true, beq_iff_eq] at hc
      obtain ⟨c1, c2, c3⟩ := hc
      split at h
      · rename_i y0 i c0 ys h1 h2 h3 h4
        cases h
        obtain ⟨q0, q1, q2⟩ := xix_get h3
        have T := (g.xc c0 q0 q1).1
        rw [q2] at T
        refine s_try hst hfr g.ndx (g.ix h2) (show X.env.scope.names.lookup en = some .local by rw [g.scp]; exact c3) ⟨g.gl c1, (okName_ok c2).1, .inl T.mg⟩ g.tk (fun W' pn xe tk => erBd_ok (g.tr tk) h1) (fun a oe d pn c w hy hz hf => ?_) (fun c hc => ?_)
        · obtain ⟨q, e1, e2⟩ := yes_of hy
          exact erMs_ok (fun st y h => erHm_ok g (g.ix h2) e1 hz hf j 20 st y h) h4
        · by_cases hy : (yesOf tb [x]).contains c = true
          · obtain ⟨q, e1, e2⟩ := yes_of hy
            rw [(g.xc c q e1).2.2 x c0 h3, hy]
            simpa using e2
          · rcases hc with hc | hc
            · exact absurd hc hy
            · obtain ⟨q, e1, e2⟩ := no_of hc
              rw [(g.xc c q e1).2.2 x c0 h3]
              have hy' : (yesOf tb [x]).contains c = false := by simpa using hy
              rw [hy']
              simpa using e2
      · cases h
    · cases h
  · cases h
end
end SL

set_option maxRecDepth 100000
set_option maxHeartbeats 1000000
/-! Statements from the text. -/
namespace SL
open PySem L2 PyProof.Rows
set_option autoImplicit false
/-- expressions by fuel j, blocks by the first -/
def erS (tb : Tb) (j : Nat) : Nat → Sc → Stmt → Sm
  | 0, _, _ => .never
  | m + 1, s, st => match st with
    | .Assign ts e _ => (match ts with
      | [t] => (erAsg tb s j t e).getD .never
      | _ => .never)
    | .AugAssign t o e _ => (erAug tb s j t o e).getD .never
    | .Expr e _ => if isDoc e = true then .pass else if noComp e = true then ((erE tb j s e).map Sm.exp).getD .never else .never
    | .Return o _ => (match o with
      | none => .retn
      | some e => ((erE tb j s e).map Sm.ret).getD .never)
    | .If c a b _ => (match erE tb j s c with
      | some x => .ifs x (a.map (erS tb j m s)) (b.map (erS tb j m s))
      | none => .never)
    | .While c b o _ => (match erE tb j s c, o with
      | some x, [] => .whl x (b.map (erS tb j m s))
      | _, _ => .never)
    | .For tg it b o _ => if noSet it = true then (match erT s j tg, erIt tb s (erE tb j s) (isTup tg) it, o with
      | some t, some i, [] => .for t i (b.map (erS tb j m s))
      | _, _, _ => .never) else .never
    | .Pass _ => .pass
    | .Break _ => .brk
    | .Continue _ => .cont
    | .Raise e f _ => (match e, f with
      | some (.Call (.Name x _) [a] [] _), none => (erRs tb s j x a).getD .never
      | _, _ => .never)
    | .Try b hs o f _ => (erTr tb s j b hs o f).getD .never
    | _ => .never
section
variable {n : Nam} {P : Wd} {tb : Tb} {k : Nat} {X : Cx} {s : Sc} {V' : WX}
theorem block_ok {f : Stmt → Sm} (hW : ∀ σ σ', ofW n V' σ = ofW n V' σ') (F : ∀ st, PS X st (GS n (ofW n V') (ex P (f st)))) : ∀ ss : List Stmt, PSs X ss (GS n (ofW n V') (exs P (ss.map f)))
  | [] => ss_nil
  | st :: ss => ss_cons hW (F st) (block_ok hW F ss)
/-- THE READING of a statement -/
theorem erS_ok (g : Good n P tb k X s V') (hW : ∀ σ σ', ofW n V' σ = ofW n V' σ') (hp : PassesOwn (model X.prog X.w) X.A X.env X.xe) (hst : X.stack = X.env :: X.outer) (hfr : X.env.frame = some X.env.locals) (j : Nat) : ∀ m st, PS X st (GS n (ofW n V') (ex P (erS tb j m s st)))
  | 0, st => s_never
  | m + 1, st => by
    have F : Snd1 n P X V' (erE tb j s) := er_ok j X s V' g
    have IH := block_ok hW (erS_ok g hW hp hst hfr j m)
    have opt : ∀ {o : Option Sm}, (∀ y, o = some y → PS X st (GS n (ofW n V') (ex P y))) → PS X st (GS n (ofW n V') (ex P (o.getD .never))) := fun {o} h => by
      cases o with
      | none => exact s_never
      | some y => exact h y rfl
    cases st with
    | Assign ts e pos =>
      simp only [erS]
      split
      · exact opt fun y h => erAsg_ok g h
      · exact s_never
    | AugAssign t o e pos =>
      simp only [erS]
      exact opt fun y h => erAug_ok g h
    | Expr e pos =>
      simp only [erS]
      split
      · rename_i hd
        unfold isDoc at hd
        split at hd
        · exact s_doc
        · cases hd
      · split
        · rename_i hn
          refine opt fun y h => ?_
          obtain ⟨x, h1, rfl⟩ := Option.map_eq_some_iff.mp h
          exact s_exp (F e x h1).1 (sw_no hn)
        · exact s_never
    | Return o pos =>
      simp only [erS]
      split
      · exact s_retn
      · rename_i e
        refine opt fun y h => ?_
        obtain ⟨x, h1, rfl⟩ := Option.map_eq_some_iff.mp h
        exact s_ret (F e x h1).1
    | If c a b pos =>
      simp only [erS]
      split
      · rename_i x h1
        exact s_if (F c x h1).2 (IH a) (IH b)
      · exact s_never
    | While c b o pos =>
      simp only [erS]
      split
      · rename_i x h1
        exact s_whl hW hp (F c x h1).2 (IH b)
      · exact s_never
    | For tg it b o pos =>
      simp only [erS]
      split
      · rename_i hn
        split
        · rename_i t i h1 h2
          exact s_for hW hp g.calm (erIt_ok g F h2) (erT_ok g j h1) (IH b) (set_pure hn)
        · exact s_never
      · exact s_never
    | Pass pos => exact s_pass
    | Break pos => exact s_brk
    | Continue pos => exact s_cont
    | Raise e f pos =>
      simp only [erS]
      split
      · exact opt fun y h => erRs_ok g h
      · exact s_never
    | Try b hs o f pos =>
      simp only [erS]
      exact opt fun y h => erTr_ok g hst hfr h
    | _ => exact s_never
end
end SL

set_option maxRecDepth 100000
set_option maxHeartbeats 1000000
/-! The defs, by the depth of their calls. -/
namespace SL
open PySem L2 PyProof.Rows
set_option autoImplicit false

/-- one def of the text -/
structure DD where
  at_ : Str × Option Str
  name : Str
  qual : Str
  params : Arguments
  body : List Stmt
  scope : Scope
  N : List Str
  ps : List Str
  md : Md
def DD.d (d : DD) : He.DefD := ⟨d.at_, d.name, d.qual, d.params, d.body, d.scope, [], []⟩
def DD.bindOk (d : DD) : Prop := ∀ (kV doc pm : Value) (an : Option Addr) (cdv ct : Value) (us : List Value), us.length = d.ps.length → bindArgs (PySem.W.fnOf d.name d.qual d.params d.body d.scope .none kV doc pm an cdv ct) ⟨us, []⟩ = pure (d.ps.zip us)
/-- one class: its name, __init__, methods, fields, whether its instances stay as they are -/
structure CD where
  name : Str
  init : Option Nat
  meth : List (Nat × Nat)
  fld : List Nat
  cold : Bool
/-- a refusal's class: its name, the names of all that it is -/
structure XC where
  name : Str
  ups : List Str
/-- the program as the proof sees it; xini: the def that is the refusals' __init__, atF: what it stores -/
structure Pg where
  dds : List DD
  cds : List CD
  con : List (Str × Nat × Int)
  att : List Str
  turns : Nat
  xcs : List XC := []
  xini : Nat := 0
  atF : Nat := 0
def numbered {α : Type} (i : Nat) : List α → List (α × Nat)
  | [] => []
  | a :: as => (a, i) :: numbered (i + 1) as
theorem numbered_get {α : Type} : ∀ {l : List α} {i : Nat} {p : α × Nat}, p ∈ numbered i l → ∃ k, p.2 = i + k ∧ l[k]? = some p.1
  | [], i, p, h => by simp [numbered] at h
  | a :: as, i, p, h => by
    rcases List.mem_cons.mp h with rfl | h
    · exact ⟨0, rfl, rfl⟩
    · obtain ⟨k, h1, h2⟩ := numbered_get h
      exact ⟨k + 1, by omega, by simpa using h2⟩
def odd (i : Nat) : Str := ⟨#[1114112 + i]⟩
def nmOf (att : List Str) (i : Nat) : Str := (att[i]?).getD (odd i)
def Pg.tb (p : Pg) : Tb where
  fns := (numbered 0 p.dds).filterMap fun q => match q.1.at_.2 with
    | none => some (q.1.at_.1, q.2)
    | some _ => none
  cls := (numbered 0 p.cds).map fun q => (q.1.name, q.2)
  con := p.con.map fun q => (q.1, q.2.1)
  att := p.att
  xcs := p.xcs.map fun q => (q.name, q.ups)
  atN := nmOf p.att p.atF
def DD.df (tb : Tb) (d : DD) : Df := ⟨d.ps.length, d.N.length, d.body.map (erS tb 40 40 ⟨d.N, d.scope, fun _ => true⟩), d.md⟩
def Pg.D (p : Pg) (f : Nat) : Option Df := (p.dds[f]?).map (DD.df p.tb)
def Pg.glo (p : Pg) (g : Nat) : Option Wv := (p.con.map (·.2)).lookup g |>.map .int
def Pg.cls (p : Pg) (c : Nat) : Option Cl := (p.cds[c]?).map fun d => ⟨d.init, d.meth, d.cold⟩
def Pg.fld (p : Pg) (c f : Nat) : Bool := match p.cds[c]? with
  | some d => d.fld.contains f
  | none => false
def Pg.W (p : Pg) (D : Nat → Option Df) (j : Nat) : Wd := ⟨p.glo, p.cls, p.fld, callD D p.glo p.cls p.fld p.turns j, p.turns⟩
/-! ### names -/
def attOk (att : List Str) : Bool := decide att.Nodup && att.all fun a => decide (a.cps.size ≠ 1)
theorem nm_inj {att : List Str} (h : attOk att = true) : ∀ f g, nmOf att f = nmOf att g → f = g := by
  unfold attOk at h
  simp only [Bool.and_eq_true, decide_eq_true_eq, List.all_eq_true] at h
  obtain ⟨hn, ho⟩ := h
  have key : ∀ f g, f < att.length → ¬ g < att.length → nmOf att f = nmOf att g → False := fun f g hf hg e => by
    unfold nmOf at e
    rw [List.getElem?_eq_getElem hf, List.getElem?_eq_none (by omega)] at e
    have := ho _ (List.getElem_mem hf)
    simp only [Option.getD_some, Option.getD_none] at e
    rw [e] at this
    exact this rfl
  intro f g e
  by_cases hf : f < att.length <;> by_cases hg : g < att.length
  · unfold nmOf at e
    rw [List.getElem?_eq_getElem hf, List.getElem?_eq_getElem hg] at e
    exact (List.getElem_inj hn).mp (by simpa using e)
  · exact (key f g hf hg e).elim
  · exact (key g f hg hf e.symm).elim
  · unfold nmOf at e
    rw [List.getElem?_eq_none (by omega), List.getElem?_eq_none (by omega)] at e
    simp only [Option.getD_none, odd] at e
    have e2 : (#[1114112 + f] : Array Nat) = #[1114112 + g] := congrArg Str.cps e
    have e3 := congrArg (fun a : Array Nat => a[0]?) e2
    simp at e3
    exact e3
/-- the names at K; atF: the number of an exception's own field -/
def Pg.n (p : Pg) (h : attOk p.att = true) (K : PySem.W.Frag) (atF : Nat) : Nam := ⟨K, fun c => He.ga K ((p.cds[c]?.map CD.name).getD Str.empty), fun c => He.ga K ((p.xcs[c]?.map XC.name).getD Str.empty), nmOf p.att, atF, nm_inj h⟩
/-! ### what the heap behind the top is to hold -/
def fnA (p : Pg) (K : PySem.W.Frag) (f : Nat) : Addr := He.fAd K ((p.dds[f]?.map DD.at_).getD (Str.empty, none))
def valIs (K : PySem.W.Frag) (C : Addr) (m : Str) (a : Addr) : Bool := match PySem.W.findCls K (.ref C) (.type "type") m with
  | some (.val (.ref b)) => decide (b = a)
  | _ => false
theorem valIs_ok {K : PySem.W.Frag} {C : Addr} {m : Str} {a : Addr} (h : valIs K C m a = true) : PySem.W.findCls K (.ref C) (.type "type") m = some (.val (.ref a)) := by
  unfold valIs at h
  split at h
  · rename_i b q
    rw [q, of_decide_eq_true h]
  · cases h
def glB (K : PySem.W.Frag) (x : Str) : Bool := He.eqO (PySem.W.nsIn K mainGlobals x) (some (some (.ref (He.ga K x))))
def clB (p : Pg) (K : PySem.W.Frag) (c : CD) : Bool :=
  glB K c.name && (He.Fa.cls c.name).ok K && PySem.W.keepIn K (.ref (He.ga K c.name)) && He.eqO (PySem.W.specialIn K (.ref (He.ga K c.name)) "__getattribute__") (some (some (.builtin "type.__getattribute__"))) &&
    PySem.W.readsIn K (He.ga K c.name) (.type "type") &&
    (match c.init with
      | some f => PySem.W.makesIn K (He.ga K c.name) && He.eqO (PySem.W.findIn K (.ref (He.ga K c.name)) "__init__") (some (some (.ref (fnA p K f)))) && PySem.W.isFn K (.ref (fnA p K f))
      | none => true) &&
    (c.meth.all fun q => decide (q.1 < p.att.length) && He.eqO (PySem.W.findIn K (.ref (He.ga K c.name)) (nmOf p.att q.1)) (some (some (.ref (fnA p K q.2)))) && PySem.W.isFn K (.ref (fnA p K q.2)) && valIs K (He.ga K c.name) (nmOf p.att q.1) (fnA p K q.2)) &&
    (c.fld.all fun f => He.eqO (PySem.W.findIn K (.ref (He.ga K c.name)) (nmOf p.att f)) (some none))
def coB (K : PySem.W.Frag) (q : Str × Nat × Int) : Bool := match PySem.W.nsIn K mainGlobals q.1 with
  | some (some (.int j _)) => decide (j = q.2.2)
  | _ => false
/-- __init__(self, v): ValueError.__init__(self, ..); self.at = v -/
def iniB (d : DD) (f : Str) : Bool := match d.body with
  | [.Expr (.Call (.Attribute (.Name ve _) ini p2) [.Name s1 _, .Constant (.str _) _ _] [] pos) _, .Assign [.Attribute (.Name s2 _) g _] (.Name v _) _] =>
    decide (ve = ("ValueError" : Str)) && (decide (ini = ("__init__" : Str)) && ((p2.endLine == pos.line) && (decide (s1 = s2) && (decide (g = f) && (decide (d.N = [s1, v]) && (decide (d.ps = [s1, v]) &&
      (decide (d.scope.names.lookup ("ValueError" : Str) = some .globalImplicit) && (decide (d.scope.names.lookup s1 = some .local) && (decide (d.scope.names.lookup v = some .local) && (okName s1 && okName v))))))))))
  | _ => false
def xcB (p : Pg) (K : PySem.W.Frag) (f : Str) (c : XC) : Bool :=
  glB K c.name && (oexB K (He.ga K c.name) && (isB K (He.ga K c.name) && (He.eqO (PySem.W.findIn K (.ref (He.ga K c.name)) f) (some none) && (He.eqO (PySem.W.findIn K (.ref (He.ga K c.name)) "__init__") (some (some (.ref (fnA p K p.xini)))) &&
    (decide (PySem.W.typeIn K (.ref (fnA p K p.xini)) = some (.type "function")) && (decide (PySem.W.kitOne K (.ref (He.ga K c.name)) (.type "ValueError") = some (c.ups.contains "ValueError")) &&
      p.xcs.all fun d => decide (PySem.W.kitOne K (.ref (He.ga K c.name)) (.ref (He.ga K d.name)) = some (c.ups.contains d.name)) && decide (PySem.W.exmOne K (.ref (He.ga K c.name)) (.ref (He.ga K d.name)) = some (c.ups.contains d.name))))))))
def veB (K : PySem.W.Frag) : Bool := match PySem.W.findCls K (.type "ValueError") (.type "type") "__init__" with
  | some (.val v) => decide (v = .builtin "ValueError.__init__")
  | _ => false
theorem veB_ok {K : PySem.W.Frag} (h : veB K = true) : PySem.W.findCls K (.type "ValueError") (.type "type") "__init__" = some (.val (.builtin "ValueError.__init__")) := by
  unfold veB at h
  split at h
  · rename_i v q
    rw [q, of_decide_eq_true h]
  · cases h
def Pg.facts (p : Pg) (K : PySem.W.Frag) : Bool := (p.xcs.isEmpty || (veB K && p.xcs.all (xcB p K (nmOf p.att p.atF)))) && (
  (p.dds.all fun d => match d.at_.2 with
    | none => glB K d.at_.1
    | some _ => true) && p.cds.all (clB p K) && p.con.all (coB K) && bltNames.all fun x => He.eqO (PySem.W.nsIn K mainGlobals x) (some none))
/-- the scopes -/
def scC (N P : List Str) (sc : Scope) : Bool := (match sc.kind with | .function => true | _ => false) && !sc.isCoroutine && !sc.isGenerator && decide N.Nodup && decide (N.take P.length = P) &&
  (P.all fun x => decide (sc.names.lookup x = some .local) || decide (sc.names.lookup x = some .cell)) && sc.names.all fun y => decide (y.2 ≠ .free)
theorem scC_ok {N P : List Str} {sc : Scope} (h : scC N P sc = true) : FnScope N P sc := by
  unfold scC at h
  simp only [Bool.and_eq_true, List.all_eq_true, decide_eq_true_eq, Bool.or_eq_true, Bool.not_eq_true'] at h
  obtain ⟨⟨⟨⟨⟨⟨h1, h2⟩, h3⟩, h4⟩, h5⟩, h6⟩, h7⟩ := h
  refine ⟨?_, h2, h3, h4, h5, h6, h7⟩
  split at h1
  · assumption
  · cases h1
/-- what is asked of the program's tables -/
structure Pg.Ok (p : Pg) : Prop where
  att : attOk p.att = true
  sc : (p.dds.all fun d => scC d.N d.ps d.scope) = true
  bind : ∀ d ∈ p.dds, d.bindOk
  con : (p.con.map (·.2.1)).Nodup
  iN : (p.cds.all fun c => c.meth.all fun q => decide (q.2 < p.dds.length)) = true
  mF : ∀ c ∈ p.cds, ∀ f, c.init = some f → f < p.dds.length
  xI : p.xcs ≠ [] → ∃ d, p.dds[p.xini]? = some d ∧ iniB d (nmOf p.att p.atF) = true ∧ p.xcs.all (fun c => decide (c.name ≠ ("ValueError" : Str))) = true
end SL

set_option maxRecDepth 100000
set_option maxHeartbeats 1000000
/-! Each def keeps what the evaluator says of it. -/
namespace SL
open PySem L2 PyProof.Rows
set_option autoImplicit false

theorem lookup_nd {α : Type} : ∀ {l : List (Nat × α)} {k : Nat} {v : α}, (l.map (·.1)).Nodup → (k, v) ∈ l → l.lookup k = some v
  | [], k, v, _, h => by simp at h
  | (a, b) :: l, k, v, hn, h => by
    rw [List.map_cons, List.nodup_cons] at hn
    rcases List.mem_cons.mp h with e | h
    · cases e; exact List.lookup_cons_self
    · have : k ≠ a := fun e => hn.1 (List.mem_map.mpr ⟨(k, v), h, e⟩)
      simp only [List.lookup, beq_eq_false_iff_ne.mpr this]
      exact lookup_nd hn.2 h
theorem mem_lookN {α : Type} : ∀ {l : List (Nat × α)} {k : Nat} {v : α}, l.lookup k = some v → (k, v) ∈ l
  | [], k, v, h => by cases h
  | (a, b) :: l, k, v, h => by
    by_cases e : k = a
    · subst e
      rw [List.lookup_cons_self] at h
      cases h
      exact List.mem_cons_self
    · simp only [List.lookup, beq_eq_false_iff_ne.mpr e] at h
      exact List.mem_cons_of_mem _ (mem_lookN h)
theorem start_sr {n : Nam} {ι : List Addr} {H : Hp} {N : List Str} {vs : List V} {ws : List Wv} (h : VRs n ι H vs ws) (m : Nat) (hm : m = N.length) : ER n ι H (L2.start N vs) (SL.start m ws) := by
  subst hm
  unfold L2.start SL.start
  refine ⟨by simp [h.length], fun i w e => ?_⟩
  by_cases hi : i < ws.length
  · rw [List.getElem?_append_left (by simpa using hi), List.getElem?_map, Option.map_eq_some_iff] at e
    obtain ⟨w', e1, e2⟩ := e
    cases e2
    obtain ⟨v, h1, h2⟩ := h.get e1
    refine ⟨v, ?_, h2⟩
    rw [List.getElem?_append_left (by rw [List.length_map, h.length]; exact hi), List.getElem?_map, h1]
    rfl
  · rw [List.getElem?_append_right (by simpa using hi)] at e
    have := List.mem_of_getElem? e
    rw [List.mem_replicate] at this
    cases this.2
section
variable {p : Pg} {prog : Program} {w : World} {K : PySem.W.Frag} {mg : Str → Option Value} {h : Heap}
/-- what is known of the heap behind the top -/
structure Kn (p : Pg) (K : PySem.W.Frag) (mg : Str → Option Value) (h : Heap) : Prop where
  ok : p.Ok
  kin : K.In h
  ns : h.Ns mainGlobals mg
  facts : p.facts K = true
  fn : ∀ d ∈ p.dds, ∃ fd, FunD K d.name d.qual d.params d.body d.scope [] [] (He.fAd K d.at_) fd
theorem Kn.parts (k : Kn p K mg h) : (∀ d ∈ p.dds, d.at_.2 = none → glB K d.at_.1 = true) ∧ (∀ c ∈ p.cds, clB p K c = true) ∧ (∀ q ∈ p.con, coB K q = true) ∧ ∀ x ∈ bltNames, He.eqO (PySem.W.nsIn K mainGlobals x) (some none) = true := by
  have f := k.facts
  unfold Pg.facts at f
  simp only [Bool.and_eq_true, List.all_eq_true] at f
  obtain ⟨_, ⟨⟨f1, f2⟩, f3⟩, f4⟩ := f
  refine ⟨fun d hd e => ?_, f2, f3, f4⟩
  have := f1 d hd
  rw [e] at this
  exact this
theorem Kn.glo (k : Kn p K mg h) {x : Str} (c : glB K x = true) : mg x = some (.ref (He.ga K x)) := PySem.W.mg_of k.kin k.ns (He.eqO_ok c)
structure ClsK (p : Pg) (K : PySem.W.Frag) (c : CD) : Prop where
  gl : glB K c.name = true
  cls : Cls K (He.ga K c.name)
  kp : PySem.W.keepIn K (.ref (He.ga K c.name)) = true
  get : PySem.W.specialIn K (.ref (He.ga K c.name)) "__getattribute__" = some (some (.builtin "type.__getattribute__"))
  rds : PySem.W.readsIn K (He.ga K c.name) (.type "type") = true
  init : ∀ f, c.init = some f → PySem.W.makesIn K (He.ga K c.name) = true ∧ PySem.W.findIn K (.ref (He.ga K c.name)) "__init__" = some (some (.ref (fnA p K f))) ∧ PySem.W.isFn K (.ref (fnA p K f)) = true
  meth : ∀ q ∈ c.meth, PySem.W.findIn K (.ref (He.ga K c.name)) (nmOf p.att q.1) = some (some (.ref (fnA p K q.2))) ∧ PySem.W.isFn K (.ref (fnA p K q.2)) = true ∧ PySem.W.findCls K (.ref (He.ga K c.name)) (.type "type") (nmOf p.att q.1) = some (.val (.ref (fnA p K q.2)))
  fld : ∀ f ∈ c.fld, PySem.W.findIn K (.ref (He.ga K c.name)) (nmOf p.att f) = some none
theorem clB_ok {c : CD} (h : clB p K c = true) : ClsK p K c := by
  unfold clB at h
  simp only [Bool.and_eq_true, List.all_eq_true, decide_eq_true_eq] at h
  obtain ⟨⟨⟨⟨⟨⟨⟨h1, h2⟩, h3⟩, h4⟩, h5⟩, h6⟩, h7⟩, h8⟩ := h
  refine ⟨h1, He.cls_ok h2, h3, He.eqO_ok h4, h5, fun f hf => ?_, fun q hq => ?_, fun f hf => He.eqO_ok (h8 f hf)⟩
  · rw [hf] at h6
    simp only [Bool.and_eq_true] at h6
    exact ⟨h6.1.1, He.eqO_ok h6.1.2, h6.2⟩
  · obtain ⟨⟨⟨g1, g2⟩, g3⟩, g4⟩ := h7 q hq
    exact ⟨He.eqO_ok g2, g3, valIs_ok g4⟩
theorem Kn.cd (k : Kn p K mg h) {c : Nat} {d : CD} (e : p.cds[c]? = some d) : ClsK p K d := clB_ok (k.parts.2.1 d (List.mem_of_getElem? e))
theorem Kn.at_ (k : Kn p K mg h) {f : Nat} {d : DD} (e : p.dds[f]? = some d) : fnA p K f = He.fAd K d.at_ := by unfold fnA; rw [e]; rfl
theorem Kn.cA (k : Kn p K mg h) {c : Nat} {d : CD} (e : p.cds[c]? = some d) : (p.n k.ok.att K p.atF).cA c = He.ga K d.name := by
  show He.ga K _ = _
  rw [e]; rfl
theorem Kn.xcs (k : Kn p K mg h) (hx : p.xcs ≠ []) : veB K = true ∧ ∀ c ∈ p.xcs, xcB p K (nmOf p.att p.atF) c = true := by
  have f := k.facts
  unfold Pg.facts at f
  rw [Bool.and_eq_true] at f
  have f := f.1
  rw [Bool.or_eq_true] at f
  rcases f with f | f
  · exact absurd (List.isEmpty_iff.mp f) hx
  · rw [Bool.and_eq_true, List.all_eq_true] at f
    exact f
/-- the refusals' __init__ -/
theorem ini_ok {d : DD} {f : Str} {a : Addr} {fd : FuncData} {base : Heap} (F : FunD K d.name d.qual d.params d.body d.scope [] [] a fd) (S : FnScope d.N d.ps d.scope) (hB : iniB d f = true) (hm : mg "ValueError" = none) (hv : veB K = true) :
    FnOk prog w K mg base (L2.CX prog w) 1 a fd d.ps (spI K f) := by
  unfold iniB at hB
  split at hB
  · rename_i ve pv1 ini p2 s1 q1 zz jj q2 pos pe s2 q3 gg q4 v q5 pe2 hbody
    simp only [Bool.and_eq_true, decide_eq_true_eq, beq_iff_eq] at hB
    obtain ⟨rfl, rfl, h1, rfl, rfl, h2, h3, h4, h5, h6, h7, h8⟩ := hB
    refine F.ok S (fun vs H Q E ⟨aa, C, v0, e, _⟩ => by rw [e, h3]; rfl) (fun cdv A outer s H vs Q E hr ⟨aa, C, v0, e, T, no, ha, q⟩ => ?_)
    subst e
    rw [hbody]
    have hN : d.N.Nodup := S.nd
    have N0 : d.N[0]? = some s1 := by rw [h2]; rfl
    have N1 : d.N[1]? = some v := by rw [h2]; rfl
    have V0 : Vis d.scope s1 := .inl h5
    have V1 : Vis d.scope v := .inl h6
    refine ⟨_, pss_cons (ps_expr (pe_veinit (X := cxOf (L2.CX prog w) prog w K mg base d.N d.qual d.scope a cdv A outer s H E) h4 hm (veB_ok hv) (pa_cons (pe_var N0 V0 (okName_ok h7).1 (okName_ok h7).2) (pa_cons pe_str pa_nil)) (meth_eq rfl (by simpa using h1) (by simp) rfl)) rfl)
      (pss_one (ps_ost (pe_var N0 V0 (okName_ok h7).1 (okName_ok h7).2) (pe_var N1 V1 (okName_ok h8).1 (okName_ok h8).2) (sw_other rfl))), ?_⟩
    have e0 : (L2.start d.N [.ref aa, v0])[0]? = some (some (.ref aa)) := by rw [h2]; rfl
    have e1 : (L2.start d.N [.ref aa, v0])[1]? = some (some v0) := by rw [h2]; rfl
    refine ⟨.ref aa, e0, aa, C, [.str zz], rfl, by simp, T, ha, ?_⟩
    exact ⟨v0, e1, .ref aa, e0, aa, C, rfl, T, no, .inl ⟨ha, fun dx hd hne => q dx hd hne⟩⟩
  · cases hB
/-- every def at one depth -/
def AllFn (p : Pg) (prog : Program) (w : World) (K : PySem.W.Frag) (mg : Str → Option Value) (base : Heap) (n : Nam) (j : Nat) : Prop :=
  ∀ f d, p.dds[f]? = some d → ∀ fd, FunD K d.name d.qual d.params d.body d.scope [] [] (He.fAd K d.at_) fd → Binds K fd d.ps [] ∧ FnOk prog w K mg base (L2.CX prog w) (2 * j + 2) (He.fAd K d.at_) fd d.ps (spW n (p.W p.D j) f)
theorem Kn.fnIs (k : Kn p K mg h) {base : Heap} {j : Nat} (A : AllFn p prog w K mg base (p.n k.ok.att K p.atF) j) {X : Cx} (h1 : X.prog = prog) (h2 : X.w = w) (h3 : X.K = K) (h4 : X.mg = mg) (h5 : X.base = base) {f : Nat} (hf : f < p.dds.length) :
    FnIs X (p.n k.ok.att K p.atF) (p.W p.D j) (2 * j + 2) f (fnA p K f) ∧ PySem.W.keepIn X.K (.ref (fnA p K f)) = true := by
  have e : p.dds[f]? = some p.dds[f] := List.getElem?_eq_getElem hf
  obtain ⟨fd, F⟩ := k.fn _ (List.mem_of_getElem? e)
  obtain ⟨b, o⟩ := A f _ e fd F
  subst h1 h2 h3 h4 h5
  rw [k.at_ e]
  exact ⟨⟨fd, _, b, o⟩, F.kp⟩
theorem Kn.good (k : Kn p K mg h) {base : Heap} {j : Nat} (A : AllFn p prog w K mg base (p.n k.ok.att K p.atF) j) {X : Cx} {s : Sc} {V' : WX} (h1 : X.prog = prog) (h2 : X.w = w) (h3 : X.K = K) (h4 : X.mg = mg) (h5 : X.base = base)
    (calm : X.calm = true) (kind : X.env.scope.kind = .function) (scp : X.env.scope = s.sc) (nN : X.N = s.N) (nd : s.N.Nodup) (stk : ∀ x, s.st x = true → X.fn x = true ∨ X.env.scope.names.lookup x = some .local) (hr : Room (2 * j + 3) X.A) (tk : Takes X V') :
    Good (p.n k.ok.att K p.atF) (p.W p.D j) p.tb (2 * j + 2) X s V' where
  hK := h3
  calm := calm
  kind := kind
  scp := scp
  nN := nN
  nd := nd
  stk := stk
  hr := hr
  tk := tk
  fld := fun c f hf => by
    have hf : p.fld c f = true := hf
    unfold Pg.fld at hf
    split at hf
    · rename_i d e
      have C := k.cd e
      have hm : f ∈ d.fld := List.contains_iff_mem.mp hf
      rw [k.cA e]
      exact ⟨C.cls, C.fld f hm⟩
    · cases hf
  meths := fun c m f hm => by
    have hm : (p.cls c).bind (fun cl => cl.meth.lookup m) = some f := hm
    unfold Pg.cls at hm
    cases e : p.cds[c]? with
    | none => rw [e] at hm; cases hm
    | some d =>
      rw [e] at hm
      have hm : d.meth.lookup m = some f := hm
      have q := mem_lookN hm
      have C := k.cd e
      have i := k.ok.iN
      simp only [List.all_eq_true, decide_eq_true_eq] at i
      have hf := i d (List.mem_of_getElem? e) _ q
      obtain ⟨I, kp⟩ := k.fnIs A h1 h2 h3 h4 h5 hf
      refine ⟨?_, fnA p K f, ⟨?_, ?_, ?_⟩, I⟩
      · rw [k.cA e]; exact C.cls
      · rw [k.cA e]; exact (C.meth _ q).1
      · exact (C.meth _ q).2.1
      · exact h3 ▸ kp
  fns := fun x f hx => by
    have q := PySem.mem_of_lookup hx
    obtain ⟨r, h6, h7⟩ := List.mem_filterMap.mp q
    obtain ⟨i, h8, h9⟩ := numbered_get h6
    rw [Nat.zero_add] at h8
    split at h7
    · rename_i hn
      cases h7
      rw [← h8] at h9
      have hf := (List.getElem?_eq_some_iff.mp h9).1
      obtain ⟨I, kp⟩ := k.fnIs A h1 h2 h3 h4 h5 hf
      have e : fnA p K r.2 = He.ga K r.1.at_.1 := by
        rw [k.at_ h9]
        show He.fAd K r.1.at_ = _
        unfold He.fAd
        rw [hn]
      refine ⟨fnA p K r.2, ?_, kp, I⟩
      rw [h4, e]
      exact k.glo (k.parts.1 r.1 (List.mem_of_getElem? h9) hn)
    · cases h7
  cls := fun x c hx => by
    have q := PySem.mem_of_lookup hx
    obtain ⟨r, h6, h7⟩ := List.mem_map.mp q
    obtain ⟨i, h8, h9⟩ := numbered_get h6
    rw [Nat.zero_add] at h8
    rw [← h8] at h9
    cases h7
    have C := k.cd h9
    have mgx : X.mg r.1.name = some (.ref ((p.n k.ok.att K p.atF).cA r.2)) := by
      rw [h4, k.cA h9]
      exact k.glo C.gl
    have pc : p.cls r.2 = some ⟨r.1.init, r.1.meth, r.1.cold⟩ := by
      unfold Pg.cls
      rw [h9]; rfl
    refine ⟨⟨mgx, fun cl f hc hi => ?_⟩, by rw [k.cA h9, h3]; exact C.kp, mgx, by rw [k.cA h9, h3]; exact C.get, by rw [k.cA h9, h3]; exact C.rds, fun m f hm => ?_⟩
    · have hc : p.cls r.2 = some cl := hc
      rw [pc] at hc
      cases hc
      have hi : r.1.init = some f := hi
      have hf := k.ok.mF _ (List.mem_of_getElem? h9) f hi
      obtain ⟨I, kp⟩ := k.fnIs A h1 h2 h3 h4 h5 hf
      obtain ⟨i1, i2, i3⟩ := C.init f hi
      refine ⟨fnA p K f, ⟨?_, ?_, ?_, ?_⟩, I⟩
      · rw [k.cA h9, h3]; exact i1
      · rw [k.cA h9, h3]; exact i2
      · rw [h3]; exact i3
      · rw [k.cA h9, h3]; exact C.kp
    · have hm : (p.cls r.2).bind (fun cl => cl.meth.lookup m) = some f := hm
      rw [pc] at hm
      have hm : r.1.meth.lookup m = some f := hm
      have q := mem_lookN hm
      have i := k.ok.iN
      simp only [List.all_eq_true, decide_eq_true_eq] at i
      have hf := i _ (List.mem_of_getElem? h9) _ q
      obtain ⟨I, kp⟩ := k.fnIs A h1 h2 h3 h4 h5 hf
      exact ⟨fnA p K f, by rw [k.cA h9, h3]; exact (C.meth _ q).2.2, rfl, kp, I⟩
  con := fun x g hx => by
    have q := PySem.mem_of_lookup hx
    obtain ⟨r, h6, h7⟩ := List.mem_map.mp q
    cases h7
    have c := k.parts.2.2.1 r h6
    unfold coB at c
    split at c
    · rename_i j t e
      have ej := of_decide_eq_true c
      subst ej
      refine ⟨.int r.2.2, .int r.2.2, .int r.2.2 t, ?_, ?_, ⟨t, rfl⟩, fun _ _ => .int _⟩
      · show p.glo r.2.1 = _
        unfold Pg.glo
        rw [lookup_nd (l := p.con.map (·.2)) (k := r.2.1) (v := r.2.2) (by rw [List.map_map]; exact k.ok.con) (List.mem_map.mpr ⟨r, h6, rfl⟩)]
        rfl
      · rw [h4]; exact PySem.W.mg_of k.kin k.ns e
    · cases c
  att := fun i a h => by
    show nmOf p.att i = a
    unfold nmOf
    rw [show p.att[i]? = some a from h]
    rfl
  blt := fun x hx => by
    rw [h4]
    exact PySem.W.mg_none_of k.kin k.ns (He.eqO_ok (k.parts.2.2.2 x (List.contains_iff_mem.mp hx)))
  k1 := by omega
  atn := rfl
  xc := fun c q hq => by
    have hq : (p.xcs.map fun q => (q.name, q.ups))[c]? = some q := hq
    rw [List.getElem?_map, Option.map_eq_some_iff] at hq
    obtain ⟨x, hx, rfl⟩ := hq
    have hmem := List.mem_of_getElem? hx
    have hne : p.xcs ≠ [] := fun z => by rw [z] at hmem; cases hmem
    obtain ⟨v1, v2⟩ := k.xcs hne
    obtain ⟨d, d1, d2, d3⟩ := k.ok.xI hne
    have hd := List.mem_of_getElem? d1
    have b := v2 x hmem
    unfold xcB at b
    simp only [Bool.and_eq_true, decide_eq_true_eq, List.all_eq_true] at b
    obtain ⟨b1, b2, b3, b4, b5, b6, b7, b8⟩ := b
    have eA : (p.n k.ok.att K p.atF).xA c = He.ga K x.name := by
      show He.ga K _ = _
      rw [hx]; rfl
    obtain ⟨fd, F⟩ := k.fn d hd
    have hs := scC_ok (List.all_eq_true.mp k.ok.sc d hd)
    have hm : mg "ValueError" = none := PySem.W.mg_none_of k.kin k.ns (He.eqO_ok (k.parts.2.2.2 _ (by decide +kernel)))
    have nx : ∀ (t : Str) (c' : Nat), xix p.tb t = some c' → ∃ y, y ∈ p.xcs ∧ y.name = t ∧ (p.n k.ok.att K p.atF).xA c' = He.ga K t := fun t c' h => by
      obtain ⟨q', e1, e2⟩ := xix_get h
      have e1 : (p.xcs.map fun q => (q.name, q.ups))[c']? = some q' := e1
      rw [List.getElem?_map, Option.map_eq_some_iff] at e1
      obtain ⟨y, hy, rfl⟩ := e1
      refine ⟨y, List.mem_of_getElem? hy, e2, ?_⟩
      show He.ga K _ = _
      rw [hy]
      exact congrArg (He.ga K) e2
    subst h1 h2 h3 h4 h5
    rw [eA]
    refine ⟨⟨k.glo b1, oexB_ok b2, isB_ok b3, He.eqO_ok b4, fnA p X.K p.xini, fd, d.ps, He.eqO_ok b5, b6, F.bindsN (k.ok.bind d hd), ?_⟩, fun t ht => ?_, fun t c' h => ?_⟩
    · rw [k.at_ d1]
      exact ini_ok F hs d2 hm v1
    · unfold clsVal
      cases e : xix p.tb t with
      | some c' =>
        obtain ⟨y, y1, y2, y3⟩ := nx t c' e
        simp only
        rw [y3, ← y2]
        exact (b8 y y1).1
      | none =>
        unfold okT at ht
        rw [e] at ht
        simp only [Option.isSome_none, Bool.or_false, decide_eq_true_eq] at ht
        subst ht
        exact b7
    · obtain ⟨y, y1, y2, y3⟩ := nx t c' h
      rw [y3, ← y2]
      exact (b8 y y1).2
/-- EVERY DEF, by the depth of its calls -/
theorem Kn.all (k : Kn p K mg h) {base : Heap} : ∀ j, AllFn p prog w K mg base (p.n k.ok.att K p.atF) j
  | 0 => fun f d e fd F => by
    refine ⟨F.bindsN (k.ok.bind d (List.mem_of_getElem? e)), ⟨fun vs H Q E ⟨ι, hp, ws, R, V, A⟩ => A.elim, fun A outer s H args us vs Q E hr he hb hv ⟨ι, hp, ws, R, V, A'⟩ => A'.elim⟩⟩
  | j + 1 => fun f d e fd F => by
    have IH := k.all (base := base) j
    have hd := List.mem_of_getElem? e
    have hs := scC_ok (List.all_eq_true.mp k.ok.sc d hd)
    have hD : p.D f = some (d.df p.tb) := by unfold Pg.D; rw [e]; rfl
    have run : ∀ ws hp, (p.W p.D (j + 1)).run f ws hp = if ws.length = d.ps.length then
        (bodyEnd (exs (p.W p.D j) (d.df p.tb).body (SL.start d.N.length ws) hp)).bind fun w h1 => ended d.md hp.length hp w h1 else .bad := fun ws hp => by
      show callD p.D p.glo p.cls p.fld p.turns (j + 1) f ws hp = _
      rw [callD, hD]
      rfl
    refine ⟨F.bindsN (k.ok.bind d hd), ?_⟩
    have key : FnOk prog w K mg base (L2.CX prog w) (2 * j + 3 + 1) (He.fAd K d.at_) fd d.ps (spW (p.n k.ok.att K p.atF) (p.W p.D (j + 1)) f) := by
      refine F.ok hs (fun vs H Q E ⟨ι, hp, ws, R, V, A⟩ => ?_) (fun cdv A outer s H vs Q E hr ⟨ι, hp, ws, R, V, A'⟩ => ?_)
      · rw [run] at A
        split at A
        · rename_i hl
          rw [V.length, hl]
        · exact A.elim
      · rw [run] at A'
        split at A'
        · have A2 := Af.ended R A'
          have tk : Takes (cxOf (L2.CX prog w) prog w K mg base d.N d.qual d.scope (He.fAd K d.at_) cdv A outer s H E) (fun cls dd _ H => E cls dd H) := takes_of rfl rfl rfl rfl
          have po : PassesOwn (model prog w) (cxOf (L2.CX prog w) prog w K mg base d.N d.qual d.scope (He.fAd K d.at_) cdv A outer s H E).A (cxOf (L2.CX prog w) prog w K mg base d.N d.qual d.scope (He.fAd K d.at_) cdv A outer s H E).env (cxOf (L2.CX prog w) prog w K mg base d.N d.qual d.scope (He.fAd K d.at_) cdv A outer s H E).xe := passes_of rfl
          have g := k.good (X := cxOf (L2.CX prog w) prog w K mg base d.N d.qual d.scope (He.fAd K d.at_) cdv A outer s H E) (s := ⟨d.N, d.scope, fun _ => true⟩) IH rfl rfl rfl rfl rfl rfl hs.kind rfl rfl hs.nd (fun x _ => .inl rfl) hr tk
          refine ⟨_, block_ok (fun _ _ => rfl) (erS_ok g (fun _ _ => rfl) po rfl rfl 40 40) d.body, ι, _, hp, (start_sr (N := d.N) V d.N.length rfl).sr R, ?_⟩
          unfold bodyEnd at A2
          refine (Af.bind (Rel := FR (p.n k.ok.att K p.atF)) A2).mono ?_
          rintro b H1 ⟨ι1, hp1, a, F1, R1, V1, A1⟩
          cases b <;> cases a <;> first | exact V1.elim | exact A1.elim | skip
          · exact Af.here (b := L2.V.non) A1 R1 .non
          · rename_i v u
            exact Af.here (b := v) A1 R1 V1
        · exact A'.elim
    exact key
end
end SL

set_option maxRecDepth 100000
set_option maxHeartbeats 1000000
/-! The law's call. -/
namespace SL
open PySem L2 PyProof.Rows
set_option autoImplicit false
theorem drop_exc {P : Program} {w : World} {K : PySem.W.Frag} {mg : Str → Option Value} {base : Heap} {k : Nat} {f : Addr} {fd : FuncData} {ps : List Str} {sp : Sp} (F : FnOk P w K mg base (L2.CX P w) k f fd ps sp) :
    FnOk P w K mg base CX0 k f fd ps (fun vs H Q _ => sp vs H Q fun _ _ _ => False) := ⟨fun vs H Q E q => F.len _ _ _ _ q, fun A outer s H args us vs Q E hr he hb hv hs => codeAny_mono (F.run A outer s H args us vs Q _ hr he hb hv hs) fun out s' hq => by
  match out, hq with
  | .error e, ⟨a, B, H', cls, d, _, _, _, _, _, _, _, z⟩ => exact z.elim
  | .ok (.ret u), hq => exact hq
  | .ok .next, hq => exact hq
  | .ok .brk, hq => exact hq
  | .ok .cont, hq => exact hq⟩
/-- what the heap behind the top tells -/
abbrev AlS : Type := He.AlD × Bool
def frS (nn : Nat) (g : Addr → Option Obj) : PySem.W.Frag := He.frG g (He.asD g nn ++ [cStatics])
def obsS (nn : Nat) (p : Pg) (g : Addr → Option Obj) : AlS := (He.obsD [] (p.dds.map DD.d) (frS nn g), p.facts (frS nn g))
def hookS (nn : Nat) (p : Pg) : PySem.W.Hook where
  α := AlS
  obs := fun s => obsS nn p s.heap.get?
  val := fun _ => (He.valD (p.dds.map DD.d), true)
  says := fun _ h => ∃ K : PySem.W.Frag, K.In h ∧ He.SaysD [] (p.dds.map DD.d) K ∧ p.facts K = true
  of := fun _ _ e => ⟨_, He.frG_in, congrArg (fun z : AlS => z.1) e, congrArg (fun z : AlS => z.2) e⟩
  keeps := fun _ _ _ ⟨K, hK, c⟩ k => ⟨K, PySem.W.Frag.In.keeps hK k, c⟩
theorem obsS_eq {nn : Nat} {p : Pg} {g : Addr → Option Obj} {s : Shared} (h : ∀ a, g a = s.heap.get? a) : obsS nn p g = (hookS nn p).obs s := by
  have e : g = s.heap.get? := funext h
  rw [e] <;> rfl
theorem walk_law {l : PySem.W.OpenLaw} {q : Program} {loose : List Str} {XP : (Str → Option Value) → Heap → Prop} {d : DefRec} (p : Pg) (ok : p.Ok) (nn fL : Nat) (dL : DD) (j : Nat) {x : Str} (hdL : p.dds[fL]? = some dL) (hat : dL.at_ = (d.name, none)) (hps : dL.ps = [x])
    (hn : l.most = some 63) (hdf : d.params.defaults = []) (hr : Room (2 * j + 2) callerA)
    (plain : ∀ ns : List Int, ns.length ≤ 63 → ∃ h', callD p.D p.glo p.cls p.fld p.turns j fL [.lst (ns.map Wv.int)] [] = .ok (.bl true) h') :
    PySem.W.WalkO q loose XP (hookS nn p).says l.row.toRowW d [] (fun f vs => PySem.call f vs) := by
  refine L2.walk_ofE (l := l) (n := 63) (k := 2 * j + 2) (x := x) (CX := L2.CX0) hn (by decide) hdf hr ?_ (fun _ _ _ _ z => z)
  intro w mg fa h Y G hmg
  obtain ⟨K, KX, c⟩ := Y
  have k : Kn p K mg h := ⟨ok, KX, G, c.2, fun d hd => He.SaysD.defs (d := d.d) c.1 (List.mem_map.mpr ⟨d, hd, rfl⟩)⟩
  have hd := List.mem_of_getElem? hdL
  obtain ⟨fd, F⟩ := k.fn dL hd
  have ea : He.fAd K dL.at_ = fa := by
    have e1 := k.glo (k.parts.1 dL hd (by rw [hat]))
    rw [hat] at e1 ⊢
    have e2 : mg d.name = some (.ref (He.ga K d.name)) := e1
    rw [hmg] at e2
    show He.ga K d.name = fa
    cases e2
    rfl
  refine ⟨K, fd, (fun vs H Q _ => spW (p.n k.ok.att K p.atF) (p.W p.D j) fL vs H Q fun _ _ _ => False), KX, fun s u => ?_, ?_, fun base hb hG => ?_⟩
  · have := FunD.bindsA F (ps := [x]) (hps ▸ k.ok.bind dL hd) s [u] rfl
    exact this
  · intro H a ns hl _ hS
    obtain ⟨h', e⟩ := plain ns hl
    refine ⟨[], [], [.lst (ns.map Wv.int)], ⟨rfl, List.nodup_nil, fun k a o e1 _ => by simp at e1⟩, .cons (.lst (hS.imp (fun z => ⟨z, by simp⟩) fun z => z) ?_) .nil, ?_⟩
    · clear hl e hS
      induction ns with
      | nil => exact .nil
      | cons i is ih => exact .cons (.int i) ih
    · show Af _ _ _ _ (callD p.D p.glo p.cls p.fld p.turns j fL _ _) _ _
      rw [e]
      intro b ι' H' F R V
      cases V
      rfl
  · have o := (k.all (prog := l.prog) (w := w) (base := base) j fL dL hdL fd F).2
    rw [ea, hps] at o
    exact drop_exc o
end SL

set_option maxRecDepth 100000
set_option maxHeartbeats 1000000
/-! Plain words over the evaluator. -/
namespace SL
open PySem
set_option autoImplicit false
section
variable {D : Nat → Option Df} {glo : Nat → Option Wv} {cls : Nat → Option Cl} {fld : Nat → Nat → Bool} {turns : Nat}
theorem run_end {j f : Nat} {ws : List Wv} {h : Hs} {d : Df} (hD : D f = some d) (hl : ws.length = d.np) : callD D glo cls fld turns (j + 1) f ws h =
    (bodyEnd (exs ⟨glo, cls, fld, callD D glo cls fld turns j, turns⟩ d.body (start d.ns ws) h)).bind fun w h1 => ended d.md h.length h w h1 := by
  rw [callD, hD]
  simp only [hl, if_true]
theorem bind_self {α : Type} (r : Rz α) : (r.bind fun w h1 => .ok w h1) = r := by cases r <;> rfl
theorem run_open {j f : Nat} {ws : List Wv} {h : Hs} {d : Df} (hD : D f = some d) (hl : ws.length = d.np) (hm : d.md = .open) : callD D glo cls fld turns (j + 1) f ws h =
    bodyEnd (exs ⟨glo, cls, fld, callD D glo cls fld turns j, turns⟩ d.body (start d.ns ws) h) := by
  rw [run_end hD hl, hm]
  exact bind_self _
end
theorem shut_of {lo : Nat} : ∀ {a b : Hs}, (∀ (i : Nat) (o : Ob), a[i]? = some o → b[i]? = some o ∨ o.under lo = true) → shut lo a b = true
  | [], _, _ => by simp [shut]
  | o :: os, [], h => by
    simp only [shut, Bool.and_eq_true]
    refine ⟨?_, shut_of fun i p e => ?_⟩
    · rcases h 0 o rfl with q | q
      · simp at q
      · exact q
    · exact (h (i + 1) p (by simpa using e)).imp (fun q => by simp at q) fun q => q
  | o :: os, p :: ps, h => by
    simp only [shut, Bool.and_eq_true, Bool.or_eq_true, decide_eq_true_eq]
    refine ⟨?_, shut_of fun i q e => ?_⟩
    · rcases h 0 o rfl with q | q
      · simp at q; exact .inl q.symm
      · exact .inr q
    · exact (h (i + 1) q (by simpa using e)).imp (fun q => by simpa using q) fun q => q
theorem shut_refl (lo : Nat) (h : Hs) : shut lo h h = true := shut_of fun i o e => .inl e
theorem shut_set {lo k : Nat} {h : Hs} {o : Ob} (hu : o.under lo = true) : shut lo (h.set k o) h = true := shut_of fun i p e => by
  by_cases q : k = i
  · subst q
    by_cases hl : k < h.length
    · rw [List.getElem?_set_self hl] at e; cases e; exact .inr hu
    · rw [List.getElem?_eq_none (by rw [List.length_set]; omega)] at e; cases e
  · rw [List.getElem?_set_ne q] at e; exact .inl e
mutual
/-- no cells, nothing but plain data -/
def Wv.pure : Wv → Bool
  | .non => true
  | .bl _ => true
  | .int _ => true
  | .str _ => true
  | .tup ws => pures ws
  | .lst ws => pures ws
  | _ => false
def pures : List Wv → Bool
  | [] => true
  | w :: ws => w.pure && pures ws
end
mutual
theorem pure_frz (rec : Nat → Option Wv) : ∀ {w : Wv}, w.pure = true → w.frz rec = some w
  | .non, _ | .bl _, _ | .int _, _ | .str _, _ => by simp [Wv.frz]
  | .tup ws, h => by rw [Wv.frz, pures_frz rec (by simpa [Wv.pure] using h)]; rfl
  | .lst ws, h => by rw [Wv.frz, pures_frz rec (by simpa [Wv.pure] using h)]; rfl
  | .dic _, h | .ins _ _, h | .ref _, h | .fn _, h | .cls _, h => by simp [Wv.pure] at h
theorem pures_frz (rec : Nat → Option Wv) : ∀ {ws : List Wv}, pures ws = true → frzs rec ws = some ws
  | [], _ => rfl
  | w :: ws, h => by
    simp only [pures, Bool.and_eq_true] at h
    rw [frzs, pure_frz rec h.1, pures_frz rec h.2]
end
mutual
theorem pure_under (lo : Nat) : ∀ {w : Wv}, w.pure = true → w.under lo = true
  | .non, _ | .bl _, _ | .int _, _ | .str _, _ => by simp [Wv.under]
  | .tup ws, h => by rw [Wv.under]; exact pures_under lo (by simpa [Wv.pure] using h)
  | .lst ws, h => by rw [Wv.under]; exact pures_under lo (by simpa [Wv.pure] using h)
  | .dic _, h | .ins _ _, h | .ref _, h | .fn _, h | .cls _, h => by simp [Wv.pure] at h
theorem pures_under (lo : Nat) : ∀ {ws : List Wv}, pures ws = true → unders lo ws = true
  | [], _ => rfl
  | w :: ws, h => by
    simp only [pures, Bool.and_eq_true] at h
    rw [unders, pure_under lo h.1, pures_under lo h.2]; rfl
end
theorem pures_of {ws : List Wv} (h : ∀ w ∈ ws, w.pure = true) : pures ws = true := by
  induction ws with
  | nil => rfl
  | cons w ws ih => rw [pures, h w List.mem_cons_self, ih fun x hx => h x (List.mem_cons_of_mem _ hx)]; rfl
theorem pures_mem {ws : List Wv} (h : pures ws = true) : ∀ w ∈ ws, w.pure = true := by
  induction ws with
  | nil => intro w hw; cases hw
  | cons a ws ih =>
    simp only [pures, Bool.and_eq_true] at h
    intro w hw
    rcases List.mem_cons.mp hw with rfl | hw
    · exact h.1
    · exact ih h.2 w hw
mutual
theorem pure_datum : ∀ {w : Wv}, w.pure = true → ∃ d, w.toD = some d
  | .non, _ | .bl _, _ | .int _, _ | .str _, _ => by simp [Wv.toD]
  | .tup ws, h => by
    obtain ⟨d, e⟩ := pures_datum (ws := ws) (by simpa [Wv.pure] using h)
    exact ⟨.tuple d, by rw [Wv.toD, e]; rfl⟩
  | .lst ws, h => by
    obtain ⟨d, e⟩ := pures_datum (ws := ws) (by simpa [Wv.pure] using h)
    exact ⟨.list d, by rw [Wv.toD, e]; rfl⟩
  | .dic _, h | .ins _ _, h | .ref _, h | .fn _, h | .cls _, h => by simp [Wv.pure] at h
theorem pures_datum : ∀ {ws : List Wv}, pures ws = true → ∃ d, toDs ws = some d
  | [], _ => ⟨[], rfl⟩
  | w :: ws, h => by
    simp only [pures, Bool.and_eq_true] at h
    obtain ⟨d, e⟩ := pure_datum h.1
    obtain ⟨ds, es⟩ := pures_datum h.2
    exact ⟨d :: ds, by rw [toDs, e, es]⟩
end
/-- a def's end where nothing but the told value leaves, the old cells as they are -/
theorem end_cold {h h' : Hs} {w : Wv} (hw : w.pure = true) (hl : h.length ≤ h'.length) (hs : shut h.length (h'.take h.length) h = true) : ended .cold h.length h w h' = .ok w (h'.take h.length) := by
  unfold ended
  simp only [frzW, pure_frz _ hw, hl, hs, and_self, if_true]
theorem end_fresh {h h' : Hs} {ws us : List Wv} {k : Nat} (hk : h.length ≤ k) (e : h'[k]? = some (.lst ws)) (hf : frzs (frzC h' (fun j => decide (j < h.length) || decide (j = k)) deepest) ws = some us) (hs : shut h.length (h'.take h.length) h = true) :
    ended .fresh h.length h (.ref k) h' = .ok (.ref h.length) (h'.take h.length ++ [.lst us]) := by
  have hl : h.length ≤ h'.length := by
    have := (List.getElem?_eq_some_iff.mp e).1
    omega
  unfold ended
  simp only [show ¬ k < h.length by omega, if_false, e, hf, hl, hs, and_self, if_true]
end SL

set_option maxRecDepth 100000
set_option maxHeartbeats 2000000
/-! Plain words that no program is in. -/
namespace SL
open PySem
set_option autoImplicit false
theorem tst_cmp (P : Wd) (c : Cm) (a b : Ex) (e : Ev) (h : Hs) : tst P (.cmp c a b) e h = (ev P (.cmp c a b) e h).bind fun w h1 => Rz.of (truth h1 w) h1 := tst_plain rfl e h
theorem tst_chn (P : Wd) (c c' : Cm) (a b d : Ex) (e : Ev) (h : Hs) : tst P (.chn c c' a b d) e h = (ev P (.chn c c' a b d) e h).bind fun w h1 => Rz.of (truth h1 w) h1 := tst_plain rfl e h
theorem tst_isi (P : Wd) (a : Ex) (t : List Ty) (e : Ev) (h : Hs) : tst P (.isi a t) e h = (ev P (.isi a t) e h).bind fun w h1 => Rz.of (truth h1 w) h1 := tst_plain rfl e h
theorem tst_call (P : Wd) (f : Nat) (es : List Ex) (e : Ev) (h : Hs) : tst P (.call f es) e h = (ev P (.call f es) e h).bind fun w h1 => Rz.of (truth h1 w) h1 := tst_plain rfl e h
theorem tst_meth (P : Wd) (a : Ex) (m : Nat) (es : List Ex) (e : Ev) (h : Hs) : tst P (.meth a m es) e h = (ev P (.meth a m es) e h).bind fun w h1 => Rz.of (truth h1 w) h1 := tst_plain rfl e h
theorem tst_blt (P : Wd) (b : Bf) (es : List Ex) (e : Ev) (h : Hs) : tst P (.blt b es) e h = (ev P (.blt b es) e h).bind fun w h1 => Rz.of (truth h1 w) h1 := tst_plain rfl e h
theorem tst_var (P : Wd) (i : Nat) (e : Ev) (h : Hs) : tst P (.var i) e h = (ev P (.var i) e h).bind fun w h1 => Rz.of (truth h1 w) h1 := tst_plain rfl e h
theorem tst_not (P : Wd) (a : Ex) (e : Ev) (h : Hs) : tst P (.not a) e h = (tst P a e h).bind fun b h1 => .ok (!b) h1 := by rw [tst]
theorem tst_and (P : Wd) (a b : Ex) (e : Ev) (h : Hs) : tst P (.and a b) e h = (tst P a e h).bind fun t h1 => if t = true then tst P b e h1 else .ok false h1 := by rw [tst]
theorem tst_or (P : Wd) (a b : Ex) (e : Ev) (h : Hs) : tst P (.or a b) e h = (tst P a e h).bind fun t h1 => if t = true then .ok true h1 else tst P b e h1 := by rw [tst]
theorem badd (i j : Int) (h : Hs) : binop .add (.int i) (.int j) h = .ok (.int (i + j)) h := rfl
theorem bsub (i j : Int) (h : Hs) : binop .sub (.int i) (.int j) h = .ok (.int (i - j)) h := rfl
theorem bmod {i j : Int} (h : Hs) (hj : 0 < j) : binop .mod (.int i) (.int j) h = .ok (.int (i % j)) h := by simp only [binop, hj, if_true]
theorem bdiv {i j : Int} (h : Hs) (hj : 0 < j) (hj2 : j < 2 ^ 60) : binop .fdiv (.int i) (.int j) h = .ok (.int (i / j)) h := by
  have : L2.CDivW i j := ⟨hj, Nat.lt_of_lt_of_le (PySem.Flt.log2_lt_of (by decide) (show j.natAbs < 2 ^ 60 by omega)) (by decide)⟩
  simp only [binop, this, if_true]
theorem bmul_l {i j : Int} (h : Hs) (h1 : -(2 ^ 64) < i) (h2 : i < 2 ^ 64) : binop .mul (.int i) (.int j) h = .ok (.int (i * j)) h := by
  have : L2.CMul i j := .inl ⟨h1, h2⟩
  simp only [binop, this, true_or, if_true]
theorem bmul_r {i j : Int} (h : Hs) (h1 : -(2 ^ 64) < j) (h2 : j < 2 ^ 64) : binop .mul (.int i) (.int j) h = .ok (.int (i * j)) h := by
  have : L2.CMul i j := .inr ⟨h1, h2⟩
  simp only [binop, this, true_or, if_true]
theorem btup {a b : List Wv} (h : Hs) (hz : a.length + b.length ≤ sizeLine) : binop .add (.tup a) (.tup b) h = .ok (.tup (a ++ b)) h := by simp only [binop, hz, if_true]
theorem pow18 (h : Hs) : binop .pow (.int 10) (.int 18) h = .ok (.int 1000000000000000000) h := by kernel_rfl
theorem pow9 (h : Hs) : binop .pow (.int 10) (.int 9) h = .ok (.int 1000000000) h := by kernel_rfl
theorem get_set {h : Hs} {k : Nat} {o p : Ob} (e : h[k]? = some o) : (h.set k p)[k]? = some p := List.getElem?_set_self (List.getElem?_eq_some_iff.mp e).1
/-- neither a cell nor anything strange -/
def Wv.pl : Wv → Bool
  | .non => true
  | .bl _ => true
  | .int _ => true
  | .str _ => true
  | .tup _ => true
  | .lst _ => true
  | _ => false
def isI : Wv → Bool
  | .int _ => true
  | _ => false
def btw (w : Wv) (lo hi : Int) : Bool := match w with
  | .int i => decide (lo ≤ i) && decide (i ≤ hi)
  | _ => false
def lc1 (a c : Int) : Int := (a + 7919 * c + 1) * 48271 % 2147483647
def lc2 (a c : Int) : Int := lc1 a c * (lc1 a c / 1009 + 69621) % 2147483647
def lc3 (a c : Int) : Int := lc2 a c * (lc2 a c / 2003 + 40692) % 2147483399
def lcg (a c : Int) : Int := lc3 a c * 48271 + lc3 a c / 7
theorem line1000 : 1000 < sizeLine := by decide
theorem exs_nx {P : Wd} {s : Sm} {ss : List Sm} {e e1 : Ev} {h h1 : Hs} (q : ex P s e h = .ok (.nx e1) h1) : exs P (s :: ss) e h = exs P ss e1 h1 := by
  rw [exs, q]; rfl
theorem exs_ret {P : Wd} {s : Sm} {ss : List Sm} {e : Ev} {w : Wv} {h h1 : Hs} (q : ex P s e h = .ok (.ret w) h1) : exs P (s :: ss) e h = .ok (.ret w) h1 := by
  rw [exs, q]; rfl
theorem forL_nx {body : Ev → Hs → Rz Fl} {tg : Tg} {ck : Ck} {w : Wv} {ws : List Wv} {e e1 e2 : Ev} {h h2 : Hs} (s : stay h ck = true) (b : tg.bind w e = some e1) (r : body e1 h = .ok (.nx e2) h2) : forL body tg ck (w :: ws) e h = forL body tg ck ws e2 h2 := by
  rw [forL, if_pos s, b]
  simp only [r, Rz.bind_ok]
theorem compL_so {turn : Wv → Hs → Rz (Option Wv)} {ck : Ck} {k : Nat} {w v : Wv} {ws acc : List Wv} {h h' : Hs} (s : stay h ck = true) (r : turn w h = .ok (some v) h') (e : h'[k]? = some (.lst acc)) (hz : acc.length < sizeLine) :
    compL turn ck k (w :: ws) h = compL turn ck k ws (h'.set k (.lst (acc ++ [v]))) := by
  rw [compL, if_pos s, r]
  simp only [Rz.quiet, Rz.bind_ok, e, hz, if_true]
theorem compL_nil {turn : Wv → Hs → Rz (Option Wv)} {ck : Ck} {k : Nat} {h : Hs} (s : stay h ck = true) : compL turn ck k [] h = .ok (.ref k) h := by rw [compL, if_pos s]
/-- sizes that may be -/
structure SzOk (sz : List Int) : Prop where
  one : ∀ s ∈ sz, 1 ≤ s ∧ s ≤ 9
def prd : List Int → Int
  | [] => 1
  | s :: r => s * prd r
theorem prd_append (a b : List Int) : prd (a ++ b) = prd a * prd b := by
  induction a with
  | nil => simp [prd]
  | cons x xs ih => simp [prd, ih, Int.mul_assoc]
theorem prd_pos {sz : List Int} (h : SzOk sz) : 1 ≤ prd sz := by
  induction sz with
  | nil => decide
  | cons x xs ih =>
    have h1 := (h.one x List.mem_cons_self).1
    have h2 := ih ⟨fun s hs => h.one s (List.mem_cons_of_mem _ hs)⟩
    show 1 ≤ x * prd xs
    calc (1 : Int) = 1 * 1 := rfl
      _ ≤ x * prd xs := Int.mul_le_mul h1 h2 (by decide) (by omega)
theorem take_app (h : Hs) (t : Hs) : (h ++ t).take h.length = h := by simp
theorem datum_pure {h : Hs} {w : Wv} (hw : w.pure = true) : datum h w = w.toD := by
  unfold datum frzW
  rw [pure_frz _ hw]; rfl
def eqP (a b : Wv) : Option Bool := match a.toD, b.toD with
  | some d, some e => if (shal d || shal e) = true then some (PyData.eqv d e) else none
  | _, _ => none
theorem eqTup (h : Hs) {a b : List Wv} (ha : pures a = true) (hb : pures b = true) : eqVal h (.tup a) (.tup b) = eqP (.tup a) (.tup b) := by
  show (match datum h (.tup a), datum h (.tup b) with
    | some d, some e => if (shal d || shal e) = true then some (PyData.eqv d e) else none
    | _, _ => none) = _
  rw [datum_pure (by simpa [Wv.pure] using ha), datum_pure (by simpa [Wv.pure] using hb)]
  rfl
theorem eq_str (h : Hs) (a b : Str) : eqVal h (.str a) (.str b) = some (decide (a = b)) := rfl
theorem eq_int (h : Hs) (a b : Int) : eqVal h (.int a) (.int b) = some (decide (a = b)) := rfl
theorem ne_mf : (Str.ofString "mirror" = Str.ofString "fixed") = False := by simp only [eq_iff_iff, iff_false]; decide +kernel
theorem ne_rf : (Str.ofString "round" = Str.ofString "fixed") = False := by simp only [eq_iff_iff, iff_false]; decide +kernel
theorem ne_rm : (Str.ofString "round" = Str.ofString "mirror") = False := by simp only [eq_iff_iff, iff_false]; decide +kernel
theorem ne_fm : (Str.ofString "fixed" = Str.ofString "mirror") = False := by simp only [eq_iff_iff, iff_false]; decide +kernel
theorem ne_fr : (Str.ofString "fixed" = Str.ofString "round") = False := by simp only [eq_iff_iff, iff_false]; decide +kernel
theorem eq_mm (h : Hs) : eqVal h (.tup [.str (Str.ofString "mirror")]) (.tup [.str (Str.ofString "mirror")]) = some true := by
  rw [eqTup h rfl rfl]; decide +kernel
theorem eq_rm (h : Hs) : eqVal h (.tup [.str (Str.ofString "round")]) (.tup [.str (Str.ofString "mirror")]) = some false := by
  rw [eqTup h rfl rfl]; decide +kernel
theorem eq_rr (h : Hs) : eqVal h (.tup [.str (Str.ofString "round")]) (.tup [.str (Str.ofString "round")]) = some true := by
  rw [eqTup h rfl rfl]; decide +kernel
inductive Rimm : Wv → Prop
  | mirror : Rimm (.tup [.str (Str.ofString "mirror")])
  | round : Rimm (.tup [.str (Str.ofString "round")])
  | fixed (n : Int) (h0 : 0 ≤ n) (h1 : n ≤ 1000000000) : Rimm (.tup [.str (Str.ofString "fixed"), .int n])
theorem Rimm.pure {r : Wv} (h : Rimm r) : r.pure = true := by cases h <;> rfl
/-- what a rim becomes -/
def edge (s : Int) : Wv → Wv
  | .tup [_, .int n] => .ins 2 [(2, .int s), (3, .int n)]
  | .tup [.str x] => if x = Str.ofString "mirror" then .ins 1 [(2, .int s)] else .ins 0 [(2, .int s)]
  | _ => .non
theorem set_last (h : Hs) (o p : Ob) : (h ++ [o]).set h.length p = h ++ [p] := by
  rw [List.set_append_right _ _ (Nat.le_refl _), Nat.sub_self]; rfl
theorem get_last (h : Hs) (o : Ob) : (h ++ [o])[h.length]? = some o := by
  rw [List.getElem?_append_right (Nat.le_refl _), Nat.sub_self]; rfl
/-- a cold instance, its fields plain -/
theorem make_cold {P : Wd} {c f : Nat} {cl : Cl} {xs : List Wv} {h : Hs} {fs : List (Nat × Wv)} (hc : P.cls c = some cl) (hi : cl.init = some f) (hcd : cl.cold = true) (hr : P.run f (.ref h.length :: xs) (h ++ [.ins c []]) = .ok .non (h ++ [.ins c fs]))
    (hp : ∀ rec : Nat → Option Wv, frzf rec fs = some fs) : make P c xs h = .ok (.ins c fs) h := by
  unfold make
  simp only [hc, hi, hr, Rz.bind_ok, hcd, if_true]
  unfold ended
  have e : frzW (h ++ [.ins c fs]) (fun k => decide (k < h.length)) (.ref h.length) = some (.ins c fs) := by
    unfold frzW
    rw [Wv.frz, deepest, frzC]
    simp only [Nat.lt_irrefl, decide_false, Bool.false_eq_true, if_false, get_last, hp]
    rfl
  simp only [e, take_app, shut_refl, List.length_append, and_true, if_true, Nat.le_add_right]
theorem upTo_succ (lo : Int) (m : Nat) : upTo lo (m + 1) = .int lo :: upTo (lo + 1) m := by
  simp only [upTo, List.range_succ_eq_map, List.map_cons, List.map_map]
  congr 1
  · simp
  · apply List.map_congr_left
    intro i _
    simp only [Function.comp]
    congr 1
    omega
theorem ixAt_nat {n i : Nat} (h : i < n) : ixAt n (i : Int) = some i := by
  unfold ixAt
  simp [h]
theorem comp_map {turn : Wv → Hs → Rz (Option Wv)} {ck : Ck} {h : Hs} (f : Wv → Wv) (hs : ∀ acc, stay (h ++ [.lst acc]) ck = true) : ∀ (ws acc : List Wv), (∀ w ∈ ws, ∀ acc', turn w (h ++ [.lst acc']) = .ok (some (f w)) (h ++ [.lst acc'])) → acc.length + ws.length ≤ sizeLine →
    compL turn ck h.length ws (h ++ [.lst acc]) = .ok (.ref h.length) (h ++ [.lst (acc ++ ws.map f)])
  | [], acc, _, _ => by rw [compL_nil (hs acc)]; simp
  | w :: ws, acc, ht, hz => by
    have hl : acc.length < sizeLine := by simp at hz; omega
    rw [compL_so (hs acc) (ht w List.mem_cons_self acc) (get_last _ _) hl, set_last, comp_map f hs ws (acc ++ [f w]) (fun x hx => ht x (List.mem_cons_of_mem _ hx)) (by simp at hz ⊢; omega)]
    simp
theorem prd_drop {sz : List Int} {i : Nat} (h : i < sz.length) : prd (sz.drop i) = sz[i] * prd (sz.drop (i + 1)) := by
  rw [List.drop_eq_getElem_cons h]; rfl
theorem zip2_mem : ∀ {xs ys : List Wv} {w : Wv}, w ∈ zip2 xs ys → ∃ x y, x ∈ xs ∧ y ∈ ys ∧ w = .tup [x, y]
  | [], ys, w, h => by simp [zip2] at h
  | x :: xs, [], w, h => by simp [zip2] at h
  | x :: xs, y :: ys, w, h => by
    rw [zip2] at h
    rcases List.mem_cons.mp h with rfl | h
    · exact ⟨x, y, List.mem_cons_self, List.mem_cons_self, rfl⟩
    · obtain ⟨a, b, h1, h2, h3⟩ := zip2_mem h
      exact ⟨a, b, List.mem_cons_of_mem _ h1, List.mem_cons_of_mem _ h2, h3⟩
theorem frzs_id {rec : Nat → Option Wv} : ∀ {ws : List Wv}, (∀ w ∈ ws, w.frz rec = some w) → frzs rec ws = some ws
  | [], _ => rfl
  | w :: ws, h => by rw [frzs, h w List.mem_cons_self, frzs_id fun x hx => h x (List.mem_cons_of_mem _ hx)]
theorem edge_frz {r : Wv} (h : Rimm r) (s : Int) (rec : Nat → Option Wv) : (edge s r).frz rec = some (edge s r) := by cases h <;> rfl
theorem line4 : 3 < sizeLine := by decide
def okP : List Wv → List Int → Bool
  | w :: ws, s :: ss => btw w 0 (s - 1) && okP ws ss
  | _, _ => true
def isPl (sz : List Int) : Wv → Bool
  | .tup ws => decide (ws.length = sz.length) && okP ws sz
  | _ => false
/-- a thing that the law draws -/
def plT : Wv → Bool
  | .tup ws => ws.all Wv.pl
  | w => w.pl
def bt2 : Wv → Wv
  | .tup [x, .int s] => .bl (btw x 0 (s - 1))
  | _ => .non
theorem all_zip : ∀ (ws : List Wv) (sz : List Int), ∃ bs, boolsOf ((zip2 ws (sz.map Wv.int)).map bt2) = some bs ∧ bs.all id = okP ws sz
  | [], sz => ⟨[], rfl, by simp [okP]⟩
  | w :: ws, [] => ⟨[], rfl, by simp [okP]⟩
  | w :: ws, s :: sz => by
    obtain ⟨bs, h1, h2⟩ := all_zip ws sz
    refine ⟨btw w 0 (s - 1) :: bs, ?_, ?_⟩
    · rw [List.map_cons, zip2, List.map_cons, bt2, boolsOf, h1]; rfl
    · rw [List.all_cons, h2, okP]; rfl
theorem tupTy (h : Hs) (ws : List Wv) : Ty.has h (.tup ws) .tuple = some true := by simp [Ty.has, tyOf, Ty.name]
theorem notTup (h : Hs) {w : Wv} (hw : w.pl = true) (hn : ∀ ws, w ≠ .tup ws) : Ty.has h w .tuple = some false := by
  cases w <;> first | (cases hw; done) | (exact absurd rfl (hn _)) | (simp [Ty.has, tyOf, Ty.name])
theorem cold_end {h : Hs} {w : Wv} (hw : w.pure = true) (t : Hs) : ended .cold h.length h w (h ++ t) = .ok w h := by
  have := end_cold (h := h) (h' := h ++ t) hw (by simp) (by rw [take_app]; exact shut_refl _ _)
  rw [take_app] at this
  exact this
def tp (p : List Int) : Wv := .tup (p.map Wv.int)
def plE (p : List Int) (m : Nat) : List (List Int) := (List.range m).map fun (i : Nat) => p ++ [(i : Int)]
def plF (acc : List (List Int)) (s : Int) : List (List Int) := acc.flatMap fun p => plE p s.toNat
def plc (sz : List Int) : List (List Int) := sz.foldl plF [[]]
def addI (p : List Int) : Wv → Wv
  | .int i => .tup (p.map Wv.int ++ [.int i])
  | _ => .non
theorem addI_upTo (p : List Int) (m : Nat) : (upTo 0 m).map (addI p) = (plE p m).map tp := by
  simp [upTo, plE, addI, tp, Function.comp_def]
theorem small9 {s : Int} (h : 1 ≤ s ∧ s ≤ 9) : small62 s = true := by
  have : s = 1 ∨ s = 2 ∨ s = 3 ∨ s = 4 ∨ s = 5 ∨ s = 6 ∨ s = 7 ∨ s = 8 ∨ s = 9 := by omega
  rcases this with h | h | h | h | h | h | h | h | h <;> rw [h] <;> decide +kernel
theorem line60 : 60 < sizeLine := by decide
theorem pre_set {h g : Hs} {b : Nat} {o : Ob} (hp : h <+: g) (hb : h.length ≤ b) : h <+: g.set b o := by
  obtain ⟨t, rfl⟩ := hp
  exact ⟨t.set (b - h.length) o, by rw [List.set_append_right _ _ hb]⟩
theorem pre_app {h g : Hs} (hp : h <+: g) (t : Hs) : h <+: g ++ t := hp.trans (List.prefix_append _ _)
theorem get_app {g : Hs} {a : Nat} {o : Ob} (h : g[a]? = some o) (t : Hs) : (g ++ t)[a]? = some o := by
  rw [List.getElem?_append_left (List.getElem?_eq_some_iff.mp h).1]; exact h
theorem plE_length (p : List Int) (m : Nat) : (plE p m).length = m := by simp [plE]
theorem plF_length (acc : List (List Int)) (s : Int) : (plF acc s).length = acc.length * s.toNat := by
  induction acc with
  | nil => simp [plF]
  | cons p ps ih =>
    have : plF (p :: ps) s = plE p s.toNat ++ plF ps s := rfl
    rw [this, List.length_append, plE_length, ih, List.length_cons, Nat.succ_mul]; omega
theorem plF_mem {acc : List (List Int)} {s : Int} {q : List Int} (h : q ∈ plF acc s) : ∃ p ∈ acc, q.length = p.length + 1 := by
  obtain ⟨p, hp, hq⟩ := List.mem_flatMap.mp h
  obtain ⟨i, _, rfl⟩ := List.mem_map.mp hq
  exact ⟨p, hp, by simp⟩
theorem tp_pure (p : List Int) : (tp p).pure = true := by
  show pures (p.map Wv.int) = true
  exact pures_of fun w hw => by
    obtain ⟨i, _, rfl⟩ := List.mem_map.mp hw
    rfl
theorem tps_pure (ps : List (List Int)) : pures (ps.map tp) = true := pures_of fun w hw => by
  obtain ⟨p, _, rfl⟩ := List.mem_map.mp hw
  exact tp_pure p
theorem pre_take {h g : Hs} (hp : h <+: g) : g.take h.length = h := by
  obtain ⟨t, rfl⟩ := hp
  simp
theorem fresh_end {h g : Hs} {k : Nat} {ws : List Wv} (hk : h.length ≤ k) (e : g[k]? = some (.lst ws)) (hw : pures ws = true) (hp : h <+: g) : ended .fresh h.length h (.ref k) g = .ok (.ref h.length) (h ++ [.lst ws]) := by
  have := end_fresh (h := h) hk e (pures_frz _ hw) (by rw [pre_take hp]; exact shut_refl _ _)
  rw [pre_take hp] at this
  exact this
def dgr : List Int → Int → List Int → List Int
  | [], _, pl => pl
  | s :: r, n, pl => dgr r (n / s) (n % s :: pl)
theorem pre_get2 {h g : Hs} (hp : h <+: g) {k : Nat} {o : Ob} (e : h[k]? = some o) : g[k]? = some o := by
  obtain ⟨t, rfl⟩ := hp
  exact get_app e t
theorem rng_cons (f : Int → List Int) (lo : Int) (m : Nat) : ((List.range (m + 1)).map fun (i : Nat) => f (lo + (i : Int))) = f lo :: (List.range m).map fun (i : Nat) => f (lo + 1 + (i : Int)) := by
  rw [List.range_succ_eq_map, List.map_cons, List.map_map]
  congr 1
  · simp
  · apply List.map_congr_left
    intro i _
    show f (lo + ((i + 1 : Nat) : Int)) = f (lo + 1 + (i : Int))
    congr 1
    omega
theorem dgr_app : ∀ (r : List Int) (n : Int) (a pl : List Int), dgr r n (a ++ pl) = dgr r n a ++ pl
  | [], _, _, _ => rfl
  | s :: r, n, a, pl => by
    rw [dgr, dgr, ← dgr_app r (n / s) (n % s :: a) pl]; rfl
theorem range_mul {α : Type} (f : Nat → α) (S : Nat) : ∀ M : Nat, (List.range (M * S)).map f = (List.range M).flatMap fun q => (List.range S).map fun i => f (q * S + i)
  | 0 => by simp
  | M + 1 => by
    rw [Nat.succ_mul, List.range_add, List.map_append, range_mul f S M, List.range_succ, List.flatMap_append]
    simp [Function.comp_def]
theorem plc_eq : ∀ r : List Int, SzOk r → plc r.reverse = (List.range (prd r.reverse).toNat).map fun (i : Nat) => dgr r (0 + (i : Int)) []
  | [], _ => by simp [plc, prd, dgr]
  | s :: r, hs => by
    have hs1 := hs.one s List.mem_cons_self
    have hs2 : SzOk r := ⟨fun t ht => hs.one t (List.mem_cons_of_mem _ ht)⟩
    have hr : SzOk r.reverse := ⟨fun t ht => hs2.one t (List.mem_reverse.mp ht)⟩
    have pp := prd_pos hr
    have e1 : plc (s :: r).reverse = plF (plc r.reverse) s := by
      rw [List.reverse_cons]
      unfold plc
      rw [List.foldl_append]
      rfl
    have e2 : prd (s :: r).reverse = prd r.reverse * s := by
      rw [List.reverse_cons, prd_append]
      simp [prd]
    have e3 : (prd (s :: r).reverse).toNat = (prd r.reverse).toNat * s.toNat := by
      rw [e2, Int.toNat_mul (by omega) (by omega)]
    rw [e1, plc_eq r hs2, e3, range_mul]
    unfold plF
    rw [List.flatMap_map]
    congr 1
    funext q
    unfold plE
    apply List.map_congr_left
    intro i hi
    have hi' := List.mem_range.mp hi
    rw [dgr, show ([] : List Int) = [] ++ [] from rfl]
    have z : ((q * s.toNat + i : Nat) : Int) = s * q + i := by
      rw [Int.natCast_add, Int.natCast_mul, Int.toNat_of_nonneg (by omega), Int.mul_comm]
    have hd : (0 + ((q * s.toNat + i : Nat) : Int)) / s = q := by
      rw [Int.zero_add, z, Int.add_comm, Int.add_mul_ediv_left _ _ (by omega), Int.ediv_eq_zero_of_lt (by omega) (by omega), Int.zero_add]
    have hm : (0 + ((q * s.toNat + i : Nat) : Int)) % s = i := by
      rw [Int.zero_add, z, Int.add_comm, Int.add_mul_emod_self_left, Int.emod_eq_of_lt (by omega) (by omega)]
    rw [hd, hm, Int.zero_add]
    exact (dgr_app r q [] [(i : Int)]).symm
theorem places_due {sz : List Int} (hs : SzOk sz) : plc sz = (List.range (prd sz).toNat).map fun (i : Nat) => dgr sz.reverse (0 + (i : Int)) [] := by
  have := plc_eq sz.reverse ⟨fun t ht => hs.one t (List.mem_reverse.mp ht)⟩
  rwa [List.reverse_reverse] at this
/-- each is a place -/
theorem okP_app : ∀ (p : List Int) (sz : List Int) (x s : Int), p.length = sz.length → okP (p.map Wv.int) sz = true → btw (.int x) 0 (s - 1) = true → okP ((p ++ [x]).map Wv.int) (sz ++ [s]) = true
  | [], [], x, s, _, _, h => by simp [okP, h]
  | [], _ :: _, _, _, h, _, _ => by simp at h
  | _ :: _, [], _, _, h, _, _ => by simp at h
  | a :: p, b :: sz, x, s, h, h1, h2 => by
    simp only [List.map_cons, okP, Bool.and_eq_true] at h1
    simp only [List.cons_append, List.map_cons, okP, Bool.and_eq_true]
    exact ⟨h1.1, okP_app p sz x s (by simpa using h) h1.2 h2⟩
theorem plc_ok : ∀ r : List Int, SzOk r → ∀ p ∈ plc r.reverse, p.length = r.reverse.length ∧ okP (p.map Wv.int) r.reverse = true
  | [], _, p, hp => by
    have : p = [] := by simpa [plc] using hp
    subst this
    exact ⟨rfl, rfl⟩
  | s :: r, hs, p, hp => by
    have hs1 := hs.one s List.mem_cons_self
    have hs2 : SzOk r := ⟨fun t ht => hs.one t (List.mem_cons_of_mem _ ht)⟩
    have e1 : plc (s :: r).reverse = plF (plc r.reverse) s := by
      rw [List.reverse_cons]
      unfold plc
      rw [List.foldl_append]
      rfl
    rw [e1] at hp
    obtain ⟨q, hq, hq2⟩ := List.mem_flatMap.mp hp
    obtain ⟨i, hi, rfl⟩ := List.mem_map.mp hq2
    have hi' := List.mem_range.mp hi
    obtain ⟨l1, l2⟩ := plc_ok r hs2 q hq
    rw [List.reverse_cons]
    exact ⟨by rw [List.length_append, List.length_append, l1]; rfl, okP_app q r.reverse i s l1 l2 (by simp [btw]; omega)⟩
theorem place_ok {sz : List Int} (hs : SzOk sz) {p : List Int} (hp : p ∈ plc sz) : isPl sz (tp p) = true ∧ p.length = sz.length := by
  have h2 := plc_ok sz.reverse ⟨fun t ht => hs.one t (List.mem_reverse.mp ht)⟩ p (by rwa [List.reverse_reverse])
  rw [List.reverse_reverse] at h2
  simp [isPl, tp, h2.1, h2.2]
theorem plc_length {sz : List Int} (hs : SzOk sz) : (plc sz).length = (prd sz).toNat := by
  rw [places_due hs]; simp
theorem cut_mem {α : Type} {ws : List α} {lo hi : Option Int} {w : α} (h : w ∈ cut ws lo hi) : w ∈ ws := by
  unfold cut at h
  exact List.mem_of_mem_drop (List.mem_of_mem_take h)
theorem cut_len {α : Type} (ws : List α) (lo hi : Option Int) : (cut ws lo hi).length ≤ ws.length := by
  unfold cut
  rw [List.length_take, List.length_drop]
  omega
theorem frzs_app {rec : Nat → Option Wv} : ∀ {a b x y : List Wv}, frzs rec a = some x → frzs rec b = some y → frzs rec (a ++ b) = some (x ++ y)
  | [], b, x, y, h1, h2 => by
    simp only [frzs, Option.some.injEq] at h1
    subst h1
    exact h2
  | w :: a, b, x, y, h1, h2 => by
    simp only [frzs] at h1
    split at h1
    · rename_i d ds e1 e2
      cases h1
      rw [List.cons_append, frzs, e1, frzs_app e2 h2]
      rfl
    · cases h1
theorem line10 : 10 < sizeLine := by decide
theorem ints_pl (p : List Int) : ∀ w ∈ p.map Wv.int, w.pl = true := fun w hw => by
  obtain ⟨i, _, rfl⟩ := List.mem_map.mp hw
  rfl
theorem tp_plT (p : List Int) : plT (tp p) = true := List.all_eq_true.mpr (ints_pl p)
theorem ints_pure (p : List Int) : ∀ w ∈ p.map Wv.int, w.pure = true := fun w hw => by
  obtain ⟨i, _, rfl⟩ := List.mem_map.mp hw
  rfl
theorem frzC_at {h : Hs} {no : Nat → Bool} {m k : Nat} {ws : List Wv} (hn : no k = false) (e : h[k]? = some (.lst ws)) (hw : pures ws = true) : frzC h no (m + 1) k = some (.lst ws) := by
  rw [frzC]
  simp only [hn, Bool.false_eq_true, if_false, e, pures_frz _ hw, Option.map_some]
theorem toDs_ints : ∀ p : List Int, toDs (p.map Wv.int) = some (p.map PyData.int)
  | [] => rfl
  | i :: p => by rw [List.map_cons, toDs, toDs_ints p]; rfl
theorem toDs_tps : ∀ ps : List (List Int), toDs (ps.map tp) = some (ps.map fun p => PyData.tuple (p.map PyData.int))
  | [] => rfl
  | p :: ps => by
    rw [List.map_cons, toDs, toDs_tps ps]
    simp only [tp, Wv.toD, toDs_ints, Option.map_some, List.map_cons]
theorem dp_ints : ∀ p : List Int, PyData.depthAll (p.map PyData.int) = 0
  | [] => rfl
  | i :: p => by rw [List.map_cons, PyData.depthAll, dp_ints p]; rfl
theorem dp_tps : ∀ ps : List (List Int), PyData.depthAll (ps.map fun p => PyData.tuple (p.map PyData.int)) ≤ 1
  | [] => Nat.zero_le _
  | p :: ps => by
    have := dp_tps ps
    rw [List.map_cons, PyData.depthAll, PyData.depth, dp_ints]
    omega
theorem pn_ints : ∀ p : List Int, PyData.plainAll (p.map PyData.int) = true
  | [] => rfl
  | i :: p => by rw [List.map_cons, PyData.plainAll, pn_ints p]; rfl
theorem pn_tps : ∀ ps : List (List Int), PyData.plainAll (ps.map fun p => PyData.tuple (p.map PyData.int)) = true
  | [] => rfl
  | p :: ps => by rw [List.map_cons, PyData.plainAll, pn_tps ps, PyData.plain, pn_ints]; rfl
theorem datum_ref {h : Hs} {k : Nat} {ws : List Wv} (e : h[k]? = some (.lst ws)) (hw : pures ws = true) : datum h (.ref k) = (Wv.lst ws).toD := by
  unfold datum frzW
  rw [Wv.frz, deepest, frzC_at (h := h) (no := fun _ => false) rfl e hw]
  rfl
theorem eq_lists {h : Hs} {k k' : Nat} {ps : List (List Int)} (e : h[k]? = some (.lst (ps.map tp))) (e' : h[k']? = some (.lst (ps.map tp))) : eqVal h (.ref k) (.ref k') = some true := by
  show (match datum h (.ref k), datum h (.ref k') with
    | some d, some e => if (shal d || shal e) = true then some (PyData.eqv d e) else none
    | _, _ => none) = _
  rw [datum_ref e (tps_pure ps), datum_ref e' (tps_pure ps)]
  simp only [Wv.toD, toDs_tps, Option.map_some]
  have hd : shal (PyData.list (ps.map fun p => PyData.tuple (p.map PyData.int))) = true := by
    have := dp_tps ps
    unfold shal
    rw [PyData.depth]
    exact decide_eq_true (by omega)
  rw [hd]
  simp only [Bool.true_or, if_true]
  congr 1
  exact PySem.SeqAt.eqv_refl_plain _ (by rw [PyData.plain]; exact pn_tps ps)
theorem isi_eq (P : Wd) (a : Ex) (t : Ty) (e : Ev) (h : Hs) : ev P (.isi a [t]) e h = (ev P a e h).bind fun x h1 => (Rz.of (t.has h1 x) h1).bind fun b h2 => .ok (.bl b) h2 := by rw [ev]
theorem cmp_eq (P : Wd) (c : Cm) (a b : Ex) (e : Ev) (h : Hs) : ev P (.cmp c a b) e h = (ev P a e h).bind fun x h1 => (ev P b e h1).bind fun y h2 => cmpop c x y h2 := by rw [ev]
theorem ifs_no {P : Wd} {c : Ex} {a : List Sm} {e : Ev} {h h1 : Hs} (q : tst P c e h = .ok false h1) : ex P (.ifs c a []) e h = .ok (.nx e) h1 := by
  rw [ex, q, Rz.bind_ok, if_neg (by decide), exs]
theorem boolTy (h : Hs) (b : Bool) : Ty.has h (.bl b) .bool = some true := by simp [Ty.has, tyOf, Ty.name]
theorem listTy {h : Hs} {k : Nat} {ws : List Wv} (e : h[k]? = some (.lst ws)) : Ty.has h (.ref k) .list = some true := by simp [Ty.has, tyOf, e, Ty.name]
theorem all_true {sz : List Int} : ∀ l : List Wv, (∀ w ∈ l, isPl sz w = true) → ∃ bs, boolsOf (l.map fun w => Wv.bl (isPl sz w)) = some bs ∧ bs.all id = true
  | [], _ => ⟨[], rfl, rfl⟩
  | w :: l, h => by
    obtain ⟨bs, h1, h2⟩ := all_true l (fun x hx => h x (List.mem_cons_of_mem _ hx))
    refine ⟨true :: bs, ?_, by simpa using h2⟩
    rw [List.map_cons, h w List.mem_cons_self, boolsOf, h1]
    rfl
end SL

set_option maxRecDepth 100000
set_option maxHeartbeats 2000000
/-! Values without truths within: what is alike is the same. -/
namespace SL
open PySem
set_option autoImplicit false
mutual
/-- plain, no truth within, not too deep -/
def Wv.nb : Wv → Nat → Bool
  | .non, _ => true
  | .int _, _ => true
  | .str _, _ => true
  | .tup ws, n + 1 => nbs ws n
  | .lst ws, n + 1 => nbs ws n
  | _, _ => false
def nbs : List Wv → Nat → Bool
  | [], _ => true
  | w :: ws, n => w.nb n && nbs ws n
end
theorem nbs_of {ws : List Wv} {n : Nat} (h : ∀ w ∈ ws, w.nb n = true) : nbs ws n = true := by
  induction ws with
  | nil => rfl
  | cons w ws ih => rw [nbs, h w List.mem_cons_self, ih fun x hx => h x (List.mem_cons_of_mem _ hx)]; rfl
theorem nbs_mem {ws : List Wv} {n : Nat} (h : nbs ws n = true) : ∀ w ∈ ws, w.nb n = true := by
  induction ws with
  | nil => intro w hw; cases hw
  | cons a ws ih =>
    simp only [nbs, Bool.and_eq_true] at h
    intro w hw
    rcases List.mem_cons.mp hw with rfl | hw
    · exact h.1
    · exact ih h.2 w hw
mutual
theorem nb_pure : ∀ {w : Wv} {n : Nat}, w.nb n = true → w.pure = true
  | .non, _, _ | .int _, _, _ | .str _, _, _ => rfl
  | .tup ws, n + 1, h => by rw [Wv.pure]; exact nbs_pure (by simpa [Wv.nb] using h)
  | .lst ws, n + 1, h => by rw [Wv.pure]; exact nbs_pure (by simpa [Wv.nb] using h)
  | .tup ws, 0, h | .lst ws, 0, h => by simp [Wv.nb] at h
  | .bl _, n, h | .dic _, n, h | .ins _ _, n, h | .ref _, n, h | .fn _, n, h | .cls _, n, h => by simp [Wv.nb] at h
theorem nbs_pure : ∀ {ws : List Wv} {n : Nat}, nbs ws n = true → pures ws = true
  | [], _, _ => rfl
  | w :: ws, n, h => by
    simp only [nbs, Bool.and_eq_true] at h
    rw [pures, nb_pure h.1, nbs_pure h.2]; rfl
end
mutual
theorem nb_toD : ∀ {w : Wv} {n : Nat}, w.nb n = true → ∃ d, w.toD = some d ∧ d.depth ≤ n ∧ d.plain = true
  | .non, n, _ => ⟨.none, rfl, by simp [PyData.depth], rfl⟩
  | .int i, n, _ => ⟨.int i, rfl, by simp [PyData.depth], rfl⟩
  | .str x, n, _ => ⟨.str x, rfl, by simp [PyData.depth], rfl⟩
  | .tup ws, n + 1, h => by
    obtain ⟨ds, e, hd, hp⟩ := nbs_toD (ws := ws) (n := n) (by simpa [Wv.nb] using h)
    exact ⟨.tuple ds, by rw [Wv.toD, e]; rfl, by rw [PyData.depth]; omega, by rw [PyData.plain]; exact hp⟩
  | .lst ws, n + 1, h => by
    obtain ⟨ds, e, hd, hp⟩ := nbs_toD (ws := ws) (n := n) (by simpa [Wv.nb] using h)
    exact ⟨.list ds, by rw [Wv.toD, e]; rfl, by rw [PyData.depth]; omega, by rw [PyData.plain]; exact hp⟩
  | .tup ws, 0, h | .lst ws, 0, h => by simp [Wv.nb] at h
  | .bl _, n, h | .dic _, n, h | .ins _ _, n, h | .ref _, n, h | .fn _, n, h | .cls _, n, h => by simp [Wv.nb] at h
theorem nbs_toD : ∀ {ws : List Wv} {n : Nat}, nbs ws n = true → ∃ ds, toDs ws = some ds ∧ PyData.depthAll ds ≤ n ∧ PyData.plainAll ds = true
  | [], n, _ => ⟨[], rfl, by simp [PyData.depthAll], rfl⟩
  | w :: ws, n, h => by
    simp only [nbs, Bool.and_eq_true] at h
    obtain ⟨d, e, hd, hp⟩ := nb_toD h.1
    obtain ⟨ds, es, hds, hps⟩ := nbs_toD h.2
    exact ⟨d :: ds, by rw [toDs, e, es], by rw [PyData.depthAll]; omega, by rw [PyData.plainAll, hp, hps]; rfl⟩
end
mutual
theorem nb_eqv : ∀ {a b : Wv} {n m : Nat}, a.nb n = true → b.nb m = true → ∀ {d e : PyData}, a.toD = some d → b.toD = some e → PyData.eqv d e = decide (a = b)
  | .tup ws, .tup us, n + 1, m + 1, ha, hb, d, e, hd, he => by
    rw [Wv.nb] at ha hb
    rw [Wv.toD] at hd he
    obtain ⟨ds, q1, rfl⟩ := Option.map_eq_some_iff.mp hd
    obtain ⟨es, q2, rfl⟩ := Option.map_eq_some_iff.mp he
    rw [PyData.eqv, nbs_eqv ha hb q1 q2]
    simp
  | .lst ws, .lst us, n + 1, m + 1, ha, hb, d, e, hd, he => by
    rw [Wv.nb] at ha hb
    rw [Wv.toD] at hd he
    obtain ⟨ds, q1, rfl⟩ := Option.map_eq_some_iff.mp hd
    obtain ⟨es, q2, rfl⟩ := Option.map_eq_some_iff.mp he
    rw [PyData.eqv, nbs_eqv ha hb q1 q2]
    simp
  | .non, b, n, m, ha, hb, d, e, hd, he => by
    rw [Wv.toD] at hd; cases hd
    cases b <;> simp [Wv.toD, Wv.nb] at he hb <;> first | (subst he; simp [PyData.eqv]; done) | (subst he; simp [PyData.eqv]; first | rfl | (rw [Bool.eq_iff_iff]; simp; done)) | (obtain ⟨x, _, rfl⟩ := he; simp [PyData.eqv])
  | .int i, b, n, m, ha, hb, d, e, hd, he => by
    rw [Wv.toD] at hd; cases hd
    cases b <;> simp [Wv.toD, Wv.nb] at he hb <;> first | (subst he; simp [PyData.eqv]; done) | (subst he; simp [PyData.eqv]; first | rfl | (rw [Bool.eq_iff_iff]; simp; done)) | (obtain ⟨x, _, rfl⟩ := he; simp [PyData.eqv])
  | .str x, b, n, m, ha, hb, d, e, hd, he => by
    rw [Wv.toD] at hd; cases hd
    cases b <;> simp [Wv.toD, Wv.nb] at he hb <;> first | (subst he; simp [PyData.eqv]; done) | (subst he; simp [PyData.eqv]; first | rfl | (rw [Bool.eq_iff_iff]; simp; done)) | (obtain ⟨x, _, rfl⟩ := he; simp [PyData.eqv])
  | .tup ws, .non, n, m, ha, hb, d, e, hd, he | .tup ws, .int _, n, m, ha, hb, d, e, hd, he | .tup ws, .str _, n, m, ha, hb, d, e, hd, he | .tup ws, .lst _, n, m, ha, hb, d, e, hd, he => by
    simp only [Wv.toD] at hd he
    obtain ⟨ds, q1, rfl⟩ := Option.map_eq_some_iff.mp hd
    first | (cases he; simp [PyData.eqv]; done) | (obtain ⟨x, _, rfl⟩ := Option.map_eq_some_iff.mp he; simp [PyData.eqv])
  | .lst ws, .non, n, m, ha, hb, d, e, hd, he | .lst ws, .int _, n, m, ha, hb, d, e, hd, he | .lst ws, .str _, n, m, ha, hb, d, e, hd, he | .lst ws, .tup _, n, m, ha, hb, d, e, hd, he => by
    simp only [Wv.toD] at hd he
    obtain ⟨ds, q1, rfl⟩ := Option.map_eq_some_iff.mp hd
    first | (cases he; simp [PyData.eqv]; done) | (obtain ⟨x, _, rfl⟩ := Option.map_eq_some_iff.mp he; simp [PyData.eqv])
  | .tup _, .tup _, 0, _, ha, hb, d, e, hd, he | .lst _, .lst _, 0, _, ha, hb, d, e, hd, he => by simp [Wv.nb] at ha
  | .tup _, .tup _, _ + 1, 0, ha, hb, d, e, hd, he | .lst _, .lst _, _ + 1, 0, ha, hb, d, e, hd, he => by simp [Wv.nb] at hb
  | .bl _, _, n, m, ha, hb, d, e, hd, he | .dic _, _, n, m, ha, hb, d, e, hd, he | .ins _ _, _, n, m, ha, hb, d, e, hd, he | .ref _, _, n, m, ha, hb, d, e, hd, he | .fn _, _, n, m, ha, hb, d, e, hd, he | .cls _, _, n, m, ha, hb, d, e, hd, he => by simp [Wv.nb] at ha
  | .tup _, .bl _, n, m, ha, hb, d, e, hd, he | .tup _, .dic _, n, m, ha, hb, d, e, hd, he | .tup _, .ins _ _, n, m, ha, hb, d, e, hd, he | .tup _, .ref _, n, m, ha, hb, d, e, hd, he | .tup _, .fn _, n, m, ha, hb, d, e, hd, he | .tup _, .cls _, n, m, ha, hb, d, e, hd, he => by simp [Wv.nb] at hb
  | .lst _, .bl _, n, m, ha, hb, d, e, hd, he | .lst _, .dic _, n, m, ha, hb, d, e, hd, he | .lst _, .ins _ _, n, m, ha, hb, d, e, hd, he | .lst _, .ref _, n, m, ha, hb, d, e, hd, he | .lst _, .fn _, n, m, ha, hb, d, e, hd, he | .lst _, .cls _, n, m, ha, hb, d, e, hd, he => by simp [Wv.nb] at hb
theorem nbs_eqv : ∀ {a b : List Wv} {n m : Nat}, nbs a n = true → nbs b m = true → ∀ {d e : List PyData}, toDs a = some d → toDs b = some e → PyData.eqvAll d e = decide (a = b)
  | [], [], n, m, ha, hb, d, e, hd, he => by cases hd; cases he; simp [PyData.eqvAll]
  | [], y :: ys, n, m, ha, hb, d, e, hd, he => by
    cases hd
    simp only [nbs, Bool.and_eq_true] at hb
    obtain ⟨d1, q1, _, _⟩ := nb_toD hb.1
    obtain ⟨d2, q2, _, _⟩ := nbs_toD hb.2
    rw [toDs, q1, q2] at he; cases he
    simp [PyData.eqvAll]
  | x :: xs, [], n, m, ha, hb, d, e, hd, he => by
    cases he
    simp only [nbs, Bool.and_eq_true] at ha
    obtain ⟨d1, q1, _, _⟩ := nb_toD ha.1
    obtain ⟨d2, q2, _, _⟩ := nbs_toD ha.2
    rw [toDs, q1, q2] at hd; cases hd
    simp [PyData.eqvAll]
  | x :: xs, y :: ys, n, m, ha, hb, d, e, hd, he => by
    simp only [nbs, Bool.and_eq_true] at ha hb
    obtain ⟨d1, q1, _, _⟩ := nb_toD ha.1
    obtain ⟨d2, q2, _, _⟩ := nbs_toD ha.2
    rw [toDs, q1, q2] at hd; cases hd
    obtain ⟨e1, r1, _, _⟩ := nb_toD hb.1
    obtain ⟨e2, r2, _, _⟩ := nbs_toD hb.2
    rw [toDs, r1, r2] at he; cases he
    rw [PyData.eqvAll, nb_eqv ha.1 hb.1 q1 r1, nbs_eqv ha.2 hb.2 q2 r2]
    simp
end
/-- the cells looked through, it is X -/
def Fz (h : Hs) (w X : Wv) : Prop := frzW h (fun _ => false) w = some X
theorem Fz.pure {h : Hs} {w : Wv} (hw : w.pure = true) : Fz h w w := by
  unfold Fz frzW
  exact pure_frz _ hw
theorem Fz.nb {h : Hs} {w : Wv} {n : Nat} (hw : w.nb n = true) : Fz h w w := .pure (nb_pure hw)
theorem Fz.cell {h : Hs} {k : Nat} {ws : List Wv} (e : h[k]? = some (.lst ws)) (hw : pures ws = true) : Fz h (.ref k) (.lst ws) := by
  unfold Fz frzW
  rw [Wv.frz, deepest, frzC]
  simp only [Bool.false_eq_true, if_false, e, pures_frz _ hw]
  rfl
theorem Fz.datum {h : Hs} {w X : Wv} (f : Fz h w X) : datum h w = X.toD := by
  unfold SL.datum
  rw [f]; rfl
theorem nb_shal {w : Wv} {n : Nat} (hw : w.nb n = true) (hn : n ≤ 60) {d : PyData} (e : w.toD = some d) : shal d = true := by
  obtain ⟨d', e', hd, _⟩ := nb_toD hw
  rw [e] at e'; cases e'
  exact decide_eq_true (by omega)
theorem eqVal_nb {h : Hs} {x y X Y : Wv} {n m : Nat} (fx : Fz h x X) (fy : Fz h y Y) (hx : X.nb n = true) (hy : Y.nb m = true) (hn : n ≤ 60) : eqVal h x y = some (decide (X = Y)) := by
  have key : (match datum h x, datum h y with
      | some d, some e => if (shal d || shal e) = true then some (PyData.eqv d e) else none
      | _, _ => none) = some (decide (X = Y)) := by
    obtain ⟨d, ed, _, _⟩ := nb_toD hx
    obtain ⟨e, ee, _, _⟩ := nb_toD hy
    rw [fx.datum, fy.datum, ed, ee]
    simp only [nb_shal hx hn ed, Bool.true_or, if_true, nb_eqv hx hy ed ee]
  unfold eqVal
  split
  · unfold Fz frzW at fx fy
    rw [Wv.frz] at fx fy; cases fx; cases fy; simp
  · unfold Fz frzW at fx fy
    rw [Wv.frz] at fx fy; cases fx; cases fy; simp
  · unfold Fz frzW at fx fy
    rw [Wv.frz] at fx fy; cases fx; cases fy; simp
  · exact key
theorem data_nb {h : Hs} : ∀ {ws : List Wv} {n : Nat}, nbs ws n = true → data h ws = toDs ws
  | [], _, _ => rfl
  | w :: ws, n, hw => by
    simp only [nbs, Bool.and_eq_true] at hw
    rw [data, (Fz.nb hw.1).datum, data_nb hw.2, toDs]
theorem anyEq_nb : ∀ {ws : List Wv} {X : Wv} {n m : Nat}, X.nb n = true → nbs ws m = true → ∀ {d : PyData} {ds : List PyData}, X.toD = some d → toDs ws = some ds → anyEq d ds = decide (X ∈ ws)
  | [], X, n, m, hx, hw, d, ds, ed, es => by cases es; simp [anyEq]
  | w :: ws, X, n, m, hx, hw, d, ds, ed, es => by
    simp only [nbs, Bool.and_eq_true] at hw
    obtain ⟨d1, q1, _, _⟩ := nb_toD hw.1
    obtain ⟨d2, q2, _, _⟩ := nbs_toD hw.2
    rw [toDs, q1, q2] at es; cases es
    have ih := anyEq_nb hx hw.2 ed q2
    unfold anyEq at ih ⊢
    rw [List.any_cons, nb_eqv hw.1 hx q1 ed, ih]
    by_cases c : w = X
    · subst c; simp
    · have c' : ¬ X = w := fun q => c q.symm
      simp [c, c']
theorem inVal_nb {h : Hs} {x y X : Wv} {ws : List Wv} {n m : Nat} (fx : Fz h x X) (gy : getS h y = some ws) (hx : X.nb n = true) (hw : nbs ws m = true) (hn : n ≤ 60) : inVal h x y = some (decide (X ∈ ws)) := by
  obtain ⟨d, ed, _, _⟩ := nb_toD hx
  obtain ⟨ds, es, _, _⟩ := nbs_toD hw
  unfold inVal
  rw [gy]
  simp only [fx.datum, ed, data_nb hw, es, nb_shal hx hn ed, if_true, anyEq_nb hx hw ed es]
theorem nb_ints (p : List Int) (n : Nat) : nbs (p.map Wv.int) n = true := nbs_of fun w hw => by
  obtain ⟨i, _, rfl⟩ := List.mem_map.mp hw
  rfl
theorem nb_tp (p : List Int) (n : Nat) : (tp p).nb (n + 1) = true := nb_ints p n
theorem nb_tps (ps : List (List Int)) (n : Nat) : nbs (ps.map tp) (n + 1) = true := nbs_of fun w hw => by
  obtain ⟨p, _, rfl⟩ := List.mem_map.mp hw
  exact nb_tp p n
theorem Rimm.nb {r : Wv} (h : Rimm r) (n : Nat) : r.nb (n + 1) = true := by cases h <;> rfl
theorem map_inj {α β : Type} {f : α → β} (hf : ∀ x y, f x = f y → x = y) : ∀ {a b : List α}, a.map f = b.map f → a = b
  | [], [], _ => rfl
  | [], _ :: _, h => by simp at h
  | _ :: _, [], h => by simp at h
  | x :: xs, y :: ys, h => by
    simp only [List.map_cons, List.cons.injEq] at h
    rw [hf x y h.1, map_inj hf h.2]
theorem tp_inj {a b : List Int} (h : tp a = tp b) : a = b := by
  unfold tp at h
  injection h with h
  exact map_inj (fun x y e => by injection e) h
theorem ints_inj {a b : List Int} (h : a.map Wv.int = b.map Wv.int) : a = b := map_inj (fun x y e => by injection e) h
theorem subsc_tup {ws : List Wv} {i : Nat} (hi : i < ws.length) (h : Hs) : subsc (.tup ws) (.int i) h = .ok ws[i] h := by
  unfold subsc
  simp only [getS, ixAt_nat hi, Option.bind_some, List.getElem?_eq_getElem hi]
theorem subsc_ref {k : Nat} {ws : List Wv} {h : Hs} (e : h[k]? = some (.lst ws)) {i : Nat} (hi : i < ws.length) : subsc (.ref k) (.int i) h = .ok ws[i] h := by
  unfold subsc
  simp only [getS, getL, e, ixAt_nat hi, Option.bind_some, List.getElem?_eq_getElem hi]
theorem subsc_tp {p : List Int} {i : Nat} (hi : i < p.length) (h : Hs) : subsc (tp p) (.int i) h = .ok (.int p[i]) h := by
  unfold tp
  rw [subsc_tup (by rw [List.length_map]; exact hi)]
  simp
theorem subsc_t0 (a : Wv) (ws : List Wv) (h : Hs) : subsc (.tup (a :: ws)) (.int 0) h = .ok a h := subsc_tup (ws := a :: ws) (i := 0) (by simp) h
theorem subsc_t1 (a b : Wv) (ws : List Wv) (h : Hs) : subsc (.tup (a :: b :: ws)) (.int 1) h = .ok b h := subsc_tup (ws := a :: b :: ws) (i := 1) (by simp) h
theorem small_wide {i : Int} (h : -1000000 ≤ i ∧ i ≤ 1000000) : small62 i = true := by
  unfold small62
  simp only [Bool.and_eq_true, decide_eq_true_eq]
  omega
theorem range1 {i : Int} (h : -1000000 ≤ i ∧ i ≤ 1000000) : srcRange [.int i] = some (upTo 0 i.toNat, []) := by rw [srcRange, if_pos (small_wide h)]
theorem range2 {i k : Int} (h : -1000000 ≤ i ∧ i ≤ 1000000) (h2 : -1000000 ≤ k ∧ k ≤ 1000000) : srcRange [.int i, .int k] = some (upTo i (k - i).toNat, []) := by
  rw [srcRange, if_pos]
  rw [small_wide h, small_wide h2]; rfl
/-! ### walks -/
theorem forL_ret {body : Ev → Hs → Rz Fl} {tg : Tg} {ck : Ck} {w v : Wv} {ws : List Wv} {e e1 : Ev} {h h2 : Hs} (s : stay h ck = true) (b : tg.bind w e = some e1) (r : body e1 h = .ok (.ret v) h2) : forL body tg ck (w :: ws) e h = .ok (.ret v) h2 := by
  rw [forL, if_pos s, b]
  simp only [r, Rz.bind_ok]
theorem forL_end {body : Ev → Hs → Rz Fl} {tg : Tg} {ck : Ck} {e : Ev} {h : Hs} (s : stay h ck = true) : forL body tg ck [] e h = .ok (.nx e) h := by
  rw [forL, if_pos s]
theorem meth_ins {P : Wd} {a : Ex} {c m f : Nat} {fs : List (Nat × Wv)} {es : List Ex} {e : Ev} {h h0 h1 : Hs} {ws : List Wv} (ha : ev P a e h = .ok (.ins c fs) h0) (hm : methOf P c m = some f) (hf : fget fs m = none) (hw : evs P es e h0 = .ok ws h1) : ev P (.meth a m es) e h = P.run f (.ins c fs :: ws) h1 := by
  rw [ev, ha, Rz.bind_ok]
  simp only [getI, hm, hf, hw, Rz.bind_ok]
theorem ifs_nx {P : Wd} {c : Ex} {a b : List Sm} {e : Ev} {h h1 : Hs} (q : tst P c e h = .ok false h1) : ex P (.ifs c a b) e h = exs P b e h1 := by
  rw [ex, q, Rz.bind_ok, if_neg (by decide)]
theorem ifs_yes {P : Wd} {c : Ex} {a b : List Sm} {e : Ev} {h h1 : Hs} (q : tst P c e h = .ok true h1) : ex P (.ifs c a b) e h = exs P a e h1 := by
  rw [ex, q, Rz.bind_ok, if_pos rfl]
end SL

set_option maxRecDepth 100000
set_option maxHeartbeats 2000000
/-! Walks that draw from a well. -/
namespace SL
open PySem
set_option autoImplicit false
/-- a well: three numbers -/
def isWl (o : Ob) : Prop := ∃ a b c : Int, o = .lst [.int a, .int b, .int c]
theorem isWl.under {o : Ob} (h : isWl o) (lo : Nat) : o.under lo = true := by
  obtain ⟨a, b, c, rfl⟩ := h
  simp [Ob.under, unders, Wv.under]
theorem set_same {g : Hs} {k : Nat} {o : Ob} (e : g[k]? = some o) : g.set k o = g := by
  obtain ⟨h, rfl⟩ := List.getElem?_eq_some_iff.mp e
  exact List.set_getElem_self h
theorem ltg {g : Hs} {k : Nat} {o : Ob} (e : g[k]? = some o) : k < g.length := (List.getElem?_eq_some_iff.mp e).1
theorem get_wl {g : Hs} {k : Nat} (hk : k < g.length) (o : Ob) (t : Hs) : (g.set k o ++ t)[k]? = some o := by
  rw [List.getElem?_append_left (by rw [List.length_set]; exact hk), List.getElem?_set_self hk]
theorem set_wl {g : Hs} {k : Nat} (hk : k < g.length) (o o' : Ob) (t : Hs) : (g.set k o ++ t).set k o' = g.set k o' ++ t := by
  rw [List.set_append_left _ _ (by rw [List.length_set]; exact hk), List.set_set]
theorem get_wl_ne {g : Hs} {k i : Nat} (hi : i ≠ k) {p : Ob} (e : g[i]? = some p) (o : Ob) (t : Hs) : (g.set k o ++ t)[i]? = some p := by
  rw [List.getElem?_append_left (by rw [List.length_set]; exact ltg e), List.getElem?_set_ne (Ne.symm hi)]; exact e
theorem get_wl_last {g : Hs} {k : Nat} (o p : Ob) (t : Hs) : (g.set k o ++ p :: t)[g.length]? = some p := by
  rw [List.getElem?_append_right (by rw [List.length_set]; exact Nat.le_refl _), List.length_set, Nat.sub_self]; rfl
theorem set_wl_last {g : Hs} {k : Nat} (o p q : Ob) (t : Hs) : (g.set k o ++ p :: t).set g.length q = g.set k o ++ q :: t := by
  rw [List.set_append_right _ _ (by rw [List.length_set]; exact Nat.le_refl _), List.length_set, Nat.sub_self]; rfl
/-- pairwise -/
def Zp (R : Wv → Wv → Prop) : List Wv → List Wv → Prop
  | [], [] => True
  | a :: as, b :: bs => R a b ∧ Zp R as bs
  | _, _ => False
theorem Zp.len {R : Wv → Wv → Prop} : ∀ {as bs : List Wv}, Zp R as bs → as.length = bs.length
  | [], [], _ => rfl
  | a :: as, b :: bs, h => by rw [List.length_cons, List.length_cons, Zp.len h.2]
  | [], _ :: _, h => h.elim
  | _ :: _, [], h => h.elim
theorem Zp.right {R : Wv → Wv → Prop} {Q : Wv → Prop} (hq : ∀ a b, R a b → Q b) : ∀ {as bs : List Wv}, Zp R as bs → ∀ b ∈ bs, Q b
  | [], [], _, b, hb => by cases hb
  | a :: as, c :: bs, h, b, hb => by
    rcases List.mem_cons.mp hb with rfl | hb
    · exact hq _ _ h.1
    · exact Zp.right hq h.2 b hb
  | [], _ :: _, h, _, _ => h.elim
  | _ :: _, [], h, _, _ => h.elim
/-- a comprehension that draws -/
theorem comp_wl {turn : Wv → Hs → Rz (Option Wv)} {ck : Ck} {k : Nat} {g : Hs} {R : Wv → Wv → Prop} (st : ∀ o acc, isWl o → stay (g.set k o ++ [.lst acc]) ck = true) : ∀ (ws acc : List Wv) (o : Ob), isWl o →
    (∀ w ∈ ws, ∀ o, isWl o → ∃ v o', isWl o' ∧ R w v ∧ ∀ acc, turn w (g.set k o ++ [.lst acc]) = .ok (some v) (g.set k o' ++ [.lst acc])) → acc.length + ws.length ≤ sizeLine →
    ∃ vs o', isWl o' ∧ Zp R ws vs ∧ compL turn ck g.length ws (g.set k o ++ [.lst acc]) = .ok (.ref g.length) (g.set k o' ++ [.lst (acc ++ vs)])
  | [], acc, o, ho, _, _ => ⟨[], o, ho, trivial, by rw [compL_nil (st o acc ho), List.append_nil]⟩
  | w :: ws, acc, o, ho, ht, hz => by
    obtain ⟨v, o1, ho1, hr, e⟩ := ht w List.mem_cons_self o ho
    obtain ⟨vs, o', ho', hz', ih⟩ := comp_wl st ws (acc ++ [v]) o1 ho1 (fun x hx => ht x (List.mem_cons_of_mem _ hx)) (by simp at hz ⊢; omega)
    refine ⟨v :: vs, o', ho', ⟨hr, hz'⟩, ?_⟩
    rw [compL_so (st o acc ho) (e acc) (get_wl_last _ _ _) (by simp at hz; omega), set_wl_last, ih]
    simp
/-- a walk that keeps J -/
theorem forL_inv {body : Ev → Hs → Rz Fl} {tg : Tg} {ck : Ck} (J : Ev → Hs → Prop) (st : ∀ e h, J e h → stay h ck = true) : ∀ (ws : List Wv), (∀ w ∈ ws, ∀ e h, J e h → ∃ e1 e2 h2, tg.bind w e = some e1 ∧ body e1 h = .ok (.nx e2) h2 ∧ J e2 h2) → ∀ e h, J e h →
    ∃ e' h', forL body tg ck ws e h = .ok (.nx e') h' ∧ J e' h'
  | [], _, e, h, hj => ⟨e, h, by rw [forL_end (st e h hj)], hj⟩
  | w :: ws, ht, e, h, hj => by
    obtain ⟨e1, e2, h2, b, r, hj2⟩ := ht w List.mem_cons_self e h hj
    obtain ⟨e', h', f, hj'⟩ := forL_inv J st ws (fun x hx => ht x (List.mem_cons_of_mem _ hx)) e2 h2 hj2
    exact ⟨e', h', by rw [forL_nx (st e h hj) b r, f], hj'⟩
end SL

set_option maxRecDepth 100000
set_option maxHeartbeats 2000000
/-! Plain values, truths too; what is the same is alike; refusals on the way. -/
namespace SL
open PySem
set_option autoImplicit false
mutual
/-- plain, not too deep -/
def Wv.pb : Wv → Nat → Bool
  | .non, _ => true
  | .bl _, _ => true
  | .int _, _ => true
  | .str _, _ => true
  | .tup ws, n + 1 => pbs ws n
  | .lst ws, n + 1 => pbs ws n
  | _, _ => false
def pbs : List Wv → Nat → Bool
  | [], _ => true
  | w :: ws, n => w.pb n && pbs ws n
end
theorem pbs_of {ws : List Wv} {n : Nat} (h : ∀ w ∈ ws, w.pb n = true) : pbs ws n = true := by
  induction ws with
  | nil => rfl
  | cons w ws ih => rw [pbs, h w List.mem_cons_self, ih fun x hx => h x (List.mem_cons_of_mem _ hx)]; rfl
mutual
theorem pb_pure : ∀ {w : Wv} {n : Nat}, w.pb n = true → w.pure = true
  | .non, _, _ | .bl _, _, _ | .int _, _, _ | .str _, _, _ => rfl
  | .tup ws, n + 1, h => by rw [Wv.pure]; exact pbs_pure (by simpa [Wv.pb] using h)
  | .lst ws, n + 1, h => by rw [Wv.pure]; exact pbs_pure (by simpa [Wv.pb] using h)
  | .tup ws, 0, h | .lst ws, 0, h => by simp [Wv.pb] at h
  | .dic _, n, h | .ins _ _, n, h | .ref _, n, h | .fn _, n, h | .cls _, n, h => by simp [Wv.pb] at h
theorem pbs_pure : ∀ {ws : List Wv} {n : Nat}, pbs ws n = true → pures ws = true
  | [], _, _ => rfl
  | w :: ws, n, h => by
    simp only [pbs, Bool.and_eq_true] at h
    rw [pures, pb_pure h.1, pbs_pure h.2]; rfl
end
mutual
theorem pb_toD : ∀ {w : Wv} {n : Nat}, w.pb n = true → ∃ d, w.toD = some d ∧ d.depth ≤ n ∧ d.plain = true
  | .non, n, _ => ⟨.none, rfl, by simp [PyData.depth], rfl⟩
  | .bl b, n, _ => ⟨.bool b, rfl, by simp [PyData.depth], rfl⟩
  | .int i, n, _ => ⟨.int i, rfl, by simp [PyData.depth], rfl⟩
  | .str x, n, _ => ⟨.str x, rfl, by simp [PyData.depth], rfl⟩
  | .tup ws, n + 1, h => by
    obtain ⟨ds, e, hd, hp⟩ := pbs_toD (ws := ws) (n := n) (by simpa [Wv.pb] using h)
    exact ⟨.tuple ds, by rw [Wv.toD, e]; rfl, by rw [PyData.depth]; omega, by rw [PyData.plain]; exact hp⟩
  | .lst ws, n + 1, h => by
    obtain ⟨ds, e, hd, hp⟩ := pbs_toD (ws := ws) (n := n) (by simpa [Wv.pb] using h)
    exact ⟨.list ds, by rw [Wv.toD, e]; rfl, by rw [PyData.depth]; omega, by rw [PyData.plain]; exact hp⟩
  | .tup ws, 0, h | .lst ws, 0, h => by simp [Wv.pb] at h
  | .dic _, n, h | .ins _ _, n, h | .ref _, n, h | .fn _, n, h | .cls _, n, h => by simp [Wv.pb] at h
theorem pbs_toD : ∀ {ws : List Wv} {n : Nat}, pbs ws n = true → ∃ ds, toDs ws = some ds ∧ PyData.depthAll ds ≤ n ∧ PyData.plainAll ds = true
  | [], n, _ => ⟨[], rfl, by simp [PyData.depthAll], rfl⟩
  | w :: ws, n, h => by
    simp only [pbs, Bool.and_eq_true] at h
    obtain ⟨d, e, hd, hp⟩ := pb_toD h.1
    obtain ⟨ds, es, hds, hps⟩ := pbs_toD h.2
    exact ⟨d :: ds, by rw [toDs, e, es], by rw [PyData.depthAll]; omega, by rw [PyData.plainAll, hp, hps]; rfl⟩
end
theorem pb_shal {w : Wv} {n : Nat} (hw : w.pb n = true) (hn : n ≤ 60) {d : PyData} (e : w.toD = some d) : shal d = true := by
  obtain ⟨d', e', hd, _⟩ := pb_toD hw
  rw [e] at e'; cases e'
  exact decide_eq_true (by omega)
theorem eqVal_same {h : Hs} {x y X : Wv} {n : Nat} (fx : Fz h x X) (fy : Fz h y X) (hX : X.pb n = true) (hn : n ≤ 60) : eqVal h x y = some true := by
  have key : (match datum h x, datum h y with
      | some d, some e => if (shal d || shal e) = true then some (PyData.eqv d e) else none
      | _, _ => none) = some true := by
    obtain ⟨d, ed, _, hp⟩ := pb_toD hX
    rw [fx.datum, fy.datum, ed]
    simp only [pb_shal hX hn ed, Bool.true_or, if_true]
    rw [PySem.SeqAt.eqv_refl_plain _ hp]
  unfold eqVal
  split
  · unfold Fz frzW at fx fy
    rw [Wv.frz] at fx fy; cases fx; cases fy; simp
  · unfold Fz frzW at fx fy
    rw [Wv.frz] at fx fy; cases fx; cases fy; simp
  · unfold Fz frzW at fx fy
    rw [Wv.frz] at fx fy; cases fx; cases fy; simp
  · exact key
/-- a list with nothing in it -/
theorem eq_nil {h : Hs} {k k' : Nat} {ws : List Wv} {n : Nat} (e : h[k]? = some (.lst ws)) (e' : h[k']? = some (.lst [])) (hw : pbs ws n = true) : eqVal h (.ref k) (.ref k') = some (decide (ws = [])) := by
  show (match datum h (.ref k), datum h (.ref k') with
      | some d, some e => if (shal d || shal e) = true then some (PyData.eqv d e) else none
      | _, _ => none) = _
  rw [(Fz.cell e (pbs_pure hw)).datum, (Fz.cell e' rfl).datum]
  obtain ⟨ds, es, _, _⟩ := pbs_toD hw
  have e2 : (Wv.lst []).toD = some (.list []) := rfl
  rw [Wv.toD, es, e2]
  simp only [Option.map_some]
  have sh : shal (PyData.list []) = true := by decide +kernel
  rw [sh]
  simp only [Bool.or_true, if_true]
  rw [PyData.eqv]
  cases ws with
  | nil => cases es; simp [PyData.eqvAll]
  | cons w ws =>
    simp only [pbs, Bool.and_eq_true] at hw
    obtain ⟨d1, q1, _, _⟩ := pb_toD hw.1
    obtain ⟨d2, q2, _, _⟩ := pbs_toD hw.2
    rw [toDs, q1, q2] at es; cases es
    simp [PyData.eqvAll]
/-- many of them looked through -/
def Fzs (h : Hs) : List Wv → List Wv → Prop
  | [], [] => True
  | a :: as, b :: bs => Fz h a b ∧ Fzs h as bs
  | _, _ => False
theorem Fzs.frzs {h : Hs} : ∀ {as bs : List Wv}, Fzs h as bs → frzs (frzC h (fun _ => false) deepest) as = some bs
  | [], [], _ => rfl
  | a :: as, b :: bs, f => by
    have f1 : a.frz (frzC h (fun _ => false) deepest) = some b := f.1
    rw [SL.frzs, f1, Fzs.frzs f.2]
  | [], _ :: _, f => f.elim
  | _ :: _, [], f => f.elim
theorem Fz.tup {h : Hs} {as bs : List Wv} (f : Fzs h as bs) : Fz h (.tup as) (.tup bs) := by
  unfold Fz frzW
  rw [Wv.frz, f.frzs]; rfl
theorem forL_exc {body : Ev → Hs → Rz Fl} {tg : Tg} {ck : Ck} {w v : Wv} {c : Nat} {ws : List Wv} {e e1 : Ev} {h h2 : Hs} (s : stay h ck = true) (b : tg.bind w e = some e1) (r : body e1 h = .exc c v h2) : forL body tg ck (w :: ws) e h = .exc c v h2 := by
  rw [forL, if_pos s, b]
  simp only [r, Rz.bind_exc]
theorem exs_exc {P : Wd} {s : Sm} {ss : List Sm} {e : Ev} {c : Nat} {v : Wv} {h h1 : Hs} (q : ex P s e h = .exc c v h1) : exs P (s :: ss) e h = .exc c v h1 := by
  rw [exs, q]; rfl
/-- a def's end, told frozen, behind draws -/
theorem cold_wlF {g : Hs} {k : Nat} (hk : k < g.length) {o o' : Ob} (ho' : isWl o') {w v : Wv} (t u : Hs) (hf : frzW (g.set k o' ++ (t ++ u)) (fun i => decide (i < (g.set k o ++ t).length)) w = some v) : ended .cold (g.set k o ++ t).length (g.set k o ++ t) w (g.set k o' ++ (t ++ u)) = .ok v (g.set k o' ++ t) := by
  have e : (g.set k o' ++ (t ++ u)).take (g.set k o ++ t).length = g.set k o' ++ t := by
    rw [← List.append_assoc, List.take_append_of_le_length (by simp), List.take_of_length_le (by simp)]
  unfold ended
  simp only [hf, e]
  rw [if_pos]
  refine ⟨by simp, ?_⟩
  rw [← set_wl hk o o' t]
  exact shut_set (ho'.under _)
theorem nb_pb : ∀ {w : Wv} {n : Nat}, w.nb n = true → w.pb n = true
  | .non, _, _ | .int _, _, _ | .str _, _, _ => rfl
  | .tup ws, n + 1, h => by
    rw [Wv.pb]; rw [Wv.nb] at h
    exact pbs_of fun w hw => nb_pb (nbs_mem h w hw)
  | .lst ws, n + 1, h => by
    rw [Wv.pb]; rw [Wv.nb] at h
    exact pbs_of fun w hw => nb_pb (nbs_mem h w hw)
  | .tup ws, 0, h | .lst ws, 0, h => by simp [Wv.nb] at h
  | .bl _, n, h | .dic _, n, h | .ins _ _, n, h | .ref _, n, h | .fn _, n, h | .cls _, n, h => by simp [Wv.nb] at h
  decreasing_by all_goals (simp_wf; have := List.sizeOf_lt_of_mem hw; omega)
end SL

set_option maxRecDepth 100000
set_option maxHeartbeats 0
/-! The tables of k01_what_makes_a_grid. -/
namespace SL
open PySem L2 PyProof.Rows
set_option autoImplicit false
def top (i : Nat) : Stmt := PySem.Challenge.pw_slanttiles_k01_what_makes_a_grid.main.body.getD i (.Pass ⟨0, 0, 0, 0⟩)
def inC (i j : Nat) : Stmt := match top i with
  | .ClassDef _ _ _ body _ _ _ _ _ _ _ => body.getD j (.Pass ⟨0, 0, 0, 0⟩)
  | _ => .Pass ⟨0, 0, 0, 0⟩
/-- a def's names: as the scope has them, then its comprehensions' -/
def nmsOf (sc : Scope) : List Str :=
  (sc.names.filterMap fun y => match y.2 with | .local => some y.1 | .cell => some y.1 | _ => none) ++
    (sc.more.filterMap fun q => match q.2 with
      | .str x => if q.1 = "fast" ∧ (match sc.names.lookup x with | some .local => false | some .cell => false | _ => true) = true then some x else none
      | _ => none)
def mkD (a : Str × Option Str) (name qual : Str) (st : Stmt) (md : Md) : DD := ⟨a, name, qual, defArgs st, defBody st, defScope st, nmsOf (defScope st), (defArgs st).args.map (·.arg), md⟩
def d0 : DD := mkD ("_wall", none) "_wall" "_wall" (top 0) .open
def d1 : DD := mkD ("TileError", some "__init__") "__init__" "TileError.__init__" (inC 2 0) .open
def d2 : DD := mkD ("is_whole", none) "is_whole" "is_whole" (top 10) .open
def d3 : DD := mkD ("is_between", none) "is_between" "is_between" (top 11) .open
def d4 : DD := mkD ("is_rim", none) "is_rim" "is_rim" (top 12) .open
def d5 : DD := mkD ("Rim", some "__init__") "__init__" "Rim.__init__" (inC 13 0) .open
def d6 : DD := mkD ("Rim", some "at_number") "at_number" "Rim.at_number" (inC 13 1) .open
def d7 : DD := mkD ("MirrorRim", some "at_number") "at_number" "MirrorRim.at_number" (inC 14 0) .open
def d8 : DD := mkD ("FixedRim", some "__init__") "__init__" "FixedRim.__init__" (inC 15 0) .open
def d9 : DD := mkD ("FixedRim", some "at_number") "at_number" "FixedRim.at_number" (inC 15 1) .open
def d10 : DD := mkD ("rim_of", none) "rim_of" "rim_of" (top 16) .open
def d11 : DD := mkD ("Grid", some "__init__") "__init__" "Grid.__init__" (inC 20 0) .open
def d12 : DD := mkD ("Grid", some "lines") "lines" "Grid.lines" (inC 20 1) .open
def d13 : DD := mkD ("Grid", some "places_many") "places_many" "Grid.places_many" (inC 20 2) .cold
def d14 : DD := mkD ("Grid", some "all_places") "all_places" "Grid.all_places" (inC 20 3) .fresh
def d15 : DD := mkD ("Grid", some "has_place") "has_place" "Grid.has_place" (inC 20 4) .open
def d16 : DD := mkD ("Grid", some "beside") "beside" "Grid.beside" (inC 20 5) .open
def d17 : DD := mkD ("_law_cell_at", none) "_law_cell_at" "_law_cell_at" (top 22) .open
def d18 : DD := mkD ("_law_well", none) "_law_well" "_law_well" (top 23) .fresh
def d19 : DD := mkD ("_law_draw", none) "_law_draw" "_law_draw" (top 24) .open
def d20 : DD := mkD ("_law_sizes", none) "_law_sizes" "_law_sizes" (top 25) .open
def d21 : DD := mkD ("_law_rim", none) "_law_rim" "_law_rim" (top 26) .cold
def d22 : DD := mkD ("_law_odd_size", none) "_law_odd_size" "_law_odd_size" (top 27) .cold
def d23 : DD := mkD ("_law_odd_rim", none) "_law_odd_rim" "_law_odd_rim" (top 28) .cold
def d24 : DD := mkD ("_law_good_rim", none) "_law_good_rim" "_law_good_rim" (top 29) .open
def d25 : DD := mkD ("_law_due", none) "_law_due" "_law_due" (top 30) .open
def d26 : DD := mkD ("_law_found", none) "_law_found" "_law_found" (top 31) .cold
def d27 : DD := mkD ("law", none) "law" "law" (top 32) .open
def dds : List DD := [d0, d1, d2, d3, d4, d5, d6, d7, d8, d9, d10, d11, d12, d13, d14, d15, d16, d17, d18, d19, d20, d21, d22, d23, d24, d25, d26, d27]
def c0 : CD := ⟨"Rim", some 5, [(0, 5), (1, 6)], [2], true⟩
def c1 : CD := ⟨"MirrorRim", some 5, [(0, 5), (1, 7)], [2], true⟩
def c2 : CD := ⟨"FixedRim", some 8, [(0, 8), (1, 9)], [2, 3], true⟩
def c3 : CD := ⟨"Grid", some 11, [(0, 11), (4, 12), (5, 13), (6, 14), (7, 15), (8, 16)], [9, 10, 11], true⟩
def pg : Pg where
  dds := dds
  cds := [c0, c1, c2, c3]
  con := [("MOST_SIZE", 0, 9), ("MOST_FIXED", 1, 1000000000), ("MOST_LINES", 2, 3), ("MOST_PLACES", 3, 40)]
  att := ["__init__", "at_number", "size", "beyond", "lines", "places_many", "all_places", "has_place", "beside", "sizes", "rims", "edges", "at"]
  turns := 1000
  xcs := [⟨"TileError", ["TileError", "ValueError"]⟩, ⟨"NoGrid", ["NoGrid", "TileError", "ValueError"]⟩, ⟨"NoTerm", ["NoTerm", "TileError", "ValueError"]⟩, ⟨"NoJob", ["NoJob", "TileError", "ValueError"]⟩, ⟨"NoText", ["NoText", "TileError", "ValueError"]⟩]
  xini := 1
  atF := 12
theorem glo0 : pg.glo 0 = some (.int 9) := by kernel_rfl
theorem glo1 : pg.glo 1 = some (.int 1000000000) := by kernel_rfl
theorem glo2 : pg.glo 2 = some (.int 3) := by kernel_rfl
theorem glo3 : pg.glo 3 = some (.int 40) := by kernel_rfl
theorem cls0 : pg.cls 0 = some ⟨some 5, [(0, 5), (1, 6)], true⟩ := by kernel_rfl
theorem me0_0 (r : Nat → List Wv → Hs → Rz Wv) (t : Nat) : methOf ⟨pg.glo, pg.cls, pg.fld, r, t⟩ 0 0 = some 5 := by
  show (pg.cls 0).bind _ = _
  rw [cls0]; rfl
theorem me0_1 (r : Nat → List Wv → Hs → Rz Wv) (t : Nat) : methOf ⟨pg.glo, pg.cls, pg.fld, r, t⟩ 0 1 = some 6 := by
  show (pg.cls 0).bind _ = _
  rw [cls0]; rfl
theorem fl02 : pg.fld 0 2 = true := by kernel_rfl
theorem cls1 : pg.cls 1 = some ⟨some 5, [(0, 5), (1, 7)], true⟩ := by kernel_rfl
theorem me1_0 (r : Nat → List Wv → Hs → Rz Wv) (t : Nat) : methOf ⟨pg.glo, pg.cls, pg.fld, r, t⟩ 1 0 = some 5 := by
  show (pg.cls 1).bind _ = _
  rw [cls1]; rfl
theorem me1_1 (r : Nat → List Wv → Hs → Rz Wv) (t : Nat) : methOf ⟨pg.glo, pg.cls, pg.fld, r, t⟩ 1 1 = some 7 := by
  show (pg.cls 1).bind _ = _
  rw [cls1]; rfl
theorem fl12 : pg.fld 1 2 = true := by kernel_rfl
theorem cls2 : pg.cls 2 = some ⟨some 8, [(0, 8), (1, 9)], true⟩ := by kernel_rfl
theorem me2_0 (r : Nat → List Wv → Hs → Rz Wv) (t : Nat) : methOf ⟨pg.glo, pg.cls, pg.fld, r, t⟩ 2 0 = some 8 := by
  show (pg.cls 2).bind _ = _
  rw [cls2]; rfl
theorem me2_1 (r : Nat → List Wv → Hs → Rz Wv) (t : Nat) : methOf ⟨pg.glo, pg.cls, pg.fld, r, t⟩ 2 1 = some 9 := by
  show (pg.cls 2).bind _ = _
  rw [cls2]; rfl
theorem fl22 : pg.fld 2 2 = true := by kernel_rfl
theorem fl23 : pg.fld 2 3 = true := by kernel_rfl
theorem cls3 : pg.cls 3 = some ⟨some 11, [(0, 11), (4, 12), (5, 13), (6, 14), (7, 15), (8, 16)], true⟩ := by kernel_rfl
theorem me3_0 (r : Nat → List Wv → Hs → Rz Wv) (t : Nat) : methOf ⟨pg.glo, pg.cls, pg.fld, r, t⟩ 3 0 = some 11 := by
  show (pg.cls 3).bind _ = _
  rw [cls3]; rfl
theorem me3_4 (r : Nat → List Wv → Hs → Rz Wv) (t : Nat) : methOf ⟨pg.glo, pg.cls, pg.fld, r, t⟩ 3 4 = some 12 := by
  show (pg.cls 3).bind _ = _
  rw [cls3]; rfl
theorem me3_5 (r : Nat → List Wv → Hs → Rz Wv) (t : Nat) : methOf ⟨pg.glo, pg.cls, pg.fld, r, t⟩ 3 5 = some 13 := by
  show (pg.cls 3).bind _ = _
  rw [cls3]; rfl
theorem me3_6 (r : Nat → List Wv → Hs → Rz Wv) (t : Nat) : methOf ⟨pg.glo, pg.cls, pg.fld, r, t⟩ 3 6 = some 14 := by
  show (pg.cls 3).bind _ = _
  rw [cls3]; rfl
theorem me3_7 (r : Nat → List Wv → Hs → Rz Wv) (t : Nat) : methOf ⟨pg.glo, pg.cls, pg.fld, r, t⟩ 3 7 = some 15 := by
  show (pg.cls 3).bind _ = _
  rw [cls3]; rfl
theorem me3_8 (r : Nat → List Wv → Hs → Rz Wv) (t : Nat) : methOf ⟨pg.glo, pg.cls, pg.fld, r, t⟩ 3 8 = some 16 := by
  show (pg.cls 3).bind _ = _
  rw [cls3]; rfl
theorem fl39 : pg.fld 3 9 = true := by kernel_rfl
theorem fl310 : pg.fld 3 10 = true := by kernel_rfl
theorem fl311 : pg.fld 3 11 = true := by kernel_rfl
/-- _wall -/
-- 0: k
def l0_0 : List Sm := [.pass]
def s0_0 : Sm := .whl (.cst (.bl true)) l0_0
def b0 : Df := ⟨1, 1, [s0_0], .open⟩
theorem bo0 : d0.bindOk := fun _ _ _ _ _ _ us hl => match us, hl with | [_], _ => rfl
theorem db0 : pg.D 0 = some b0 := by kernel_rfl
/-- TileError.__init__ -/
-- 0: self, 1: at
def s1_0 : Sm := .never
def s1_1 : Sm := .asg (.att (.var 0) 12) (.var 1)
def b1 : Df := ⟨2, 2, [s1_0, s1_1], .open⟩
theorem bo1 : d1.bindOk := fun _ _ _ _ _ _ us hl => match us, hl with | [_, _], _ => rfl
theorem db1 : pg.D 1 = some b1 := by kernel_rfl
/-- is_whole -/
-- 0: thing
def s2_0 : Sm := .ret (.and (.isi (.var 0) [.int]) (.not (.isi (.var 0) [.bool])))
def b2 : Df := ⟨1, 1, [s2_0], .open⟩
theorem bo2 : d2.bindOk := fun _ _ _ _ _ _ us hl => match us, hl with | [_], _ => rfl
theorem db2 : pg.D 2 = some b2 := by kernel_rfl
/-- is_between -/
-- 0: thing, 1: low, 2: high
def s3_0 : Sm := .ret (.and (.call 2 [(.var 0)]) (.chn .le .le (.var 1) (.var 0) (.var 2)))
def b3 : Df := ⟨3, 3, [s3_0], .open⟩
theorem bo3 : d3.bindOk := fun _ _ _ _ _ _ us hl => match us, hl with | [_, _, _], _ => rfl
theorem db3 : pg.D 3 = some b3 := by kernel_rfl
/-- is_rim -/
-- 0: thing
def s4_0 : Sm := .ifs (.or (.not (.isi (.var 0) [.tuple])) (.cmp .lt (.blt .len [(.var 0)]) (.cst (.int 1)))) [.ret (.cst (.bl false))] []
def s4_1 : Sm := .ifs (.cmp .eq (.sub (.var 0) (.cst (.int 0))) (.cst (.str (Str.ofString "fixed")))) [.ret (.and (.cmp .eq (.blt .len [(.var 0)]) (.cst (.int 2))) (.call 3 [(.sub (.var 0) (.cst (.int 1))), (.cst (.int 0)), (.glo 1)]))] []
def s4_2 : Sm := .ret (.or (.cmp .eq (.var 0) (.tup [(.cst (.str (Str.ofString "mirror")))])) (.cmp .eq (.var 0) (.tup [(.cst (.str (Str.ofString "round")))])))
def b4 : Df := ⟨1, 1, [s4_0, s4_1, s4_2], .open⟩
theorem bo4 : d4.bindOk := fun _ _ _ _ _ _ us hl => match us, hl with | [_], _ => rfl
theorem db4 : pg.D 4 = some b4 := by kernel_rfl
/-- Rim.__init__ -/
-- 0: self, 1: size
def s5_0 : Sm := .asg (.att (.var 0) 2) (.var 1)
def b5 : Df := ⟨2, 2, [s5_0], .open⟩
theorem bo5 : d5.bindOk := fun _ _ _ _ _ _ us hl => match us, hl with | [_, _], _ => rfl
theorem db5 : pg.D 5 = some b5 := by kernel_rfl
/-- Rim.at_number -/
-- 0: self, 1: number
def s6_0 : Sm := .ret (.bin .mod (.var 1) (.att (.var 0) 2))
def b6 : Df := ⟨2, 2, [s6_0], .open⟩
theorem bo6 : d6.bindOk := fun _ _ _ _ _ _ us hl => match us, hl with | [_, _], _ => rfl
theorem db6 : pg.D 6 = some b6 := by kernel_rfl
/-- MirrorRim.at_number -/
-- 0: self, 1: number, 2: there
def s7_0 : Sm := .asg (.tg (.name 2)) (.bin .mod (.var 1) (.bin .mul (.cst (.int 2)) (.att (.var 0) 2)))
def s7_1 : Sm := .ifs (.cmp .lt (.var 2) (.att (.var 0) 2)) [.ret (.var 2)] []
def s7_2 : Sm := .ret (.bin .sub (.bin .sub (.bin .mul (.cst (.int 2)) (.att (.var 0) 2)) (.cst (.int 1))) (.var 2))
def b7 : Df := ⟨2, 3, [s7_0, s7_1, s7_2], .open⟩
theorem bo7 : d7.bindOk := fun _ _ _ _ _ _ us hl => match us, hl with | [_, _], _ => rfl
theorem db7 : pg.D 7 = some b7 := by kernel_rfl
/-- FixedRim.__init__ -/
-- 0: self, 1: size, 2: beyond
def s8_0 : Sm := .exp (.sup 0 0 [(.var 0), (.var 1)])
def s8_1 : Sm := .asg (.att (.var 0) 3) (.var 2)
def b8 : Df := ⟨3, 3, [s8_0, s8_1], .open⟩
theorem bo8 : d8.bindOk := fun _ _ _ _ _ _ us hl => match us, hl with | [_, _, _], _ => rfl
theorem db8 : pg.D 8 = some b8 := by kernel_rfl
/-- FixedRim.at_number -/
-- 0: self, 1: number
def s9_0 : Sm := .ifs (.chn .le .lt (.cst (.int 0)) (.var 1) (.att (.var 0) 2)) [.ret (.var 1)] []
def s9_1 : Sm := .ret (.cst .non)
def b9 : Df := ⟨2, 2, [s9_0, s9_1], .open⟩
theorem bo9 : d9.bindOk := fun _ _ _ _ _ _ us hl => match us, hl with | [_, _], _ => rfl
theorem db9 : pg.D 9 = some b9 := by kernel_rfl
/-- rim_of -/
-- 0: size, 1: told
def s10_0 : Sm := .ifs (.cmp .eq (.sub (.var 1) (.cst (.int 0))) (.cst (.str (Str.ofString "mirror")))) [.ret (.make 1 [(.var 0)])] []
def s10_1 : Sm := .ifs (.cmp .eq (.sub (.var 1) (.cst (.int 0))) (.cst (.str (Str.ofString "round")))) [.ret (.make 0 [(.var 0)])] []
def s10_2 : Sm := .ret (.make 2 [(.var 0), (.sub (.var 1) (.cst (.int 1)))])
def b10 : Df := ⟨2, 2, [s10_0, s10_1, s10_2], .open⟩
theorem bo10 : d10.bindOk := fun _ _ _ _ _ _ us hl => match us, hl with | [_, _], _ => rfl
theorem db10 : pg.D 10 = some b10 := by kernel_rfl
/-- Grid.__init__ -/
-- 0: self, 1: sizes, 2: rims, 3: many, 4: k, 5: size, 6: rim
def s11_0 : Sm := .ifs (.or (.not (.chn .le .le (.cst (.int 1)) (.blt .len [(.var 1)]) (.glo 2))) (.cmp .ne (.blt .len [(.var 2)]) (.blt .len [(.var 1)]))) [.rse 1 (.cst .non)] []
def s11_1 : Sm := .asg (.tg (.name 3)) (.cst (.int 1))
def l11_0 : List Sm := [.ifs (.or (.not (.call 3 [(.sub (.var 1) (.var 4)), (.cst (.int 1)), (.glo 0)])) (.not (.call 4 [(.sub (.var 2) (.var 4))]))) [.rse 1 (.var 4)] [], .asg (.tg (.name 3)) (.bin .mul (.var 3) (.sub (.var 1) (.var 4)))]
def s11_2 : Sm := .for (.name 4) (.rng [(.blt .len [(.var 1)])]) l11_0
def s11_3 : Sm := .ifs (.cmp .gt (.var 3) (.glo 3)) [.rse 1 (.cst .non)] []
def s11_4 : Sm := .asg (.att (.var 0) 9) (.blt .list [(.var 1)])
def s11_5 : Sm := .asg (.att (.var 0) 10) (.blt .list [(.var 2)])
def c11_0 : Ex := (.comp (.call 10 [(.var 5), (.var 6)]) [5, 6] (.tup [(.name 5), (.name 6)]) (.zip [(.var 1), (.var 2)]) none)
def s11_6 : Sm := .asg (.att (.var 0) 11) c11_0
def b11 : Df := ⟨3, 7, [s11_0, s11_1, s11_2, s11_3, s11_4, s11_5, s11_6], .open⟩
theorem bo11 : d11.bindOk := fun _ _ _ _ _ _ us hl => match us, hl with | [_, _, _], _ => rfl
theorem db11 : pg.D 11 = some b11 := by kernel_rfl
/-- Grid.lines -/
-- 0: self
def s12_0 : Sm := .ret (.blt .len [(.att (.var 0) 9)])
def b12 : Df := ⟨1, 1, [s12_0], .open⟩
theorem bo12 : d12.bindOk := fun _ _ _ _ _ _ us hl => match us, hl with | [_], _ => rfl
theorem db12 : pg.D 12 = some b12 := by kernel_rfl
/-- Grid.places_many -/
-- 0: self
def s13_0 : Sm := .ret (.blt .len [(.meth (.var 0) 6 [])])
def b13 : Df := ⟨1, 1, [s13_0], .cold⟩
theorem bo13 : d13.bindOk := fun _ _ _ _ _ _ us hl => match us, hl with | [_], _ => rfl
theorem db13 : pg.D 13 = some b13 := by kernel_rfl
/-- Grid.all_places -/
-- 0: self, 1: found, 2: size, 3: longer, 4: place, 5: number
def s14_0 : Sm := .asg (.tg (.name 1)) (.lst [(.tup [])])
def c14_0 : Ex := (.comp (.bin .add (.var 4) (.tup [(.var 5)])) [5] (.name 5) (.rng [(.var 2)]) none)
def l14_0 : List Sm := [.exp (.lm .extend (.var 3) [c14_0])]
def l14_1 : List Sm := [.asg (.tg (.name 3)) (.lst []), .for (.name 4) (.seq (.var 1)) l14_0, .asg (.tg (.name 1)) (.var 3)]
def s14_1 : Sm := .for (.name 2) (.seq (.att (.var 0) 9)) l14_1
def s14_2 : Sm := .ret (.var 1)
def b14 : Df := ⟨1, 6, [s14_0, s14_1, s14_2], .fresh⟩
theorem bo14 : d14.bindOk := fun _ _ _ _ _ _ us hl => match us, hl with | [_], _ => rfl
theorem db14 : pg.D 14 = some b14 := by kernel_rfl
/-- Grid.has_place -/
-- 0: self, 1: thing
def s15_0 : Sm := .exp (.call 0 [(.cst (.int 0))])
def b15 : Df := ⟨2, 2, [s15_0], .open⟩
theorem bo15 : d15.bindOk := fun _ _ _ _ _ _ us hl => match us, hl with | [_, _], _ => rfl
theorem db15 : pg.D 15 = some b15 := by kernel_rfl
/-- Grid.beside -/
-- 0: self, 1: place, 2: steps, 3: found, 4: edge, 5: number, 6: step, 7: there
def s16_0 : Sm := .asg (.tg (.name 3)) (.tup [])
def l16_0 : List Sm := [.asg (.tg (.name 7)) (.meth (.var 4) 1 [(.bin .add (.var 5) (.var 6))]), .ifs (.cmp .isn (.var 7) (.cst .non)) [.ret (.tup [(.cst (.str (Str.ofString "rim"))), (.att (.var 4) 3)])] [], .asg (.tg (.name 3)) (.bin .add (.var 3) (.tup [(.var 7)]))]
def s16_1 : Sm := .for (.tup [(.name 4), (.name 5), (.name 6)]) (.zip [(.att (.var 0) 11), (.var 1), (.var 2)]) l16_0
def s16_2 : Sm := .ret (.tup [(.cst (.str (Str.ofString "place"))), (.var 3)])
def b16 : Df := ⟨3, 8, [s16_0, s16_1, s16_2], .open⟩
theorem bo16 : d16.bindOk := fun _ _ _ _ _ _ us hl => match us, hl with | [_, _, _], _ => rfl
theorem db16 : pg.D 16 = some b16 := by kernel_rfl
/-- _law_cell_at -/
-- 0: _law_script, 1: _law_k
def s17_0 : Sm := .ifs (.cmp .lt (.var 1) (.blt .len [(.var 0)])) [.ret (.sub (.var 0) (.var 1))] []
def s17_1 : Sm := .ret (.cst (.int 0))
def b17 : Df := ⟨2, 2, [s17_0, s17_1], .open⟩
theorem bo17 : d17.bindOk := fun _ _ _ _ _ _ us hl => match us, hl with | [_, _], _ => rfl
theorem db17 : pg.D 17 = some b17 := by kernel_rfl
/-- _law_well -/
-- 0: _law_script, 1: _law_k, 2: _law_cell
def s18_0 : Sm := .asg (.tg (.name 2)) (.call 17 [(.var 0), (.var 1)])
def s18_1 : Sm := .ret (.lst [(.bin .add (.bin .mod (.var 2) (.cst (.int 2147483647))) (.var 1)), (.sub (.lst [(.cst (.int 0)), (.var 2)]) (.blt .int [(.cmp .ge (.var 2) (.bin .pow (.cst (.int 10)) (.cst (.int 18))))])), (.cst (.int 0))])
def b18 : Df := ⟨2, 3, [s18_0, s18_1], .fresh⟩
theorem bo18 : d18.bindOk := fun _ _ _ _ _ _ us hl => match us, hl with | [_, _], _ => rfl
theorem db18 : pg.D 18 = some b18 := by kernel_rfl
/-- _law_draw -/
-- 0: _law_well_here, 1: _law_most, 2: _law_number
def s19_0 : Sm := .ifs (.cmp .gt (.sub (.var 0) (.cst (.int 1))) (.cst (.int 0))) [.asg (.tg (.name 2)) (.bin .mod (.sub (.var 0) (.cst (.int 1))) (.var 1)), .asg (.sub (.var 0) (.cst (.int 1))) (.bin .fdiv (.sub (.var 0) (.cst (.int 1))) (.var 1)), .ret (.var 2)] []
def s19_1 : Sm := .asg (.sub (.var 0) (.cst (.int 2))) (.bin .add (.sub (.var 0) (.cst (.int 2))) (.cst (.int 1)))
def s19_2 : Sm := .asg (.tg (.name 2)) (.bin .mod (.bin .mul (.bin .add (.bin .add (.sub (.var 0) (.cst (.int 0))) (.bin .mul (.cst (.int 7919)) (.sub (.var 0) (.cst (.int 2))))) (.cst (.int 1))) (.cst (.int 48271))) (.cst (.int 2147483647)))
def s19_3 : Sm := .asg (.tg (.name 2)) (.bin .mod (.bin .mul (.var 2) (.bin .add (.bin .fdiv (.var 2) (.cst (.int 1009))) (.cst (.int 69621)))) (.cst (.int 2147483647)))
def s19_4 : Sm := .asg (.tg (.name 2)) (.bin .mod (.bin .mul (.var 2) (.bin .add (.bin .fdiv (.var 2) (.cst (.int 2003))) (.cst (.int 40692)))) (.cst (.int 2147483399)))
def s19_5 : Sm := .ret (.bin .mod (.bin .add (.bin .mul (.var 2) (.cst (.int 48271))) (.bin .fdiv (.var 2) (.cst (.int 7)))) (.var 1))
def b19 : Df := ⟨2, 3, [s19_0, s19_1, s19_2, s19_3, s19_4, s19_5], .open⟩
theorem bo19 : d19.bindOk := fun _ _ _ _ _ _ us hl => match us, hl with | [_, _], _ => rfl
theorem db19 : pg.D 19 = some b19 := by kernel_rfl
/-- _law_sizes -/
-- 0: _law_well_here, 1: _law_sizes_here, 2: _law_left, 3: _law_k, 4: _law_size
def s20_0 : Sm := .asg (.tg (.name 1)) (.lst [])
def s20_1 : Sm := .asg (.tg (.name 2)) (.cst (.int 40))
def l20_0 : List Sm := [.asg (.tg (.name 4)) (.bin .add (.cst (.int 1)) (.call 19 [(.var 0), (.blt .min [(.cst (.int 9)), (.var 2)])])), .exp (.lm .append (.var 1) [(.var 4)]), .asg (.tg (.name 2)) (.bin .fdiv (.var 2) (.var 4))]
def s20_2 : Sm := .for (.name 3) (.rng [(.bin .add (.cst (.int 1)) (.call 19 [(.var 0), (.cst (.int 3))]))]) l20_0
def s20_3 : Sm := .ret (.var 1)
def b20 : Df := ⟨1, 5, [s20_0, s20_1, s20_2, s20_3], .open⟩
theorem bo20 : d20.bindOk := fun _ _ _ _ _ _ us hl => match us, hl with | [_], _ => rfl
theorem db20 : pg.D 20 = some b20 := by kernel_rfl
/-- _law_rim -/
-- 0: _law_well_here, 1: _law_way
def s21_0 : Sm := .asg (.tg (.name 1)) (.call 19 [(.var 0), (.cst (.int 3))])
def s21_1 : Sm := .ifs (.cmp .eq (.var 1) (.cst (.int 0))) [.ret (.tup [(.cst (.str (Str.ofString "fixed"))), (.call 19 [(.var 0), (.sub (.lst [(.cst (.int 3)), (.bin .add (.bin .pow (.cst (.int 10)) (.cst (.int 9))) (.cst (.int 1)))]) (.call 19 [(.var 0), (.cst (.int 2))]))])])] []
def s21_2 : Sm := .ret (.sub (.lst [(.tup [(.cst (.str (Str.ofString "mirror")))]), (.tup [(.cst (.str (Str.ofString "round")))])]) (.bin .sub (.var 1) (.cst (.int 1))))
def b21 : Df := ⟨1, 2, [s21_0, s21_1, s21_2], .cold⟩
theorem bo21 : d21.bindOk := fun _ _ _ _ _ _ us hl => match us, hl with | [_], _ => rfl
theorem db21 : pg.D 21 = some b21 := by kernel_rfl
/-- _law_odd_size -/
-- 0: _law_well_here, 1: _law_far
def s22_0 : Sm := .asg (.tg (.name 1)) (.bin .add (.cst (.int 10)) (.call 19 [(.var 0), (.bin .pow (.cst (.int 10)) (.cst (.int 9)))]))
def s22_1 : Sm := .ret (.sub (.lst [(.cst (.int 0)), (.cst (.int 10)), (.neg (.cst (.int 1))), (.var 1), (.neg (.var 1)), (.cst (.bl true)), (.cst .non), (.cst (.str (Str.ofString "3"))), (.lst [(.cst (.int 3))]), (.tup [(.cst (.int 3))])]) (.call 19 [(.var 0), (.cst (.int 10))]))
def b22 : Df := ⟨1, 2, [s22_0, s22_1], .cold⟩
theorem bo22 : d22.bindOk := fun _ _ _ _ _ _ us hl => match us, hl with | [_], _ => rfl
theorem db22 : pg.D 22 = some b22 := by kernel_rfl
/-- _law_odd_rim -/
-- 0: _law_well_here, 1: _law_far, 2: _law_some
def s23_0 : Sm := .asg (.tg (.name 1)) (.bin .add (.bin .add (.bin .pow (.cst (.int 10)) (.cst (.int 9))) (.cst (.int 1))) (.call 19 [(.var 0), (.bin .pow (.cst (.int 10)) (.cst (.int 9)))]))
def s23_1 : Sm := .asg (.tg (.name 2)) (.lst [(.tup [(.cst (.str (Str.ofString "fixed")))]), (.tup [(.cst (.str (Str.ofString "fixed"))), (.neg (.cst (.int 1)))]), (.tup [(.cst (.str (Str.ofString "fixed"))), (.var 1)]), (.tup [(.cst (.str (Str.ofString "fixed"))), (.cst (.bl true))]), (.tup [(.cst (.str (Str.ofString "fixed"))), (.cst .non)]), (.tup [(.cst (.str (Str.ofString "fixed"))), (.cst (.int 1)), (.cst (.int 1))])])
def s23_2 : Sm := .asg (.tg (.name 2)) (.bin .add (.var 2) (.lst [(.tup [(.cst (.str (Str.ofString "mirror"))), (.cst (.int 1))]), (.tup [(.cst (.str (Str.ofString "round"))), (.cst (.int 0))]), (.tup [(.cst (.str (Str.ofString "flat")))]), (.tup []), (.cst (.str (Str.ofString "mirror"))), (.lst [(.cst (.str (Str.ofString "round")))]), (.cst .non), (.cst (.int 7))]))
def s23_3 : Sm := .asg (.tg (.name 2)) (.bin .add (.var 2) (.lst [(.tup [(.cst (.str (Str.ofString "Round")))]), (.tup [(.cst (.str (Str.ofString "fixed"))), (.cst (.str (Str.ofString "1")))])]))
def s23_4 : Sm := .ret (.sub (.var 2) (.call 19 [(.var 0), (.cst (.int 16))]))
def b23 : Df := ⟨1, 3, [s23_0, s23_1, s23_2, s23_3, s23_4], .cold⟩
theorem bo23 : d23.bindOk := fun _ _ _ _ _ _ us hl => match us, hl with | [_], _ => rfl
theorem db23 : pg.D 23 = some b23 := by kernel_rfl
/-- _law_good_rim -/
-- 0: _law_rim_here
def s24_0 : Sm := .ifs (.or (.cmp .eq (.var 0) (.tup [(.cst (.str (Str.ofString "mirror")))])) (.cmp .eq (.var 0) (.tup [(.cst (.str (Str.ofString "round")))]))) [.ret (.cst (.bl true))] []
def s24_1 : Sm := .ifs (.or (.not (.isi (.var 0) [.tuple])) (.or (.cmp .ne (.blt .len [(.var 0)]) (.cst (.int 2))) (.cmp .ne (.sub (.var 0) (.cst (.int 0))) (.cst (.str (Str.ofString "fixed")))))) [.ret (.cst (.bl false))] []
def s24_2 : Sm := .ret (.and (.isi (.sub (.var 0) (.cst (.int 1))) [.int]) (.and (.not (.isi (.sub (.var 0) (.cst (.int 1))) [.bool])) (.chn .le .le (.cst (.int 0)) (.sub (.var 0) (.cst (.int 1))) (.bin .pow (.cst (.int 10)) (.cst (.int 9))))))
def b24 : Df := ⟨1, 1, [s24_0, s24_1, s24_2], .open⟩
theorem bo24 : d24.bindOk := fun _ _ _ _ _ _ us hl => match us, hl with | [_], _ => rfl
theorem db24 : pg.D 24 = some b24 := by kernel_rfl
/-- _law_due -/
-- 0: _law_sizes_here, 1: _law_rims, 2: _law_many, 3: _law_k, 4: _law_size
def s25_0 : Sm := .ifs (.or (.cmp .notin (.blt .len [(.var 0)]) (.tup [(.cst (.int 1)), (.cst (.int 2)), (.cst (.int 3))])) (.cmp .ne (.blt .len [(.var 1)]) (.blt .len [(.var 0)]))) [.ret (.tup [(.cst (.str (Str.ofString "refused"))), (.cst .non)])] []
def s25_1 : Sm := .asg (.tg (.name 2)) (.cst (.int 1))
def l25_0 : List Sm := [.ifs (.or (.not (.isi (.var 4) [.int])) (.or (.isi (.var 4) [.bool]) (.not (.chn .lt .lt (.cst (.int 0)) (.var 4) (.cst (.int 10)))))) [.ret (.tup [(.cst (.str (Str.ofString "refused"))), (.var 3)])] [], .ifs (.not (.call 24 [(.sub (.var 1) (.var 3))])) [.ret (.tup [(.cst (.str (Str.ofString "refused"))), (.var 3)])] [], .asg (.tg (.name 2)) (.bin .mul (.var 2) (.var 4))]
def s25_2 : Sm := .for (.tup [(.name 3), (.name 4)]) (.enm (.var 0)) l25_0
def s25_3 : Sm := .ret (.sub (.lst [(.tup [(.cst (.str (Str.ofString "made"))), (.var 0), (.var 1)]), (.tup [(.cst (.str (Str.ofString "refused"))), (.cst .non)])]) (.blt .int [(.cmp .gt (.var 2) (.cst (.int 40)))]))
def b25 : Df := ⟨2, 5, [s25_0, s25_1, s25_2, s25_3], .open⟩
theorem bo25 : d25.bindOk := fun _ _ _ _ _ _ us hl => match us, hl with | [_, _], _ => rfl
theorem db25 : pg.D 25 = some b25 := by kernel_rfl
/-- _law_found -/
-- 0: _law_sizes_here, 1: _law_rims, 2: _law_grid, 3: e, 4: _law_others
def y26_0 : Sm := .asg (.tg (.name 2)) (.make 3 [(.var 0), (.var 1)])
def h26_0 : List Hm := [.asg 4 (.isx [2, 3, 4] [0, 1]), .ifs (.or (.not (.isx [1] [0, 2, 3, 4])) (.or (.not (.isx [0, 1, 2, 3, 4] [])) (.var 4))) [.ret (.tup [(.cst (.str (Str.ofString "other"))), (.cst .non)])], .ret (.tup [(.cst (.str (Str.ofString "refused"))), .atv])]
def s26_0 : Sm := .tryx y26_0 3 [0, 1, 2, 3, 4] [] h26_0
def s26_1 : Sm := .ret (.tup [(.cst (.str (Str.ofString "made"))), (.att (.var 2) 9), (.att (.var 2) 10)])
def b26 : Df := ⟨2, 5, [s26_0, s26_1], .cold⟩
theorem bo26 : d26.bindOk := fun _ _ _ _ _ _ us hl => match us, hl with | [_, _], _ => rfl
theorem db26 : pg.D 26 = some b26 := by kernel_rfl
/-- law -/
-- 0: _law_script, 1: _law_well_here, 2: _law_sizes_here, 3: _law_k, 4: _law_rims, 5: _law_handed, 6: _law_due_here, 7: _law_grid, 8: _law_many
def s27_0 : Sm := .asg (.tg (.name 1)) (.call 18 [(.var 0), (.cst (.int 0))])
def s27_1 : Sm := .asg (.tg (.name 2)) (.call 20 [(.var 1)])
def c27_0 : Ex := (.comp (.bin .add (.cst (.int 1)) (.call 19 [(.var 1), (.cst (.int 9))])) [3] (.name 3) (.rng [(.call 19 [(.var 1), (.cst (.int 5))])]) none)
def s27_2 : Sm := .ifs (.cmp .eq (.call 19 [(.var 1), (.cst (.int 4))]) (.cst (.int 0))) [.asg (.tg (.name 2)) c27_0] []
def c27_1 : Ex := (.comp (.call 21 [(.var 1)]) [3] (.name 3) (.rng [(.bin .add (.blt .len [(.var 2)]) (.sub (.lst [(.cst (.int 0)), (.cst (.int 0)), (.cst (.int 0)), (.cst (.int 0)), (.cst (.int 1)), (.neg (.cst (.int 1)))]) (.call 19 [(.var 1), (.cst (.int 6))])))]) none)
def s27_3 : Sm := .asg (.tg (.name 4)) c27_1
def l27_0 : List Sm := [.ifs (.and (.cmp .ne (.var 2) (.lst [])) (.cmp .eq (.call 19 [(.var 1), (.cst (.int 2))]) (.cst (.int 0)))) [.asg (.sub (.var 2) (.call 19 [(.var 1), (.blt .len [(.var 2)])])) (.call 22 [(.var 1)])] [.ifs (.cmp .ne (.var 4) (.lst [])) [.asg (.sub (.var 4) (.call 19 [(.var 1), (.blt .len [(.var 4)])])) (.call 23 [(.var 1)])] []]]
def s27_4 : Sm := .for (.name 3) (.rng [(.call 19 [(.var 1), (.cst (.int 3))])]) l27_0
def s27_5 : Sm := .asg (.tg (.name 5)) (.tup [(.blt .list [(.var 2)]), (.blt .list [(.var 4)])])
def s27_6 : Sm := .asg (.tg (.name 6)) (.call 25 [(.var 2), (.var 4)])
def s27_7 : Sm := .ifs (.or (.cmp .ne (.call 26 [(.sub (.var 5) (.cst (.int 0))), (.sub (.var 5) (.cst (.int 1)))]) (.var 6)) (.cmp .ne (.var 5) (.tup [(.var 2), (.var 4)]))) [.ret (.cst (.bl false))] []
def s27_8 : Sm := .ifs (.cmp .eq (.sub (.var 6) (.cst (.int 0))) (.cst (.str (Str.ofString "refused")))) [.ret (.cst (.bl true))] []
def s27_9 : Sm := .asg (.tg (.name 7)) (.make 3 [(.sub (.var 5) (.cst (.int 0))), (.sub (.var 5) (.cst (.int 1)))])
def s27_10 : Sm := .asg (.tg (.name 8)) (.meth (.var 7) 5 [])
def s27_11 : Sm := .asg (.sub (.sub (.var 5) (.cst (.int 0))) (.cst (.int 0))) (.cst (.int 9))
def s27_12 : Sm := .exp (.lm .clear (.sub (.var 5) (.cst (.int 1))) [])
def s27_13 : Sm := .ifs (.or (.cmp .ne (.meth (.var 7) 5 []) (.var 8)) (.cmp .ne (.meth (.var 7) 4 []) (.blt .len [(.var 2)]))) [.ret (.cst (.bl false))] []
def s27_14 : Sm := .ret (.and (.cmp .eq (.att (.var 7) 9) (.var 2)) (.cmp .eq (.att (.var 7) 10) (.var 4)))
def b27 : Df := ⟨1, 9, [s27_0, s27_1, s27_2, s27_3, s27_4, s27_5, s27_6, s27_7, s27_8, s27_9, s27_10, s27_11, s27_12, s27_13, s27_14], .open⟩
theorem bo27 : d27.bindOk := fun _ _ _ _ _ _ us hl => match us, hl with | [_], _ => rfl
theorem db27 : pg.D 27 = some b27 := by kernel_rfl
theorem dal {d : DD} {l : List DD} (h : d.bindOk) (t : ∀ x ∈ l, x.bindOk) : ∀ x ∈ d :: l, x.bindOk := fun x hx => (List.mem_cons.mp hx).elim (fun e => e ▸ h) (t x)
theorem pgOk : pg.Ok where
  att := by decide +kernel
  sc := by decide +kernel
  bind := (dal bo0 (dal bo1 (dal bo2 (dal bo3 (dal bo4 (dal bo5 (dal bo6 (dal bo7 (dal bo8 (dal bo9 (dal bo10 (dal bo11 (dal bo12 (dal bo13 (dal bo14 (dal bo15 (dal bo16 (dal bo17 (dal bo18 (dal bo19 (dal bo20 (dal bo21 (dal bo22 (dal bo23 (dal bo24 (dal bo25 (dal bo26 (dal bo27 (fun x hx => by cases hx)))))))))))))))))))))))))))))
  con := by decide +kernel
  iN := by decide +kernel
  mF := by decide +kernel
  xI := fun _ => ⟨d1, by kernel_rfl, by decide +kernel, by decide +kernel⟩
end SL

set_option maxRecDepth 100000
set_option maxHeartbeats 2000000
/-! Places: what the defs compute. -/
namespace SL
open PySem
set_option autoImplicit false
abbrev C (j f : Nat) (ws : List Wv) (h : Hs) : Rz Wv := callD pg.D pg.glo pg.cls pg.fld pg.turns j f ws h
abbrev Wj (j : Nat) : Wd := ⟨pg.glo, pg.cls, pg.fld, callD pg.D pg.glo pg.cls pg.fld pg.turns j, pg.turns⟩
theorem whole {j : Nat} {h : Hs} {w : Wv} (hw : w.pl = true) : C (j + 1) 2 [w] h = .ok (.bl (isI w)) h := by
  rw [C, run_open db2 rfl rfl]
  cases w <;> first | (cases hw; done) | (simp [b2, s2_0, List.getElem?_cons_zero, List.getElem?_cons_succ, List.set_cons_zero, List.set_cons_succ, List.length_cons, List.length_nil, exs, ex, ev, evs, evo, evi, tst_cmp, tst_chn, tst_isi, tst_call, tst_meth, tst_blt, tst_var, tst_not, tst_and, tst_or, start, bodyEnd, store, Tg.bind, binds, Rz.bind_ok, Rz.bind_bad, Rz.bind_exc, Rz.of, truth, cmpop, Cm.run, subsc, getS, getL, blt, isL, lmop, Ty.has, tyOf, Ty.name, isI])
theorem between {j : Nat} {h : Hs} {w : Wv} {lo hi : Int} (hw : w.pl = true) : C (j + 2) 3 [w, .int lo, .int hi] h = .ok (.bl (btw w lo hi)) h := by
  rw [C, run_open db3 rfl rfl]
  have e := whole (j := j) (h := h) hw
  simp only [C] at e
  simp [b3, s3_0, List.getElem?_cons_zero, List.getElem?_cons_succ, List.set_cons_zero, List.set_cons_succ, List.length_cons, List.length_nil, exs, ex, ev, evs, evo, evi, tst_cmp, tst_chn, tst_isi, tst_call, tst_meth, tst_blt, tst_var, tst_not, tst_and, tst_or, start, bodyEnd, store, Tg.bind, binds, Rz.bind_ok, Rz.bind_bad, Rz.bind_exc, Rz.of, truth, cmpop, Cm.run, subsc, getS, getL, blt, isL, lmop, e]
  cases w <;> first | (cases hw; done) | (simp [isI, btw, Cm.run, truth, cmpop])
  by_cases h1 : lo ≤ ‹Int› <;> simp [h1]
/-- the draws -/
theorem drawO (j : Nat) {o : Ob} (ho : isWl o) {m : Int} (hm : 0 < m) (hm2 : m < 2 ^ 60) : ∃ (v : Int) (o' : Ob), isWl o' ∧ 0 ≤ v ∧ v < m ∧ ∀ (h : Hs) (k : Nat), h[k]? = some o → C (j + 1) 19 [.ref k, .int m] h = .ok (.int v) (h.set k o') := by
  obtain ⟨a, b, c, rfl⟩ := ho
  by_cases hb : 0 < b
  · refine ⟨b % m, .lst [.int a, .int (b / m), .int c], ⟨_, _, _, rfl⟩, Int.emod_nonneg _ (by omega), Int.emod_lt_of_pos _ hm, fun h k hk => ?_⟩
    rw [C, run_open db19 rfl rfl]
    simp (disch := omega) [b19, s19_0, s19_1, s19_2, s19_3, s19_4, s19_5, List.getElem?_cons_zero, List.getElem?_cons_succ, List.set_cons_zero, List.set_cons_succ, List.length_cons, List.length_nil, exs, ex, ev, evs, evo, evi, tst_cmp, tst_chn, tst_isi, tst_call, tst_meth, tst_blt, tst_var, tst_not, tst_and, tst_or, start, bodyEnd, store, Tg.bind, binds, Rz.bind_ok, Rz.bind_bad, Rz.bind_exc, Rz.of, truth, cmpop, Cm.run, subsc, getS, getL, blt, isL, lmop, hk, hb, ixAt, storeSub, bmod, bdiv]
  · refine ⟨lcg a (c + 1) % m, .lst [.int a, .int b, .int (c + 1)], ⟨_, _, _, rfl⟩, Int.emod_nonneg _ (by omega), Int.emod_lt_of_pos _ hm, fun h k hk => ?_⟩
    rw [C, run_open db19 rfl rfl]
    simp (disch := omega) [b19, s19_0, s19_1, s19_2, s19_3, s19_4, s19_5, List.getElem?_cons_zero, List.getElem?_cons_succ, List.set_cons_zero, List.set_cons_succ, List.length_cons, List.length_nil, exs, ex, ev, evs, evo, evi, tst_cmp, tst_chn, tst_isi, tst_call, tst_meth, tst_blt, tst_var, tst_not, tst_and, tst_or, start, bodyEnd, store, Tg.bind, binds, Rz.bind_ok, Rz.bind_bad, Rz.bind_exc, Rz.of, truth, cmpop, Cm.run, subsc, getS, getL, blt, isL, lmop, hk, hb, ixAt, storeSub, badd, bmul_l, bmul_r, bmod, bdiv, get_set hk]
    all_goals rfl
/-- a draw from the well k of g -/
theorem drawW (j : Nat) {g : Hs} {k : Nat} (hk : k < g.length) {o : Ob} (ho : isWl o) {m : Int} (hm : 0 < m) (hm2 : m < 2 ^ 60) : ∃ (v : Int) (o' : Ob), isWl o' ∧ 0 ≤ v ∧ v < m ∧ ∀ t : Hs, callD pg.D pg.glo pg.cls pg.fld pg.turns (j + 1) 19 [.ref k, .int m] (g.set k o ++ t) = .ok (.int v) (g.set k o' ++ t) := by
  obtain ⟨v, o', h1, h2, h3, e⟩ := drawO j ho hm hm2
  exact ⟨v, o', h1, h2, h3, fun t => by rw [← set_wl hk o o' t]; exact e _ k (get_wl hk o t)⟩
end SL

set_option maxRecDepth 100000
set_option maxHeartbeats 2000000
/-! Places: the well, the sizes, the rims. -/
namespace SL
open PySem
set_option autoImplicit false
theorem cellAt (j : Nat) (ns : List Int) (k : Nat) : ∃ v : Int, ∀ h, C (j + 1) 17 [.lst (ns.map Wv.int), .int k] h = .ok (.int v) h := by
  by_cases hk : k < ns.length
  · refine ⟨ns[k], fun h => ?_⟩
    rw [C, run_open db17 rfl rfl]
    have x := ixAt_nat hk
    simp [b17, s17_0, s17_1, List.getElem?_cons_zero, List.getElem?_cons_succ, List.set_cons_zero, List.set_cons_succ, List.length_cons, List.length_nil, exs, ex, ev, evs, evo, evi, tst_cmp, tst_chn, tst_isi, tst_call, tst_meth, tst_blt, tst_var, tst_not, tst_and, tst_or, start, bodyEnd, store, Tg.bind, binds, Rz.bind_ok, Rz.bind_bad, Rz.bind_exc, Rz.of, truth, cmpop, Cm.run, subsc, getS, getL, blt, isL, lmop, x, hk]
  · refine ⟨0, fun h => ?_⟩
    rw [C, run_open db17 rfl rfl]
    simp [b17, s17_0, s17_1, List.getElem?_cons_zero, List.getElem?_cons_succ, List.set_cons_zero, List.set_cons_succ, List.length_cons, List.length_nil, exs, ex, ev, evs, evo, evi, tst_cmp, tst_chn, tst_isi, tst_call, tst_meth, tst_blt, tst_var, tst_not, tst_and, tst_or, start, bodyEnd, store, Tg.bind, binds, Rz.bind_ok, Rz.bind_bad, Rz.bind_exc, Rz.of, truth, cmpop, Cm.run, subsc, getS, getL, blt, isL, lmop, hk]
theorem set_last2 (h : Hs) (o p : Ob) (t : Hs) : (h ++ o :: t).set h.length p = h ++ p :: t := by
  rw [List.set_append_right _ _ (Nat.le_refl _), Nat.sub_self]; rfl
theorem get_last2 (h : Hs) (o : Ob) (t : Hs) : (h ++ o :: t)[h.length]? = some o := by
  rw [List.getElem?_append_right (Nat.le_refl _), Nat.sub_self]; rfl
theorem get_last3 (h : Hs) (o p : Ob) (t : Hs) : (h ++ o :: p :: t)[h.length + 1]? = some p := by
  rw [List.getElem?_append_right (by omega), Nat.add_sub_cancel_left]; rfl
theorem well (j : Nat) (ns : List Int) (k : Nat) : ∃ a b : Int, ∀ h, C (j + 2) 18 [.lst (ns.map Wv.int), .int k] h = .ok (.ref h.length) (h ++ [.lst [.int a, .int b, .int 0]]) := by
  obtain ⟨v, hv⟩ := cellAt j ns k
  simp only [C] at hv
  have hb : ∃ b : Int, (if 1000000000000000000 ≤ v then b = v else b = 0) := by
    by_cases q : 1000000000000000000 ≤ v
    · exact ⟨v, by rw [if_pos q]⟩
    · exact ⟨0, by rw [if_neg q]⟩
  obtain ⟨b, hb⟩ := hb
  refine ⟨v % 2147483647 + k, b, fun h => ?_⟩
  rw [C, run_end db18 rfl]
  have e : bodyEnd (exs (Wj (j + 1)) b18.body (start b18.ns [.lst (ns.map Wv.int), .int k]) h) = .ok (.ref (h.length + 1)) (h ++ [.lst [.int 0, .int v], .lst [.int (v % 2147483647 + k), .int b, .int 0]]) := by
    by_cases q : 1000000000000000000 ≤ v
    · rw [if_pos q] at hb; subst hb
      simp (disch := omega) [b18, s18_0, s18_1, List.getElem?_cons_zero, List.getElem?_cons_succ, List.set_cons_zero, List.set_cons_succ, List.length_cons, List.length_nil, exs, ex, ev, evs, evo, evi, tst_cmp, tst_chn, tst_isi, tst_call, tst_meth, tst_blt, tst_var, tst_not, tst_and, tst_or, start, bodyEnd, store, Tg.bind, binds, Rz.bind_ok, Rz.bind_bad, Rz.bind_exc, Rz.of, truth, cmpop, Cm.run, subsc, getS, getL, blt, isL, lmop, hv, ixAt, bmod, badd, pow18, q, newL, get_last, show 2 ≤ sizeLine by decide, show 3 ≤ sizeLine by decide]
    · rw [if_neg q] at hb; subst hb
      simp (disch := omega) [b18, s18_0, s18_1, List.getElem?_cons_zero, List.getElem?_cons_succ, List.set_cons_zero, List.set_cons_succ, List.length_cons, List.length_nil, exs, ex, ev, evs, evo, evi, tst_cmp, tst_chn, tst_isi, tst_call, tst_meth, tst_blt, tst_var, tst_not, tst_and, tst_or, start, bodyEnd, store, Tg.bind, binds, Rz.bind_ok, Rz.bind_bad, Rz.bind_exc, Rz.of, truth, cmpop, Cm.run, subsc, getS, getL, blt, isL, lmop, hv, ixAt, bmod, badd, pow18, q, newL, get_last, show 2 ≤ sizeLine by decide, show 3 ≤ sizeLine by decide]
  simp only [Wj] at e
  rw [e, Rz.bind_ok]
  exact fresh_end (by omega) (by rw [get_last3]) (by rfl) (List.prefix_append _ _)
theorem sizes_loop (j : Nat) {g : Hs} {k : Nat} (hk : k < g.length) : ∀ (l : List Wv) (o : Ob) (left : Int) (sz : List Int) (x3 x4 : Option Wv), isWl o → 1 ≤ left → left ≤ 40 → sz.length + l.length < sizeLine →
    ∃ (o' : Ob) (left' : Int) (nw : List Int) (y3 y4 : Option Wv), isWl o' ∧ forL (exs (Wj (j + 1)) l20_0) (.name 3) [] l [some (.ref k), some (.ref g.length), some (.int left), x3, x4] (g.set k o ++ [.lst (sz.map Wv.int)]) =
      .ok (.nx [some (.ref k), some (.ref g.length), some (.int left'), y3, y4]) (g.set k o' ++ [.lst ((sz ++ nw).map Wv.int)]) ∧ nw.length = l.length ∧ SzOk nw ∧ 1 ≤ left' ∧ prd nw * left' ≤ left
  | [], o, left, sz, x3, x4, ho, h1, h2, hz => ⟨o, left, [], x3, x4, ho, by simp [forL, stay], rfl, ⟨by simp⟩, h1, by simp [prd]⟩
  | w :: l, o, left, sz, x3, x4, ho, h1, h2, hz => by
    have hmin : (0 : Int) < (if left < 9 then left else 9) ∧ (if left < 9 then left else 9) ≤ left ∧ (if left < 9 then left else 9) ≤ 9 := by split <;> omega
    generalize hm : (if left < 9 then left else 9) = m at hmin
    obtain ⟨v, o1, ho1, hv1, hv2, hd⟩ := drawW j hk ho hmin.1 (by omega)
    have hs1 : 1 ≤ 1 + v := by omega
    have hdiv : 1 ≤ left / (1 + v) := by
      have : (1 + v) * 1 ≤ left := by omega
      exact (Int.le_ediv_iff_mul_le (by omega)).mpr (by omega)
    have hle : left / (1 + v) ≤ 40 := Int.le_trans (Int.ediv_le_self _ (by omega)) h2
    obtain ⟨o', left', nw, y3, y4, ho', e, hl, hn, hp, hq⟩ := sizes_loop j hk l o1 (left / (1 + v)) (sz ++ [1 + v]) (some w) (some (.int (1 + v))) ho1 hdiv hle (by simp at hz ⊢; omega)
    refine ⟨o', left', (1 + v) :: nw, y3, y4, ho', ?_, by simp [hl], ⟨fun s hs => ?_⟩, hp, ?_⟩
    · have hlen : sz.length < sizeLine := by simp at hz; omega
      have hb : exs (Wj (j + 1)) l20_0 [some (.ref k), some (.ref g.length), some (.int left), some w, x4] (g.set k o ++ [.lst (sz.map Wv.int)]) =
          .ok (.nx [some (.ref k), some (.ref g.length), some (.int (left / (1 + v))), some w, some (.int (1 + v))]) (g.set k o1 ++ [.lst ((sz ++ [1 + v]).map Wv.int)]) := by
        have gl : ∀ (o p : Ob), (g.set k o ++ [p])[g.length]? = some p := fun o p => get_wl_last o p []
        have sl : ∀ (o p q : Ob), (g.set k o ++ [p]).set g.length q = g.set k o ++ [q] := fun o p q => set_wl_last o p q []
        simp (disch := omega) [s20_0, s20_1, l20_0, s20_2, s20_3, List.getElem?_cons_zero, List.getElem?_cons_succ, List.set_cons_zero, List.set_cons_succ, List.length_cons, List.length_nil, exs, ex, ev, evs, evo, evi, tst_cmp, tst_chn, tst_isi, tst_call, tst_meth, tst_blt, tst_var, tst_not, tst_and, tst_or, start, bodyEnd, store, Tg.bind, binds, Rz.bind_ok, Rz.bind_bad, Rz.bind_exc, Rz.of, truth, cmpop, Cm.run, subsc, getS, getL, blt, isL, lmop, badd, bdiv, hm, hd, hlen, gl, sl]
      rw [forL_nx rfl rfl hb, e]
      simp
    · rcases List.mem_cons.mp hs with rfl | hs
      · omega
      · exact hn.one s hs
    · show (1 + v) * prd nw * left' ≤ left
      calc (1 + v) * prd nw * left' = (1 + v) * (prd nw * left') := Int.mul_assoc ..
        _ ≤ (1 + v) * (left / (1 + v)) := Int.mul_le_mul_of_nonneg_left hq (by omega)
        _ ≤ left := Int.mul_ediv_self_le (by omega)
theorem sizes (j : Nat) {g : Hs} {k : Nat} {o : Ob} (hg : g[k]? = some o) (ho : isWl o) : ∃ (o' : Ob) (sz : List Int), isWl o' ∧ C (j + 2) 20 [.ref k] g = .ok (.ref g.length) (g.set k o' ++ [.lst (sz.map Wv.int)]) ∧ SzOk sz ∧ 1 ≤ sz.length ∧ sz.length ≤ 3 ∧ prd sz ≤ 40 := by
  have hk := ltg hg
  obtain ⟨v, o1, ho1, hv1, hv2, hd⟩ := drawW j hk ho (m := 3) (by decide) (by decide)
  obtain ⟨o', left', nw, y3, y4, ho', e, hl, hn, hp, hq⟩ := sizes_loop j hk (upTo 0 (1 + v).toNat) o1 40 [] none none ho1 (by decide) (by decide) (by rw [upTo_length]; have := line1000; simp; omega)
  rw [upTo_length] at hl
  refine ⟨o', nw, ho', ?_, hn, by omega, by omega, ?_⟩
  · rw [C, run_open db20 rfl rfl]
    simp only [List.map_nil, List.nil_append] at e
    have gs : g = g.set k o := (set_same hg).symm
    have q0 : ex (Wj (j + 1)) s20_0 [some (.ref k), none, none, none, none] g = .ok (.nx [some (.ref k), some (.ref g.length), none, none, none]) (g.set k o ++ [.lst []]) := by
      rw [← gs]
      simp [s20_0, List.getElem?_cons_zero, List.getElem?_cons_succ, List.set_cons_zero, List.set_cons_succ, List.length_cons, List.length_nil, exs, ex, ev, evs, evo, evi, tst_cmp, tst_chn, tst_isi, tst_call, tst_meth, tst_blt, tst_var, tst_not, tst_and, tst_or, start, bodyEnd, store, Tg.bind, binds, Rz.bind_ok, Rz.bind_bad, Rz.bind_exc, Rz.of, truth, cmpop, Cm.run, subsc, getS, getL, blt, isL, lmop, newL]
    have q1 : ex (Wj (j + 1)) s20_1 [some (.ref k), some (.ref g.length), none, none, none] (g.set k o ++ [.lst []]) = .ok (.nx [some (.ref k), some (.ref g.length), some (.int 40), none, none]) (g.set k o ++ [.lst []]) := by
      simp [s20_1, List.getElem?_cons_zero, List.getElem?_cons_succ, List.set_cons_zero, List.set_cons_succ, List.length_cons, List.length_nil, exs, ex, ev, evs, evo, evi, tst_cmp, tst_chn, tst_isi, tst_call, tst_meth, tst_blt, tst_var, tst_not, tst_and, tst_or, start, bodyEnd, store, Tg.bind, binds, Rz.bind_ok, Rz.bind_bad, Rz.bind_exc, Rz.of, truth, cmpop, Cm.run, subsc, getS, getL, blt, isL, lmop]
    have q2 : ex (Wj (j + 1)) s20_2 [some (.ref k), some (.ref g.length), some (.int 40), none, none] (g.set k o ++ [.lst []]) = .ok (.nx [some (.ref k), some (.ref g.length), some (.int left'), y3, y4]) (g.set k o' ++ [.lst (nw.map Wv.int)]) := by
      rw [s20_2, ex]
      have q : evi (Wj (j + 1)) (.rng [(.bin .add (.cst (.int 1)) (.call 19 [(.var 0), (.cst (.int 3))]))]) [some (.ref k), some (.ref g.length), some (.int 40), none, none] (g.set k o ++ [.lst []]) = .ok (upTo 0 (1 + v).toNat, []) (g.set k o1 ++ [.lst []]) := by
        have : evs (Wj (j + 1)) [(.bin .add (.cst (.int 1)) (.call 19 [(.var 0), (.cst (.int 3))]))] [some (.ref k), some (.ref g.length), some (.int 40), none, none] (g.set k o ++ [.lst []]) = .ok [.int (1 + v)] (g.set k o1 ++ [.lst []]) := by
          simp [List.getElem?_cons_zero, List.getElem?_cons_succ, List.set_cons_zero, List.set_cons_succ, List.length_cons, List.length_nil, exs, ex, ev, evs, evo, evi, tst_cmp, tst_chn, tst_isi, tst_call, tst_meth, tst_blt, tst_var, tst_not, tst_and, tst_or, start, bodyEnd, store, Tg.bind, binds, Rz.bind_ok, Rz.bind_bad, Rz.bind_exc, Rz.of, truth, cmpop, Cm.run, subsc, getS, getL, blt, isL, lmop, hd, badd]
        rw [evi, this, Rz.bind_ok, range1 (by omega), Rz.of_some]
      rw [q, Rz.bind_ok]
      exact e
    show bodyEnd (exs (Wj (j + 1)) [s20_0, s20_1, s20_2, s20_3] [some (.ref k), none, none, none, none] g) = _
    rw [exs_nx q0, exs_nx q1, exs_nx q2]
    simp [s20_3, List.getElem?_cons_zero, List.getElem?_cons_succ, List.set_cons_zero, List.set_cons_succ, List.length_cons, List.length_nil, exs, ex, ev, evs, evo, evi, tst_cmp, tst_chn, tst_isi, tst_call, tst_meth, tst_blt, tst_var, tst_not, tst_and, tst_or, start, bodyEnd, store, Tg.bind, binds, Rz.bind_ok, Rz.bind_bad, Rz.bind_exc, Rz.of, truth, cmpop, Cm.run, subsc, getS, getL, blt, isL, lmop]
  · have : prd nw * 1 ≤ prd nw * left' := Int.mul_le_mul_of_nonneg_left hp (by have := prd_pos hn; omega)
    omega
end SL

set_option maxRecDepth 100000
set_option maxHeartbeats 2000000
/-! Places: the rims, the grid made. -/
namespace SL
open PySem
set_option autoImplicit false
theorem gl2 {g : Hs} {k : Nat} (o p : Ob) (t u : Hs) : (g.set k o ++ (t ++ p :: u))[g.length + t.length]? = some p := by
  rw [← List.append_assoc, List.getElem?_append_right (by simp), List.length_append, List.length_set, Nat.sub_self]; rfl
theorem cold_wl {g : Hs} {k : Nat} (hk : k < g.length) {o o' : Ob} (ho' : isWl o') {w : Wv} (hw : w.pure = true) (t u : Hs) : ended .cold (g.set k o ++ t).length (g.set k o ++ t) w (g.set k o' ++ (t ++ u)) = .ok w (g.set k o' ++ t) := by
  have e : (g.set k o' ++ (t ++ u)).take (g.set k o ++ t).length = g.set k o' ++ t := by
    rw [← List.append_assoc, List.take_append_of_le_length (by simp), List.take_of_length_le (by simp)]
  rw [end_cold hw (by simp) (by rw [e, ← set_wl hk o o' t]; exact shut_set (ho'.under _)), e]
theorem rimW (j : Nat) {g : Hs} {k : Nat} (hk : k < g.length) {o : Ob} (ho : isWl o) : ∃ (r : Wv) (o' : Ob), isWl o' ∧ Rimm r ∧ ∀ t : Hs, callD pg.D pg.glo pg.cls pg.fld pg.turns (j + 2) 21 [.ref k] (g.set k o ++ t) = .ok r (g.set k o' ++ t) := by
  obtain ⟨v, o1, ho1, hv1, hv2, hd⟩ := drawW j hk ho (m := 3) (by decide) (by decide)
  by_cases hw : v = 0
  · subst hw
    obtain ⟨v2, o2, ho2, hv21, hv22, hd2⟩ := drawW j hk ho1 (m := 2) (by decide) (by decide)
    have hm : ∃ m : Int, (v2 = 0 ∧ m = 3 ∨ v2 = 1 ∧ m = 1000000001) := by
      have : v2 = 0 ∨ v2 = 1 := by omega
      rcases this with q | q
      · exact ⟨3, .inl ⟨q, rfl⟩⟩
      · exact ⟨1000000001, .inr ⟨q, rfl⟩⟩
    obtain ⟨m, hm⟩ := hm
    obtain ⟨v3, o3, ho3, hv31, hv32, hd3⟩ := drawW j hk ho2 (m := m) (by omega) (by omega)
    refine ⟨.tup [.str (Str.ofString "fixed"), .int v3], o3, ho3, .fixed v3 hv31 (by omega), fun t => ?_⟩
    rw [run_end db21 rfl]
    have e : bodyEnd (exs (Wj (j + 1)) b21.body (start b21.ns [.ref k]) (g.set k o ++ t)) = .ok (.tup [.str (Str.ofString "fixed"), .int v3]) (g.set k o3 ++ (t ++ [.lst [.int 3, .int 1000000001]])) := by
      rcases hm with ⟨rfl, rfl⟩ | ⟨rfl, rfl⟩
      · simp [b21, s21_0, s21_1, s21_2, List.getElem?_cons_zero, List.getElem?_cons_succ, List.set_cons_zero, List.set_cons_succ, List.length_cons, List.length_nil, exs, ex, ev, evs, evo, evi, tst_cmp, tst_chn, tst_isi, tst_call, tst_meth, tst_blt, tst_var, tst_not, tst_and, tst_or, start, bodyEnd, store, Tg.bind, binds, Rz.bind_ok, Rz.bind_bad, Rz.bind_exc, Rz.of, truth, cmpop, Cm.run, subsc, getS, getL, blt, isL, lmop, hd, hd2, hd3, badd, pow9, newL, ixAt, eqVal, gl2, show 2 ≤ sizeLine by decide]
      · simp [b21, s21_0, s21_1, s21_2, List.getElem?_cons_zero, List.getElem?_cons_succ, List.set_cons_zero, List.set_cons_succ, List.length_cons, List.length_nil, exs, ex, ev, evs, evo, evi, tst_cmp, tst_chn, tst_isi, tst_call, tst_meth, tst_blt, tst_var, tst_not, tst_and, tst_or, start, bodyEnd, store, Tg.bind, binds, Rz.bind_ok, Rz.bind_bad, Rz.bind_exc, Rz.of, truth, cmpop, Cm.run, subsc, getS, getL, blt, isL, lmop, hd, hd2, hd3, badd, pow9, newL, ixAt, eqVal, gl2, show 2 ≤ sizeLine by decide]
    simp only [Wj] at e
    rw [e, Rz.bind_ok]
    exact cold_wl hk ho3 rfl t _
  · have hv : v = 1 ∨ v = 2 := by omega
    have key : ∃ r, Rimm r ∧ ∀ t : Hs, bodyEnd (exs (Wj (j + 1)) b21.body (start b21.ns [.ref k]) (g.set k o ++ t)) = .ok r (g.set k o1 ++ (t ++ [.lst [.tup [.str (Str.ofString "mirror")], .tup [.str (Str.ofString "round")]]])) := by
      rcases hv with rfl | rfl
      · exact ⟨_, .mirror, fun t => by simp [b21, s21_0, s21_1, s21_2, List.getElem?_cons_zero, List.getElem?_cons_succ, List.set_cons_zero, List.set_cons_succ, List.length_cons, List.length_nil, exs, ex, ev, evs, evo, evi, tst_cmp, tst_chn, tst_isi, tst_call, tst_meth, tst_blt, tst_var, tst_not, tst_and, tst_or, start, bodyEnd, store, Tg.bind, binds, Rz.bind_ok, Rz.bind_bad, Rz.bind_exc, Rz.of, truth, cmpop, Cm.run, subsc, getS, getL, blt, isL, lmop, hd, bsub, newL, ixAt, eqVal, gl2, show 2 ≤ sizeLine by decide, show 1 ≤ sizeLine by decide]⟩
      · exact ⟨_, .round, fun t => by simp [b21, s21_0, s21_1, s21_2, List.getElem?_cons_zero, List.getElem?_cons_succ, List.set_cons_zero, List.set_cons_succ, List.length_cons, List.length_nil, exs, ex, ev, evs, evo, evi, tst_cmp, tst_chn, tst_isi, tst_call, tst_meth, tst_blt, tst_var, tst_not, tst_and, tst_or, start, bodyEnd, store, Tg.bind, binds, Rz.bind_ok, Rz.bind_bad, Rz.bind_exc, Rz.of, truth, cmpop, Cm.run, subsc, getS, getL, blt, isL, lmop, hd, bsub, newL, ixAt, eqVal, gl2, show 2 ≤ sizeLine by decide, show 1 ≤ sizeLine by decide]⟩
    obtain ⟨r, hr, e⟩ := key
    refine ⟨r, o1, ho1, hr, fun t => ?_⟩
    rw [run_end db21 rfl]
    have e := e t
    simp only [Wj] at e
    rw [e, Rz.bind_ok]
    exact cold_wl hk ho1 hr.pure t _
theorem isrim (j : Nat) {r : Wv} (h : Rimm r) (hp : Hs) : C (j + 3) 4 [r] hp = .ok (.bl true) hp := by
  rw [C, run_open db4 rfl rfl]
  cases h with
  | mirror => simp [b4, s4_0, s4_1, s4_2, List.getElem?_cons_zero, List.getElem?_cons_succ, List.set_cons_zero, List.set_cons_succ, List.length_cons, List.length_nil, exs, ex, ev, evs, evo, evi, tst_cmp, tst_chn, tst_isi, tst_call, tst_meth, tst_blt, tst_var, tst_not, tst_and, tst_or, start, bodyEnd, store, Tg.bind, binds, Rz.bind_ok, Rz.bind_bad, Rz.bind_exc, Rz.of, truth, cmpop, Cm.run, subsc, getS, getL, blt, isL, lmop, Ty.has, tyOf, Ty.name, ixAt, eq_str, eq_mm, ne_mf, show 1 ≤ sizeLine by decide]
  | round => simp [b4, s4_0, s4_1, s4_2, List.getElem?_cons_zero, List.getElem?_cons_succ, List.set_cons_zero, List.set_cons_succ, List.length_cons, List.length_nil, exs, ex, ev, evs, evo, evi, tst_cmp, tst_chn, tst_isi, tst_call, tst_meth, tst_blt, tst_var, tst_not, tst_and, tst_or, start, bodyEnd, store, Tg.bind, binds, Rz.bind_ok, Rz.bind_bad, Rz.bind_exc, Rz.of, truth, cmpop, Cm.run, subsc, getS, getL, blt, isL, lmop, Ty.has, tyOf, Ty.name, ixAt, eq_str, eq_rm, eq_rr, ne_rf, show 1 ≤ sizeLine by decide]
  | fixed n h0 h1 =>
    have e := between (j := j) (h := hp) (w := .int n) (lo := 0) (hi := 1000000000) rfl
    simp only [C] at e
    simp [b4, s4_0, s4_1, s4_2, List.getElem?_cons_zero, List.getElem?_cons_succ, List.set_cons_zero, List.set_cons_succ, List.length_cons, List.length_nil, exs, ex, ev, evs, evo, evi, tst_cmp, tst_chn, tst_isi, tst_call, tst_meth, tst_blt, tst_var, tst_not, tst_and, tst_or, start, bodyEnd, store, Tg.bind, binds, Rz.bind_ok, Rz.bind_bad, Rz.bind_exc, Rz.of, truth, cmpop, Cm.run, subsc, getS, getL, blt, isL, lmop, Ty.has, tyOf, Ty.name, ixAt, eq_str, eq_int, glo1, e, btw, h0, h1]
theorem init0 (j : Nat) (h : Hs) (c : Nat) (hc : pg.fld c 2 = true) (s : Int) : C (j + 1) 5 [.ref h.length, .int s] (h ++ [.ins c []]) = .ok .non (h ++ [.ins c [(2, .int s)]]) := by
  rw [C, run_open db5 rfl rfl]
  simp [b5, s5_0, List.getElem?_cons_zero, List.getElem?_cons_succ, List.set_cons_zero, List.set_cons_succ, List.length_cons, List.length_nil, exs, ex, ev, evs, evo, evi, tst_cmp, tst_chn, tst_isi, tst_call, tst_meth, tst_blt, tst_var, tst_not, tst_and, tst_or, start, bodyEnd, store, Tg.bind, binds, Rz.bind_ok, Rz.bind_bad, Rz.bind_exc, Rz.of, truth, cmpop, Cm.run, subsc, getS, getL, blt, isL, lmop, get_last, hc, set_last, fput]
theorem init2 (j : Nat) (h : Hs) (s n : Int) : C (j + 2) 8 [.ref h.length, .int s, .int n] (h ++ [.ins 2 []]) = .ok .non (h ++ [.ins 2 [(2, .int s), (3, .int n)]]) := by
  rw [C, run_open db8 rfl rfl]
  have e := init0 j h 2 fl22 s
  simp only [C] at e
  have m0 : methOf (Wj (j + 1)) 0 0 = some 5 := by
    show (pg.cls 0).bind _ = _
    rw [cls0]; rfl
  simp only [Wj] at m0
  simp [b8, s8_0, s8_1, List.getElem?_cons_zero, List.getElem?_cons_succ, List.set_cons_zero, List.set_cons_succ, List.length_cons, List.length_nil, exs, ex, ev, evs, evo, evi, tst_cmp, tst_chn, tst_isi, tst_call, tst_meth, tst_blt, tst_var, tst_not, tst_and, tst_or, start, bodyEnd, store, Tg.bind, binds, Rz.bind_ok, Rz.bind_bad, Rz.bind_exc, Rz.of, truth, cmpop, Cm.run, subsc, getS, getL, blt, isL, lmop, m0, e, get_last, fl23, set_last, fput]
theorem rim_of (j : Nat) {r : Wv} (hr : Rimm r) (s : Int) (h : Hs) : C (j + 3) 10 [.int s, r] h = .ok (edge s r) h := by
  rw [C, run_open db10 rfl rfl]
  cases hr with
  | mirror =>
    have m := make_cold (P := Wj (j + 2)) (c := 1) (h := h) (xs := [.int s]) cls1 rfl rfl (init0 (j + 1) h 1 fl12 s) (fun rec => rfl)
    simp only [Wj] at m
    simp [b10, s10_0, s10_1, s10_2, List.getElem?_cons_zero, List.getElem?_cons_succ, List.set_cons_zero, List.set_cons_succ, List.length_cons, List.length_nil, exs, ex, ev, evs, evo, evi, tst_cmp, tst_chn, tst_isi, tst_call, tst_meth, tst_blt, tst_var, tst_not, tst_and, tst_or, start, bodyEnd, store, Tg.bind, binds, Rz.bind_ok, Rz.bind_bad, Rz.bind_exc, Rz.of, truth, cmpop, Cm.run, subsc, getS, getL, blt, isL, lmop, ixAt, eq_str, m, edge]
  | round =>
    have m := make_cold (P := Wj (j + 2)) (c := 0) (h := h) (xs := [.int s]) cls0 rfl rfl (init0 (j + 1) h 0 fl02 s) (fun rec => rfl)
    simp only [Wj] at m
    simp [b10, s10_0, s10_1, s10_2, List.getElem?_cons_zero, List.getElem?_cons_succ, List.set_cons_zero, List.set_cons_succ, List.length_cons, List.length_nil, exs, ex, ev, evs, evo, evi, tst_cmp, tst_chn, tst_isi, tst_call, tst_meth, tst_blt, tst_var, tst_not, tst_and, tst_or, start, bodyEnd, store, Tg.bind, binds, Rz.bind_ok, Rz.bind_bad, Rz.bind_exc, Rz.of, truth, cmpop, Cm.run, subsc, getS, getL, blt, isL, lmop, ixAt, eq_str, ne_rm, m, edge]
  | fixed n h0 h1 =>
    have m := make_cold (P := Wj (j + 2)) (c := 2) (h := h) (xs := [.int s, .int n]) cls2 rfl rfl (init2 j h s n) (fun rec => rfl)
    simp only [Wj] at m
    simp [b10, s10_0, s10_1, s10_2, List.getElem?_cons_zero, List.getElem?_cons_succ, List.set_cons_zero, List.set_cons_succ, List.length_cons, List.length_nil, exs, ex, ev, evs, evo, evi, tst_cmp, tst_chn, tst_isi, tst_call, tst_meth, tst_blt, tst_var, tst_not, tst_and, tst_or, start, bodyEnd, store, Tg.bind, binds, Rz.bind_ok, Rz.bind_bad, Rz.bind_exc, Rz.of, truth, cmpop, Cm.run, subsc, getS, getL, blt, isL, lmop, ixAt, eq_str, ne_fm, ne_fr, m, edge]
end SL

set_option maxRecDepth 100000
set_option maxHeartbeats 2000000
/-! Places: the grid made. -/
namespace SL
open PySem
set_option autoImplicit false
theorem betw1 (j : Nat) {s : Int} (h0 : 1 ≤ s ∧ s ≤ 9) (h : Hs) : callD pg.D pg.glo pg.cls pg.fld pg.turns (j + 2) 3 [.int s, .int 1, .int 9] h = .ok (.bl true) h := by
  have e := between (j := j) (h := h) (w := .int s) (lo := 1) (hi := 9) rfl
  simp only [C] at e
  rw [e]
  simp [btw, h0.1, h0.2]
theorem isrim' (j : Nat) {r : Wv} (h : Rimm r) (hp : Hs) : callD pg.D pg.glo pg.cls pg.fld pg.turns (j + 3) 4 [r] hp = .ok (.bl true) hp := isrim j h hp
theorem rim_of' (j : Nat) {r : Wv} (hr : Rimm r) (s : Int) (h : Hs) : callD pg.D pg.glo pg.cls pg.fld pg.turns (j + 3) 10 [.int s, r] h = .ok (edge s r) h := rim_of j hr s h
theorem chk_loop (j : Nat) {H : Hs} {a b : Nat} {sz : List Int} {rs : List Wv} (hs : SzOk sz) (hr : ∀ r ∈ rs, Rimm r) (hl : rs.length = sz.length) (ha : H[a]? = some (.lst (sz.map Wv.int))) (hb : H[b]? = some (.lst rs)) (S : Option Wv) : ∀ (m i : Nat) (p : Int) (x : Option Wv), i + m = sz.length →
    ∃ y, forL (exs (Wj (j + 3)) l11_0) (.name 4) [] (upTo (i : Int) m) [S, some (.ref a), some (.ref b), some (.int p), x, none, none] H =
      .ok (.nx [S, some (.ref a), some (.ref b), some (.int (p * prd (sz.drop i))), y, none, none]) H
  | 0, i, p, x, e => ⟨x, by
    have : i = sz.length := by omega
    subst this
    rw [List.drop_length]
    simp [upTo, forL, stay, prd]⟩
  | m + 1, i, p, x, e => by
    have hi : i < sz.length := by omega
    have hi2 : i < rs.length := by omega
    have hsi := hs.one sz[i] (List.getElem_mem hi)
    have e1 := betw1 (j + 1) hsi H
    have e2 := isrim' j (hr rs[i] (List.getElem_mem hi2)) H
    have x1 : subsc (.ref a) (.int i) H = .ok (.int sz[i]) H := by
      rw [subsc_ref ha (by rw [List.length_map]; exact hi)]; simp
    have x2 := subsc_ref hb hi2
    obtain ⟨y, ih⟩ := chk_loop j hs hr hl ha hb S m (i + 1) (p * sz[i]) (some (.int i)) (by omega)
    refine ⟨y, ?_⟩
    rw [upTo_succ]
    have hm := bmul_r (i := p) (j := sz[i]) H (by omega) (by omega)
    have hb : exs (Wj (j + 3)) l11_0 [S, some (.ref a), some (.ref b), some (.int p), some (.int i), none, none] H = .ok (.nx [S, some (.ref a), some (.ref b), some (.int (p * sz[i])), some (.int i), none, none]) H := by
      simp [s11_0, s11_1, l11_0, s11_2, s11_3, s11_4, s11_5, c11_0, s11_6, List.getElem?_cons_zero, List.getElem?_cons_succ, List.set_cons_zero, List.set_cons_succ, List.length_cons, List.length_nil, exs, ex, ev.eq_1, ev.eq_2, ev.eq_3, ev.eq_4, ev.eq_5, ev.eq_6, ev.eq_7, ev.eq_8, ev.eq_9, ev.eq_10, ev.eq_11, ev.eq_12, ev.eq_13, ev.eq_14, ev.eq_15, ev.eq_16, ev.eq_17, ev.eq_18, ev.eq_19, ev.eq_21, ev.eq_22, ev.eq_23, ev.eq_24, evs, evo, evi, tst_cmp, tst_chn, tst_isi, tst_call, tst_meth, tst_blt, tst_var, tst_not, tst_and, tst_or, start, bodyEnd, store, Tg.bind, binds, Rz.bind_ok, Rz.bind_bad, Rz.bind_exc, Rz.of, truth, cmpop, Cm.run, getS, getL, blt, isL, lmop, x1, x2, glo0, e1, e2, hm]
    rw [forL_nx rfl rfl hb]
    rw [show (i : Int) + 1 = ((i + 1 : Nat) : Int) by omega, ih, prd_drop hi, Int.mul_assoc]
def edgeW : Wv → Wv
  | .tup [.int s, r] => edge s r
  | _ => .non
end SL

set_option maxRecDepth 100000
set_option maxHeartbeats 2000000
/-! Places: the grid made. -/
namespace SL
open PySem
set_option autoImplicit false
def edges (sz : List Int) (rs : List Wv) : List Wv := (zip2 (sz.map Wv.int) rs).map edgeW
def gridV (sz : List Int) (rs : List Wv) : Wv := .ins 3 [(9, .lst (sz.map Wv.int)), (10, .lst rs), (11, .lst (edges sz rs))]
theorem getL1 (h : Hs) (o p : Ob) (t : Hs) : (h ++ o :: p :: t)[h.length + 1]? = some p := get_last3 h o p t
section
variable (j : Nat) {h : Hs} {a b : Nat} {sz : List Int} {rs : List Wv} (hs : SzOk sz) (hr : ∀ r ∈ rs, Rimm r) (hl : rs.length = sz.length) (l1 : 1 ≤ sz.length) (l3 : sz.length ≤ 3) (hp : prd sz ≤ 40) (ha : h[a]? = some (.lst (sz.map Wv.int))) (hb : h[b]? = some (.lst rs))
include hs hr hl l1 l3 hp ha hb
theorem gcomp (e : Ev) (he : e.length = 7) (h1 : e[1]? = some (some (.ref a))) (h2 : e[2]? = some (some (.ref b))) (t : Hs) : ev (Wj (j + 3)) c11_0 e (h ++ t) = .ok (.ref (h ++ t).length) ((h ++ t) ++ [.lst (edges sz rs)]) := by
    rw [c11_0, ev_comp]
    have ha' := get_app ha t
    have hb' := get_app hb t
    have q : evi (Wj (j + 3)) (.zip [(.var 1), (.var 2)]) e (h ++ t) = .ok (zip2 (sz.map Wv.int) rs, [(a, sz.map Wv.int), (b, rs)]) (h ++ t) := by
      simp [List.getElem?_cons_zero, List.getElem?_cons_succ, List.set_cons_zero, List.set_cons_succ, List.length_cons, List.length_nil, exs, ex, ev, evs, evo, evi, tst_cmp, tst_chn, tst_isi, tst_call, tst_meth, tst_blt, tst_var, tst_not, tst_and, tst_or, start, bodyEnd, store, Tg.bind, binds, Rz.bind_ok, Rz.bind_bad, Rz.bind_exc, Rz.of, truth, cmpop, Cm.run, subsc, getS, getL, blt, isL, lmop, h1, h2, srcZip, srcOf, ha', hb']
    rw [q, Rz.bind_ok]
    have cm := comp_map (turn := turnC (Wj (j + 3)) (.call 10 [(.var 5), (.var 6)]) [5, 6] (.tup [(.name 5), (.name 6)]) none e) (ck := [(a, sz.map Wv.int), (b, rs)]) (h := h ++ t) edgeW (fun acc => by simp only [stay, get_app ha' [Ob.lst acc], get_app hb' [Ob.lst acc], decide_true, Bool.and_self]) (zip2 (sz.map Wv.int) rs) [] (fun w hw acc => ?_) ?_
    · rw [List.nil_append] at cm
      exact cm
    · obtain ⟨x, r, hx, hrr, rfl⟩ := zip2_mem hw
      obtain ⟨s, hs', rfl⟩ := List.mem_map.mp hx
      obtain ⟨e0, e1, e2, e3, e4, e5, e6, rfl⟩ : ∃ e0 e1 e2 e3 e4 e5 e6, e = [e0, e1, e2, e3, e4, e5, e6] := by
        match e, he with
        | [e0, e1, e2, e3, e4, e5, e6], _ => exact ⟨_, _, _, _, _, _, _, rfl⟩
      rw [turnC_none (e' := [e0, e1, e2, e3, e4, some (.int s), some r]) (by rfl)]
      simp only [ev, evs, List.getElem?_cons_zero, List.getElem?_cons_succ, Rz.bind_ok, rim_of' j (hr r hrr) s]
      all_goals rfl
    · have zl := line4
      rw [zip2_length, List.length_map]
      simp
      omega
theorem ginit : C (j + 4) 11 [.ref h.length, .ref a, .ref b] (h ++ [.ins 3 []]) = .ok .non (h ++ [.ins 3 [(9, .ref (h.length + 1)), (10, .ref (h.length + 2)), (11, .ref (h.length + 3))], .lst (sz.map Wv.int), .lst rs, .lst (edges sz rs)]) := by
  rw [C, run_open db11 rfl rfl]
  have zl := line4
  have zs : (sz.map Wv.int).length ≤ sizeLine := by rw [List.length_map]; omega
  have zr : rs.length ≤ sizeLine := by omega
  have a1 : (1 : Int) ≤ (sz.length : Int) := by omega
  have a2 : (sz.length : Int) ≤ 3 := by omega
  have A : ∀ t : Hs, (h ++ t)[a]? = some (.lst (sz.map Wv.int)) := fun t => get_app ha t
  have B : ∀ t : Hs, (h ++ t)[b]? = some (.lst rs) := fun t => get_app hb t
  let E : Option Wv → Option Wv → Ev := fun x y => [some (.ref h.length), some (.ref a), some (.ref b), x, y, none, none]
  have q0 : ex (Wj (j + 3)) s11_0 (E none none) (h ++ [.ins 3 []]) = .ok (.nx (E none none)) (h ++ [.ins 3 []]) := by
    simp [s11_0, List.getElem?_cons_zero, List.getElem?_cons_succ, List.set_cons_zero, List.set_cons_succ, List.length_cons, List.length_nil, exs, ex, ev, evs, evo, evi, tst_cmp, tst_chn, tst_isi, tst_call, tst_meth, tst_blt, tst_var, tst_not, tst_and, tst_or, start, bodyEnd, store, Tg.bind, binds, Rz.bind_ok, Rz.bind_bad, Rz.bind_exc, Rz.of, truth, cmpop, Cm.run, subsc, getS, getL, blt, isL, lmop, E, A, B, glo2, eq_int, hl, a1, a2]
  have q1 : ex (Wj (j + 3)) s11_1 (E none none) (h ++ [.ins 3 []]) = .ok (.nx (E (some (.int 1)) none)) (h ++ [.ins 3 []]) := by
    simp [s11_1, List.getElem?_cons_zero, List.getElem?_cons_succ, List.set_cons_zero, List.set_cons_succ, List.length_cons, List.length_nil, exs, ex, ev, evs, evo, evi, tst_cmp, tst_chn, tst_isi, tst_call, tst_meth, tst_blt, tst_var, tst_not, tst_and, tst_or, start, bodyEnd, store, Tg.bind, binds, Rz.bind_ok, Rz.bind_bad, Rz.bind_exc, Rz.of, truth, cmpop, Cm.run, subsc, getS, getL, blt, isL, lmop, E]
  obtain ⟨y, lp⟩ := chk_loop j hs hr hl (A [.ins 3 []]) (B [.ins 3 []]) (some (.ref h.length)) sz.length 0 1 none (by omega)
  rw [List.drop_zero, Int.one_mul] at lp
  have q2 : ex (Wj (j + 3)) s11_2 (E (some (.int 1)) none) (h ++ [.ins 3 []]) = .ok (.nx (E (some (.int (prd sz))) y)) (h ++ [.ins 3 []]) := by
    rw [s11_2, ex]
    have q : evi (Wj (j + 3)) (.rng [(.blt .len [(.var 1)])]) (E (some (.int 1)) none) (h ++ [.ins 3 []]) = .ok (upTo 0 sz.length, []) (h ++ [.ins 3 []]) := by
      have e1 : evs (Wj (j + 3)) [(.blt .len [(.var 1)])] (E (some (.int 1)) none) (h ++ [.ins 3 []]) = .ok [.int sz.length] (h ++ [.ins 3 []]) := by
        simp [List.getElem?_cons_zero, List.getElem?_cons_succ, List.set_cons_zero, List.set_cons_succ, List.length_cons, List.length_nil, exs, ex, ev, evs, evo, evi, tst_cmp, tst_chn, tst_isi, tst_call, tst_meth, tst_blt, tst_var, tst_not, tst_and, tst_or, start, bodyEnd, store, Tg.bind, binds, Rz.bind_ok, Rz.bind_bad, Rz.bind_exc, Rz.of, truth, cmpop, Cm.run, subsc, getS, getL, blt, isL, lmop, E, A]
      rw [evi, e1, Rz.bind_ok, range1 (by omega), Int.toNat_natCast, Rz.of_some]
    rw [q, Rz.bind_ok]
    exact lp
  have q3 : ex (Wj (j + 3)) s11_3 (E (some (.int (prd sz))) y) (h ++ [.ins 3 []]) = .ok (.nx (E (some (.int (prd sz))) y)) (h ++ [.ins 3 []]) := by
    have c : ¬ 40 < prd sz := by omega
    simp [s11_3, List.getElem?_cons_zero, List.getElem?_cons_succ, List.set_cons_zero, List.set_cons_succ, List.length_cons, List.length_nil, exs, ex, ev, evs, evo, evi, tst_cmp, tst_chn, tst_isi, tst_call, tst_meth, tst_blt, tst_var, tst_not, tst_and, tst_or, start, bodyEnd, store, Tg.bind, binds, Rz.bind_ok, Rz.bind_bad, Rz.bind_exc, Rz.of, truth, cmpop, Cm.run, subsc, getS, getL, blt, isL, lmop, E, glo3, c]
  rw [List.length_map] at zs
  have q4 : ex (Wj (j + 3)) s11_4 (E (some (.int (prd sz))) y) (h ++ [.ins 3 []]) = .ok (.nx (E (some (.int (prd sz))) y)) (h ++ [.ins 3 [(9, .ref (h.length + 1))], .lst (sz.map Wv.int)]) := by
    simp [s11_4, List.getElem?_cons_zero, List.getElem?_cons_succ, List.set_cons_zero, List.set_cons_succ, List.length_cons, List.length_nil, exs, ex, ev, evs, evo, evi, tst_cmp, tst_chn, tst_isi, tst_call, tst_meth, tst_blt, tst_var, tst_not, tst_and, tst_or, start, bodyEnd, store, Tg.bind, binds, Rz.bind_ok, Rz.bind_bad, Rz.bind_exc, Rz.of, truth, cmpop, Cm.run, subsc, getS, getL, blt, isL, lmop, E, A, newL, zs, get_last2, set_last2, fl39, fput]
  have q5 : ex (Wj (j + 3)) s11_5 (E (some (.int (prd sz))) y) (h ++ [.ins 3 [(9, .ref (h.length + 1))], .lst (sz.map Wv.int)]) = .ok (.nx (E (some (.int (prd sz))) y)) (h ++ [.ins 3 [(9, .ref (h.length + 1)), (10, .ref (h.length + 2))], .lst (sz.map Wv.int), .lst rs]) := by
    simp [s11_5, List.getElem?_cons_zero, List.getElem?_cons_succ, List.set_cons_zero, List.set_cons_succ, List.length_cons, List.length_nil, exs, ex, ev, evs, evo, evi, tst_cmp, tst_chn, tst_isi, tst_call, tst_meth, tst_blt, tst_var, tst_not, tst_and, tst_or, start, bodyEnd, store, Tg.bind, binds, Rz.bind_ok, Rz.bind_bad, Rz.bind_exc, Rz.of, truth, cmpop, Cm.run, subsc, getS, getL, blt, isL, lmop, E, B, newL, zr, get_last2, set_last2, fl310, fput]
  have q6 : ex (Wj (j + 3)) s11_6 (E (some (.int (prd sz))) y) (h ++ [.ins 3 [(9, .ref (h.length + 1)), (10, .ref (h.length + 2))], .lst (sz.map Wv.int), .lst rs]) =
      .ok (.nx (E (some (.int (prd sz))) y)) (h ++ [.ins 3 [(9, .ref (h.length + 1)), (10, .ref (h.length + 2)), (11, .ref (h.length + 3))], .lst (sz.map Wv.int), .lst rs, .lst (edges sz rs)]) := by
    have c := gcomp j hs hr hl l1 l3 hp ha hb (E (some (.int (prd sz))) y) rfl rfl rfl [.ins 3 [(9, .ref (h.length + 1)), (10, .ref (h.length + 2))], .lst (sz.map Wv.int), .lst rs]
    rw [s11_6, ex, c, Rz.bind_ok]
    simp [store, ev, E, get_last2, set_last2, fl311, fput]
  show bodyEnd (exs (Wj (j + 3)) [s11_0, s11_1, s11_2, s11_3, s11_4, s11_5, s11_6] (E none none) _) = _
  rw [exs_nx q0, exs_nx q1, exs_nx q2, exs_nx q3, exs_nx q4, exs_nx q5, exs_nx q6, exs]
  simp only [bodyEnd, Rz.bind_ok]
theorem gmake : make (Wj (j + 4)) 3 [.ref a, .ref b] h = .ok (gridV sz rs) h := by
  have q := ginit j hs hr hl l1 l3 hp ha hb
  unfold make
  simp only [C] at q
  simp only [Wj, cls3]
  rw [q]
  simp only [Rz.bind_ok, if_true]
  unfold ended
  have pz : ∀ rec : Nat → Option Wv, frzs rec (sz.map Wv.int) = some (sz.map Wv.int) := fun rec => pures_frz rec (pures_of fun w hw => by
    obtain ⟨s, _, rfl⟩ := List.mem_map.mp hw
    rfl)
  have pr : ∀ rec : Nat → Option Wv, frzs rec rs = some rs := fun rec => pures_frz rec (pures_of fun w hw => (hr w hw).pure)
  have pe : ∀ rec : Nat → Option Wv, frzs rec (edges sz rs) = some (edges sz rs) := fun rec => frzs_id fun w hw => by
    obtain ⟨z, hz, rfl⟩ := List.mem_map.mp hw
    obtain ⟨x, r, hx, hrr, rfl⟩ := zip2_mem hz
    obtain ⟨s, hs', rfl⟩ := List.mem_map.mp hx
    exact edge_frz (hr r hrr) s rec
  have g0 : ∀ (o : Ob) (t : Hs), (h ++ o :: t)[h.length]? = some o := fun o t => get_last2 h o t
  have g1 : ∀ (o p : Ob) (t : Hs), (h ++ o :: p :: t)[h.length + 1]? = some p := fun o p t => get_last3 h o p t
  have g2 : ∀ (o p q : Ob) (t : Hs), (h ++ o :: p :: q :: t)[h.length + 2]? = some q := fun o p q t => by
    rw [List.getElem?_append_right (by omega), Nat.add_sub_cancel_left]; rfl
  have g3 : ∀ (o p q r : Ob) (t : Hs), (h ++ o :: p :: q :: r :: t)[h.length + 3]? = some r := fun o p q r t => by
    rw [List.getElem?_append_right (by omega), Nat.add_sub_cancel_left]; rfl
  have e : frzW (h ++ [.ins 3 [(9, .ref (h.length + 1)), (10, .ref (h.length + 2)), (11, .ref (h.length + 3))], .lst (sz.map Wv.int), .lst rs, .lst (edges sz rs)]) (fun k => decide (k < h.length)) (.ref h.length) = some (gridV sz rs) := by
    unfold frzW
    rw [Wv.frz, deepest, frzC]
    simp [frzf, Wv.frz, frzC, pz, pr, pe, gridV, g0, g1, g2, g3, show ¬ h.length + 1 < h.length by omega, show ¬ h.length + 2 < h.length by omega, show ¬ h.length + 3 < h.length by omega]
  simp only [e]
  rw [take_app, if_pos]
  exact ⟨by simp, shut_refl _ _⟩
end
end SL

set_option maxRecDepth 100000
set_option maxHeartbeats 2000000
/-! Places: which things are places. -/
namespace SL
open PySem
set_option autoImplicit false
theorem between' (j : Nat) {w : Wv} (hw : w.pl = true) (lo hi : Int) (h : Hs) : callD pg.D pg.glo pg.cls pg.fld pg.turns (j + 2) 3 [w, .int lo, .int hi] h = .ok (.bl (btw w lo hi)) h := between hw
theorem getG (h : Hs) (sz : List Int) (rs : List Wv) : getI h (gridV sz rs) = some (3, [(9, .lst (sz.map Wv.int)), (10, .lst rs), (11, .lst (edges sz rs))]) := rfl
theorem att9 (j : Nat) (sz : List Int) (rs : List Wv) (i : Nat) (e : Ev) (h : Hs) (he : e[i]? = some (some (gridV sz rs))) : ev (Wj j) (.att (.var i) 9) e h = .ok (.lst (sz.map Wv.int)) h := by
  simp only [ev, he, Rz.bind_ok, getG, fl39, if_true]
  rfl
end SL

set_option maxRecDepth 100000
set_option maxHeartbeats 2000000
/-! Places: all of them. -/
namespace SL
open PySem
set_option autoImplicit false
def cp12 : Ex := .comp (.bin .add (.var 4) (.tup [(.var 5)])) [5] (.name 5) (.rng [(.var 2)]) none
theorem comp12 (j : Nat) {p : List Int} {s : Int} (hs : 1 ≤ s ∧ s ≤ 9) (hp : p.length ≤ 9) (G A B : Option Wv) (x5 : Option Wv) (g : Hs) : ev (Wj j) cp12 [G, A, some (.int s), B, some (tp p), x5] g = .ok (.ref g.length) (g ++ [.lst ((plE p s.toNat).map tp)]) := by
  have zl := line60
  rw [cp12, ev_comp]
  have e1 : evs (Wj j) [(.var 2)] [G, A, some (.int s), B, some (tp p), x5] g = .ok [.int s] g := by simp [ev, evs]
  have e2 : srcRange [.int s] = some (upTo 0 s.toNat, []) := by rw [srcRange, if_pos (small9 hs)]
  have q : evi (Wj j) (.rng [(.var 2)]) [G, A, some (.int s), B, some (tp p), x5] g = .ok (upTo 0 s.toNat, []) g := by rw [evi, e1, Rz.bind_ok, e2, Rz.of_some]
  rw [q, Rz.bind_ok]
  have c := comp_map (turn := turnC (Wj j) (.bin .add (.var 4) (.tup [(.var 5)])) [5] (.name 5) none [G, A, some (.int s), B, some (tp p), x5]) (ck := []) (h := g) (addI p) (fun acc => rfl) (upTo 0 s.toNat) [] (fun w hw acc => ?_) ?_
  · rw [addI_upTo] at c
    exact c
  · obtain ⟨i, _, rfl⟩ := List.mem_map.mp hw
    rw [turnC_none (e' := [G, A, some (.int s), B, some (tp p), some (.int (0 + (i : Nat)))]) (by rfl)]
    have e3 : binop .add (tp p) (.tup [.int (0 + (i : Nat))]) (g ++ [.lst acc]) = .ok (.tup (p.map Wv.int ++ [.int (0 + (i : Nat))])) (g ++ [.lst acc]) := btup _ (by simp; omega)
    have z1 : 1 ≤ sizeLine := by omega
    simp [ev, evs, e3, z1, addI]
    simp only [Int.zero_add] at e3
    rw [e3]
    rfl
  · rw [upTo_length]
    simp
    omega
def bd12i : List Sm := [.exp (.lm .extend (.var 3) [cp12])]
theorem in_loop (j : Nat) {h : Hs} {a b : Nat} {s : Int} (G : Option Wv) {items : List Wv} (hs : 1 ≤ s ∧ s ≤ 9) (hb : h.length ≤ b) (hab : a ≠ b) : ∀ (ps done : List (List Int)) (g : Hs) (x4 x5 : Option Wv), (∀ p ∈ ps, p.length ≤ 9) → g[a]? = some (.lst items) → g[b]? = some (.lst (done.map tp)) → h <+: g →
    done.length + (plF ps s).length ≤ sizeLine → ∃ g' y4 y5, forL (exs (Wj j) bd12i) (.name 4) [(a, items)] (ps.map tp) [G, some (.ref a), some (.int s), some (.ref b), x4, x5] g = .ok (.nx [G, some (.ref a), some (.int s), some (.ref b), y4, y5]) g' ∧ g'[b]? = some (.lst ((done ++ plF ps s).map tp)) ∧ h <+: g'
  | [], done, g, x4, x5, _, ha, hbb, hp, _ => ⟨g, x4, x5, by simp [forL, stay, ha], by simpa [plF] using hbb, hp⟩
  | p :: ps, done, g, x4, x5, hl, ha, hbb, hp, hz => by
    have hz' : done.length + ((plE p s.toNat).length + (plF ps s).length) ≤ sizeLine := by simpa [plF] using hz
    have c := comp12 j hs (hl p List.mem_cons_self) G (some (.ref a)) (some (.ref b)) x5 g
    have hb2 := get_app hbb [Ob.lst ((plE p s.toNat).map tp)]
    have bl : b < g.length := (List.getElem?_eq_some_iff.mp hbb).1
    have e : exs (Wj j) bd12i [G, some (.ref a), some (.int s), some (.ref b), some (tp p), x5] g = .ok (.nx [G, some (.ref a), some (.int s), some (.ref b), some (tp p), x5]) ((g ++ [Ob.lst ((plE p s.toNat).map tp)]).set b (.lst (done.map tp ++ (plE p s.toNat).map tp))) := by
      have z : done.length + (plE p s.toNat).length ≤ sizeLine := by omega
      have q : ex (Wj j) (.exp (.lm .extend (.var 3) [cp12])) [G, some (.ref a), some (.int s), some (.ref b), some (tp p), x5] g = .ok (.nx [G, some (.ref a), some (.int s), some (.ref b), some (tp p), x5]) ((g ++ [Ob.lst ((plE p s.toNat).map tp)]).set b (.lst (done.map tp ++ (plE p s.toNat).map tp))) := by
        have l : ∀ P : Wd, ∀ x e hh, ev P (.lm .extend (.var 3) [x]) e hh = (ev P (.var 3) e hh).bind fun r h1 => if isL h1 r = true then (ev P x e h1).bind fun w h2 => lmop .extend r [w] h2 else .bad := fun P x e hh => by
          simp only [ev, evs, Rz.bind_assoc, Rz.bind_ok]
        rw [ex, l]
        have v : ev (Wj j) (.var 3) [G, some (.ref a), some (.int s), some (.ref b), some (tp p), x5] g = .ok (.ref b) g := by simp [ev]
        rw [v, Rz.bind_ok]
        have il : isL g (.ref b) = true := by simp [isL, hbb]
        rw [if_pos il, c, Rz.bind_ok]
        simp only [lmop, hb2, get_last, List.length_map, z, if_true, Rz.bind_ok]
      rw [bd12i, exs_nx q]
      rfl
    have st : stay g [(a, items)] = true := by simp [stay, ha]
    obtain ⟨g', y4, y5, f, f2, f3⟩ := in_loop j G hs hb hab ps (done ++ plE p s.toNat) ((g ++ [Ob.lst ((plE p s.toNat).map tp)]).set b (.lst (done.map tp ++ (plE p s.toNat).map tp))) (some (tp p)) x5 (fun q hq => hl q (List.mem_cons_of_mem _ hq))
      (by rw [List.getElem?_set_ne (Ne.symm hab)]; exact get_app ha _) (by rw [List.map_append]; exact List.getElem?_set_self (by simp; omega)) (pre_set (pre_app hp _) hb) (by simp; omega)
    refine ⟨g', y4, y5, ?_, ?_, f3⟩
    · rw [List.map_cons, forL_nx st rfl e]
      exact f
    · rw [f2]
      simp [plF]
end SL

set_option maxRecDepth 100000
set_option maxHeartbeats 2000000
/-! Places: all of them, the law's own. -/
namespace SL
open PySem
set_option autoImplicit false
def bd12 : List Sm := [.asg (.tg (.name 3)) (.lst []), .for (.name 4) (.seq (.var 1)) bd12i, .asg (.tg (.name 1)) (.var 3)]
theorem out_loop (j : Nat) {h : Hs} (G : Option Wv) : ∀ (sz : List Int) (acc : List (List Int)) (g : Hs) (a : Nat) (x2 x3 x4 x5 : Option Wv), SzOk sz → (acc.length : Int) * prd sz ≤ 40 → (∀ p ∈ acc, p.length + sz.length ≤ 9) → h.length ≤ a → g[a]? = some (.lst (acc.map tp)) → h <+: g →
    ∃ g' a' y2 y3 y4 y5, forL (exs (Wj j) bd12) (.name 2) [] (sz.map Wv.int) [G, some (.ref a), x2, x3, x4, x5] g = .ok (.nx [G, some (.ref a'), y2, y3, y4, y5]) g' ∧ h.length ≤ a' ∧ g'[a']? = some (.lst ((sz.foldl plF acc).map tp)) ∧ h <+: g'
  | [], acc, g, a, x2, x3, x4, x5, _, _, _, ha, hg, hp => ⟨g, a, x2, x3, x4, x5, by simp [forL, stay], ha, hg, hp⟩
  | s :: sz, acc, g, a, x2, x3, x4, x5, hs, hm, hl, ha, hg, hp => by
    have hs1 := hs.one s List.mem_cons_self
    have hs2 : SzOk sz := ⟨fun t ht => hs.one t (List.mem_cons_of_mem _ ht)⟩
    have zl := line60
    have pp := prd_pos hs2
    have e1 : ((plF acc s).length : Int) = (acc.length : Int) * s := by
      rw [plF_length, Int.natCast_mul, Int.toNat_of_nonneg (by omega)]
    have e2 : ((plF acc s).length : Int) * prd sz ≤ 40 := by
      rw [e1, Int.mul_assoc]; exact hm
    have e3 : ((plF acc s).length : Int) ≤ 40 := by
      have : ((plF acc s).length : Int) * 1 ≤ ((plF acc s).length : Int) * prd sz := Int.mul_le_mul_of_nonneg_left pp (by omega)
      omega
    have al : a < g.length := (List.getElem?_eq_some_iff.mp hg).1
    have hlen : h.length ≤ g.length := hp.length_le
    obtain ⟨g1, y4, y5, f1, f2, f3⟩ := in_loop j (h := h) (a := a) (b := g.length) (s := s) G (items := acc.map tp) hs1 hlen (by omega) acc [] (g ++ [Ob.lst []]) x4 x5 (fun p hp => by have := hl p hp; simp at this; omega) (get_app hg _) (get_last _ _) (pre_app hp _) (by simp; omega)
    have q1 : ex (Wj j) (.asg (.tg (.name 3)) (.lst [])) [G, some (.ref a), some (.int s), x3, x4, x5] g = .ok (.nx [G, some (.ref a), some (.int s), some (.ref g.length), x4, x5]) (g ++ [Ob.lst []]) := by
      simp [ex, ev, evs, newL, store, Tg.bind]
    have q2 : ex (Wj j) (.for (.name 4) (.seq (.var 1)) bd12i) [G, some (.ref a), some (.int s), some (.ref g.length), x4, x5] (g ++ [Ob.lst []]) = .ok (.nx [G, some (.ref a), some (.int s), some (.ref g.length), y4, y5]) g1 := by
      rw [ex]
      have q : evi (Wj j) (.seq (.var 1)) [G, some (.ref a), some (.int s), some (.ref g.length), x4, x5] (g ++ [Ob.lst []]) = .ok (acc.map tp, [(a, acc.map tp)]) (g ++ [Ob.lst []]) := by
        rw [evi]
        simp [ev, srcOf, getL, get_app hg [Ob.lst []]]
      rw [q, Rz.bind_ok]
      exact f1
    have q3 : ex (Wj j) (.asg (.tg (.name 1)) (.var 3)) [G, some (.ref a), some (.int s), some (.ref g.length), y4, y5] g1 = .ok (.nx [G, some (.ref g.length), some (.int s), some (.ref g.length), y4, y5]) g1 := by
      simp [ex, ev, store, Tg.bind]
    have b : exs (Wj j) bd12 [G, some (.ref a), some (.int s), x3, x4, x5] g = .ok (.nx [G, some (.ref g.length), some (.int s), some (.ref g.length), y4, y5]) g1 := by
      rw [bd12, exs_nx q1, exs_nx q2, exs_nx q3]
      rfl
    obtain ⟨g', a', z2, z3, z4, z5, k1, k2, k3, k4⟩ := out_loop j G sz (plF acc s) g1 g.length (some (.int s)) (some (.ref g.length)) y4 y5 hs2 e2 (fun q hq => by
      obtain ⟨p, hp, e⟩ := plF_mem hq
      have := hl p hp
      simp at this
      omega) hlen (by simpa using f2) f3
    refine ⟨g', a', z2, z3, z4, z5, ?_, k2, k3, k4⟩
    rw [List.map_cons, forL_nx rfl rfl b]
    exact k1
theorem all_places (j : Nat) {sz : List Int} {rs : List Wv} (hs : SzOk sz) (l3 : sz.length ≤ 3) (hp : prd sz ≤ 40) (h : Hs) : C (j + 1) 14 [gridV sz rs] h = .ok (.ref h.length) (h ++ [.lst ((plc sz).map tp)]) := by
  rw [C, run_end db14 rfl]
  have z1 : 1 ≤ sizeLine := by have := line60; omega
  have q1 : ex (Wj j) (.asg (.tg (.name 1)) (.lst [(.tup [])])) [some (gridV sz rs), none, none, none, none, none] h = .ok (.nx [some (gridV sz rs), some (.ref h.length), none, none, none, none]) (h ++ [Ob.lst [.tup []]]) := by
    simp [ex, ev, evs, newL, store, Tg.bind, z1]
  obtain ⟨g', a', y2, y3, y4, y5, k1, k2, k3, k4⟩ := out_loop j (h := h) (some (gridV sz rs)) sz [[]] (h ++ [Ob.lst [.tup []]]) h.length none none none none hs (by simpa using hp) (by simp; omega) (Nat.le_refl _) (get_last _ _) (List.prefix_append _ _)
  have q2 : ex (Wj j) (.for (.name 2) (.seq (.att (.var 0) 9)) bd12) [some (gridV sz rs), some (.ref h.length), none, none, none, none] (h ++ [Ob.lst [.tup []]]) = .ok (.nx [some (gridV sz rs), some (.ref a'), y2, y3, y4, y5]) g' := by
    rw [ex]
    have q : evi (Wj j) (.seq (.att (.var 0) 9)) [some (gridV sz rs), some (.ref h.length), none, none, none, none] (h ++ [Ob.lst [.tup []]]) = .ok (sz.map Wv.int, []) (h ++ [Ob.lst [.tup []]]) := by
      rw [evi]
      simp [ev, getG, fl39, fget, srcOf, getS, getL]
    rw [q, Rz.bind_ok]
    exact k1
  have q3 : ex (Wj j) (.ret (.var 1)) [some (gridV sz rs), some (.ref a'), y2, y3, y4, y5] g' = .ok (.ret (.ref a')) g' := by simp [ex, ev]
  have e : bodyEnd (exs (Wj j) b14.body (start b14.ns [gridV sz rs]) h) = .ok (.ref a') g' := by
    simp only [b14, s14_0, c14_0, l14_0, l14_1, s14_1, s14_2]
    show bodyEnd (exs (Wj j) _ [some (gridV sz rs), none, none, none, none, none] h) = _
    simp only [bd12, bd12i, cp12] at q2
    rw [exs_nx q1, exs_nx q2, exs_ret q3]
    rfl
  simp only [Wj] at e
  rw [e, Rz.bind_ok]
  exact fresh_end k2 k3 (tps_pure _) k4
end SL

set_option maxRecDepth 100000
set_option maxHeartbeats 2000000
/-! Odd sizes, odd rims. -/
namespace SL
open PySem
set_option autoImplicit false
def okS (w : Wv) : Bool := btw w 1 9
def okR : Wv → Bool
  | .tup [.str x] => decide (x = Str.ofString "mirror") || decide (x = Str.ofString "round")
  | .tup [.str x, .int n] => decide (x = Str.ofString "fixed") && (decide (0 ≤ n) && decide (n ≤ 1000000000))
  | _ => false
theorem okR_rimm {r : Wv} (h : okR r = true) : Rimm r := by
  unfold okR at h
  split at h
  · simp only [Bool.or_eq_true, decide_eq_true_eq] at h
    rcases h with rfl | rfl
    · exact .mirror
    · exact .round
  · simp only [Bool.and_eq_true, decide_eq_true_eq] at h
    obtain ⟨rfl, h1, h2⟩ := h
    exact .fixed _ h1 h2
  · cases h
/-- a size that is handed in -/
structure SzE (w : Wv) : Prop where
  pl : w.pl = true
  pb : w.pb 3 = true
/-- a rim that is handed in: the program and the law ask the same of it -/
structure RimE (r : Wv) : Prop where
  pb : r.pb 3 = true
  is : ∀ (j : Nat) (h : Hs), callD pg.D pg.glo pg.cls pg.fld pg.turns (j + 3) 4 [r] h = .ok (.bl (okR r)) h
  good : ∀ (j : Nat) (h : Hs), callD pg.D pg.glo pg.cls pg.fld pg.turns (j + 1) 24 [r] h = .ok (.bl (okR r)) h
theorem eq_t (h : Hs) {a b : List Wv} (ha : nbs a 2 = true) (hb : nbs b 2 = true) : eqVal h (.tup a) (.tup b) = some (decide (a = b)) := by
  have := eqVal_nb (h := h) (x := .tup a) (y := .tup b) (n := 3) (m := 3) (Fz.nb (n := 3) (by rw [Wv.nb]; exact ha)) (Fz.nb (n := 3) (by rw [Wv.nb]; exact hb)) (by rw [Wv.nb]; exact ha) (by rw [Wv.nb]; exact hb) (by decide)
  rw [this]
  simp
theorem Rimm.rimE {r : Wv} (hr : Rimm r) : RimE r := by
  cases hr with
  | mirror =>
    refine ⟨rfl, fun j h => ?_, fun j h => ?_⟩
    · rw [isrim' j .mirror h]; rfl
    · rw [run_open db24 rfl rfl]
      simp [b24, s24_0, s24_1, s24_2, List.getElem?_cons_zero, List.getElem?_cons_succ, List.set_cons_zero, List.set_cons_succ, List.length_cons, List.length_nil, exs, ex, ev, evs, evo, evi, tst_cmp, tst_chn, tst_isi, tst_call, tst_meth, tst_blt, tst_var, tst_not, tst_and, tst_or, start, bodyEnd, store, Tg.bind, binds, Rz.bind_ok, Rz.bind_bad, Rz.bind_exc, Rz.of, truth, cmpop, Cm.run, subsc, getS, getL, blt, isL, lmop, eq_mm, okR, show 1 ≤ sizeLine by decide]
  | round =>
    refine ⟨rfl, fun j h => ?_, fun j h => ?_⟩
    · rw [isrim' j .round h]
      rfl
    · rw [run_open db24 rfl rfl]
      simp [b24, s24_0, s24_1, s24_2, List.getElem?_cons_zero, List.getElem?_cons_succ, List.set_cons_zero, List.set_cons_succ, List.length_cons, List.length_nil, exs, ex, ev, evs, evo, evi, tst_cmp, tst_chn, tst_isi, tst_call, tst_meth, tst_blt, tst_var, tst_not, tst_and, tst_or, start, bodyEnd, store, Tg.bind, binds, Rz.bind_ok, Rz.bind_bad, Rz.bind_exc, Rz.of, truth, cmpop, Cm.run, subsc, getS, getL, blt, isL, lmop, eq_rm, eq_rr, okR, show 1 ≤ sizeLine by decide]
  | fixed n h0 h1 =>
    have ok : okR (.tup [.str (Str.ofString "fixed"), .int n]) = true := by simp [okR, h0, h1]
    refine ⟨rfl, fun j h => ?_, fun j h => ?_⟩
    · rw [isrim' j (.fixed n h0 h1) h, ok]
    · rw [run_open db24 rfl rfl, ok]
      have e1 : eqVal h (.tup [.str (Str.ofString "fixed"), .int n]) (.tup [.str (Str.ofString "mirror")]) = some false := by rw [eq_t h rfl rfl]; simp
      have e2 : eqVal h (.tup [.str (Str.ofString "fixed"), .int n]) (.tup [.str (Str.ofString "round")]) = some false := by rw [eq_t h rfl rfl]; simp
      simp [b24, s24_0, s24_1, s24_2, List.getElem?_cons_zero, List.getElem?_cons_succ, List.set_cons_zero, List.set_cons_succ, List.length_cons, List.length_nil, exs, ex, ev, evs, evo, evi, tst_cmp, tst_chn, tst_isi, tst_call, tst_meth, tst_blt, tst_var, tst_not, tst_and, tst_or, start, bodyEnd, store, Tg.bind, binds, Rz.bind_ok, Rz.bind_bad, Rz.bind_exc, Rz.of, truth, cmpop, Cm.run, subsc, getS, getL, blt, isL, lmop, e1, e2, Ty.has, tyOf, Ty.name, ixAt, eq_str, eq_int, pow9, h0, h1, show 1 ≤ sizeLine by decide]
/-- no tuple -/
theorem rimE_no {r : Wv} (hp : r.pb 3 = true) (hl : r.pl = true) (hn : ∀ ws, r ≠ .tup ws) (h1 : ∀ h, eqVal h r (.tup [.str (Str.ofString "mirror")]) = some false) (h2 : ∀ h, eqVal h r (.tup [.str (Str.ofString "round")]) = some false) : RimE r := by
  have ok : okR r = false := by
    cases r <;> first | rfl | exact absurd rfl (hn _)
  refine ⟨hp, fun j h => ?_, fun j h => ?_⟩
  · rw [run_open db4 rfl rfl, ok]
    simp [b4, s4_0, s4_1, s4_2, List.getElem?_cons_zero, List.getElem?_cons_succ, List.set_cons_zero, List.set_cons_succ, List.length_cons, List.length_nil, exs, ex, ev, evs, evo, evi, tst_cmp, tst_chn, tst_isi, tst_call, tst_meth, tst_blt, tst_var, tst_not, tst_and, tst_or, start, bodyEnd, store, Tg.bind, binds, Rz.bind_ok, Rz.bind_bad, Rz.bind_exc, Rz.of, truth, cmpop, Cm.run, subsc, getS, getL, blt, isL, lmop, notTup h hl hn]
  · rw [run_open db24 rfl rfl, ok]
    simp [b24, s24_0, s24_1, s24_2, List.getElem?_cons_zero, List.getElem?_cons_succ, List.set_cons_zero, List.set_cons_succ, List.length_cons, List.length_nil, exs, ex, ev, evs, evo, evi, tst_cmp, tst_chn, tst_isi, tst_call, tst_meth, tst_blt, tst_var, tst_not, tst_and, tst_or, start, bodyEnd, store, Tg.bind, binds, Rz.bind_ok, Rz.bind_bad, Rz.bind_exc, Rz.of, truth, cmpop, Cm.run, subsc, getS, getL, blt, isL, lmop, h1, h2, notTup h hl hn, show 1 ≤ sizeLine by decide]
theorem rimE_t {a : List Wv} (hp : pbs a 2 = true) (ok : okR (.tup a) = false) (is : ∀ (j : Nat) (h : Hs), callD pg.D pg.glo pg.cls pg.fld pg.turns (j + 3) 4 [.tup a] h = .ok (.bl false) h) (good : ∀ (j : Nat) (h : Hs), callD pg.D pg.glo pg.cls pg.fld pg.turns (j + 1) 24 [.tup a] h = .ok (.bl false) h) : RimE (.tup a) :=
  ⟨by rw [Wv.pb]; exact hp, fun j h => by rw [ok]; exact is j h, fun j h => by rw [ok]; exact good j h⟩
abbrev sF : Wv := .str (Str.ofString "fixed")
abbrev sM : Wv := .str (Str.ofString "mirror")
abbrev sR : Wv := .str (Str.ofString "round")
/-- a tuple that begins with another word, or is too long -/
theorem eqF (h : Hs) (x : Str) (b : List Wv) (y : Str) (hb : pbs b 2 = true) (hne : b ≠ [] ∨ x ≠ y) : eqVal h (.tup (.str x :: b)) (.tup [.str y]) = some false := by
  show (match datum h (.tup (.str x :: b)), datum h (.tup [.str y]) with
      | some d, some e => if (shal d || shal e) = true then some (PyData.eqv d e) else none
      | _, _ => none) = _
  have h1 : (Wv.tup (.str x :: b)).pb 3 = true := by rw [Wv.pb, pbs, hb]; rfl
  rw [(Fz.pure (pb_pure h1)).datum, (Fz.pure (h := h) (w := .tup [.str y]) rfl).datum]
  obtain ⟨ds, e, _, _⟩ := pbs_toD hb
  have e2 : (Wv.tup [.str y]).toD = some (.tuple [.str y]) := rfl
  have e3 : (Wv.tup (.str x :: b)).toD = some (.tuple (.str x :: ds)) := by rw [Wv.toD, toDs, e]; rfl
  have sh := pb_shal (n := 3) h1 (by decide) e3
  rw [e2, e3]
  simp only [sh, Bool.true_or, if_true]
  rw [PyData.eqv, PyData.eqvAll, PyData.eqv]
  rcases hne with hb' | hx
  · cases b with
    | nil => exact absurd rfl hb'
    | cons w ws =>
      simp only [pbs, Bool.and_eq_true] at hb
      obtain ⟨d1, q1, _, _⟩ := pb_toD hb.1
      obtain ⟨d2, q2, _, _⟩ := pbs_toD hb.2
      rw [toDs, q1, q2] at e; cases e
      simp [PyData.eqvAll]
  · have : (x == y) = false := by simpa using hx
    simp [this]
theorem ne_fm' : (Str.ofString "fixed" = Str.ofString "mirror") = False := ne_fm
theorem rimE_A {x : Str} {b : List Wv} (hx : x ≠ Str.ofString "fixed") (hm : b ≠ [] ∨ x ≠ Str.ofString "mirror") (hr : b ≠ [] ∨ x ≠ Str.ofString "round") (hb : pbs b 2 = true) (hl : b.length ≤ 5) : RimE (.tup (.str x :: b)) := by
  have ok : okR (.tup (.str x :: b)) = false := by
    unfold okR
    split
    · rename_i y heq
      simp only [Wv.tup.injEq, List.cons.injEq, Wv.str.injEq] at heq
      obtain ⟨rfl, rfl⟩ := heq
      have h1 : x ≠ Str.ofString "mirror" := hm.resolve_left (fun z => z rfl)
      have h2 : x ≠ Str.ofString "round" := hr.resolve_left (fun z => z rfl)
      simp [h1, h2]
    · rename_i y n heq
      simp only [Wv.tup.injEq, List.cons.injEq, Wv.str.injEq] at heq
      obtain ⟨rfl, rfl⟩ := heq
      simp [hx]
    · rfl
  refine rimE_t (by rw [pbs, hb]; rfl) ok (fun j h => ?_) (fun j h => ?_)
  · have e1 := eqF h x b (Str.ofString "mirror") hb hm
    have e2 := eqF h x b (Str.ofString "round") hb hr
    rw [run_open db4 rfl rfl]
    have : ¬ ((b.length : Int) + 1 < 1) := by omega
    simp [b4, s4_0, s4_1, s4_2, List.getElem?_cons_zero, List.getElem?_cons_succ, List.set_cons_zero, List.set_cons_succ, List.length_cons, List.length_nil, exs, ex, ev.eq_1, ev.eq_2, ev.eq_3, ev.eq_4, ev.eq_5, ev.eq_6, ev.eq_7, ev.eq_8, ev.eq_9, ev.eq_10, ev.eq_11, ev.eq_12, ev.eq_13, ev.eq_14, ev.eq_15, ev.eq_16, ev.eq_17, ev.eq_18, ev.eq_19, ev.eq_21, ev.eq_22, ev.eq_23, ev.eq_24, evs, evo, evi, tst_cmp, tst_chn, tst_isi, tst_call, tst_meth, tst_blt, tst_var, tst_not, tst_and, tst_or, start, bodyEnd, store, Tg.bind, binds, Rz.bind_ok, Rz.bind_bad, Rz.bind_exc, Rz.of, truth, cmpop, Cm.run, getS, getL, blt, isL, lmop, tupTy, subsc_t0, eq_str, hx, e1, e2, this, show 1 ≤ sizeLine by decide]
  · have e1 := eqF h x b (Str.ofString "mirror") hb hm
    have e2 := eqF h x b (Str.ofString "round") hb hr
    rw [run_open db24 rfl rfl]
    by_cases c : (b.length : Int) + 1 = 2
    · simp [b24, s24_0, s24_1, s24_2, List.getElem?_cons_zero, List.getElem?_cons_succ, List.set_cons_zero, List.set_cons_succ, List.length_cons, List.length_nil, exs, ex, ev.eq_1, ev.eq_2, ev.eq_3, ev.eq_4, ev.eq_5, ev.eq_6, ev.eq_7, ev.eq_8, ev.eq_9, ev.eq_10, ev.eq_11, ev.eq_12, ev.eq_13, ev.eq_14, ev.eq_15, ev.eq_16, ev.eq_17, ev.eq_18, ev.eq_19, ev.eq_21, ev.eq_22, ev.eq_23, ev.eq_24, evs, evo, evi, tst_cmp, tst_chn, tst_isi, tst_call, tst_meth, tst_blt, tst_var, tst_not, tst_and, tst_or, start, bodyEnd, store, Tg.bind, binds, Rz.bind_ok, Rz.bind_bad, Rz.bind_exc, Rz.of, truth, cmpop, Cm.run, getS, getL, blt, isL, lmop, tupTy, subsc_t0, eq_str, eq_int, hx, e1, e2, c, show 1 ≤ sizeLine by decide]
    · simp [b24, s24_0, s24_1, s24_2, List.getElem?_cons_zero, List.getElem?_cons_succ, List.set_cons_zero, List.set_cons_succ, List.length_cons, List.length_nil, exs, ex, ev.eq_1, ev.eq_2, ev.eq_3, ev.eq_4, ev.eq_5, ev.eq_6, ev.eq_7, ev.eq_8, ev.eq_9, ev.eq_10, ev.eq_11, ev.eq_12, ev.eq_13, ev.eq_14, ev.eq_15, ev.eq_16, ev.eq_17, ev.eq_18, ev.eq_19, ev.eq_21, ev.eq_22, ev.eq_23, ev.eq_24, evs, evo, evi, tst_cmp, tst_chn, tst_isi, tst_call, tst_meth, tst_blt, tst_var, tst_not, tst_and, tst_or, start, bodyEnd, store, Tg.bind, binds, Rz.bind_ok, Rz.bind_bad, Rz.bind_exc, Rz.of, truth, cmpop, Cm.run, getS, getL, blt, isL, lmop, tupTy, subsc_t0, eq_str, eq_int, hx, e1, e2, c, show 1 ≤ sizeLine by decide]
theorem rimE_B {b : List Wv} (hn : b.length ≠ 1) (hb : pbs b 2 = true) (hl : b.length ≤ 5) : RimE (.tup (sF :: b)) := by
  have ok : okR (.tup (sF :: b)) = false := by
    unfold okR
    split
    · rename_i y heq
      simp only [Wv.tup.injEq, List.cons.injEq, Wv.str.injEq] at heq
      obtain ⟨rfl, rfl⟩ := heq
      simp [ne_fm, ne_fr]
    · rename_i y n heq
      simp only [Wv.tup.injEq, List.cons.injEq, Wv.str.injEq] at heq
      obtain ⟨rfl, rfl⟩ := heq
      exact absurd rfl hn
    · rfl
  have hm : b ≠ [] ∨ Str.ofString "fixed" ≠ Str.ofString "mirror" := .inr (fun z => by rw [ne_fm] at z; exact z)
  have hr : b ≠ [] ∨ Str.ofString "fixed" ≠ Str.ofString "round" := .inr (fun z => by rw [ne_fr] at z; exact z)
  have c : ¬ ((b.length : Int) + 1 = 2) := by omega
  refine rimE_t (by rw [pbs, hb]; rfl) ok (fun j h => ?_) (fun j h => ?_)
  · rw [run_open db4 rfl rfl]
    have : ¬ ((b.length : Int) + 1 < 1) := by omega
    simp [b4, s4_0, s4_1, s4_2, List.getElem?_cons_zero, List.getElem?_cons_succ, List.set_cons_zero, List.set_cons_succ, List.length_cons, List.length_nil, exs, ex, ev.eq_1, ev.eq_2, ev.eq_3, ev.eq_4, ev.eq_5, ev.eq_6, ev.eq_7, ev.eq_8, ev.eq_9, ev.eq_10, ev.eq_11, ev.eq_12, ev.eq_13, ev.eq_14, ev.eq_15, ev.eq_16, ev.eq_17, ev.eq_18, ev.eq_19, ev.eq_21, ev.eq_22, ev.eq_23, ev.eq_24, evs, evo, evi, tst_cmp, tst_chn, tst_isi, tst_call, tst_meth, tst_blt, tst_var, tst_not, tst_and, tst_or, start, bodyEnd, store, Tg.bind, binds, Rz.bind_ok, Rz.bind_bad, Rz.bind_exc, Rz.of, truth, cmpop, Cm.run, getS, getL, blt, isL, lmop, tupTy, subsc_t0, eq_str, eq_int, c, this, show 1 ≤ sizeLine by decide]
  · have e1 := eqF h _ b (Str.ofString "mirror") hb hm
    have e2 := eqF h _ b (Str.ofString "round") hb hr
    rw [run_open db24 rfl rfl]
    simp [b24, s24_0, s24_1, s24_2, List.getElem?_cons_zero, List.getElem?_cons_succ, List.set_cons_zero, List.set_cons_succ, List.length_cons, List.length_nil, exs, ex, ev.eq_1, ev.eq_2, ev.eq_3, ev.eq_4, ev.eq_5, ev.eq_6, ev.eq_7, ev.eq_8, ev.eq_9, ev.eq_10, ev.eq_11, ev.eq_12, ev.eq_13, ev.eq_14, ev.eq_15, ev.eq_16, ev.eq_17, ev.eq_18, ev.eq_19, ev.eq_21, ev.eq_22, ev.eq_23, ev.eq_24, evs, evo, evi, tst_cmp, tst_chn, tst_isi, tst_call, tst_meth, tst_blt, tst_var, tst_not, tst_and, tst_or, start, bodyEnd, store, Tg.bind, binds, Rz.bind_ok, Rz.bind_bad, Rz.bind_exc, Rz.of, truth, cmpop, Cm.run, getS, getL, blt, isL, lmop, tupTy, subsc_t0, eq_str, eq_int, e1, e2, c, show 1 ≤ sizeLine by decide]
theorem rimE_C {w : Wv} (hp : w.pl = true) (hb : w.pb 2 = true) (hn : btw w 0 1000000000 = false) : RimE (.tup [sF, w]) := by
  have ok : okR (.tup [sF, w]) = false := by
    unfold okR
    split
    · rename_i y heq
      simp at heq
    · rename_i y n heq
      simp only [Wv.tup.injEq, List.cons.injEq, Wv.str.injEq, and_true] at heq
      obtain ⟨rfl, rfl⟩ := heq
      simp only [btw] at hn
      simp only [hn, Bool.and_false]
    · rfl
  have hbs : pbs [w] 2 = true := by rw [pbs, hb]; rfl
  have hm : [w] ≠ [] ∨ Str.ofString "fixed" ≠ Str.ofString "mirror" := .inl (by simp)
  have hr : [w] ≠ [] ∨ Str.ofString "fixed" ≠ Str.ofString "round" := .inl (by simp)
  refine rimE_t (by rw [pbs, hbs]; rfl) ok (fun j h => ?_) (fun j h => ?_)
  · have e := between' j hp 0 1000000000 h
    rw [hn] at e
    rw [run_open db4 rfl rfl]
    simp [b4, s4_0, s4_1, s4_2, List.getElem?_cons_zero, List.getElem?_cons_succ, List.set_cons_zero, List.set_cons_succ, List.length_cons, List.length_nil, exs, ex, ev.eq_1, ev.eq_2, ev.eq_3, ev.eq_4, ev.eq_5, ev.eq_6, ev.eq_7, ev.eq_8, ev.eq_9, ev.eq_10, ev.eq_11, ev.eq_12, ev.eq_13, ev.eq_14, ev.eq_15, ev.eq_16, ev.eq_17, ev.eq_18, ev.eq_19, ev.eq_21, ev.eq_22, ev.eq_23, ev.eq_24, evs, evo, evi, tst_cmp, tst_chn, tst_isi, tst_call, tst_meth, tst_blt, tst_var, tst_not, tst_and, tst_or, start, bodyEnd, store, Tg.bind, binds, Rz.bind_ok, Rz.bind_bad, Rz.bind_exc, Rz.of, truth, cmpop, Cm.run, getS, getL, blt, isL, lmop, tupTy, subsc_t0, subsc_t1, eq_str, eq_int, glo1, e, show 1 ≤ sizeLine by decide]
  · have e1 := eqF h _ [w] (Str.ofString "mirror") hbs hm
    have e2 := eqF h _ [w] (Str.ofString "round") hbs hr
    rw [run_open db24 rfl rfl]
    cases w with
    | int i =>
      simp only [btw, Bool.and_eq_false_iff, decide_eq_false_iff_not] at hn
      by_cases c : 0 ≤ i
      · have c2 : ¬ i ≤ 1000000000 := by rcases hn with q | q; exact absurd c q; exact q
        simp [b24, s24_0, s24_1, s24_2, List.getElem?_cons_zero, List.getElem?_cons_succ, List.set_cons_zero, List.set_cons_succ, List.length_cons, List.length_nil, exs, ex, ev.eq_1, ev.eq_2, ev.eq_3, ev.eq_4, ev.eq_5, ev.eq_6, ev.eq_7, ev.eq_8, ev.eq_9, ev.eq_10, ev.eq_11, ev.eq_12, ev.eq_13, ev.eq_14, ev.eq_15, ev.eq_16, ev.eq_17, ev.eq_18, ev.eq_19, ev.eq_21, ev.eq_22, ev.eq_23, ev.eq_24, evs, evo, evi, tst_cmp, tst_chn, tst_isi, tst_call, tst_meth, tst_blt, tst_var, tst_not, tst_and, tst_or, start, bodyEnd, store, Tg.bind, binds, Rz.bind_ok, Rz.bind_bad, Rz.bind_exc, Rz.of, truth, cmpop, Cm.run, getS, getL, blt, isL, lmop, tupTy, Ty.has, tyOf, Ty.name, subsc_t0, subsc_t1, eq_str, eq_int, e1, e2, pow9, c, c2, show 1 ≤ sizeLine by decide]
      · simp [b24, s24_0, s24_1, s24_2, List.getElem?_cons_zero, List.getElem?_cons_succ, List.set_cons_zero, List.set_cons_succ, List.length_cons, List.length_nil, exs, ex, ev.eq_1, ev.eq_2, ev.eq_3, ev.eq_4, ev.eq_5, ev.eq_6, ev.eq_7, ev.eq_8, ev.eq_9, ev.eq_10, ev.eq_11, ev.eq_12, ev.eq_13, ev.eq_14, ev.eq_15, ev.eq_16, ev.eq_17, ev.eq_18, ev.eq_19, ev.eq_21, ev.eq_22, ev.eq_23, ev.eq_24, evs, evo, evi, tst_cmp, tst_chn, tst_isi, tst_call, tst_meth, tst_blt, tst_var, tst_not, tst_and, tst_or, start, bodyEnd, store, Tg.bind, binds, Rz.bind_ok, Rz.bind_bad, Rz.bind_exc, Rz.of, truth, cmpop, Cm.run, getS, getL, blt, isL, lmop, tupTy, Ty.has, tyOf, Ty.name, subsc_t0, subsc_t1, eq_str, eq_int, e1, e2, pow9, c, show 1 ≤ sizeLine by decide]
    | dic _ => cases hp
    | ins _ _ => cases hp
    | ref _ => cases hp
    | fn _ => cases hp
    | cls _ => cases hp
    | _ => simp [b24, s24_0, s24_1, s24_2, List.getElem?_cons_zero, List.getElem?_cons_succ, List.set_cons_zero, List.set_cons_succ, List.length_cons, List.length_nil, exs, ex, ev.eq_1, ev.eq_2, ev.eq_3, ev.eq_4, ev.eq_5, ev.eq_6, ev.eq_7, ev.eq_8, ev.eq_9, ev.eq_10, ev.eq_11, ev.eq_12, ev.eq_13, ev.eq_14, ev.eq_15, ev.eq_16, ev.eq_17, ev.eq_18, ev.eq_19, ev.eq_21, ev.eq_22, ev.eq_23, ev.eq_24, evs, evo, evi, tst_cmp, tst_chn, tst_isi, tst_call, tst_meth, tst_blt, tst_var, tst_not, tst_and, tst_or, start, bodyEnd, store, Tg.bind, binds, Rz.bind_ok, Rz.bind_bad, Rz.bind_exc, Rz.of, truth, cmpop, Cm.run, getS, getL, blt, isL, lmop, tupTy, Ty.has, tyOf, Ty.name, subsc_t0, subsc_t1, eq_str, eq_int, e1, e2, show 1 ≤ sizeLine by decide]
theorem rimE_nil : RimE (.tup []) := by
  refine rimE_t rfl rfl (fun j h => ?_) (fun j h => ?_)
  · rw [run_open db4 rfl rfl]
    simp [b4, s4_0, s4_1, s4_2, List.getElem?_cons_zero, List.getElem?_cons_succ, List.set_cons_zero, List.set_cons_succ, List.length_cons, List.length_nil, exs, ex, ev.eq_1, ev.eq_2, ev.eq_3, ev.eq_4, ev.eq_5, ev.eq_6, ev.eq_7, ev.eq_8, ev.eq_9, ev.eq_10, ev.eq_11, ev.eq_12, ev.eq_13, ev.eq_14, ev.eq_15, ev.eq_16, ev.eq_17, ev.eq_18, ev.eq_19, ev.eq_21, ev.eq_22, ev.eq_23, ev.eq_24, evs, evo, evi, tst_cmp, tst_chn, tst_isi, tst_call, tst_meth, tst_blt, tst_var, tst_not, tst_and, tst_or, start, bodyEnd, store, Tg.bind, binds, Rz.bind_ok, Rz.bind_bad, Rz.bind_exc, Rz.of, truth, cmpop, Cm.run, getS, getL, blt, isL, lmop, tupTy]
  · have e1 : eqVal h (.tup []) (.tup [sM]) = some false := by rw [eq_t h rfl rfl]; simp
    have e2 : eqVal h (.tup []) (.tup [sR]) = some false := by rw [eq_t h rfl rfl]; simp
    rw [run_open db24 rfl rfl]
    simp [b24, s24_0, s24_1, s24_2, List.getElem?_cons_zero, List.getElem?_cons_succ, List.set_cons_zero, List.set_cons_succ, List.length_cons, List.length_nil, exs, ex, ev.eq_1, ev.eq_2, ev.eq_3, ev.eq_4, ev.eq_5, ev.eq_6, ev.eq_7, ev.eq_8, ev.eq_9, ev.eq_10, ev.eq_11, ev.eq_12, ev.eq_13, ev.eq_14, ev.eq_15, ev.eq_16, ev.eq_17, ev.eq_18, ev.eq_19, ev.eq_21, ev.eq_22, ev.eq_23, ev.eq_24, evs, evo, evi, tst_cmp, tst_chn, tst_isi, tst_call, tst_meth, tst_blt, tst_var, tst_not, tst_and, tst_or, start, bodyEnd, store, Tg.bind, binds, Rz.bind_ok, Rz.bind_bad, Rz.bind_exc, Rz.of, truth, cmpop, Cm.run, getS, getL, blt, isL, lmop, tupTy, eq_int, e1, e2, show 1 ≤ sizeLine by decide]
/-- what is no tuple is no rim -/
theorem rimE_N {r : Wv} (hb : r.nb 3 = true) (hl : r.pl = true) (hn : ∀ ws, r ≠ .tup ws) : RimE r := by
  have key : ∀ (y : Str) (h : Hs), eqVal h r (.tup [.str y]) = some false := fun y h => by
    rw [eqVal_nb (h := h) (x := r) (y := .tup [.str y]) (n := 3) (m := 1) (Fz.nb hb) (Fz.nb (n := 1) rfl) hb rfl (by decide)]
    have : r ≠ .tup [.str y] := hn _
    simp [this]
  exact rimE_no (nb_pb hb) hl hn (key _) (key _)
end SL

set_option maxRecDepth 100000
set_option maxHeartbeats 2000000
/-! Odd sizes, odd rims, drawn. -/
namespace SL
open PySem
set_option autoImplicit false
theorem gN {g : Hs} {k : Nat} (o : Ob) (t u : Hs) (i : Nat) : (g.set k o ++ (t ++ u))[g.length + (t.length + i)]? = u[i]? := by
  rw [← List.append_assoc, List.getElem?_append_right (by simp), List.length_append, List.length_set]
  congr 1
  omega
theorem gN0 {g : Hs} {k : Nat} (o : Ob) (t u : Hs) : (g.set k o ++ (t ++ u))[g.length + t.length]? = u[0]? := gN o t u 0
def itsS (f : Int) (r : Wv) : List Wv := [.int 0, .int 10, .int (-1), .int f, .int (-f), .bl true, .non, .str (Str.ofString "3"), r, .tup [.int 3]]
theorem frz_pure {h : Hs} {no : Nat → Bool} {w : Wv} (hw : w.pure = true) : frzW h no w = some w := by
  unfold frzW
  exact pure_frz _ hw
theorem frz_cell {h : Hs} {no : Nat → Bool} {n : Nat} {ws : List Wv} (hn : no n = false) (e : h[n]? = some (.lst ws)) (hw : pures ws = true) : frzW h no (.ref n) = some (.lst ws) := by
  unfold frzW
  rw [Wv.frz, deepest, frzC]
  simp only [hn, Bool.false_eq_true, if_false, e, pures_frz _ hw]
  rfl
theorem pow9' (h : Hs) : binop .pow (.int 10) (.int 9) h = .ok (.int 1000000000) h := pow9 h
theorem oddSize (j : Nat) {g : Hs} {k : Nat} (hk : k < g.length) {o : Ob} (ho : isWl o) : ∃ (w : Wv) (o' : Ob), isWl o' ∧ SzE w ∧ ∀ t : Hs, callD pg.D pg.glo pg.cls pg.fld pg.turns (j + 2) 22 [.ref k] (g.set k o ++ t) = .ok w (g.set k o' ++ t) := by
  obtain ⟨v1, o1, ho1, v10, v11, d1⟩ := drawW j hk ho (m := 1000000000) (by decide) (by decide)
  obtain ⟨v2, o2, ho2, v20, v21, d2⟩ := drawW j hk ho1 (m := 10) (by decide) (by decide)
  have run : ∀ t : Hs, exs (Wj (j + 1)) [s22_0, s22_1] [some (.ref k), none] (g.set k o ++ t) = (subsc (.ref (g.length + (t.length + 1))) (.int v2) (g.set k o2 ++ (t ++ [.lst [.int 3], .lst (itsS (10 + v1) (.ref (g.length + t.length)))]))).bind fun v h1 => .ok (.ret v) h1 := fun t => by
    have q0 : ex (Wj (j + 1)) s22_0 [some (.ref k), none] (g.set k o ++ t) = .ok (.nx [some (.ref k), some (.int (10 + v1))]) (g.set k o1 ++ t) := by
      simp [s22_0, List.getElem?_cons_zero, List.getElem?_cons_succ, List.set_cons_zero, List.set_cons_succ, List.length_cons, List.length_nil, exs, ex, ev, evs, evo, evi, tst_cmp, tst_chn, tst_isi, tst_call, tst_meth, tst_blt, tst_var, tst_not, tst_and, tst_or, start, bodyEnd, store, Tg.bind, binds, Rz.bind_ok, Rz.bind_bad, Rz.bind_exc, Rz.of, truth, cmpop, Cm.run, subsc, getS, getL, blt, isL, lmop, pow9, d1, badd]
    rw [exs_nx q0, exs, s22_1, ex]
    have a : ev (Wj (j + 1)) (.lst [(.cst (.int 0)), (.cst (.int 10)), (.neg (.cst (.int 1))), (.var 1), (.neg (.var 1)), (.cst (.bl true)), (.cst .non), (.cst (.str (Str.ofString "3"))), (.lst [(.cst (.int 3))]), (.tup [(.cst (.int 3))])]) [some (.ref k), some (.int (10 + v1))] (g.set k o1 ++ t) =
        .ok (.ref (g.length + (t.length + 1))) (g.set k o1 ++ (t ++ [.lst [.int 3], .lst (itsS (10 + v1) (.ref (g.length + t.length)))])) := by
      simp [List.getElem?_cons_zero, List.getElem?_cons_succ, List.set_cons_zero, List.set_cons_succ, List.length_cons, List.length_nil, exs, ex, ev, evs, evo, evi, tst_cmp, tst_chn, tst_isi, tst_call, tst_meth, tst_blt, tst_var, tst_not, tst_and, tst_or, start, bodyEnd, store, Tg.bind, binds, Rz.bind_ok, Rz.bind_bad, Rz.bind_exc, Rz.of, truth, cmpop, Cm.run, subsc, getS, getL, blt, isL, lmop, newL, itsS, show 1 ≤ sizeLine by decide, show 10 ≤ sizeLine by decide]
    rw [ev, a, Rz.bind_ok]
    have b : ev (Wj (j + 1)) (.call 19 [(.var 0), (.cst (.int 10))]) [some (.ref k), some (.int (10 + v1))] (g.set k o1 ++ (t ++ [.lst [.int 3], .lst (itsS (10 + v1) (.ref (g.length + t.length)))])) = .ok (.int v2) (g.set k o2 ++ (t ++ [.lst [.int 3], .lst (itsS (10 + v1) (.ref (g.length + t.length)))])) := by
      simp only [ev, evs, List.getElem?_cons_zero, Rz.bind_ok, d2]
    rw [b, Rz.bind_ok]
    cases subsc (.ref (g.length + (t.length + 1))) (.int v2) (g.set k o2 ++ (t ++ [.lst [.int 3], .lst (itsS (10 + v1) (.ref (g.length + t.length)))])) <;> rfl
  have fin : ∀ (i : Nat) (w : Wv), v2 = (i : Int) → SzE w → (∀ t : Hs, ∃ x, (itsS (10 + v1) (.ref (g.length + t.length)))[i]? = some x ∧ frzW (g.set k o2 ++ (t ++ [.lst [.int 3], .lst (itsS (10 + v1) (.ref (g.length + t.length)))])) (fun i => decide (i < (g.set k o ++ t).length)) x = some w) →
      ∃ (w : Wv) (o' : Ob), isWl o' ∧ SzE w ∧ ∀ t : Hs, callD pg.D pg.glo pg.cls pg.fld pg.turns (j + 2) 22 [.ref k] (g.set k o ++ t) = .ok w (g.set k o' ++ t) := fun i w hv hw hx => by
    refine ⟨w, o2, ho2, hw, fun t => ?_⟩
    obtain ⟨x, x1, x2⟩ := hx t
    rw [run_end db22 rfl]
    have e : bodyEnd (exs (Wj (j + 1)) b22.body (start b22.ns [.ref k]) (g.set k o ++ t)) = .ok x (g.set k o2 ++ (t ++ [.lst [.int 3], .lst (itsS (10 + v1) (.ref (g.length + t.length)))])) := by
      show bodyEnd (exs (Wj (j + 1)) [s22_0, s22_1] [some (.ref k), none] (g.set k o ++ t)) = _
      have hi : i < (itsS (10 + v1) (.ref (g.length + t.length))).length := by simp [itsS]; omega
      rw [run t, hv, subsc_ref (gN o2 t _ 1) hi]
      rw [List.getElem?_eq_getElem hi] at x1
      cases x1
      rfl
    simp only [Wj] at e
    rw [e, Rz.bind_ok]
    exact cold_wlF hk ho2 t _ x2
  have pure : ∀ (i : Nat) (w : Wv), v2 = (i : Int) → SzE w → (∀ r, (itsS (10 + v1) r)[i]? = some w) → ∃ (w : Wv) (o' : Ob), isWl o' ∧ SzE w ∧ ∀ t : Hs, callD pg.D pg.glo pg.cls pg.fld pg.turns (j + 2) 22 [.ref k] (g.set k o ++ t) = .ok w (g.set k o' ++ t) := fun i w hv hw hx =>
    fin i w hv hw fun t => ⟨w, hx _, frz_pure (pb_pure hw.pb)⟩
  have hv : v2 = ((0 : Nat) : Int) ∨ v2 = ((1 : Nat) : Int) ∨ v2 = ((2 : Nat) : Int) ∨ v2 = ((3 : Nat) : Int) ∨ v2 = ((4 : Nat) : Int) ∨ v2 = ((5 : Nat) : Int) ∨ v2 = ((6 : Nat) : Int) ∨ v2 = ((7 : Nat) : Int) ∨ v2 = ((8 : Nat) : Int) ∨ v2 = ((9 : Nat) : Int) := by omega
  rcases hv with h | h | h | h | h | h | h | h | h | h
  · exact pure 0 _ h ⟨rfl, rfl⟩ fun r => rfl
  · exact pure 1 _ h ⟨rfl, rfl⟩ fun r => rfl
  · exact pure 2 _ h ⟨rfl, rfl⟩ fun r => rfl
  · exact pure 3 _ h ⟨rfl, rfl⟩ fun r => rfl
  · exact pure 4 _ h ⟨rfl, rfl⟩ fun r => rfl
  · exact pure 5 _ h ⟨rfl, rfl⟩ fun r => rfl
  · exact pure 6 _ h ⟨rfl, rfl⟩ fun r => rfl
  · exact pure 7 _ h ⟨rfl, rfl⟩ fun r => rfl
  · refine fin 8 (.lst [.int 3]) h ⟨rfl, rfl⟩ fun t => ⟨_, rfl, frz_cell (by simp) ?_ rfl⟩
    rw [gN0]; rfl
  · exact pure 9 _ h ⟨rfl, rfl⟩ fun r => rfl
def its1 (f : Int) : List Wv := [.tup [sF], .tup [sF, .int (-1)], .tup [sF, .int f], .tup [sF, .bl true], .tup [sF, .non], .tup [sF, .int 1, .int 1]]
def its2 (r : Wv) : List Wv := [.tup [sM, .int 1], .tup [sR, .int 0], .tup [.str (Str.ofString "flat")], .tup [], sM, r, .non, .int 7]
def its3 : List Wv := [.tup [.str (Str.ofString "Round")], .tup [sF, .str (Str.ofString "1")]]
def its (f : Int) (r : Wv) : List Wv := its1 f ++ its2 r ++ its3
def junkR (f : Int) (n : Nat) : Hs := [.lst (its1 f), .lst [sR], .lst (its2 (.ref (n + 1))), .lst (its1 f ++ its2 (.ref (n + 1))), .lst its3, .lst (its f (.ref (n + 1)))]
theorem oddRim (j : Nat) {g : Hs} {k : Nat} (hk : k < g.length) {o : Ob} (ho : isWl o) : ∃ (w : Wv) (o' : Ob), isWl o' ∧ RimE w ∧ ∀ t : Hs, callD pg.D pg.glo pg.cls pg.fld pg.turns (j + 2) 23 [.ref k] (g.set k o ++ t) = .ok w (g.set k o' ++ t) := by
  obtain ⟨v1, o1, ho1, v10, v11, d1⟩ := drawW j hk ho (m := 1000000000) (by decide) (by decide)
  obtain ⟨v2, o2, ho2, v20, v21, d2⟩ := drawW j hk ho1 (m := 16) (by decide) (by decide)
  have run : ∀ t : Hs, exs (Wj (j + 1)) [s23_0, s23_1, s23_2, s23_3, s23_4] [some (.ref k), none, none] (g.set k o ++ t) = (subsc (.ref (g.length + (t.length + 5))) (.int v2) (g.set k o2 ++ (t ++ junkR (1000000001 + v1) (g.length + t.length)))).bind fun v h1 => .ok (.ret v) h1 := fun t => by
    have q0 : ex (Wj (j + 1)) s23_0 [some (.ref k), none, none] (g.set k o ++ t) = .ok (.nx [some (.ref k), some (.int (1000000001 + v1)), none]) (g.set k o1 ++ t) := by
      simp [s23_0, List.getElem?_cons_zero, List.getElem?_cons_succ, List.set_cons_zero, List.set_cons_succ, List.length_cons, List.length_nil, exs, ex, ev, evs, evo, evi, tst_cmp, tst_chn, tst_isi, tst_call, tst_meth, tst_blt, tst_var, tst_not, tst_and, tst_or, start, bodyEnd, store, Tg.bind, binds, Rz.bind_ok, Rz.bind_bad, Rz.bind_exc, Rz.of, truth, cmpop, Cm.run, subsc, getS, getL, blt, isL, lmop, pow9, d1, badd]
    have q1 : ex (Wj (j + 1)) s23_1 [some (.ref k), some (.int (1000000001 + v1)), none] (g.set k o1 ++ t) = .ok (.nx [some (.ref k), some (.int (1000000001 + v1)), some (.ref (g.length + t.length))]) (g.set k o1 ++ (t ++ [.lst (its1 (1000000001 + v1))])) := by
      simp [s23_1, List.getElem?_cons_zero, List.getElem?_cons_succ, List.set_cons_zero, List.set_cons_succ, List.length_cons, List.length_nil, exs, ex, ev, evs, evo, evi, tst_cmp, tst_chn, tst_isi, tst_call, tst_meth, tst_blt, tst_var, tst_not, tst_and, tst_or, start, bodyEnd, store, Tg.bind, binds, Rz.bind_ok, Rz.bind_bad, Rz.bind_exc, Rz.of, truth, cmpop, Cm.run, subsc, getS, getL, blt, isL, lmop, newL, its1, show 1 ≤ sizeLine by decide, show 2 ≤ sizeLine by decide, show 3 ≤ sizeLine by decide, show 6 ≤ sizeLine by decide]
    have q2 : ex (Wj (j + 1)) s23_2 [some (.ref k), some (.int (1000000001 + v1)), some (.ref (g.length + t.length))] (g.set k o1 ++ (t ++ [.lst (its1 (1000000001 + v1))])) = .ok (.nx [some (.ref k), some (.int (1000000001 + v1)), some (.ref (g.length + (t.length + 3)))])
        (g.set k o1 ++ (t ++ [.lst (its1 (1000000001 + v1)), .lst [sR], .lst (its2 (.ref (g.length + t.length + 1))), .lst (its1 (1000000001 + v1) ++ its2 (.ref (g.length + t.length + 1)))])) := by
      simp [s23_2, List.getElem?_cons_zero, List.getElem?_cons_succ, List.set_cons_zero, List.set_cons_succ, List.length_cons, List.length_nil, exs, ex, ev, evs, evo, evi, tst_cmp, tst_chn, tst_isi, tst_call, tst_meth, tst_blt, tst_var, tst_not, tst_and, tst_or, start, bodyEnd, store, Tg.bind, binds, Rz.bind_ok, Rz.bind_bad, Rz.bind_exc, Rz.of, truth, cmpop, Cm.run, subsc, getS, getL, blt, isL, lmop, newL, its1, its2, binop, gN, gN0, Nat.add_assoc, show 1 ≤ sizeLine by decide, show 0 ≤ sizeLine by decide, show 2 ≤ sizeLine by decide, show 8 ≤ sizeLine by decide, show 14 ≤ sizeLine by decide]
    have q3 : ex (Wj (j + 1)) s23_3 [some (.ref k), some (.int (1000000001 + v1)), some (.ref (g.length + (t.length + 3)))] (g.set k o1 ++ (t ++ [.lst (its1 (1000000001 + v1)), .lst [sR], .lst (its2 (.ref (g.length + t.length + 1))), .lst (its1 (1000000001 + v1) ++ its2 (.ref (g.length + t.length + 1)))])) =
        .ok (.nx [some (.ref k), some (.int (1000000001 + v1)), some (.ref (g.length + (t.length + 5)))]) (g.set k o1 ++ (t ++ junkR (1000000001 + v1) (g.length + t.length))) := by
      simp [s23_3, List.getElem?_cons_zero, List.getElem?_cons_succ, List.set_cons_zero, List.set_cons_succ, List.length_cons, List.length_nil, exs, ex, ev, evs, evo, evi, tst_cmp, tst_chn, tst_isi, tst_call, tst_meth, tst_blt, tst_var, tst_not, tst_and, tst_or, start, bodyEnd, store, Tg.bind, binds, Rz.bind_ok, Rz.bind_bad, Rz.bind_exc, Rz.of, truth, cmpop, Cm.run, subsc, getS, getL, blt, isL, lmop, newL, junkR, its, its1, its2, its3, binop, gN, gN0, Nat.add_assoc, show 1 ≤ sizeLine by decide, show 2 ≤ sizeLine by decide, show 16 ≤ sizeLine by decide]
    rw [exs_nx q0, exs_nx q1, exs_nx q2, exs_nx q3, exs, s23_4, ex, ev]
    have v : ev (Wj (j + 1)) (.var 2) [some (.ref k), some (.int (1000000001 + v1)), some (.ref (g.length + (t.length + 5)))] (g.set k o1 ++ (t ++ junkR (1000000001 + v1) (g.length + t.length))) = .ok (.ref (g.length + (t.length + 5))) (g.set k o1 ++ (t ++ junkR (1000000001 + v1) (g.length + t.length))) := by simp [ev]
    rw [v, Rz.bind_ok]
    have b : ev (Wj (j + 1)) (.call 19 [(.var 0), (.cst (.int 16))]) [some (.ref k), some (.int (1000000001 + v1)), some (.ref (g.length + (t.length + 5)))] (g.set k o1 ++ (t ++ junkR (1000000001 + v1) (g.length + t.length))) = .ok (.int v2) (g.set k o2 ++ (t ++ junkR (1000000001 + v1) (g.length + t.length))) := by
      simp only [ev, evs, List.getElem?_cons_zero, Rz.bind_ok, d2]
    rw [b, Rz.bind_ok]
    cases subsc (.ref (g.length + (t.length + 5))) (.int v2) (g.set k o2 ++ (t ++ junkR (1000000001 + v1) (g.length + t.length))) <;> rfl
  have fin : ∀ (i : Nat) (w : Wv), v2 = (i : Int) → RimE w → (∀ t : Hs, ∃ x, (its (1000000001 + v1) (.ref (g.length + t.length + 1)))[i]? = some x ∧ frzW (g.set k o2 ++ (t ++ junkR (1000000001 + v1) (g.length + t.length))) (fun i => decide (i < (g.set k o ++ t).length)) x = some w) →
      ∃ (w : Wv) (o' : Ob), isWl o' ∧ RimE w ∧ ∀ t : Hs, callD pg.D pg.glo pg.cls pg.fld pg.turns (j + 2) 23 [.ref k] (g.set k o ++ t) = .ok w (g.set k o' ++ t) := fun i w hv hw hx => by
    refine ⟨w, o2, ho2, hw, fun t => ?_⟩
    obtain ⟨x, x1, x2⟩ := hx t
    rw [run_end db23 rfl]
    have e : bodyEnd (exs (Wj (j + 1)) b23.body (start b23.ns [.ref k]) (g.set k o ++ t)) = .ok x (g.set k o2 ++ (t ++ junkR (1000000001 + v1) (g.length + t.length))) := by
      show bodyEnd (exs (Wj (j + 1)) [s23_0, s23_1, s23_2, s23_3, s23_4] [some (.ref k), none, none] (g.set k o ++ t)) = _
      have hi : i < (its (1000000001 + v1) (.ref (g.length + t.length + 1))).length := by simp [its, its1, its2, its3]; omega
      rw [run t, hv, subsc_ref (gN o2 t _ 5) hi]
      rw [List.getElem?_eq_getElem hi] at x1
      cases x1
      rfl
    simp only [Wj] at e
    rw [e, Rz.bind_ok]
    exact cold_wlF hk ho2 t _ x2
  have pure : ∀ (i : Nat) (w : Wv), v2 = (i : Int) → RimE w → (∀ r, (its (1000000001 + v1) r)[i]? = some w) → ∃ (w : Wv) (o' : Ob), isWl o' ∧ RimE w ∧ ∀ t : Hs, callD pg.D pg.glo pg.cls pg.fld pg.turns (j + 2) 23 [.ref k] (g.set k o ++ t) = .ok w (g.set k o' ++ t) := fun i w hv hw hx =>
    fin i w hv hw fun t => ⟨w, hx _, frz_pure (pb_pure hw.pb)⟩
  have hv : v2 = ((0 : Nat) : Int) ∨ v2 = ((1 : Nat) : Int) ∨ v2 = ((2 : Nat) : Int) ∨ v2 = ((3 : Nat) : Int) ∨ v2 = ((4 : Nat) : Int) ∨ v2 = ((5 : Nat) : Int) ∨ v2 = ((6 : Nat) : Int) ∨ v2 = ((7 : Nat) : Int) ∨ v2 = ((8 : Nat) : Int) ∨ v2 = ((9 : Nat) : Int) ∨ v2 = ((10 : Nat) : Int) ∨ v2 = ((11 : Nat) : Int) ∨ v2 = ((12 : Nat) : Int) ∨ v2 = ((13 : Nat) : Int) ∨ v2 = ((14 : Nat) : Int) ∨ v2 = ((15 : Nat) : Int) := by omega
  have mf : Str.ofString "mirror" ≠ Str.ofString "fixed" := by decide +kernel
  have rf : Str.ofString "round" ≠ Str.ofString "fixed" := by decide +kernel
  rcases hv with h | h | h | h | h | h | h | h | h | h | h | h | h | h | h | h
  · exact pure 0 _ h (rimE_B (b := []) (by decide) rfl (by decide)) fun r => rfl
  · exact pure 1 _ h (rimE_C (w := .int (-1)) rfl rfl rfl) fun r => rfl
  · exact pure 2 _ h (rimE_C (w := .int (1000000001 + v1)) rfl rfl (by simp [btw]; omega)) fun r => rfl
  · exact pure 3 _ h (rimE_C (w := .bl true) rfl rfl rfl) fun r => rfl
  · exact pure 4 _ h (rimE_C (w := .non) rfl rfl rfl) fun r => rfl
  · exact pure 5 _ h (rimE_B (b := [.int 1, .int 1]) (by decide) rfl (by decide)) fun r => rfl
  · exact pure 6 _ h (rimE_A (b := [.int 1]) mf (.inl (by simp)) (.inl (by simp)) rfl (by decide)) fun r => rfl
  · exact pure 7 _ h (rimE_A (b := [.int 0]) rf (.inl (by simp)) (.inl (by simp)) rfl (by decide)) fun r => rfl
  · exact pure 8 _ h (rimE_A (b := []) (x := Str.ofString "flat") (by decide +kernel) (.inr (by decide +kernel)) (.inr (by decide +kernel)) rfl (by decide)) fun r => rfl
  · exact pure 9 _ h rimE_nil fun r => rfl
  · exact pure 10 _ h (rimE_N rfl rfl (fun _ z => by cases z)) fun r => rfl
  · refine fin 11 (.lst [sR]) h (rimE_N rfl rfl (fun _ z => by cases z)) fun t => ⟨_, rfl, frz_cell (by simp) ?_ rfl⟩
    rw [Nat.add_assoc, gN]; rfl
  · exact pure 12 _ h (rimE_N rfl rfl (fun _ z => by cases z)) fun r => rfl
  · exact pure 13 _ h (rimE_N rfl rfl (fun _ z => by cases z)) fun r => rfl
  · exact pure 14 _ h (rimE_A (b := []) (x := Str.ofString "Round") (by decide +kernel) (.inr (by decide +kernel)) (.inr (by decide +kernel)) rfl (by decide)) fun r => rfl
  · exact pure 15 _ h (rimE_C (w := .str (Str.ofString "1")) rfl rfl rfl) fun r => rfl
end SL

set_option maxRecDepth 100000
set_option maxHeartbeats 2000000
/-! A grid refused, or made; what is due. -/
namespace SL
open PySem
set_option autoImplicit false
def prW : List Wv → Int
  | .int i :: ws => i * prW ws
  | _ :: ws => prW ws
  | [] => 1
def bad : List Wv → List Wv → Nat → Option Nat
  | w :: ws, r :: rs, i => if okS w = true ∧ okR r = true then bad ws rs (i + 1) else some i
  | _, _, _ => none
/-- the value that it is refused with -/
def verdict (ws rs : List Wv) : Option Wv := if (1 ≤ ws.length ∧ ws.length ≤ 3) ∧ rs.length = ws.length then (match bad ws rs 0 with
  | some k => some (.int (k : Nat))
  | none => if 40 < prW ws then some .non else none) else some .non
theorem okS_int {w : Wv} (h : okS w = true) : ∃ s : Int, w = .int s ∧ 1 ≤ s ∧ s ≤ 9 := by
  unfold okS btw at h
  split at h
  · simp only [Bool.and_eq_true, decide_eq_true_eq] at h
    exact ⟨_, rfl, h.1, h.2⟩
  · cases h
theorem bad_none : ∀ {ws rs : List Wv} {i : Nat}, rs.length = ws.length → bad ws rs i = none → ∃ sz : List Int, ws = sz.map Wv.int ∧ SzOk sz ∧ (∀ r ∈ rs, Rimm r) ∧ prW ws = prd sz
  | [], [], i, _, _ => ⟨[], rfl, ⟨fun s h => (by cases h)⟩, fun r h => (by cases h), rfl⟩
  | [], _ :: _, i, hl, _ => by simp at hl
  | _ :: _, [], i, hl, _ => by simp at hl
  | w :: ws, r :: rs, i, hl, h => by
    rw [bad] at h
    split at h
    · rename_i c
      obtain ⟨s, rfl, h1, h2⟩ := okS_int c.1
      obtain ⟨sz, rfl, k1, k2, k3⟩ := bad_none (by simpa using hl) h
      refine ⟨s :: sz, rfl, ⟨fun x hx => ?_⟩, fun x hx => ?_, ?_⟩
      · rcases List.mem_cons.mp hx with rfl | hx
        · exact ⟨h1, h2⟩
        · exact k1.one x hx
      · rcases List.mem_cons.mp hx with rfl | hx
        · exact okR_rimm c.2
        · exact k2 x hx
      · rw [prW, k3]; rfl
    · cases h
theorem verdict_made {ws rs : List Wv} (h : verdict ws rs = none) : ∃ sz : List Int, ws = sz.map Wv.int ∧ SzOk sz ∧ (∀ r ∈ rs, Rimm r) ∧ rs.length = sz.length ∧ 1 ≤ sz.length ∧ sz.length ≤ 3 ∧ prd sz ≤ 40 := by
  unfold verdict at h
  split at h
  · rename_i c
    split at h
    · cases h
    · rename_i hb
      obtain ⟨sz, rfl, k1, k2, k3⟩ := bad_none c.2 hb
      rw [List.length_map] at c
      split at h
      · cases h
      · rename_i hp
        rw [k3] at hp
        exact ⟨sz, rfl, k1, k2, c.2, c.1.1, c.1.2, by omega⟩
  · cases h
theorem mul_sz {p s : Int} (h1 : 1 ≤ s) (h2 : s ≤ 9) (h : Hs) : binop .mul (.int p) (.int s) h = .ok (.int (p * s)) h := bmul_r h (by omega) (by omega)
section
variable (j : Nat) {H : Hs} {a b : Nat} {ws rs : List Wv} (hw : ∀ w ∈ ws, SzE w) (hr : ∀ r ∈ rs, RimE r) (hl : rs.length = ws.length) (ha : H[a]? = some (.lst ws)) (hb : H[b]? = some (.lst rs))
include hw hr hl ha hb
theorem chkE (S : Option Wv) : ∀ (m i : Nat) (p : Int) (x : Option Wv), i + m = ws.length →
    ∃ y, forL (exs (Wj (j + 3)) l11_0) (.name 4) [] (upTo (i : Int) m) [S, some (.ref a), some (.ref b), some (.int p), x, none, none] H =
      match bad (ws.drop i) (rs.drop i) i with
      | some k => .exc 1 (.int (k : Nat)) H
      | none => .ok (.nx [S, some (.ref a), some (.ref b), some (.int (p * prW (ws.drop i))), y, none, none]) H
  | 0, i, p, x, e => ⟨x, by
    have : i = ws.length := by omega
    subst this
    rw [List.drop_length]
    simp [upTo, forL, stay, prW, bad]⟩
  | m + 1, i, p, x, e => by
    have hi : i < ws.length := by omega
    have hi2 : i < rs.length := by omega
    have h1 := hw ws[i] (List.getElem_mem hi)
    have h2 := hr rs[i] (List.getElem_mem hi2)
    have x1 := subsc_ref ha hi
    have x2 := subsc_ref hb hi2
    have e1 := between' (j + 1) h1.pl 1 9 H
    have e2 := h2.is j H
    rw [List.drop_eq_getElem_cons hi, List.drop_eq_getElem_cons hi2, upTo_succ]
    generalize ws[i] = w at h1 x1 e1
    generalize rs[i] = r at h2 x2 e2
    by_cases c : okS w = true ∧ okR r = true
    · obtain ⟨y, ih⟩ := chkE S m (i + 1) (p * prW [w]) (some (.int i)) (by omega)
      obtain ⟨s, rfl, k1, k2⟩ := okS_int c.1
      have c1 : btw (.int s) 1 9 = true := c.1
      rw [c1] at e1
      rw [c.2] at e2
      have hm := mul_sz (p := p) k1 k2 H
      have q : exs (Wj (j + 3)) l11_0 [S, some (.ref a), some (.ref b), some (.int p), some (.int i), none, none] H = .ok (.nx [S, some (.ref a), some (.ref b), some (.int (p * s)), some (.int i), none, none]) H := by
        simp [s11_0, s11_1, l11_0, s11_2, s11_3, s11_4, s11_5, c11_0, s11_6, List.getElem?_cons_zero, List.getElem?_cons_succ, List.set_cons_zero, List.set_cons_succ, List.length_cons, List.length_nil, exs, ex, ev.eq_1, ev.eq_2, ev.eq_3, ev.eq_4, ev.eq_5, ev.eq_6, ev.eq_7, ev.eq_8, ev.eq_9, ev.eq_10, ev.eq_11, ev.eq_12, ev.eq_13, ev.eq_14, ev.eq_15, ev.eq_16, ev.eq_17, ev.eq_18, ev.eq_19, ev.eq_21, ev.eq_22, ev.eq_23, ev.eq_24, evs, evo, evi, tst_cmp, tst_chn, tst_isi, tst_call, tst_meth, tst_blt, tst_var, tst_not, tst_and, tst_or, start, bodyEnd, store, Tg.bind, binds, Rz.bind_ok, Rz.bind_bad, Rz.bind_exc, Rz.of, truth, cmpop, Cm.run, getS, getL, blt, isL, lmop, x1, x2, glo0, e1, e2, hm]
      refine ⟨y, ?_⟩
      rw [forL_nx rfl rfl q, show (i : Int) + 1 = ((i + 1 : Nat) : Int) by omega]
      have ps : prW [.int s] = s := by simp [prW]
      rw [ps] at ih
      rw [ih, bad, if_pos c]
      cases bad (ws.drop (i + 1)) (rs.drop (i + 1)) (i + 1) with
      | some k => rfl
      | none =>
        simp only
        rw [prW, Int.mul_assoc]
    · refine ⟨none, ?_⟩
      have q : exs (Wj (j + 3)) l11_0 [S, some (.ref a), some (.ref b), some (.int p), some (.int i), none, none] H = .exc 1 (.int i) H := by
        by_cases c1 : okS w = true
        · have c2 : okR r = false := by simpa [c1] using c
          have c1' : btw w 1 9 = true := c1
          rw [c1'] at e1
          rw [c2] at e2
          simp [s11_0, s11_1, l11_0, s11_2, s11_3, s11_4, s11_5, c11_0, s11_6, List.getElem?_cons_zero, List.getElem?_cons_succ, List.set_cons_zero, List.set_cons_succ, List.length_cons, List.length_nil, exs, ex, ev.eq_1, ev.eq_2, ev.eq_3, ev.eq_4, ev.eq_5, ev.eq_6, ev.eq_7, ev.eq_8, ev.eq_9, ev.eq_10, ev.eq_11, ev.eq_12, ev.eq_13, ev.eq_14, ev.eq_15, ev.eq_16, ev.eq_17, ev.eq_18, ev.eq_19, ev.eq_21, ev.eq_22, ev.eq_23, ev.eq_24, evs, evo, evi, tst_cmp, tst_chn, tst_isi, tst_call, tst_meth, tst_blt, tst_var, tst_not, tst_and, tst_or, start, bodyEnd, store, Tg.bind, binds, Rz.bind_ok, Rz.bind_bad, Rz.bind_exc, Rz.of, truth, cmpop, Cm.run, getS, getL, blt, isL, lmop, x1, x2, glo0, e1, e2]
        · have c1' : btw w 1 9 = false := by simpa [okS] using c1
          rw [c1'] at e1
          simp [s11_0, s11_1, l11_0, s11_2, s11_3, s11_4, s11_5, c11_0, s11_6, List.getElem?_cons_zero, List.getElem?_cons_succ, List.set_cons_zero, List.set_cons_succ, List.length_cons, List.length_nil, exs, ex, ev.eq_1, ev.eq_2, ev.eq_3, ev.eq_4, ev.eq_5, ev.eq_6, ev.eq_7, ev.eq_8, ev.eq_9, ev.eq_10, ev.eq_11, ev.eq_12, ev.eq_13, ev.eq_14, ev.eq_15, ev.eq_16, ev.eq_17, ev.eq_18, ev.eq_19, ev.eq_21, ev.eq_22, ev.eq_23, ev.eq_24, evs, evo, evi, tst_cmp, tst_chn, tst_isi, tst_call, tst_meth, tst_blt, tst_var, tst_not, tst_and, tst_or, start, bodyEnd, store, Tg.bind, binds, Rz.bind_ok, Rz.bind_bad, Rz.bind_exc, Rz.of, truth, cmpop, Cm.run, getS, getL, blt, isL, lmop, x1, x2, glo0, e1]
      rw [forL_exc rfl rfl q, bad, if_neg c]
end
theorem grefuse (j : Nat) {h : Hs} {a b : Nat} {ws rs : List Wv} (hw : ∀ w ∈ ws, SzE w) (hr : ∀ r ∈ rs, RimE r) (ha : h[a]? = some (.lst ws)) (hb : h[b]? = some (.lst rs)) (zw : ws.length ≤ 60) {v : Wv} (hv : verdict ws rs = some v) :
    make (Wj (j + 4)) 3 [.ref a, .ref b] h = .exc 1 v (h ++ [.ins 3 []]) := by
  have A : (h ++ [Ob.ins 3 []])[a]? = some (.lst ws) := get_app ha _
  have B : (h ++ [Ob.ins 3 []])[b]? = some (.lst rs) := get_app hb _
  have key : callD pg.D pg.glo pg.cls pg.fld pg.turns (j + 4) 11 [.ref h.length, .ref a, .ref b] (h ++ [.ins 3 []]) = .exc 1 v (h ++ [.ins 3 []]) := by
    rw [run_open db11 rfl rfl]
    show bodyEnd (exs (Wj (j + 3)) [s11_0, s11_1, s11_2, s11_3, s11_4, s11_5, s11_6] [some (.ref h.length), some (.ref a), some (.ref b), none, none, none, none] _) = _
    unfold verdict at hv
    by_cases c : (1 ≤ ws.length ∧ ws.length ≤ 3) ∧ rs.length = ws.length
    · rw [if_pos c] at hv
      have a1 : (1 : Int) ≤ (ws.length : Int) := by omega
      have a2 : (ws.length : Int) ≤ 3 := by omega
      have q0 : ex (Wj (j + 3)) s11_0 [some (.ref h.length), some (.ref a), some (.ref b), none, none, none, none] (h ++ [.ins 3 []]) = .ok (.nx [some (.ref h.length), some (.ref a), some (.ref b), none, none, none, none]) (h ++ [.ins 3 []]) := by
        simp [s11_0, List.getElem?_cons_zero, List.getElem?_cons_succ, List.set_cons_zero, List.set_cons_succ, List.length_cons, List.length_nil, exs, ex, ev, evs, evo, evi, tst_cmp, tst_chn, tst_isi, tst_call, tst_meth, tst_blt, tst_var, tst_not, tst_and, tst_or, start, bodyEnd, store, Tg.bind, binds, Rz.bind_ok, Rz.bind_bad, Rz.bind_exc, Rz.of, truth, cmpop, Cm.run, subsc, getS, getL, blt, isL, lmop, A, B, glo2, eq_int, c.2, a1, a2]
      have q1 : ex (Wj (j + 3)) s11_1 [some (.ref h.length), some (.ref a), some (.ref b), none, none, none, none] (h ++ [.ins 3 []]) = .ok (.nx [some (.ref h.length), some (.ref a), some (.ref b), some (.int 1), none, none, none]) (h ++ [.ins 3 []]) := by
        simp [s11_1, List.getElem?_cons_zero, List.getElem?_cons_succ, List.set_cons_zero, List.set_cons_succ, List.length_cons, List.length_nil, exs, ex, ev, evs, evo, evi, tst_cmp, tst_chn, tst_isi, tst_call, tst_meth, tst_blt, tst_var, tst_not, tst_and, tst_or, start, bodyEnd, store, Tg.bind, binds, Rz.bind_ok, Rz.bind_bad, Rz.bind_exc, Rz.of, truth, cmpop, Cm.run, subsc, getS, getL, blt, isL, lmop]
      obtain ⟨y, lp⟩ := chkE j hw hr c.2 A B (some (.ref h.length)) ws.length 0 1 none (by omega)
      rw [List.drop_zero, List.drop_zero, Int.one_mul] at lp
      have q2 : ex (Wj (j + 3)) s11_2 [some (.ref h.length), some (.ref a), some (.ref b), some (.int 1), none, none, none] (h ++ [.ins 3 []]) = match bad ws rs 0 with
          | some k => .exc 1 (.int (k : Nat)) (h ++ [.ins 3 []])
          | none => .ok (.nx [some (.ref h.length), some (.ref a), some (.ref b), some (.int (prW ws)), y, none, none]) (h ++ [.ins 3 []]) := by
        rw [← lp, s11_2, ex]
        have q : evi (Wj (j + 3)) (.rng [(.blt .len [(.var 1)])]) [some (.ref h.length), some (.ref a), some (.ref b), some (.int 1), none, none, none] (h ++ [.ins 3 []]) = .ok (upTo 0 ws.length, []) (h ++ [.ins 3 []]) := by
          have e1 : evs (Wj (j + 3)) [(.blt .len [(.var 1)])] [some (.ref h.length), some (.ref a), some (.ref b), some (.int 1), none, none, none] (h ++ [.ins 3 []]) = .ok [.int ws.length] (h ++ [.ins 3 []]) := by
            simp [List.getElem?_cons_zero, List.getElem?_cons_succ, List.set_cons_zero, List.set_cons_succ, List.length_cons, List.length_nil, exs, ex, ev, evs, evo, evi, tst_cmp, tst_chn, tst_isi, tst_call, tst_meth, tst_blt, tst_var, tst_not, tst_and, tst_or, start, bodyEnd, store, Tg.bind, binds, Rz.bind_ok, Rz.bind_bad, Rz.bind_exc, Rz.of, truth, cmpop, Cm.run, subsc, getS, getL, blt, isL, lmop, A]
          rw [evi, e1, Rz.bind_ok, range1 (by omega), Int.toNat_natCast, Rz.of_some]
        rw [q, Rz.bind_ok]
        all_goals rfl
      rw [exs_nx q0, exs_nx q1]
      cases hbad : bad ws rs 0 with
      | some k =>
        rw [hbad] at q2 hv
        simp only [Option.some.injEq] at hv
        subst hv
        rw [exs_exc q2]
        rfl
      | none =>
        rw [hbad] at q2 hv
        simp only at hv
        split at hv
        · rename_i hp
          cases hv
          have q3 : ex (Wj (j + 3)) s11_3 [some (.ref h.length), some (.ref a), some (.ref b), some (.int (prW ws)), y, none, none] (h ++ [.ins 3 []]) = .exc 1 .non (h ++ [.ins 3 []]) := by
            simp [s11_3, List.getElem?_cons_zero, List.getElem?_cons_succ, List.set_cons_zero, List.set_cons_succ, List.length_cons, List.length_nil, exs, ex, ev, evs, evo, evi, tst_cmp, tst_chn, tst_isi, tst_call, tst_meth, tst_blt, tst_var, tst_not, tst_and, tst_or, start, bodyEnd, store, Tg.bind, binds, Rz.bind_ok, Rz.bind_bad, Rz.bind_exc, Rz.of, truth, cmpop, Cm.run, subsc, getS, getL, blt, isL, lmop, glo3, hp]
          rw [exs_nx q2, exs_exc q3]
          rfl
        · cases hv
    · rw [if_neg c] at hv
      cases hv
      have q0 : ex (Wj (j + 3)) s11_0 [some (.ref h.length), some (.ref a), some (.ref b), none, none, none, none] (h ++ [.ins 3 []]) = .exc 1 .non (h ++ [.ins 3 []]) := by
        by_cases a1 : (1 : Int) ≤ (ws.length : Int)
        · by_cases a2 : (ws.length : Int) ≤ 3
          · have c3 : ¬ ((rs.length : Int) = (ws.length : Int)) := fun z => c ⟨⟨by omega, by omega⟩, by omega⟩
            have c3' : ¬ (rs.length = ws.length) := by omega
            simp [s11_0, List.getElem?_cons_zero, List.getElem?_cons_succ, List.set_cons_zero, List.set_cons_succ, List.length_cons, List.length_nil, exs, ex, ev, evs, evo, evi, tst_cmp, tst_chn, tst_isi, tst_call, tst_meth, tst_blt, tst_var, tst_not, tst_and, tst_or, start, bodyEnd, store, Tg.bind, binds, Rz.bind_ok, Rz.bind_bad, Rz.bind_exc, Rz.of, truth, cmpop, Cm.run, subsc, getS, getL, blt, isL, lmop, A, B, glo2, eq_int, a1, a2, c3, c3']
          · simp [s11_0, List.getElem?_cons_zero, List.getElem?_cons_succ, List.set_cons_zero, List.set_cons_succ, List.length_cons, List.length_nil, exs, ex, ev, evs, evo, evi, tst_cmp, tst_chn, tst_isi, tst_call, tst_meth, tst_blt, tst_var, tst_not, tst_and, tst_or, start, bodyEnd, store, Tg.bind, binds, Rz.bind_ok, Rz.bind_bad, Rz.bind_exc, Rz.of, truth, cmpop, Cm.run, subsc, getS, getL, blt, isL, lmop, A, B, glo2, eq_int, a1, a2]
        · simp [s11_0, List.getElem?_cons_zero, List.getElem?_cons_succ, List.set_cons_zero, List.set_cons_succ, List.length_cons, List.length_nil, exs, ex, ev, evs, evo, evi, tst_cmp, tst_chn, tst_isi, tst_call, tst_meth, tst_blt, tst_var, tst_not, tst_and, tst_or, start, bodyEnd, store, Tg.bind, binds, Rz.bind_ok, Rz.bind_bad, Rz.bind_exc, Rz.of, truth, cmpop, Cm.run, subsc, getS, getL, blt, isL, lmop, A, B, glo2, eq_int, a1]
      rw [exs_exc q0]
      rfl
  unfold make
  simp only [Wj, cls3]
  rw [key]
  rfl
end SL

set_option maxRecDepth 100000
set_option maxHeartbeats 2000000
/-! What is due; what is found. -/
namespace SL
open PySem
set_option autoImplicit false
abbrev rfd : Wv := .str (Str.ofString "refused")
abbrev mad : Wv := .str (Str.ofString "made")
def dueW (a b : Nat) : Option Wv → Wv
  | some v => .tup [rfd, v]
  | none => .tup [mad, .ref a, .ref b]
def fndW (ws rs : List Wv) : Option Wv → Wv
  | some v => .tup [rfd, v]
  | none => .tup [mad, .lst ws, .lst rs]
section
variable (j : Nat) {H : Hs} {a b : Nat} {ws rs : List Wv} (hw : ∀ w ∈ ws, SzE w) (hr : ∀ r ∈ rs, RimE r) (hl : rs.length = ws.length) (ha : H[a]? = some (.lst ws)) (hb : H[b]? = some (.lst rs))
include hw hr hl ha hb
theorem dueE : ∀ (m i : Nat) (p : Int) (x3 x4 : Option Wv), i + m = ws.length →
    ∃ y3 y4, forL (exs (Wj (j + 1)) l25_0) (.tup [(.name 3), (.name 4)]) [(a, ws)] (enumd i (ws.drop i)) [some (.ref a), some (.ref b), some (.int p), x3, x4] H =
      match bad (ws.drop i) (rs.drop i) i with
      | some k => .ok (.ret (.tup [rfd, .int (k : Nat)])) H
      | none => .ok (.nx [some (.ref a), some (.ref b), some (.int (p * prW (ws.drop i))), y3, y4]) H
  | 0, i, p, x3, x4, e => ⟨x3, x4, by
    have : i = ws.length := by omega
    subst this
    rw [List.drop_length, enumd, forL_end (by simp [stay, ha])]
    simp [prW, bad]⟩
  | m + 1, i, p, x3, x4, e => by
    have hi : i < ws.length := by omega
    have hi2 : i < rs.length := by omega
    have h1 := hw ws[i] (List.getElem_mem hi)
    have h2 := hr rs[i] (List.getElem_mem hi2)
    have x2 := subsc_ref hb hi2
    have e2 := h2.good j H
    have stk : stay H [(a, ws)] = true := by simp [stay, ha]
    rw [List.drop_eq_getElem_cons hi, List.drop_eq_getElem_cons hi2, enumd]
    generalize ws[i] = w at h1
    generalize rs[i] = r at h2 x2 e2
    have b1 : (Tg.tup [(.name 3), (.name 4)]).bind (.tup [.int (i : Nat), w]) [some (.ref a), some (.ref b), some (.int p), x3, x4] = some [some (.ref a), some (.ref b), some (.int p), some (.int (i : Nat)), some w] := rfl
    by_cases c : okS w = true ∧ okR r = true
    · obtain ⟨s, rfl, k1, k2⟩ := okS_int c.1
      obtain ⟨y3, y4, ih⟩ := dueE m (i + 1) (p * s) (some (.int (i : Nat))) (some (.int s)) (by omega)
      rw [c.2] at e2
      have hm := mul_sz (p := p) k1 k2 H
      have s0 : 0 < s := by omega
      have s1 : s < 10 := by omega
      have q : exs (Wj (j + 1)) l25_0 [some (.ref a), some (.ref b), some (.int p), some (.int (i : Nat)), some (.int s)] H = .ok (.nx [some (.ref a), some (.ref b), some (.int (p * s)), some (.int (i : Nat)), some (.int s)]) H := by
        simp [s25_0, s25_1, l25_0, s25_2, s25_3, List.getElem?_cons_zero, List.getElem?_cons_succ, List.set_cons_zero, List.set_cons_succ, List.length_cons, List.length_nil, exs, ex, ev.eq_1, ev.eq_2, ev.eq_3, ev.eq_4, ev.eq_5, ev.eq_6, ev.eq_7, ev.eq_8, ev.eq_9, ev.eq_10, ev.eq_11, ev.eq_12, ev.eq_13, ev.eq_14, ev.eq_15, ev.eq_16, ev.eq_17, ev.eq_18, ev.eq_19, ev.eq_21, ev.eq_22, ev.eq_23, ev.eq_24, evs, evo, evi, tst_cmp, tst_chn, tst_isi, tst_call, tst_meth, tst_blt, tst_var, tst_not, tst_and, tst_or, start, bodyEnd, store, Tg.bind, binds, Rz.bind_ok, Rz.bind_bad, Rz.bind_exc, Rz.of, truth, cmpop, Cm.run, getS, getL, blt, isL, lmop, Ty.has, tyOf, Ty.name, s0, s1, x2, e2, hm]
      refine ⟨y3, y4, ?_⟩
      rw [forL_nx stk b1 q, ih, bad, if_pos c]
      cases bad (ws.drop (i + 1)) (rs.drop (i + 1)) (i + 1) with
      | some k => rfl
      | none =>
        simp only
        rw [prW, Int.mul_assoc]
    · refine ⟨none, none, ?_⟩
      have q : exs (Wj (j + 1)) l25_0 [some (.ref a), some (.ref b), some (.int p), some (.int (i : Nat)), some w] H = .ok (.ret (.tup [rfd, .int (i : Nat)])) H := by
        by_cases c1 : okS w = true
        · have c2 : okR r = false := by simpa [c1] using c
          obtain ⟨s, rfl, k1, k2⟩ := okS_int c1
          have s0 : 0 < s := by omega
          have s1 : s < 10 := by omega
          rw [c2] at e2
          simp [s25_0, s25_1, l25_0, s25_2, s25_3, List.getElem?_cons_zero, List.getElem?_cons_succ, List.set_cons_zero, List.set_cons_succ, List.length_cons, List.length_nil, exs, ex, ev.eq_1, ev.eq_2, ev.eq_3, ev.eq_4, ev.eq_5, ev.eq_6, ev.eq_7, ev.eq_8, ev.eq_9, ev.eq_10, ev.eq_11, ev.eq_12, ev.eq_13, ev.eq_14, ev.eq_15, ev.eq_16, ev.eq_17, ev.eq_18, ev.eq_19, ev.eq_21, ev.eq_22, ev.eq_23, ev.eq_24, evs, evo, evi, tst_cmp, tst_chn, tst_isi, tst_call, tst_meth, tst_blt, tst_var, tst_not, tst_and, tst_or, start, bodyEnd, store, Tg.bind, binds, Rz.bind_ok, Rz.bind_bad, Rz.bind_exc, Rz.of, truth, cmpop, Cm.run, getS, getL, blt, isL, lmop, Ty.has, tyOf, Ty.name, s0, s1, x2, e2, show 2 ≤ sizeLine by decide]
        · have hp := h1.pl
          cases w with
          | int s =>
            simp only [okS, btw, Bool.and_eq_true, decide_eq_true_eq] at c1
            by_cases s0 : 0 < s
            · have s1 : ¬ s < 10 := by omega
              simp [s25_0, s25_1, l25_0, s25_2, s25_3, List.getElem?_cons_zero, List.getElem?_cons_succ, List.set_cons_zero, List.set_cons_succ, List.length_cons, List.length_nil, exs, ex, ev.eq_1, ev.eq_2, ev.eq_3, ev.eq_4, ev.eq_5, ev.eq_6, ev.eq_7, ev.eq_8, ev.eq_9, ev.eq_10, ev.eq_11, ev.eq_12, ev.eq_13, ev.eq_14, ev.eq_15, ev.eq_16, ev.eq_17, ev.eq_18, ev.eq_19, ev.eq_21, ev.eq_22, ev.eq_23, ev.eq_24, evs, evo, evi, tst_cmp, tst_chn, tst_isi, tst_call, tst_meth, tst_blt, tst_var, tst_not, tst_and, tst_or, start, bodyEnd, store, Tg.bind, binds, Rz.bind_ok, Rz.bind_bad, Rz.bind_exc, Rz.of, truth, cmpop, Cm.run, getS, getL, blt, isL, lmop, Ty.has, tyOf, Ty.name, s0, s1, show 2 ≤ sizeLine by decide]
            · simp [s25_0, s25_1, l25_0, s25_2, s25_3, List.getElem?_cons_zero, List.getElem?_cons_succ, List.set_cons_zero, List.set_cons_succ, List.length_cons, List.length_nil, exs, ex, ev.eq_1, ev.eq_2, ev.eq_3, ev.eq_4, ev.eq_5, ev.eq_6, ev.eq_7, ev.eq_8, ev.eq_9, ev.eq_10, ev.eq_11, ev.eq_12, ev.eq_13, ev.eq_14, ev.eq_15, ev.eq_16, ev.eq_17, ev.eq_18, ev.eq_19, ev.eq_21, ev.eq_22, ev.eq_23, ev.eq_24, evs, evo, evi, tst_cmp, tst_chn, tst_isi, tst_call, tst_meth, tst_blt, tst_var, tst_not, tst_and, tst_or, start, bodyEnd, store, Tg.bind, binds, Rz.bind_ok, Rz.bind_bad, Rz.bind_exc, Rz.of, truth, cmpop, Cm.run, getS, getL, blt, isL, lmop, Ty.has, tyOf, Ty.name, s0, show 2 ≤ sizeLine by decide]
          | dic _ => cases hp
          | ins _ _ => cases hp
          | ref _ => cases hp
          | fn _ => cases hp
          | cls _ => cases hp
          | _ => simp [s25_0, s25_1, l25_0, s25_2, s25_3, List.getElem?_cons_zero, List.getElem?_cons_succ, List.set_cons_zero, List.set_cons_succ, List.length_cons, List.length_nil, exs, ex, ev.eq_1, ev.eq_2, ev.eq_3, ev.eq_4, ev.eq_5, ev.eq_6, ev.eq_7, ev.eq_8, ev.eq_9, ev.eq_10, ev.eq_11, ev.eq_12, ev.eq_13, ev.eq_14, ev.eq_15, ev.eq_16, ev.eq_17, ev.eq_18, ev.eq_19, ev.eq_21, ev.eq_22, ev.eq_23, ev.eq_24, evs, evo, evi, tst_cmp, tst_chn, tst_isi, tst_call, tst_meth, tst_blt, tst_var, tst_not, tst_and, tst_or, start, bodyEnd, store, Tg.bind, binds, Rz.bind_ok, Rz.bind_bad, Rz.bind_exc, Rz.of, truth, cmpop, Cm.run, getS, getL, blt, isL, lmop, Ty.has, tyOf, Ty.name, show 2 ≤ sizeLine by decide]
      rw [forL_ret stk b1 q, bad, if_neg c]
end
theorem dueG (j : Nat) {H : Hs} {a b : Nat} {ws rs : List Wv} (hw : ∀ w ∈ ws, SzE w) (hr : ∀ r ∈ rs, RimE r) (ha : H[a]? = some (.lst ws)) (hb : H[b]? = some (.lst rs)) :
    ∃ t, C (j + 2) 25 [.ref a, .ref b] H = .ok (dueW a b (verdict ws rs)) (H ++ t) := by
  rw [C, run_open db25 rfl rfl]
  show ∃ t, bodyEnd (exs (Wj (j + 1)) [s25_0, s25_1, s25_2, s25_3] [some (.ref a), some (.ref b), none, none, none] H) = _
  have iv : ∀ h : Hs, inVal h (.int (ws.length : Int)) (.tup [.int 1, .int 2, .int 3]) = some (decide ((1 ≤ ws.length ∧ ws.length ≤ 3))) := fun h => by
    rw [inVal_nb (n := 0) (m := 1) (ws := [.int 1, .int 2, .int 3]) (Fz.nb (n := 0) rfl) rfl rfl rfl (by decide)]
    congr 1
    simp only [List.mem_cons, Wv.int.injEq, List.not_mem_nil, or_false, decide_eq_decide]
    omega
  unfold verdict
  by_cases c : (1 ≤ ws.length ∧ ws.length ≤ 3) ∧ rs.length = ws.length
  · rw [if_pos c]
    have q0 : ex (Wj (j + 1)) s25_0 [some (.ref a), some (.ref b), none, none, none] H = .ok (.nx [some (.ref a), some (.ref b), none, none, none]) H := by
      have iv' := iv H
      rw [decide_eq_true c.1] at iv'
      simp [s25_0, List.getElem?_cons_zero, List.getElem?_cons_succ, List.set_cons_zero, List.set_cons_succ, List.length_cons, List.length_nil, exs, ex, ev, evs, evo, evi, tst_cmp, tst_chn, tst_isi, tst_call, tst_meth, tst_blt, tst_var, tst_not, tst_and, tst_or, start, bodyEnd, store, Tg.bind, binds, Rz.bind_ok, Rz.bind_bad, Rz.bind_exc, Rz.of, truth, cmpop, Cm.run, subsc, getS, getL, blt, isL, lmop, ha, hb, iv', eq_int, c.2, show 3 ≤ sizeLine by decide]
    have q1 : ex (Wj (j + 1)) s25_1 [some (.ref a), some (.ref b), none, none, none] H = .ok (.nx [some (.ref a), some (.ref b), some (.int 1), none, none]) H := by
      simp [s25_1, List.getElem?_cons_zero, List.getElem?_cons_succ, List.set_cons_zero, List.set_cons_succ, List.length_cons, List.length_nil, exs, ex, ev, evs, evo, evi, tst_cmp, tst_chn, tst_isi, tst_call, tst_meth, tst_blt, tst_var, tst_not, tst_and, tst_or, start, bodyEnd, store, Tg.bind, binds, Rz.bind_ok, Rz.bind_bad, Rz.bind_exc, Rz.of, truth, cmpop, Cm.run, subsc, getS, getL, blt, isL, lmop]
    obtain ⟨y3, y4, lp⟩ := dueE j hw hr c.2 ha hb ws.length 0 1 none none (by omega)
    rw [List.drop_zero, List.drop_zero, Int.one_mul] at lp
    have q2 : ex (Wj (j + 1)) s25_2 [some (.ref a), some (.ref b), some (.int 1), none, none] H = match bad ws rs 0 with
        | some k => .ok (.ret (.tup [rfd, .int (k : Nat)])) H
        | none => .ok (.nx [some (.ref a), some (.ref b), some (.int (prW ws)), y3, y4]) H := by
      rw [← lp, s25_2, ex]
      have q : evi (Wj (j + 1)) (.enm (.var 0)) [some (.ref a), some (.ref b), some (.int 1), none, none] H = .ok (enumd 0 ws, [(a, ws)]) H := by
        rw [evi]
        simp [ev, srcL, srcOf, getL, ha]
      rw [q, Rz.bind_ok]
      all_goals rfl
    rw [exs_nx q0, exs_nx q1]
    cases hbad : bad ws rs 0 with
    | some k =>
      rw [hbad] at q2
      refine ⟨[], ?_⟩
      rw [exs_ret q2, List.append_nil]
      rfl
    | none =>
      rw [hbad] at q2
      refine ⟨[.lst [.tup [mad, .ref a, .ref b], .tup [rfd, .non]]], ?_⟩
      rw [exs_nx q2]
      by_cases hp : 40 < prW ws
      · simp only [if_pos hp]
        simp [s25_3, List.getElem?_cons_zero, List.getElem?_cons_succ, List.set_cons_zero, List.set_cons_succ, List.length_cons, List.length_nil, exs, ex, ev.eq_1, ev.eq_2, ev.eq_3, ev.eq_4, ev.eq_5, ev.eq_6, ev.eq_7, ev.eq_8, ev.eq_9, ev.eq_10, ev.eq_11, ev.eq_12, ev.eq_13, ev.eq_14, ev.eq_15, ev.eq_16, ev.eq_17, ev.eq_18, ev.eq_19, ev.eq_21, ev.eq_22, ev.eq_23, ev.eq_24, evs, evo, evi, tst_cmp, tst_chn, tst_isi, tst_call, tst_meth, tst_blt, tst_var, tst_not, tst_and, tst_or, start, bodyEnd, store, Tg.bind, binds, Rz.bind_ok, Rz.bind_bad, Rz.bind_exc, Rz.of, truth, cmpop, Cm.run, getS, getL, blt, isL, lmop, newL, hp, subsc, getS, getL, get_last, ixAt, dueW, show 2 ≤ sizeLine by decide, show 3 ≤ sizeLine by decide]
      · simp only [if_neg hp]
        simp [s25_3, List.getElem?_cons_zero, List.getElem?_cons_succ, List.set_cons_zero, List.set_cons_succ, List.length_cons, List.length_nil, exs, ex, ev.eq_1, ev.eq_2, ev.eq_3, ev.eq_4, ev.eq_5, ev.eq_6, ev.eq_7, ev.eq_8, ev.eq_9, ev.eq_10, ev.eq_11, ev.eq_12, ev.eq_13, ev.eq_14, ev.eq_15, ev.eq_16, ev.eq_17, ev.eq_18, ev.eq_19, ev.eq_21, ev.eq_22, ev.eq_23, ev.eq_24, evs, evo, evi, tst_cmp, tst_chn, tst_isi, tst_call, tst_meth, tst_blt, tst_var, tst_not, tst_and, tst_or, start, bodyEnd, store, Tg.bind, binds, Rz.bind_ok, Rz.bind_bad, Rz.bind_exc, Rz.of, truth, cmpop, Cm.run, getS, getL, blt, isL, lmop, newL, hp, subsc, getS, getL, get_last, ixAt, dueW, show 2 ≤ sizeLine by decide, show 3 ≤ sizeLine by decide]
  · rw [if_neg c]
    refine ⟨[], ?_⟩
    have q0 : ex (Wj (j + 1)) s25_0 [some (.ref a), some (.ref b), none, none, none] H = .ok (.ret (.tup [rfd, .non])) H := by
      have iv' := iv H
      by_cases c1 : 1 ≤ ws.length ∧ ws.length ≤ 3
      · rw [decide_eq_true c1] at iv'
        have c3 : ¬ ((rs.length : Int) = (ws.length : Int)) := fun z => c ⟨c1, by omega⟩
        have c3' : ¬ (rs.length = ws.length) := by omega
        simp [s25_0, List.getElem?_cons_zero, List.getElem?_cons_succ, List.set_cons_zero, List.set_cons_succ, List.length_cons, List.length_nil, exs, ex, ev, evs, evo, evi, tst_cmp, tst_chn, tst_isi, tst_call, tst_meth, tst_blt, tst_var, tst_not, tst_and, tst_or, start, bodyEnd, store, Tg.bind, binds, Rz.bind_ok, Rz.bind_bad, Rz.bind_exc, Rz.of, truth, cmpop, Cm.run, subsc, getS, getL, blt, isL, lmop, ha, hb, iv', eq_int, c3, c3', show 3 ≤ sizeLine by decide, show 2 ≤ sizeLine by decide]
      · rw [decide_eq_false c1] at iv'
        simp [s25_0, List.getElem?_cons_zero, List.getElem?_cons_succ, List.set_cons_zero, List.set_cons_succ, List.length_cons, List.length_nil, exs, ex, ev, evs, evo, evi, tst_cmp, tst_chn, tst_isi, tst_call, tst_meth, tst_blt, tst_var, tst_not, tst_and, tst_or, start, bodyEnd, store, Tg.bind, binds, Rz.bind_ok, Rz.bind_bad, Rz.bind_exc, Rz.of, truth, cmpop, Cm.run, subsc, getS, getL, blt, isL, lmop, ha, hb, iv', show 3 ≤ sizeLine by decide, show 2 ≤ sizeLine by decide]
    rw [exs_ret q0, List.append_nil]
    rfl
theorem foundG (j : Nat) {H : Hs} {a b : Nat} {ws rs : List Wv} (hw : ∀ w ∈ ws, SzE w) (hr : ∀ r ∈ rs, RimE r) (ha : H[a]? = some (.lst ws)) (hb : H[b]? = some (.lst rs)) (zw : ws.length ≤ 60) :
    C (j + 5) 26 [.ref a, .ref b] H = .ok (fndW ws rs (verdict ws rs)) H := by
  have z3 : 3 ≤ sizeLine := by decide
  have z2 : 2 ≤ sizeLine := by decide
  have key : ∃ t, bodyEnd (exs (Wj (j + 4)) b26.body (start b26.ns [.ref a, .ref b]) H) = .ok (fndW ws rs (verdict ws rs)) (H ++ t) ∧ (fndW ws rs (verdict ws rs)).pure = true := by
    show ∃ t, bodyEnd (exs (Wj (j + 4)) [s26_0, s26_1] [some (.ref a), some (.ref b), none, none, none] H) = _ ∧ _
    have args : evs (Wj (j + 4)) [(.var 0), (.var 1)] [some (.ref a), some (.ref b), none, none, none] H = .ok [.ref a, .ref b] H := by simp [ev, evs]
    cases hv : verdict ws rs with
    | none =>
      obtain ⟨sz, rfl, k1, k2, k3, k4, k5, k6⟩ := verdict_made hv
      have m := gmake j k1 k2 k3 k4 k5 k6 ha hb
      have y : ex (Wj (j + 4)) y26_0 [some (.ref a), some (.ref b), none, none, none] H = .ok (.nx [some (.ref a), some (.ref b), some (gridV sz rs), none, none]) H := by
        rw [y26_0, ex, ev, args, Rz.bind_ok, m]
        rfl
      have q0 : ex (Wj (j + 4)) s26_0 [some (.ref a), some (.ref b), none, none, none] H = .ok (.nx [some (.ref a), some (.ref b), some (gridV sz rs), none, none]) H := by
        rw [s26_0, ex, y]
      refine ⟨[], ?_, ?_⟩
      · rw [exs_nx q0, List.append_nil]
        simp [s26_1, List.getElem?_cons_zero, List.getElem?_cons_succ, List.set_cons_zero, List.set_cons_succ, List.length_cons, List.length_nil, exs, ex, ev, evs, evo, evi, tst_cmp, tst_chn, tst_isi, tst_call, tst_meth, tst_blt, tst_var, tst_not, tst_and, tst_or, start, bodyEnd, store, Tg.bind, binds, Rz.bind_ok, Rz.bind_bad, Rz.bind_exc, Rz.of, truth, cmpop, Cm.run, subsc, getS, getL, blt, isL, lmop, getG, fl39, fl310, fget, List.lookup, fndW, z3]
      · show pures [mad, .lst _, .lst _] = true
        have p1 := nbs_pure (nb_ints sz 1)
        have p2 := nbs_pure (n := 1) (ws := rs) (nbs_of fun r hr' => (k2 r hr').nb 0)
        simp only [pures, Wv.pure, p1, p2]
        rfl
    | some v =>
      have m := grefuse j hw hr ha hb zw hv
      have pv : v.pure = true := by
        unfold verdict at hv
        split at hv
        · split at hv
          · cases hv; rfl
          · split at hv
            · cases hv; rfl
            · cases hv
        · cases hv; rfl
      have y : ex (Wj (j + 4)) y26_0 [some (.ref a), some (.ref b), none, none, none] H = .exc 1 v (H ++ [.ins 3 []]) := by
        rw [y26_0, ex, ev, args, Rz.bind_ok, m]
        rfl
      have q0 : ex (Wj (j + 4)) s26_0 [some (.ref a), some (.ref b), none, none, none] H = .ok (.ret (.tup [rfd, v])) (H ++ [.ins 3 []]) := by
        rw [s26_0, ex, y]
        simp [h26_0, hexs, hex, hev, hevs, htst, z2]
      refine ⟨[.ins 3 []], ?_, ?_⟩
      · rw [exs_ret q0]
        rfl
      · show pures [rfd, v] = true
        rw [pures, pures, pv]
        rfl
  obtain ⟨t, e, hp⟩ := key
  rw [C, run_end db26 rfl]
  simp only [Wj] at e
  rw [e, Rz.bind_ok]
  exact cold_end hp t
end SL

set_option maxRecDepth 100000
set_option maxHeartbeats 2000000
/-! The law: what is drawn. -/
namespace SL
open PySem
set_option autoImplicit false
/-- the well at 0, the sizes at ka, the rims at kb -/
structure Kg (ka kb : Nat) (g : Hs) : Prop where
  w : ∃ o, isWl o ∧ g[0]? = some o
  s : ∃ ws, g[ka]? = some (.lst ws) ∧ (∀ w ∈ ws, SzE w) ∧ ws.length ≤ 5
  r : ∃ rs, g[kb]? = some (.lst rs) ∧ (∀ r ∈ rs, RimE r) ∧ rs.length ≤ 6
theorem mem_set' {α : Type} {l : List α} {i : Nat} {x y : α} (h : y ∈ l.set i x) : y ∈ l ∨ y = x := List.mem_or_eq_of_mem_set h
section
variable {ka kb : Nat} (na : ka ≠ 0) (nb' : kb ≠ 0) (nab : ka ≠ kb)
include na nb'
theorem Kg.next {g : Hs} (K : Kg ka kb g) {o : Ob} (ho : isWl o) (t : Hs) : Kg ka kb (g.set 0 o ++ t) := by
  obtain ⟨o0, _, e0⟩ := K.w
  obtain ⟨ws, s1, s2⟩ := K.s
  obtain ⟨rs, r1, r2⟩ := K.r
  exact ⟨⟨o, ho, get_wl (ltg e0) o t⟩, ⟨ws, get_wl_ne na s1 o t, s2⟩, ⟨rs, get_wl_ne nb' r1 o t, r2⟩⟩
theorem Kg.app {g : Hs} (K : Kg ka kb g) (t : Hs) : Kg ka kb (g ++ t) := by
  obtain ⟨o0, o1, e0⟩ := K.w
  obtain ⟨ws, s1, s2⟩ := K.s
  obtain ⟨rs, r1, r2⟩ := K.r
  exact ⟨⟨o0, o1, get_app e0 t⟩, ⟨ws, get_app s1 t, s2⟩, ⟨rs, get_app r1 t, r2⟩⟩
theorem drawG (j : Nat) {g : Hs} (K : Kg ka kb g) {m : Int} (hm : 0 < m) (hm2 : m < 2 ^ 60) : ∃ (v : Int) (o' : Ob), isWl o' ∧ 0 ≤ v ∧ v < m ∧ ∀ t, callD pg.D pg.glo pg.cls pg.fld pg.turns (j + 1) 19 [.ref 0, .int m] (g ++ t) = .ok (.int v) (g.set 0 o' ++ t) := by
  obtain ⟨o, ho, e0⟩ := K.w
  obtain ⟨v, o', h1, h2, h3, e⟩ := drawW j (ltg e0) ho hm hm2
  rw [set_same e0] at e
  exact ⟨v, o', h1, h2, h3, e⟩
theorem oddSG (j : Nat) {g : Hs} (K : Kg ka kb g) : ∃ (w : Wv) (o' : Ob), isWl o' ∧ SzE w ∧ ∀ t, callD pg.D pg.glo pg.cls pg.fld pg.turns (j + 2) 22 [.ref 0] (g ++ t) = .ok w (g.set 0 o' ++ t) := by
  obtain ⟨o, ho, e0⟩ := K.w
  obtain ⟨v, o', h1, h2, e⟩ := oddSize j (ltg e0) ho
  rw [set_same e0] at e
  exact ⟨v, o', h1, h2, e⟩
theorem oddRG (j : Nat) {g : Hs} (K : Kg ka kb g) : ∃ (w : Wv) (o' : Ob), isWl o' ∧ RimE w ∧ ∀ t, callD pg.D pg.glo pg.cls pg.fld pg.turns (j + 2) 23 [.ref 0] (g ++ t) = .ok w (g.set 0 o' ++ t) := by
  obtain ⟨o, ho, e0⟩ := K.w
  obtain ⟨v, o', h1, h2, e⟩ := oddRim j (ltg e0) ho
  rw [set_same e0] at e
  exact ⟨v, o', h1, h2, e⟩
include nab
theorem Kg.setA {g : Hs} (K : Kg ka kb g) {w : Wv} (hw : SzE w) {ws : List Wv} (e : g[ka]? = some (.lst ws)) (i : Nat) : Kg ka kb (g.set ka (.lst (ws.set i w))) := by
  obtain ⟨o0, o1, e0⟩ := K.w
  obtain ⟨ws', s1, s2, s3⟩ := K.s
  obtain ⟨rs, r1, r2⟩ := K.r
  rw [e] at s1; cases s1
  refine ⟨⟨o0, o1, by rw [List.getElem?_set_ne na]; exact e0⟩, ⟨ws.set i w, List.getElem?_set_self (ltg e), fun x hx => ?_, by simpa using s3⟩, ⟨rs, by rw [List.getElem?_set_ne nab]; exact r1, r2⟩⟩
  rcases mem_set' hx with h | rfl
  · exact s2 x h
  · exact hw
theorem Kg.setB {g : Hs} (K : Kg ka kb g) {w : Wv} (hw : RimE w) {rs : List Wv} (e : g[kb]? = some (.lst rs)) (i : Nat) : Kg ka kb (g.set kb (.lst (rs.set i w))) := by
  obtain ⟨o0, o1, e0⟩ := K.w
  obtain ⟨ws, s1, s2⟩ := K.s
  obtain ⟨rs', r1, r2, r3⟩ := K.r
  rw [e] at r1; cases r1
  refine ⟨⟨o0, o1, by rw [List.getElem?_set_ne nb']; exact e0⟩, ⟨ws, by rw [List.getElem?_set_ne (Ne.symm nab)]; exact s1, s2⟩, ⟨rs.set i w, List.getElem?_set_self (ltg e), fun x hx => ?_, by simpa using r3⟩⟩
  rcases mem_set' hx with h | rfl
  · exact r2 x h
  · exact hw
/-- one put in: the value first, then its place drawn -/
theorem putA (j : Nat) {g : Hs} (K : Kg ka kb g) (S x3 x5 x6 x7 x8 : Option Wv) (hne : g[ka]? ≠ some (.lst [])) : ∃ g', Kg ka kb g' ∧ ex (Wj (j + 2)) (.asg (.sub (.var 2) (.call 19 [(.var 1), (.blt .len [(.var 2)])])) (.call 22 [(.var 1)])) [S, some (.ref 0), some (.ref ka), x3, some (.ref kb), x5, x6, x7, x8] g = .ok (.nx [S, some (.ref 0), some (.ref ka), x3, some (.ref kb), x5, x6, x7, x8]) g' := by
  obtain ⟨w, o1, ho1, hw, d1⟩ := oddSG na nb' j K
  have d1 := d1 []
  rw [List.append_nil, List.append_nil] at d1
  have K1 := K.next na nb' ho1 []
  rw [List.append_nil] at K1
  obtain ⟨ws, s1, s2, s3⟩ := K1.s
  have hl : ws ≠ [] := fun z => by
    subst z
    rw [List.getElem?_set_ne (Ne.symm na)] at s1
    exact hne s1
  have hl2 : 0 < ws.length := List.length_pos_iff.mpr hl
  obtain ⟨v, o2, ho2, v0, v1, d2⟩ := drawG na nb' (j + 1) K1 (m := (ws.length : Int)) (by omega) (by omega)
  have d2 := d2 []
  rw [List.append_nil, List.append_nil, List.set_set] at d2
  have K2 := K1.next na nb' ho2 []
  rw [List.append_nil, List.set_set] at K2
  have s2' : (g.set 0 o2)[ka]? = some (.lst ws) := by
    rw [List.getElem?_set_ne (Ne.symm na)] at s1 ⊢
    exact s1
  refine ⟨(g.set 0 o2).set ka (.lst (ws.set v.toNat w)), K2.setA na nb' nab hw s2' v.toNat, ?_⟩
  have ix : ixAt ws.length v = some v.toNat := by
    have := ixAt_nat (n := ws.length) (i := v.toNat) (by omega)
    rwa [Int.toNat_of_nonneg v0] at this
  simp [List.getElem?_cons_zero, List.getElem?_cons_succ, List.set_cons_zero, List.set_cons_succ, List.length_cons, List.length_nil, exs, ex, ev, evs, evo, evi, tst_cmp, tst_chn, tst_isi, tst_call, tst_meth, tst_blt, tst_var, tst_not, tst_and, tst_or, start, bodyEnd, store, Tg.bind, binds, Rz.bind_ok, Rz.bind_bad, Rz.bind_exc, Rz.of, truth, cmpop, Cm.run, subsc, getS, getL, blt, isL, lmop, d1, s1, d2, storeSub, s2', ix]
theorem putB (j : Nat) {g : Hs} (K : Kg ka kb g) (S x3 x5 x6 x7 x8 : Option Wv) (hne : g[kb]? ≠ some (.lst [])) : ∃ g', Kg ka kb g' ∧ ex (Wj (j + 2)) (.asg (.sub (.var 4) (.call 19 [(.var 1), (.blt .len [(.var 4)])])) (.call 23 [(.var 1)])) [S, some (.ref 0), some (.ref ka), x3, some (.ref kb), x5, x6, x7, x8] g = .ok (.nx [S, some (.ref 0), some (.ref ka), x3, some (.ref kb), x5, x6, x7, x8]) g' := by
  obtain ⟨w, o1, ho1, hw, d1⟩ := oddRG na nb' j K
  have d1 := d1 []
  rw [List.append_nil, List.append_nil] at d1
  have K1 := K.next na nb' ho1 []
  rw [List.append_nil] at K1
  obtain ⟨rs, s1, s2, s3⟩ := K1.r
  have hl : rs ≠ [] := fun z => by
    subst z
    rw [List.getElem?_set_ne (Ne.symm nb')] at s1
    exact hne s1
  have hl2 : 0 < rs.length := List.length_pos_iff.mpr hl
  obtain ⟨v, o2, ho2, v0, v1, d2⟩ := drawG na nb' (j + 1) K1 (m := (rs.length : Int)) (by omega) (by omega)
  have d2 := d2 []
  rw [List.append_nil, List.append_nil, List.set_set] at d2
  have K2 := K1.next na nb' ho2 []
  rw [List.append_nil, List.set_set] at K2
  have s2' : (g.set 0 o2)[kb]? = some (.lst rs) := by
    rw [List.getElem?_set_ne (Ne.symm nb')] at s1 ⊢
    exact s1
  refine ⟨(g.set 0 o2).set kb (.lst (rs.set v.toNat w)), K2.setB na nb' nab hw s2' v.toNat, ?_⟩
  have ix : ixAt rs.length v = some v.toNat := by
    have := ixAt_nat (n := rs.length) (i := v.toNat) (by omega)
    rwa [Int.toNat_of_nonneg v0] at this
  simp [List.getElem?_cons_zero, List.getElem?_cons_succ, List.set_cons_zero, List.set_cons_succ, List.length_cons, List.length_nil, exs, ex, ev, evs, evo, evi, tst_cmp, tst_chn, tst_isi, tst_call, tst_meth, tst_blt, tst_var, tst_not, tst_and, tst_or, start, bodyEnd, store, Tg.bind, binds, Rz.bind_ok, Rz.bind_bad, Rz.bind_exc, Rz.of, truth, cmpop, Cm.run, subsc, getS, getL, blt, isL, lmop, d1, s1, d2, storeSub, s2', ix]
/-- xs != [] -/
theorem isNe (P : Wd) {g : Hs} {k i : Nat} {ws : List Wv} {e : Ev} (he : e[i]? = some (some (.ref k))) (hk : g[k]? = some (.lst ws)) (hp : pbs ws 3 = true) : tst P (.cmp .ne (.var i) (.lst [])) e g = .ok (!decide (ws = [])) (g ++ [.lst []]) := by
  have q := eq_nil (h := g ++ [.lst []]) (k := k) (k' := g.length) (get_app hk _) (get_last _ _) hp
  rw [tst_cmp, ev, ev, he]
  simp only [Rz.bind_ok, ev, evs, newL, List.length_nil, Nat.zero_le, if_true, cmpop, Cm.run, q, Option.map_some, truth, Rz.of_some]
theorem oddLoop (j : Nat) {g : Hs} (K : Kg ka kb g) (S x3 x5 x6 x7 x8 : Option Wv) : ∃ y3 g', Kg ka kb g' ∧ ex (Wj (j + 2)) s27_4 [S, some (.ref 0), some (.ref ka), x3, some (.ref kb), x5, x6, x7, x8] g = .ok (.nx [S, some (.ref 0), some (.ref ka), y3, some (.ref kb), x5, x6, x7, x8]) g' := by
  obtain ⟨v, o1, ho1, v0, v1, d1⟩ := drawG na nb' (j + 1) K (m := 3) (by decide) (by decide)
  have d1 := d1 []
  rw [List.append_nil, List.append_nil] at d1
  have K1 := K.next na nb' ho1 []
  rw [List.append_nil] at K1
  rw [s27_4, ex]
  have q : evi (Wj (j + 2)) (.rng [(.call 19 [(.var 1), (.cst (.int 3))])]) [S, some (.ref 0), some (.ref ka), x3, some (.ref kb), x5, x6, x7, x8] g = .ok (upTo 0 v.toNat, []) (g.set 0 o1) := by
    have a : evs (Wj (j + 2)) [(.call 19 [(.var 1), (.cst (.int 3))])] [S, some (.ref 0), some (.ref ka), x3, some (.ref kb), x5, x6, x7, x8] g = .ok [.int v] (g.set 0 o1) := by
      simp [List.getElem?_cons_zero, List.getElem?_cons_succ, List.set_cons_zero, List.set_cons_succ, List.length_cons, List.length_nil, exs, ex, ev, evs, evo, evi, tst_cmp, tst_chn, tst_isi, tst_call, tst_meth, tst_blt, tst_var, tst_not, tst_and, tst_or, start, bodyEnd, store, Tg.bind, binds, Rz.bind_ok, Rz.bind_bad, Rz.bind_exc, Rz.of, truth, cmpop, Cm.run, subsc, getS, getL, blt, isL, lmop, d1]
    rw [evi, a, Rz.bind_ok, range1 (by omega), Rz.of_some]
  rw [q, Rz.bind_ok]
  obtain ⟨e', h', f, y3, rfl, K'⟩ := forL_inv (body := exs (Wj (j + 2)) l27_0) (tg := .name 3) (ck := []) (fun e h => ∃ y3, e = [S, some (.ref 0), some (.ref ka), y3, some (.ref kb), x5, x6, x7, x8] ∧ Kg ka kb h) (fun _ _ _ => rfl) (upTo 0 v.toNat) (fun w hw e h ⟨y3, he, K⟩ => by
    subst he
    obtain ⟨ws, s1, s2, s3⟩ := K.s
    obtain ⟨rs, r1, r2, r3⟩ := K.r
    have pw : pbs ws 3 = true := pbs_of fun x hx => (s2 x hx).pb
    have pr : pbs rs 3 = true := pbs_of fun x hx => (r2 x hx).pb
    have t1 := isNe na nb' nab (Wj (j + 2)) (e := [S, some (.ref 0), some (.ref ka), some w, some (.ref kb), x5, x6, x7, x8]) (i := 2) rfl s1 pw
    -- what is done else
    have els : ∀ g1 : Hs, Kg ka kb g1 → ∃ g2, Kg ka kb g2 ∧ exs (Wj (j + 2)) [.ifs (.cmp .ne (.var 4) (.lst [])) [.asg (.sub (.var 4) (.call 19 [(.var 1), (.blt .len [(.var 4)])])) (.call 23 [(.var 1)])] []] [S, some (.ref 0), some (.ref ka), some w, some (.ref kb), x5, x6, x7, x8] g1 = .ok (.nx [S, some (.ref 0), some (.ref ka), some w, some (.ref kb), x5, x6, x7, x8]) g2 := fun g1 K1 => by
      obtain ⟨rs1, r11, r12, r13⟩ := K1.r
      have pr1 : pbs rs1 3 = true := pbs_of fun x hx => (r12 x hx).pb
      have t2 := isNe na nb' nab (Wj (j + 2)) (e := [S, some (.ref 0), some (.ref ka), some w, some (.ref kb), x5, x6, x7, x8]) (i := 4) rfl r11 pr1
      have K2 := K1.app na nb' [.lst []]
      by_cases c : rs1 = []
      · rw [decide_eq_true c] at t2
        refine ⟨_, K2, ?_⟩
        have q2 : ex (Wj (j + 2)) (.ifs (.cmp .ne (.var 4) (.lst [])) [.asg (.sub (.var 4) (.call 19 [(.var 1), (.blt .len [(.var 4)])])) (.call 23 [(.var 1)])] []) [S, some (.ref 0), some (.ref ka), some w, some (.ref kb), x5, x6, x7, x8] g1 = .ok (.nx [S, some (.ref 0), some (.ref ka), some w, some (.ref kb), x5, x6, x7, x8]) (g1 ++ [.lst []]) := by
          rw [ifs_nx t2, exs]
        rw [exs_nx q2, exs]
      · rw [decide_eq_false c] at t2
        obtain ⟨g3, K3, p⟩ := putB na nb' nab j K2 S (some w) x5 x6 x7 x8 (fun z => by
          rw [get_app r11] at z
          cases z
          exact c rfl)
        refine ⟨g3, K3, ?_⟩
        have q2 : ex (Wj (j + 2)) (.ifs (.cmp .ne (.var 4) (.lst [])) [.asg (.sub (.var 4) (.call 19 [(.var 1), (.blt .len [(.var 4)])])) (.call 23 [(.var 1)])] []) [S, some (.ref 0), some (.ref ka), some w, some (.ref kb), x5, x6, x7, x8] g1 = .ok (.nx [S, some (.ref 0), some (.ref ka), some w, some (.ref kb), x5, x6, x7, x8]) g3 := by
          rw [ifs_yes t2, exs_nx p, exs]
        rw [exs_nx q2, exs]
    have body : ∃ g2, Kg ka kb g2 ∧ exs (Wj (j + 2)) l27_0 [S, some (.ref 0), some (.ref ka), some w, some (.ref kb), x5, x6, x7, x8] h = .ok (.nx [S, some (.ref 0), some (.ref ka), some w, some (.ref kb), x5, x6, x7, x8]) g2 := by
      have K2 := K.app na nb' [.lst []]
      by_cases c : ws = []
      · rw [decide_eq_true c] at t1
        obtain ⟨g2, K3, p⟩ := els _ K2
        refine ⟨g2, K3, ?_⟩
        have t : tst (Wj (j + 2)) (.and (.cmp .ne (.var 2) (.lst [])) (.cmp .eq (.call 19 [(.var 1), (.cst (.int 2))]) (.cst (.int 0)))) [S, some (.ref 0), some (.ref ka), some w, some (.ref kb), x5, x6, x7, x8] h = .ok false (h ++ [.lst []]) := by
          rw [tst_and, t1, Rz.bind_ok]
          rfl
        rw [l27_0, exs, ifs_nx t, p]
        rfl
      · rw [decide_eq_false c] at t1
        obtain ⟨v2, o2, ho2, v20, v21, d2⟩ := drawG na nb' (j + 1) K2 (m := 2) (by decide) (by decide)
        have d2 := d2 []
        rw [List.append_nil, List.append_nil] at d2
        have K3 := K2.next na nb' ho2 []
        rw [List.append_nil] at K3
        have t : tst (Wj (j + 2)) (.and (.cmp .ne (.var 2) (.lst [])) (.cmp .eq (.call 19 [(.var 1), (.cst (.int 2))]) (.cst (.int 0)))) [S, some (.ref 0), some (.ref ka), some w, some (.ref kb), x5, x6, x7, x8] h = .ok (decide (v2 = 0)) ((h ++ [Ob.lst []]).set 0 o2) := by
          rw [tst_and, t1, Rz.bind_ok, if_pos (by rfl)]
          simp [List.getElem?_cons_zero, List.getElem?_cons_succ, List.set_cons_zero, List.set_cons_succ, List.length_cons, List.length_nil, exs, ex, ev, evs, evo, evi, tst_cmp, tst_chn, tst_isi, tst_call, tst_meth, tst_blt, tst_var, tst_not, tst_and, tst_or, start, bodyEnd, store, Tg.bind, binds, Rz.bind_ok, Rz.bind_bad, Rz.bind_exc, Rz.of, truth, cmpop, Cm.run, subsc, getS, getL, blt, isL, lmop, d2, eq_int]
        by_cases c2 : v2 = 0
        · rw [decide_eq_true c2] at t
          obtain ⟨g4, K4, p⟩ := putA na nb' nab j K3 S (some w) x5 x6 x7 x8 (fun z => by
            rw [List.getElem?_set_ne (Ne.symm na), get_app s1] at z
            cases z
            exact c rfl)
          refine ⟨g4, K4, ?_⟩
          rw [l27_0, exs, ifs_yes t, exs_nx p, exs]
          rfl
        · rw [decide_eq_false c2] at t
          obtain ⟨g2, K4, p⟩ := els _ K3
          refine ⟨g2, K4, ?_⟩
          rw [l27_0, exs, ifs_nx t, p]
          rfl
    obtain ⟨g2, K2, p⟩ := body
    exact ⟨[S, some (.ref 0), some (.ref ka), some w, some (.ref kb), x5, x6, x7, x8], _, g2, rfl, p, _, rfl, K2⟩) [S, some (.ref 0), some (.ref ka), x3, some (.ref kb), x5, x6, x7, x8] (g.set 0 o1) ⟨_, rfl, K1⟩
  exact ⟨y3, h', K', f⟩
end
end SL

set_option maxRecDepth 100000
set_option maxHeartbeats 2000000
/-! The law holds. -/
namespace SL
open PySem
set_option autoImplicit false
theorem linesG (j : Nat) (sz : List Int) (rs : List Wv) (h : Hs) : C (j + 1) 12 [gridV sz rs] h = .ok (.int sz.length) h := by
  rw [C, run_open db12 rfl rfl]
  simp [b12, s12_0, List.getElem?_cons_zero, List.getElem?_cons_succ, List.set_cons_zero, List.set_cons_succ, List.length_cons, List.length_nil, exs, ex, ev, evs, evo, evi, tst_cmp, tst_chn, tst_isi, tst_call, tst_meth, tst_blt, tst_var, tst_not, tst_and, tst_or, start, bodyEnd, store, Tg.bind, binds, Rz.bind_ok, Rz.bind_bad, Rz.bind_exc, Rz.of, truth, cmpop, Cm.run, subsc, getS, getL, blt, isL, lmop, getG, fl39, fget]
theorem ev_grid {P : Wd} {m f i : Nat} {sz : List Int} {rs : List Wv} {e : Ev} {h : Hs} (he : e[i]? = some (some (gridV sz rs))) (hm : methOf P 3 m = some f) (hf : fget [(9, Wv.lst (sz.map Wv.int)), (10, Wv.lst rs), (11, Wv.lst (edges sz rs))] m = none) : ev P (.meth (.var i) m []) e h = P.run f [gridV sz rs] h :=
  meth_ins (c := 3) (fs := [(9, .lst (sz.map Wv.int)), (10, .lst rs), (11, .lst (edges sz rs))]) (h0 := h) (h1 := h) (ws := []) (by rw [ev, he]; rfl) hm hf (by rw [evs])
theorem manyG (j : Nat) {sz : List Int} {rs : List Wv} (hs : SzOk sz) (l3 : sz.length ≤ 3) (hp : prd sz ≤ 40) (h : Hs) : C (j + 2) 13 [gridV sz rs] h = .ok (.int (plc sz).length) h := by
  rw [C, run_end db13 rfl]
  have m : ev (Wj (j + 1)) (.meth (.var 0) 6 []) [some (gridV sz rs)] h = .ok (.ref h.length) (h ++ [.lst ((plc sz).map tp)]) := by
    rw [ev_grid (i := 0) rfl (me3_6 _ _) (by rfl)]
    exact all_places j hs l3 hp h
  have q : ex (Wj (j + 1)) s13_0 [some (gridV sz rs)] h = .ok (.ret (.int (plc sz).length)) (h ++ [.lst ((plc sz).map tp)]) := by
    have l : ∀ P : Wd, ∀ x e hh, ev P (.blt .len [x]) e hh = (ev P x e hh).bind fun w h1 => blt .len [w] h1 := fun P x e hh => by
      simp only [ev, evs, Rz.bind_assoc, Rz.bind_ok]
    rw [s13_0, ex, l, m, Rz.bind_ok]
    simp [blt, getS, getL]
  have e : bodyEnd (exs (Wj (j + 1)) b13.body (start b13.ns [gridV sz rs]) h) = .ok (.int (plc sz).length) (h ++ [.lst ((plc sz).map tp)]) := by
    show bodyEnd (exs (Wj (j + 1)) [s13_0] [some (gridV sz rs)] h) = _
    rw [exs_ret q]
    rfl
  simp only [Wj] at e
  rw [e, Rz.bind_ok]
  exact cold_end rfl _
theorem szE_int (i : Int) : SzE (.int i) := ⟨rfl, rfl⟩
theorem newSizes (S : Option Wv) {o : Ob} (ho : isWl o) (p : Ob) : ∃ (o' : Ob) (ws : List Wv), isWl o' ∧ (∀ w ∈ ws, SzE w) ∧ ws.length ≤ 5 ∧
    ev (Wj 19) c27_0 [S, some (.ref 0), some (.ref 1), none, none, none, none, none, none] [o, p] = .ok (.ref 2) [o', p, .lst ws] := by
  obtain ⟨v, o1, ho1, v0, v1, d⟩ := drawO 18 ho (m := 5) (by decide) (by decide)
  have d := d [o, p] 0 rfl
  simp only [C] at d
  have zl := line60
  obtain ⟨vs, o', ho', hz, e⟩ := comp_wl (turn := turnC (Wj 19) (.bin .add (.cst (.int 1)) (.call 19 [(.var 1), (.cst (.int 9))])) [3] (.name 3) none [S, some (.ref 0), some (.ref 1), none, none, none, none, none, none]) (ck := []) (k := 0) (g := [o1, p])
    (R := fun _ v => SzE v) (fun o acc _ => rfl) (upTo 0 v.toNat) [] o1 ho1 (fun w hw o2 ho2 => by
      obtain ⟨x, o3, ho3, x0, x1, q⟩ := drawW 18 (g := [o1, p]) (k := 0) (by simp) ho2 (m := 9) (by decide) (by decide)
      refine ⟨.int (1 + x), o3, ho3, szE_int _, fun acc => ?_⟩
      rw [turnC_none (e' := [S, some (.ref 0), some (.ref 1), some w, none, none, none, none, none]) (by rfl)]
      simp only [ev, evs, List.getElem?_cons_zero, List.getElem?_cons_succ, Rz.bind_ok, q, badd]) (by rw [upTo_length]; simp; omega)
  refine ⟨o', vs, ho', hz.right (Q := SzE) (fun a b h => h), by rw [← hz.len, upTo_length]; omega, ?_⟩
  rw [c27_0, ev_comp]
  have q : evi (Wj 19) (.rng [(.call 19 [(.var 1), (.cst (.int 5))])]) [S, some (.ref 0), some (.ref 1), none, none, none, none, none, none] [o, p] = .ok (upTo 0 v.toNat, []) [o1, p] := by
    have a : evs (Wj 19) [(.call 19 [(.var 1), (.cst (.int 5))])] [S, some (.ref 0), some (.ref 1), none, none, none, none, none, none] [o, p] = .ok [.int v] [o1, p] := by
      simp [List.getElem?_cons_zero, List.getElem?_cons_succ, List.set_cons_zero, List.set_cons_succ, List.length_cons, List.length_nil, exs, ex, ev, evs, evo, evi, tst_cmp, tst_chn, tst_isi, tst_call, tst_meth, tst_blt, tst_var, tst_not, tst_and, tst_or, start, bodyEnd, store, Tg.bind, binds, Rz.bind_ok, Rz.bind_bad, Rz.bind_exc, Rz.of, truth, cmpop, Cm.run, subsc, getS, getL, blt, isL, lmop, d]
    rw [evi, a, Rz.bind_ok, range1 (by omega), Rz.of_some]
  rw [q, Rz.bind_ok]
  exact e
theorem newRims (S : Option Wv) {g : Hs} {ka : Nat} (na : ka ≠ 0) {o : Ob} (ho : isWl o) (g0 : g[0]? = some o) {ws : List Wv} (hs : g[ka]? = some (.lst ws)) (zs : ws.length ≤ 5) : ∃ (g' : Hs) (kb : Nat) (rs : List Wv), kb ≠ 0 ∧ ka ≠ kb ∧ (∃ o', isWl o' ∧ g'[0]? = some o') ∧ g'[ka]? = some (.lst ws) ∧ g'[kb]? = some (.lst rs) ∧ (∀ r ∈ rs, RimE r) ∧ rs.length ≤ 6 ∧
    ev (Wj 19) c27_1 [S, some (.ref 0), some (.ref ka), none, none, none, none, none, none] g = .ok (.ref kb) g' := by
  have zl := line60
  have hk0 := ltg g0
  obtain ⟨v, o1, ho1, v0, v1, d⟩ := drawW 18 hk0 ho (m := 6) (by decide) (by decide)
  rw [set_same g0] at d
  let six : Ob := .lst [.int 0, .int 0, .int 0, .int 0, .int 1, .int (-1)]
  have q : ∃ m : Int, -1 ≤ m ∧ m ≤ 6 ∧ evi (Wj 19) (.rng [(.bin .add (.blt .len [(.var 2)]) (.sub (.lst [(.cst (.int 0)), (.cst (.int 0)), (.cst (.int 0)), (.cst (.int 0)), (.cst (.int 1)), (.neg (.cst (.int 1)))]) (.call 19 [(.var 1), (.cst (.int 6))])))]) [S, some (.ref 0), some (.ref ka), none, none, none, none, none, none] g = .ok (upTo 0 m.toNat, []) (g.set 0 o1 ++ [six]) := by
    have a : ∃ x : Int, -1 ≤ x ∧ x ≤ 1 ∧ evs (Wj 19) [(.bin .add (.blt .len [(.var 2)]) (.sub (.lst [(.cst (.int 0)), (.cst (.int 0)), (.cst (.int 0)), (.cst (.int 0)), (.cst (.int 1)), (.neg (.cst (.int 1)))]) (.call 19 [(.var 1), (.cst (.int 6))])))] [S, some (.ref 0), some (.ref ka), none, none, none, none, none, none] g = .ok [.int ((ws.length : Int) + x)] (g.set 0 o1 ++ [six]) := by
      have hv : v = 0 ∨ v = 1 ∨ v = 2 ∨ v = 3 ∨ v = 4 ∨ v = 5 := by omega
      rcases hv with rfl | rfl | rfl | rfl | rfl | rfl
      · exact ⟨0, by decide, by decide, by simp [List.getElem?_cons_zero, List.getElem?_cons_succ, List.set_cons_zero, List.set_cons_succ, List.length_cons, List.length_nil, exs, ex, ev, evs, evo, evi, tst_cmp, tst_chn, tst_isi, tst_call, tst_meth, tst_blt, tst_var, tst_not, tst_and, tst_or, start, bodyEnd, store, Tg.bind, binds, Rz.bind_ok, Rz.bind_bad, Rz.bind_exc, Rz.of, truth, cmpop, Cm.run, subsc, getS, getL, blt, isL, lmop, hs, newL, d, get_wl_last, ixAt, badd, six, show 6 ≤ sizeLine by decide]⟩
      · exact ⟨0, by decide, by decide, by simp [List.getElem?_cons_zero, List.getElem?_cons_succ, List.set_cons_zero, List.set_cons_succ, List.length_cons, List.length_nil, exs, ex, ev, evs, evo, evi, tst_cmp, tst_chn, tst_isi, tst_call, tst_meth, tst_blt, tst_var, tst_not, tst_and, tst_or, start, bodyEnd, store, Tg.bind, binds, Rz.bind_ok, Rz.bind_bad, Rz.bind_exc, Rz.of, truth, cmpop, Cm.run, subsc, getS, getL, blt, isL, lmop, hs, newL, d, get_wl_last, ixAt, badd, six, show 6 ≤ sizeLine by decide]⟩
      · exact ⟨0, by decide, by decide, by simp [List.getElem?_cons_zero, List.getElem?_cons_succ, List.set_cons_zero, List.set_cons_succ, List.length_cons, List.length_nil, exs, ex, ev, evs, evo, evi, tst_cmp, tst_chn, tst_isi, tst_call, tst_meth, tst_blt, tst_var, tst_not, tst_and, tst_or, start, bodyEnd, store, Tg.bind, binds, Rz.bind_ok, Rz.bind_bad, Rz.bind_exc, Rz.of, truth, cmpop, Cm.run, subsc, getS, getL, blt, isL, lmop, hs, newL, d, get_wl_last, ixAt, badd, six, show 6 ≤ sizeLine by decide]⟩
      · exact ⟨0, by decide, by decide, by simp [List.getElem?_cons_zero, List.getElem?_cons_succ, List.set_cons_zero, List.set_cons_succ, List.length_cons, List.length_nil, exs, ex, ev, evs, evo, evi, tst_cmp, tst_chn, tst_isi, tst_call, tst_meth, tst_blt, tst_var, tst_not, tst_and, tst_or, start, bodyEnd, store, Tg.bind, binds, Rz.bind_ok, Rz.bind_bad, Rz.bind_exc, Rz.of, truth, cmpop, Cm.run, subsc, getS, getL, blt, isL, lmop, hs, newL, d, get_wl_last, ixAt, badd, six, show 6 ≤ sizeLine by decide]⟩
      · exact ⟨1, by decide, by decide, by simp [List.getElem?_cons_zero, List.getElem?_cons_succ, List.set_cons_zero, List.set_cons_succ, List.length_cons, List.length_nil, exs, ex, ev, evs, evo, evi, tst_cmp, tst_chn, tst_isi, tst_call, tst_meth, tst_blt, tst_var, tst_not, tst_and, tst_or, start, bodyEnd, store, Tg.bind, binds, Rz.bind_ok, Rz.bind_bad, Rz.bind_exc, Rz.of, truth, cmpop, Cm.run, subsc, getS, getL, blt, isL, lmop, hs, newL, d, get_wl_last, ixAt, badd, six, show 6 ≤ sizeLine by decide]⟩
      · exact ⟨-1, by decide, by decide, by simp [List.getElem?_cons_zero, List.getElem?_cons_succ, List.set_cons_zero, List.set_cons_succ, List.length_cons, List.length_nil, exs, ex, ev, evs, evo, evi, tst_cmp, tst_chn, tst_isi, tst_call, tst_meth, tst_blt, tst_var, tst_not, tst_and, tst_or, start, bodyEnd, store, Tg.bind, binds, Rz.bind_ok, Rz.bind_bad, Rz.bind_exc, Rz.of, truth, cmpop, Cm.run, subsc, getS, getL, blt, isL, lmop, hs, newL, d, get_wl_last, ixAt, badd, six, show 6 ≤ sizeLine by decide]⟩
    obtain ⟨x, x0, x1, a⟩ := a
    exact ⟨(ws.length : Int) + x, by omega, by omega, by rw [evi, a, Rz.bind_ok, range1 (by omega), Rz.of_some]⟩
  obtain ⟨m, m0, m1, q⟩ := q
  have hk1 : 0 < (g.set 0 o1 ++ [six]).length := by simp
  have e0 : (g.set 0 o1 ++ [six])[0]? = some o1 := get_wl hk0 o1 _
  have ea : (g.set 0 o1 ++ [six])[ka]? = some (.lst ws) := get_wl_ne na hs o1 _
  obtain ⟨vs, o', ho', hz, e⟩ := comp_wl (turn := turnC (Wj 19) (.call 21 [(.var 1)]) [3] (.name 3) none [S, some (.ref 0), some (.ref ka), none, none, none, none, none, none]) (ck := []) (k := 0) (g := g.set 0 o1 ++ [six])
    (R := fun _ v => RimE v) (fun o acc _ => rfl) (upTo 0 m.toNat) [] o1 ho1 (fun w hw o2 ho2 => by
      obtain ⟨r, o3, ho3, hr, q⟩ := rimW 17 (g := g.set 0 o1 ++ [six]) (k := 0) hk1 ho2
      refine ⟨r, o3, ho3, hr.rimE, fun acc => ?_⟩
      rw [turnC_none (e' := [S, some (.ref 0), some (.ref ka), some w, none, none, none, none, none]) (by rfl)]
      simp only [ev, evs, List.getElem?_cons_zero, List.getElem?_cons_succ, Rz.bind_ok, q]) (by rw [upTo_length]; simp; omega)
  have hka := ltg ea
  refine ⟨(g.set 0 o1 ++ [six]).set 0 o' ++ [.lst vs], (g.set 0 o1 ++ [six]).length, vs, by simp, by omega, ⟨o', ho', get_wl hk1 o' _⟩, get_wl_ne na ea o' _, get_wl_last _ _ _, hz.right (Q := RimE) (fun a b h => h), by rw [← hz.len, upTo_length]; omega, ?_⟩
  rw [c27_1, ev_comp, q, Rz.bind_ok]
  rw [set_same e0, List.nil_append] at e
  exact e
theorem plain (ns : List Int) (hn : ns.length ≤ 63) : ∃ h', callD pg.D pg.glo pg.cls pg.fld pg.turns 20 27 [.lst (ns.map Wv.int)] [] = .ok (.bl true) h' := by
  rw [run_open db27 rfl rfl]
  have zl := line60
  have z2 : 2 ≤ sizeLine := by decide
  generalize hS : (some (.lst (ns.map Wv.int)) : Option Wv) = S
  obtain ⟨a, b, hw⟩ := well 17 ns 0
  have w0 : isWl (.lst [.int a, .int b, .int 0]) := ⟨_, _, _, rfl⟩
  obtain ⟨o1, sz0, ho1, hsz, hs0, l10, l30, hp0⟩ := sizes 17 (g := [.lst [.int a, .int b, .int 0]]) (k := 0) rfl w0
  have q0 : ex (Wj 19) s27_0 [S, none, none, none, none, none, none, none, none] [] = .ok (.nx [S, some (.ref 0), none, none, none, none, none, none, none]) [.lst [.int a, .int b, .int 0]] := by
    subst hS
    have hw := hw []
    simp only [C] at hw
    simp [s27_0, List.getElem?_cons_zero, List.getElem?_cons_succ, List.set_cons_zero, List.set_cons_succ, List.length_cons, List.length_nil, exs, ex, ev, evs, evo, evi, tst_cmp, tst_chn, tst_isi, tst_call, tst_meth, tst_blt, tst_var, tst_not, tst_and, tst_or, start, bodyEnd, store, Tg.bind, binds, Rz.bind_ok, Rz.bind_bad, Rz.bind_exc, Rz.of, truth, cmpop, Cm.run, subsc, getS, getL, blt, isL, lmop]
    rw [show (Wv.int 0) = Wv.int ((0 : Nat) : Int) from rfl, hw]
    rfl
  have q1 : ex (Wj 19) s27_1 [S, some (.ref 0), none, none, none, none, none, none, none] [.lst [.int a, .int b, .int 0]] = .ok (.nx [S, some (.ref 0), some (.ref 1), none, none, none, none, none, none]) [o1, .lst (sz0.map Wv.int)] := by
    simp only [C] at hsz
    simp [s27_1, List.getElem?_cons_zero, List.getElem?_cons_succ, List.set_cons_zero, List.set_cons_succ, List.length_cons, List.length_nil, exs, ex, ev, evs, evo, evi, tst_cmp, tst_chn, tst_isi, tst_call, tst_meth, tst_blt, tst_var, tst_not, tst_and, tst_or, start, bodyEnd, store, Tg.bind, binds, Rz.bind_ok, Rz.bind_bad, Rz.bind_exc, Rz.of, truth, cmpop, Cm.run, subsc, getS, getL, blt, isL, lmop, hsz]
  have q2 : ∃ (ka : Nat) (ws : List Wv) (g : Hs), ka ≠ 0 ∧ (∃ o, isWl o ∧ g[0]? = some o) ∧ g[ka]? = some (.lst ws) ∧ (∀ w ∈ ws, SzE w) ∧ ws.length ≤ 5 ∧ ex (Wj 19) s27_2 [S, some (.ref 0), some (.ref 1), none, none, none, none, none, none] [o1, .lst (sz0.map Wv.int)] = .ok (.nx [S, some (.ref 0), some (.ref ka), none, none, none, none, none, none]) g := by
    obtain ⟨v, o2, ho2, v0, v1, hd⟩ := drawO 18 ho1 (m := 4) (by decide) (by decide)
    have hd := hd [o1, .lst (sz0.map Wv.int)] 0 rfl
    have t : tst (Wj 19) (.cmp .eq (.call 19 [(.var 1), (.cst (.int 4))]) (.cst (.int 0))) [S, some (.ref 0), some (.ref 1), none, none, none, none, none, none] [o1, .lst (sz0.map Wv.int)] = .ok (decide (v = 0)) [o2, .lst (sz0.map Wv.int)] := by
      simp only [C] at hd
      simp [List.getElem?_cons_zero, List.getElem?_cons_succ, List.set_cons_zero, List.set_cons_succ, List.length_cons, List.length_nil, exs, ex, ev, evs, evo, evi, tst_cmp, tst_chn, tst_isi, tst_call, tst_meth, tst_blt, tst_var, tst_not, tst_and, tst_or, start, bodyEnd, store, Tg.bind, binds, Rz.bind_ok, Rz.bind_bad, Rz.bind_exc, Rz.of, truth, cmpop, Cm.run, subsc, getS, getL, blt, isL, lmop, hd, eq_int]
    by_cases c : v = 0
    · obtain ⟨o3, ws, ho3, hw, zw, e⟩ := newSizes S ho2 (.lst (sz0.map Wv.int))
      refine ⟨2, ws, [o3, .lst (sz0.map Wv.int), .lst ws], by decide, ⟨o3, ho3, rfl⟩, rfl, hw, zw, ?_⟩
      rw [decide_eq_true c] at t
      rw [s27_2, ifs_yes t, exs, ex, e]
      rfl
    · refine ⟨1, sz0.map Wv.int, [o2, .lst (sz0.map Wv.int)], by decide, ⟨o2, ho2, rfl⟩, rfl, fun w hw => ?_, by simp; omega, ?_⟩
      · obtain ⟨i, _, rfl⟩ := List.mem_map.mp hw
        exact szE_int i
      · rw [decide_eq_false c] at t
        rw [s27_2, ifs_nx t, exs]
  obtain ⟨ka, ws0, g2, na, ⟨o2, ho2, g20⟩, g2a, hw0, zw0, q2⟩ := q2
  obtain ⟨g3, kb, rs0, nb', nab, w3, g3a, g3b, hr0, zr0, e3⟩ := newRims S na ho2 g20 g2a zw0
  have q3 : ex (Wj 19) s27_3 [S, some (.ref 0), some (.ref ka), none, none, none, none, none, none] g2 = .ok (.nx [S, some (.ref 0), some (.ref ka), none, some (.ref kb), none, none, none, none]) g3 := by
    rw [s27_3, ex, e3]
    rfl
  have K3 : Kg ka kb g3 := ⟨w3, ⟨ws0, g3a, hw0, zw0⟩, ⟨rs0, g3b, hr0, zr0⟩⟩
  obtain ⟨y3, g4, K4, q4⟩ := oddLoop na nb' nab 17 K3 S none none none none none
  obtain ⟨ws, g4a, hws, zws⟩ := K4.s
  obtain ⟨rs, g4b, hrs, zrs⟩ := K4.r
  let n := g4.length
  have q5 : ex (Wj 19) s27_5 [S, some (.ref 0), some (.ref ka), y3, some (.ref kb), none, none, none, none] g4 = .ok (.nx [S, some (.ref 0), some (.ref ka), y3, some (.ref kb), some (.tup [.ref n, .ref (n + 1)]), none, none, none]) (g4 ++ [.lst ws, .lst rs]) := by
    have zw : ws.length ≤ sizeLine := by omega
    have zr : rs.length ≤ sizeLine := by omega
    simp [s27_5, List.getElem?_cons_zero, List.getElem?_cons_succ, List.set_cons_zero, List.set_cons_succ, List.length_cons, List.length_nil, exs, ex, ev, evs, evo, evi, tst_cmp, tst_chn, tst_isi, tst_call, tst_meth, tst_blt, tst_var, tst_not, tst_and, tst_or, start, bodyEnd, store, Tg.bind, binds, Rz.bind_ok, Rz.bind_bad, Rz.bind_exc, Rz.of, truth, cmpop, Cm.run, subsc, getS, getL, blt, isL, lmop, g4a, get_app g4b [Ob.lst ws], newL, zw, zr, z2, n]
  have g5a : (g4 ++ [Ob.lst ws, .lst rs])[ka]? = some (.lst ws) := get_app g4a _
  have g5b : (g4 ++ [Ob.lst ws, .lst rs])[kb]? = some (.lst rs) := get_app g4b _
  obtain ⟨t, d6⟩ := dueG 17 hws hrs g5a g5b
  simp only [C] at d6
  have q6 : ex (Wj 19) s27_6 [S, some (.ref 0), some (.ref ka), y3, some (.ref kb), some (.tup [.ref n, .ref (n + 1)]), none, none, none] (g4 ++ [.lst ws, .lst rs]) = .ok (.nx [S, some (.ref 0), some (.ref ka), y3, some (.ref kb), some (.tup [.ref n, .ref (n + 1)]), some (dueW ka kb (verdict ws rs)), none, none]) ((g4 ++ [.lst ws, .lst rs]) ++ t) := by
    have a6 : evs (Wj 19) [(.var 2), (.var 4)] [S, some (.ref 0), some (.ref ka), y3, some (.ref kb), some (.tup [.ref n, .ref (n + 1)]), none, none, none] (g4 ++ [.lst ws, .lst rs]) = .ok [.ref ka, .ref kb] (g4 ++ [.lst ws, .lst rs]) := by simp [ev, evs]
    have r6 : (Wj 19).run 25 [.ref ka, .ref kb] (g4 ++ [.lst ws, .lst rs]) = .ok (dueW ka kb (verdict ws rs)) ((g4 ++ [.lst ws, .lst rs]) ++ t) := d6
    rw [s27_6, ex, ev, a6, Rz.bind_ok, r6]
    rfl
  generalize hH : (g4 ++ [Ob.lst ws, .lst rs]) ++ t = H at q6
  have Ha : H[ka]? = some (.lst ws) := by rw [← hH]; exact get_app g5a _
  have Hb : H[kb]? = some (.lst rs) := by rw [← hH]; exact get_app g5b _
  have Hn : H[n]? = some (.lst ws) := by rw [← hH]; exact get_app (get_last2 _ _ _) _
  have Hn1 : H[n + 1]? = some (.lst rs) := by rw [← hH]; exact get_app (get_last3 _ _ _ _) _
  have lan : ka < n := ltg g4a
  have lbn : kb < n := ltg g4b
  have fd := foundG 14 hws hrs Hn Hn1 (by omega)
  simp only [C] at fd
  have pw : pbs ws 3 = true := pbs_of fun x hx => (hws x hx).pb
  have pr : pbs rs 3 = true := pbs_of fun x hx => (hrs x hx).pb
  have Lw : (Wv.lst ws).pb 4 = true := by rw [Wv.pb]; exact pw
  have Lr : (Wv.lst rs).pb 4 = true := by rw [Wv.pb]; exact pr
  have fz : ∀ {k : Nat} {xs : List Wv}, H[k]? = some (.lst xs) → pbs xs 3 = true → Fz H (.ref k) (.lst xs) := fun e p => Fz.cell e (pbs_pure p)
  have eq1 : eqVal H (fndW ws rs (verdict ws rs)) (dueW ka kb (verdict ws rs)) = some true := by
    cases hv : verdict ws rs with
    | some v =>
      have pv : v.pb 1 = true := by
        unfold verdict at hv
        split at hv
        · split at hv
          · cases hv; rfl
          · split at hv
            · cases hv; rfl
            · cases hv
        · cases hv; rfl
      have pp : (Wv.tup [rfd, v]).pb 3 = true := by
        show pbs [rfd, v] 2 = true
        have : v.pb 2 = true := by cases v <;> first | rfl | (simp [Wv.pb] at pv; done) | (unfold verdict at hv; split at hv; (split at hv; (cases hv); (split at hv; (cases hv); (cases hv))); (cases hv))
        rw [pbs, pbs, this]; rfl
      exact eqVal_same (X := .tup [rfd, v]) (Fz.pure (pb_pure pp)) (Fz.pure (pb_pure pp)) pp (by decide)
    | none =>
      have pp : (Wv.tup [mad, .lst ws, .lst rs]).pb 5 = true := by
        show pbs [mad, .lst ws, .lst rs] 4 = true
        rw [pbs, pbs, pbs, Lw, Lr]; rfl
      exact eqVal_same (X := .tup [mad, .lst ws, .lst rs]) (Fz.pure (pb_pure pp)) (Fz.tup ⟨Fz.pure rfl, fz Ha pw, fz Hb pr, trivial⟩) pp (by decide)
  have eq2 : eqVal H (.tup [.ref n, .ref (n + 1)]) (.tup [.ref ka, .ref kb]) = some true := by
    have pp : (Wv.tup [.lst ws, .lst rs]).pb 5 = true := by
      show pbs [.lst ws, .lst rs] 4 = true
      rw [pbs, pbs, pbs, Lw, Lr]; rfl
    exact eqVal_same (X := .tup [.lst ws, .lst rs]) (Fz.tup ⟨fz Hn pw, fz Hn1 pr, trivial⟩) (Fz.tup ⟨fz Ha pw, fz Hb pr, trivial⟩) pp (by decide)
  have q7 : ex (Wj 19) s27_7 [S, some (.ref 0), some (.ref ka), y3, some (.ref kb), some (.tup [.ref n, .ref (n + 1)]), some (dueW ka kb (verdict ws rs)), none, none] H = .ok (.nx [S, some (.ref 0), some (.ref ka), y3, some (.ref kb), some (.tup [.ref n, .ref (n + 1)]), some (dueW ka kb (verdict ws rs)), none, none]) H := by
    simp [s27_7, List.getElem?_cons_zero, List.getElem?_cons_succ, List.set_cons_zero, List.set_cons_succ, List.length_cons, List.length_nil, exs, ex, ev.eq_1, ev.eq_2, ev.eq_3, ev.eq_4, ev.eq_5, ev.eq_6, ev.eq_7, ev.eq_8, ev.eq_9, ev.eq_10, ev.eq_11, ev.eq_12, ev.eq_13, ev.eq_14, ev.eq_15, ev.eq_16, ev.eq_17, ev.eq_18, ev.eq_19, ev.eq_21, ev.eq_22, ev.eq_23, ev.eq_24, evs, evo, evi, tst_cmp, tst_chn, tst_isi, tst_call, tst_meth, tst_blt, tst_var, tst_not, tst_and, tst_or, start, bodyEnd, store, Tg.bind, binds, Rz.bind_ok, Rz.bind_bad, Rz.bind_exc, Rz.of, truth, cmpop, Cm.run, getS, getL, blt, isL, lmop, subsc_t0, subsc_t1, fd, eq1, eq2, z2]
  cases hv : verdict ws rs with
  | some v =>
    rw [hv] at q6 q7
    have q8 : ex (Wj 19) s27_8 [S, some (.ref 0), some (.ref ka), y3, some (.ref kb), some (.tup [.ref n, .ref (n + 1)]), some (dueW ka kb (some v)), none, none] H = .ok (.ret (.bl true)) H := by
      simp [s27_8, List.getElem?_cons_zero, List.getElem?_cons_succ, List.set_cons_zero, List.set_cons_succ, List.length_cons, List.length_nil, exs, ex, ev.eq_1, ev.eq_2, ev.eq_3, ev.eq_4, ev.eq_5, ev.eq_6, ev.eq_7, ev.eq_8, ev.eq_9, ev.eq_10, ev.eq_11, ev.eq_12, ev.eq_13, ev.eq_14, ev.eq_15, ev.eq_16, ev.eq_17, ev.eq_18, ev.eq_19, ev.eq_21, ev.eq_22, ev.eq_23, ev.eq_24, evs, evo, evi, tst_cmp, tst_chn, tst_isi, tst_call, tst_meth, tst_blt, tst_var, tst_not, tst_and, tst_or, start, bodyEnd, store, Tg.bind, binds, Rz.bind_ok, Rz.bind_bad, Rz.bind_exc, Rz.of, truth, cmpop, Cm.run, getS, getL, blt, isL, lmop, dueW, subsc_t0, eq_str]
    refine ⟨H, ?_⟩
    subst hS
    show bodyEnd (exs (Wj 19) [s27_0, s27_1, s27_2, s27_3, s27_4, s27_5, s27_6, s27_7, s27_8, s27_9, s27_10, s27_11, s27_12, s27_13, s27_14] [some (.lst (ns.map Wv.int)), none, none, none, none, none, none, none, none] []) = _
    rw [exs_nx q0, exs_nx q1, exs_nx q2, exs_nx q3, exs_nx q4, exs_nx q5, exs_nx q6, exs_nx q7, exs_ret q8]
    rfl
  | none =>
    rw [hv] at q6 q7
    obtain ⟨sz, rfl, k1, k2, k3, k4, k5, k6⟩ := verdict_made hv
    have mr : Str.ofString "made" ≠ Str.ofString "refused" := by decide +kernel
    have q8 : ex (Wj 19) s27_8 [S, some (.ref 0), some (.ref ka), y3, some (.ref kb), some (.tup [.ref n, .ref (n + 1)]), some (dueW ka kb none), none, none] H = .ok (.nx [S, some (.ref 0), some (.ref ka), y3, some (.ref kb), some (.tup [.ref n, .ref (n + 1)]), some (dueW ka kb none), none, none]) H := by
      simp [s27_8, List.getElem?_cons_zero, List.getElem?_cons_succ, List.set_cons_zero, List.set_cons_succ, List.length_cons, List.length_nil, exs, ex, ev.eq_1, ev.eq_2, ev.eq_3, ev.eq_4, ev.eq_5, ev.eq_6, ev.eq_7, ev.eq_8, ev.eq_9, ev.eq_10, ev.eq_11, ev.eq_12, ev.eq_13, ev.eq_14, ev.eq_15, ev.eq_16, ev.eq_17, ev.eq_18, ev.eq_19, ev.eq_21, ev.eq_22, ev.eq_23, ev.eq_24, evs, evo, evi, tst_cmp, tst_chn, tst_isi, tst_call, tst_meth, tst_blt, tst_var, tst_not, tst_and, tst_or, start, bodyEnd, store, Tg.bind, binds, Rz.bind_ok, Rz.bind_bad, Rz.bind_exc, Rz.of, truth, cmpop, Cm.run, getS, getL, blt, isL, lmop, dueW, subsc_t0, eq_str, mr]
    have q9 : ex (Wj 19) s27_9 [S, some (.ref 0), some (.ref ka), y3, some (.ref kb), some (.tup [.ref n, .ref (n + 1)]), some (dueW ka kb none), none, none] H = .ok (.nx [S, some (.ref 0), some (.ref ka), y3, some (.ref kb), some (.tup [.ref n, .ref (n + 1)]), some (dueW ka kb none), some (gridV sz rs), none]) H := by
      have m := gmake 15 k1 k2 k3 k4 k5 k6 Hn Hn1
      have A : evs (Wj 19) [(.sub (.var 5) (.cst (.int 0))), (.sub (.var 5) (.cst (.int 1)))] [S, some (.ref 0), some (.ref ka), y3, some (.ref kb), some (.tup [.ref n, .ref (n + 1)]), some (dueW ka kb none), none, none] H = .ok [.ref n, .ref (n + 1)] H := by
        simp [ev, evs, subsc_t0, subsc_t1]
      rw [s27_9, ex, ev, A, Rz.bind_ok, m]
      rfl
    have many : ∀ (e : Ev) (h : Hs), e[7]? = some (some (gridV sz rs)) → ev (Wj 19) (.meth (.var 7) 5 []) e h = .ok (.int (plc sz).length) h := fun e h he => by
      rw [ev_grid (i := 7) he (me3_5 _ _) (by rfl)]
      exact manyG 17 k1 k5 k6 h
    have lin : ∀ (e : Ev) (h : Hs), e[7]? = some (some (gridV sz rs)) → ev (Wj 19) (.meth (.var 7) 4 []) e h = .ok (.int sz.length) h := fun e h he => by
      rw [ev_grid (i := 7) he (me3_4 _ _) (by rfl)]
      exact linesG 18 sz rs h
    let E : Ev := [S, some (.ref 0), some (.ref ka), y3, some (.ref kb), some (.tup [.ref n, .ref (n + 1)]), some (dueW ka kb none), some (gridV sz rs), some (.int (plc sz).length)]
    have q10 : ex (Wj 19) s27_10 [S, some (.ref 0), some (.ref ka), y3, some (.ref kb), some (.tup [.ref n, .ref (n + 1)]), some (dueW ka kb none), some (gridV sz rs), none] H = .ok (.nx E) H := by
      rw [s27_10, ex, many _ _ rfl]
      rfl
    have hl : 0 < (sz.map Wv.int).length := by rw [List.length_map]; omega
    have ix0 : ixAt sz.length 0 = some 0 := ixAt_nat (n := sz.length) (i := 0) (by omega)
    let H1 := H.set n (.lst ((sz.map Wv.int).set 0 (.int 9)))
    have q11 : ex (Wj 19) s27_11 E H = .ok (.nx E) H1 := by
      simp only [E]
      simp [s27_11, List.getElem?_cons_zero, List.getElem?_cons_succ, List.set_cons_zero, List.set_cons_succ, List.length_cons, List.length_nil, exs, ex, ev.eq_1, ev.eq_2, ev.eq_3, ev.eq_4, ev.eq_5, ev.eq_6, ev.eq_7, ev.eq_8, ev.eq_9, ev.eq_10, ev.eq_11, ev.eq_12, ev.eq_13, ev.eq_14, ev.eq_15, ev.eq_16, ev.eq_17, ev.eq_18, ev.eq_19, ev.eq_21, ev.eq_22, ev.eq_23, ev.eq_24, evs, evo, evi, tst_cmp, tst_chn, tst_isi, tst_call, tst_meth, tst_blt, tst_var, tst_not, tst_and, tst_or, start, bodyEnd, store, Tg.bind, binds, Rz.bind_ok, Rz.bind_bad, Rz.bind_exc, Rz.of, truth, cmpop, Cm.run, getS, getL, blt, isL, lmop, subsc_t0, storeSub, Hn, ix0, H1]
    have H1n1 : H1[n + 1]? = some (.lst rs) := by
      show (H.set n _)[n + 1]? = _
      rw [List.getElem?_set_ne (by omega)]; exact Hn1
    let H2 := H1.set (n + 1) (.lst [])
    have q12 : ex (Wj 19) s27_12 E H1 = .ok (.nx E) H2 := by
      simp only [E]
      simp [s27_12, List.getElem?_cons_zero, List.getElem?_cons_succ, List.set_cons_zero, List.set_cons_succ, List.length_cons, List.length_nil, exs, ex, ev.eq_1, ev.eq_2, ev.eq_3, ev.eq_4, ev.eq_5, ev.eq_6, ev.eq_7, ev.eq_8, ev.eq_9, ev.eq_10, ev.eq_11, ev.eq_12, ev.eq_13, ev.eq_14, ev.eq_15, ev.eq_16, ev.eq_17, ev.eq_18, ev.eq_19, ev.eq_21, ev.eq_22, ev.eq_23, ev.eq_24, evs, evo, evi, tst_cmp, tst_chn, tst_isi, tst_call, tst_meth, tst_blt, tst_var, tst_not, tst_and, tst_or, start, bodyEnd, store, Tg.bind, binds, Rz.bind_ok, Rz.bind_bad, Rz.bind_exc, Rz.of, truth, cmpop, Cm.run, getS, getL, blt, isL, lmop, subsc_t1, H1n1, H2]
    have H2a : H2[ka]? = some (.lst (sz.map Wv.int)) := by
      show ((H.set n _).set (n + 1) _)[ka]? = _
      rw [List.getElem?_set_ne (by omega), List.getElem?_set_ne (by omega)]; exact Ha
    have H2b : H2[kb]? = some (.lst rs) := by
      show ((H.set n _).set (n + 1) _)[kb]? = _
      rw [List.getElem?_set_ne (by omega), List.getElem?_set_ne (by omega)]; exact Hb
    have q13 : ex (Wj 19) s27_13 E H2 = .ok (.nx E) H2 := by
      have m1 := many E H2 rfl
      have m2 := lin E H2 rfl
      have v8 : ev (Wj 19) (.var 8) E H2 = .ok (.int (plc sz).length) H2 := by rw [ev]; rfl
      have ln : ev (Wj 19) (.blt .len [(.var 2)]) E H2 = .ok (.int sz.length) H2 := by
        simp only [E]
        simp [List.getElem?_cons_zero, List.getElem?_cons_succ, List.set_cons_zero, List.set_cons_succ, List.length_cons, List.length_nil, exs, ex, ev, evs, evo, evi, tst_cmp, tst_chn, tst_isi, tst_call, tst_meth, tst_blt, tst_var, tst_not, tst_and, tst_or, start, bodyEnd, store, Tg.bind, binds, Rz.bind_ok, Rz.bind_bad, Rz.bind_exc, Rz.of, truth, cmpop, Cm.run, subsc, getS, getL, blt, isL, lmop, H2a]
      have t : tst (Wj 19) (.or (.cmp .ne (.meth (.var 7) 5 []) (.var 8)) (.cmp .ne (.meth (.var 7) 4 []) (.blt .len [(.var 2)]))) E H2 = .ok false H2 := by
        rw [tst_or, tst_cmp, cmp_eq, m1, Rz.bind_ok, v8, Rz.bind_ok]
        simp only [cmpop, Cm.run, eq_int, decide_true, Option.map_some, Bool.not_true, Rz.bind_ok, truth, Rz.of_some, Bool.false_eq_true, if_false]
        rw [tst_cmp, cmp_eq, m2, Rz.bind_ok, ln, Rz.bind_ok]
        simp only [cmpop, Cm.run, eq_int, decide_true, Option.map_some, Bool.not_true, Rz.bind_ok, truth, Rz.of_some]
      rw [s27_13, ifs_nx t, exs]
    have q14 : ex (Wj 19) s27_14 E H2 = .ok (.ret (.bl true)) H2 := by
      have pz := nb_ints sz 1
      have prs : nbs rs 1 = true := nbs_of fun w hw => (k2 w hw).nb 0
      have e1 := eqVal_nb (h := H2) (x := .lst (sz.map Wv.int)) (y := .ref ka) (n := 2) (m := 2) (Fz.pure (by rw [Wv.pure]; exact nbs_pure pz)) (Fz.cell H2a (nbs_pure pz)) (by rw [Wv.nb]; exact pz) (by rw [Wv.nb]; exact pz) (by decide)
      have e2 := eqVal_nb (h := H2) (x := .lst rs) (y := .ref kb) (n := 2) (m := 2) (Fz.pure (by rw [Wv.pure]; exact nbs_pure prs)) (Fz.cell H2b (nbs_pure prs)) (by rw [Wv.nb]; exact prs) (by rw [Wv.nb]; exact prs) (by decide)
      rw [decide_eq_true rfl] at e1 e2
      have A9 : ev (Wj 19) (.att (.var 7) 9) E H2 = .ok (.lst (sz.map Wv.int)) H2 := by
        simp [ev, E, getG, fl39, fget]
      have A10 : ev (Wj 19) (.att (.var 7) 10) E H2 = .ok (.lst rs) H2 := by
        simp [ev, E, getG, fl310, fget, List.lookup]
      have V2 : ev (Wj 19) (.var 2) E H2 = .ok (.ref ka) H2 := by simp [ev, E]
      have V4 : ev (Wj 19) (.var 4) E H2 = .ok (.ref kb) H2 := by simp [ev, E]
      rw [s27_14, ex, ev, cmp_eq, A9, Rz.bind_ok, V2, Rz.bind_ok]
      simp only [cmpop, Cm.run, e1, Rz.bind_ok, truth, Rz.of_some, if_true]
      rw [cmp_eq, A10, Rz.bind_ok, V4, Rz.bind_ok]
      simp only [cmpop, Cm.run, e2, Rz.bind_ok]
    refine ⟨H2, ?_⟩
    subst hS
    show bodyEnd (exs (Wj 19) [s27_0, s27_1, s27_2, s27_3, s27_4, s27_5, s27_6, s27_7, s27_8, s27_9, s27_10, s27_11, s27_12, s27_13, s27_14] [some (.lst (ns.map Wv.int)), none, none, none, none, none, none, none, none] []) = _
    rw [exs_nx q0, exs_nx q1, exs_nx q2, exs_nx q3, exs_nx q4, exs_nx q5, exs_nx q6, exs_nx q7, exs_nx q8, exs_nx q9, exs_nx q10, exs_nx q11, exs_nx q12, exs_nx q13, exs_ret q14]
    rfl
end SL

set_option maxRecDepth 100000
set_option maxHeartbeats 0
/-! The head of k01_what_makes_a_grid. -/
namespace SL
open PySem L2 PyProof.Rows
set_option autoImplicit false
abbrev R : PySem.W.OpenRow := PySem.W.OpenLaw.row PySem.Challenge.rw_slanttiles_k01_what_makes_a_grid
abbrev hk : PySem.W.Hook := hookS 5 pg
def ob (s : PySem.W.SharedT) : AlS := obsS 5 pg (HandSHeadRun.getT s)
theorem ob_eq (s : PySem.W.SharedT) : ob s = hk.obs s.abs := obsS_eq (HandSHeadRun.getT_eq s)
def loose0 : List Str := ["_wall", "TileError", "NoGrid", "NoTerm", "NoJob", "NoText", "MOST_SIZE", "MOST_FIXED", "is_whole", "is_between", "is_rim", "Rim", "MirrorRim", "FixedRim", "rim_of", "MOST_LINES", "MOST_PLACES", "Grid", "_law_cell_at", "_law_well", "_law_draw", "_law_sizes", "_law_rim", "_law_odd_size", "_law_odd_rim", "_law_good_rim", "_law_due", "_law_found"]
def loose : List Str := loose0
theorem run (w : World) : HandSHeadRun.RunEq R (PySem.W.view R.prog [32]) hk ob 6000 loose w := by
  intro os
  kernel_rfl
end SL

set_option maxRecDepth 100000
set_option maxHeartbeats 0
open PySem PySem.W PySem.Calls PyProof.Rows
theorem PySem.Challenge.cw_slanttiles_k01_what_makes_a_grid_holds : PySem.Challenge.rw_slanttiles_k01_what_makes_a_grid.Holds := by
  w_on; o_law
  refine HandSHeadRun.head_any (r := OpenLaw.row PySem.Challenge.rw_slanttiles_k01_what_makes_a_grid) (q := view (OpenLaw.row PySem.Challenge.rw_slanttiles_k01_what_makes_a_grid).prog [32]) (H := SL.hk) (ob := SL.ob) (M := 6000) (loose := SL.loose) (d := HandSHeadRun.topDef (OpenLaw.row PySem.Challenge.rw_slanttiles_k01_what_makes_a_grid).prog 32) (kwd := []) SL.ob_eq
    (by kernel_rfl) (fun s => by kernel_rfl) SL.run (by kernel_rfl) (by kernel_rfl) (by kernel_rfl) (by rfl) (by first | assumption | decide +kernel) (by decide +kernel) ⟨rfl, rfl, rfl, rfl, rfl, by decide +kernel⟩ ?hw ?hc
  case hw => w_witness2
  case hc => exact SL.walk_law (x := PySem.Str.ofString "_law_script") SL.pg SL.pgOk 5 27 SL.d27 20 (by kernel_rfl) (by kernel_rfl) (by kernel_rfl) rfl (by kernel_rfl) ⟨rfl, by decide, by decide⟩ SL.plain

