import PyProof.Rows.All
import Wide.All
import OpenK.AllK
import Wide.FinOn
import HandS.ForMost
import HandS.ForExc
import HandS.TryMany
import HandS.CallSlots
import HandS.Style
import HandS.Flow
import HandS.Wide
import HandS.IsInst
import HandS.FStr
import KE.KDictKeyed
import KE.KeyNested
import HandS.TupAny
import PyProof.StrOps2
import HandS.Deep
import KE.LtData
import KE.DataCmp
import KE.SortData
import KE.DataMinMax
import HandS.Conv
import HandS.Text
import KE.IntTextLaws
import HandS.More
import HandS.StrSplit
import KE.KDictLaws
import KE.KDictPairs
import HandS.Zip
import HandS.Star
import HandS.Comp
import HandS.TryOnly
import HandS.WordsExc
import HandS.ExcOwn
import HandS.HeadHook1
import HandS.ExcField
import HandS.ExcIs
import HandS.ExcInit
import HandS.Ends
import HandS.Codes
import HandS.Defaults
import HandS.Words
import HandS.HeadHook2
import KE.KStateDown
import HandS.Head0
import HandS.Head1
import HandS.Head2
import HandS.HeadEnd
import HandS.HeadHook3
import Lean
import PySem.Challenge.RW_mustercall_k52_schedules_read_back
section
/-! Mu: a small evaluator for the program's Python: plain values, an abstract heap, big steps. No library is used here. -/
set_option autoImplicit false
set_option linter.all false
namespace Mu

/-- plain values; obj: a list, a dict, an instance of the heap; lst: a list as it stands, within data alone -/
inductive D where
  | non | bl (b : Bool) | int (i : Int) | str (s : List Nat) | tup (ds : List D) | obj (i : Nat) | lst (ds : List D)
  deriving Inhabited, Repr

mutual
def D.beq : D → D → Bool
  | .non, .non => true
  | .bl a, .bl b => a == b
  | .int a, .int b => decide (a = b)
  | .str a, .str b => decide (a = b)
  | .tup a, .tup b => D.beqs a b
  | .obj i, .obj j => decide (i = j)
  | .lst a, .lst b => D.beqs a b
  | _, _ => false
def D.beqs : List D → List D → Bool
  | [], [] => true
  | a :: as, b :: bs => D.beq a b && D.beqs as bs
  | _, _ => false
end
mutual
theorem D.beq_refl : ∀ a : D, D.beq a a = true
  | .non => rfl
  | .bl a => by simp [D.beq]
  | .int a => by simp [D.beq]
  | .str a => by simp [D.beq]
  | .tup a => by simpa [D.beq] using D.beqs_refl a
  | .obj i => by simp [D.beq]
  | .lst a => by simpa [D.beq] using D.beqs_refl a
theorem D.beqs_refl : ∀ a : List D, D.beqs a a = true
  | [] => rfl
  | a :: as => by simp [D.beqs, D.beq_refl a, D.beqs_refl as]
end
mutual
theorem D.eq_of_beq : ∀ (a b : D), D.beq a b = true → a = b
  | .non, b, h => by cases b <;> simp_all [D.beq]
  | .bl a, b, h => by cases b <;> simp_all [D.beq]
  | .int a, b, h => by cases b <;> simp_all [D.beq]
  | .str a, b, h => by cases b <;> simp_all [D.beq]
  | .tup a, b, h => by
    cases b with
    | tup b => rw [D.eqs_of_beqs a b (by simpa [D.beq] using h)]
    | _ => simp [D.beq] at h
  | .obj i, b, h => by cases b <;> simp_all [D.beq]
  | .lst a, b, h => by
    cases b with
    | lst b => rw [D.eqs_of_beqs a b (by simpa [D.beq] using h)]
    | _ => simp [D.beq] at h
theorem D.eqs_of_beqs : ∀ (a b : List D), D.beqs a b = true → a = b
  | [], [], _ => rfl
  | [], _ :: _, h => by simp [D.beqs] at h
  | _ :: _, [], h => by simp [D.beqs] at h
  | a :: as, b :: bs, h => by
    simp only [D.beqs, Bool.and_eq_true] at h
    rw [D.eq_of_beq a b h.1, D.eqs_of_beqs as bs h.2]
end
instance : DecidableEq D := fun a b => if h : D.beq a b = true then isTrue (D.eq_of_beq a b h) else isFalse fun e => h (e ▸ D.beq_refl a)

abbrev Fr := List (Option D)
inductive AO where
  | lst (ds : List D)
  | dct (tk : Bool) (kvs : List (D × D))
  | ins (c : String) (fs : List (String × D))
  | lck (kvs : List (D × D))
  deriving Inhabited, Repr
/-- a dict that is being walked over -/
def AO.isL : AO → Bool
  | .lck _ => true
  | _ => false
abbrev Hp := List AO
structure Exn where
  cls : String
  fs : List (String × D)
  deriving Repr
inductive R (α : Type) where
  | ok (a : α) (h : Hp)
  | ex (x : Exn) (h : Hp)
  | bad
  deriving Repr
inductive RS where
  | nx (σ : Fr) (h : Hp)
  | rt (d : D) (h : Hp)
  | bk (σ : Fr) (h : Hp)
  | ct (σ : Fr) (h : Hp)
  | ex (x : Exn) (σ : Fr) (h : Hp)
  | bad
  deriving Repr

def R.bind {α β : Type} : R α → (α → Hp → R β) → R β
  | .ok a h, f => f a h
  | .ex x h, _ => .ex x h
  | .bad, _ => .bad
/-- an expression's end within a statement -/
def R.st {α : Type} (σ : Fr) : R α → (α → Hp → RS) → RS
  | .ok a h, f => f a h
  | .ex x h, _ => .ex x σ h
  | .bad, _ => .bad
def RS.seq : RS → (Fr → Hp → RS) → RS
  | .nx σ h, f => f σ h
  | r, _ => r
section
variable {α β : Type}
@[simp] theorem R.bind_ok (a : α) (h : Hp) (f : α → Hp → R β) : (R.ok a h).bind f = f a h := by unfold R.bind; exact id rfl
@[simp] theorem R.bind_ex (x : Exn) (h : Hp) (f : α → Hp → R β) : (R.ex x h : R α).bind f = .ex x h := by unfold R.bind; exact id rfl
@[simp] theorem R.bind_bad (f : α → Hp → R β) : (R.bad : R α).bind f = .bad := by unfold R.bind; exact id rfl
@[simp] theorem R.st_ok (σ : Fr) (a : α) (h : Hp) (f : α → Hp → RS) : (R.ok a h).st σ f = f a h := by unfold R.st; exact id rfl
@[simp] theorem R.st_ex (σ : Fr) (x : Exn) (h : Hp) (f : α → Hp → RS) : (R.ex x h : R α).st σ f = .ex x σ h := by unfold R.st; exact id rfl
@[simp] theorem R.st_bad (σ : Fr) (f : α → Hp → RS) : (R.bad : R α).st σ f = .bad := by unfold R.st; exact id rfl
end
@[simp] theorem RS.seq_nx (σ : Fr) (h : Hp) (f : Fr → Hp → RS) : (RS.nx σ h).seq f = f σ h := by unfold RS.seq; exact id rfl
@[simp] theorem RS.seq_rt (d : D) (h : Hp) (f : Fr → Hp → RS) : (RS.rt d h).seq f = .rt d h := by unfold RS.seq; exact id rfl
@[simp] theorem RS.seq_bk (σ : Fr) (h : Hp) (f : Fr → Hp → RS) : (RS.bk σ h).seq f = .bk σ h := by unfold RS.seq; exact id rfl
@[simp] theorem RS.seq_ct (σ : Fr) (h : Hp) (f : Fr → Hp → RS) : (RS.ct σ h).seq f = .ct σ h := by unfold RS.seq; exact id rfl
@[simp] theorem RS.seq_ex (x : Exn) (σ : Fr) (h : Hp) (f : Fr → Hp → RS) : (RS.ex x σ h).seq f = .ex x σ h := by unfold RS.seq; exact id rfl
@[simp] theorem RS.seq_bad (f : Fr → Hp → RS) : RS.bad.seq f = .bad := by unfold RS.seq; exact id rfl
def opt {α : Type} : Option α → Hp → R α
  | some a, h => .ok a h
  | none, _ => .bad
@[simp] theorem opt_some {α : Type} (a : α) (h : Hp) : opt (some a) h = .ok a h := rfl
@[simp] theorem opt_none {α : Type} (h : Hp) : opt (none : Option α) h = .bad := rfl

/-! ### texts -/
def cp (s : String) : List Nat := s.toList.map Char.toNat
def LIM : Nat := 16777216
/-- the decimal digits -/
def natDigits (n : Nat) : List Nat := (Nat.toDigits 10 n).map Char.toNat
def intText (i : Int) : List Nat := if i < 0 then 45 :: natDigits i.natAbs else natDigits i.natAbs
def digVal : List Nat → Nat := fun s => s.foldl (fun n c => n * 10 + (c - 48)) 0
def isDig (c : Nat) : Bool := decide (48 ≤ c) && decide (c ≤ 57)
/-- the number that a text spells: digits, or - and digits -/
def textInt (s : List Nat) : Option Int :=
  match s with
  | [] => none
  | c :: r => if c = 45 then (if r ≠ [] ∧ r.all isDig = true ∧ r.length ≤ 600 then some (-(digVal r : Int)) else none)
    else if (c :: r).all isDig = true ∧ r.length ≤ 600 then some (digVal (c :: r) : Int) else none
/-- lexicographic order of code points -/
def ltS : List Nat → List Nat → Bool
  | [], [] => false
  | [], _ :: _ => true
  | _ :: _, [] => false
  | a :: as, b :: bs => if a = b then ltS as bs else decide (a < b)

/-! ### values -/
def bi (b : Bool) : Int := if b then 1 else 0
mutual
/-- == of data -/
def pyEq : D → D → Bool
  | .non, .non => true
  | .bl a, .bl b => a == b
  | .bl a, .int j => decide (bi a = j)
  | .int i, .bl b => decide (i = bi b)
  | .int a, .int b => decide (a = b)
  | .str a, .str b => decide (a = b)
  | .tup a, .tup b => pyEqs a b
  | .lst a, .lst b => pyEqs a b
  | _, _ => false
def pyEqs : List D → List D → Bool
  | [], [] => true
  | a :: as, b :: bs => pyEq a b && pyEqs as bs
  | _, _ => false
end
def mapO {α β : Type} (f : α → Option β) : List α → Option (List β)
  | [] => some []
  | a :: as => match f a, mapO f as with
    | some b, some bs => some (b :: bs)
    | _, _ => none
/-- the data of a value: its lists as they stand -/
def dat (h : Hp) : Nat → D → Option D
  | 0, d => match d with
    | .tup _ => none
    | .lst _ => none
    | .obj _ => none
    | d => some d
  | n + 1, d => match d with
    | .tup ds => (mapO (dat h n) ds).map .tup
    | .lst ds => (mapO (dat h n) ds).map .lst
    | .obj i => match h[i]? with
      | some (.lst ds) => (mapO (dat h n) ds).map .lst
      | _ => none
    | d => some d
def DEP : Nat := 50
def eqR (h : Hp) (a b : D) : Option Bool := match dat h DEP a, dat h DEP b with
  | some x, some y => some (pyEq x y)
  | _, _ => none
mutual
/-- < of ints, texts, tuples of these -/
def ltB : D → D → Bool
  | .int a, .int b => decide (a < b)
  | .str a, .str b => ltS a b
  | .tup a, .tup b => ltBs a b
  | _, _ => false
def ltBs : List D → List D → Bool
  | [], [] => false
  | [], _ :: _ => true
  | _ :: _, [] => false
  | a :: as, b :: bs => if pyEq a b then ltBs as bs else ltB a b
end
def all2 {α β : Type} (f : α → β → Bool) : List α → List β → Bool
  | [], [] => true
  | a :: as, b :: bs => f a b && all2 f as bs
  | _, _ => false
/-- one shape: ints, texts, tuples of the same shapes -/
def alikeN : Nat → D → D → Bool
  | 0, a, b => match a, b with
    | .int _, .int _ => true
    | .str _, .str _ => true
    | _, _ => false
  | n + 1, a, b => match a, b with
    | .int _, .int _ => true
    | .str _, .str _ => true
    | .tup x, .tup y => all2 (alikeN n) x y
    | _, _ => false
def alike (a b : D) : Bool := alikeN 8 a b
def leD (a b : D) : Bool := !ltB b a
def sortD (ds : List D) : Option (List D) := match ds with
  | [] => some []
  | .tup [] :: _ => none
  | d :: r => if ((d :: r).all fun x => (d :: r).all (alike x)) = true then some ((d :: r).mergeSort leD) else none
/-- a value's truth -/
def truth (h : Hp) : D → Option Bool
  | .non => some false
  | .bl b => some b
  | .int i => some (decide (i ≠ 0))
  | .str s => some (!s.isEmpty)
  | .tup ds => some (!ds.isEmpty)
  | .obj i => match h[i]? with
    | some (.lst ds) => some (!ds.isEmpty)
    | some (.dct false kvs) => some (!kvs.isEmpty)
    | _ => none
  | .lst ds => some (!ds.isEmpty)

/-! ### dicts -/
/-- what may be a key: ints and texts (tk = false), tuples of these, nested (tk = true) -/
def keyIn : Nat → D → Bool
  | 0, d => match d with
    | .int _ => true
    | .str _ => true
    | _ => false
  | n + 1, d => match d with
    | .int _ => true
    | .str _ => true
    | .tup ds => ds.all (keyIn n)
    | _ => false
def keyOk (tk : Bool) (d : D) : Bool := match d with
  | .int _ => !tk
  | .str _ => !tk
  | .tup ds => tk && ds.all (keyIn 6)
  | _ => false
def dlook (k : D) : List (D × D) → Option D
  | [] => none
  | (a, v) :: r => if a = k then some v else dlook k r
def dput (k v : D) : List (D × D) → List (D × D)
  | [] => [(k, v)]
  | (a, w) :: r => if a = k then (a, v) :: r else (a, w) :: dput k v r
def ddel (k : D) : List (D × D) → List (D × D)
  | [] => []
  | (a, w) :: r => if a = k then r else (a, w) :: ddel k r

/-! ### instances -/
def fget (f : String) : List (String × D) → Option D
  | [] => none
  | (a, v) :: r => if f = a then some v else fget f r
def fput (f : String) (v : D) : List (String × D) → List (String × D)
  | [] => [(f, v)]
  | (a, w) :: r => if a = f then (a, v) :: r else (a, w) :: fput f v r

/-! ### sequences -/
def ixN (i : Int) (n : Nat) : Option Nat := if 0 ≤ i then (if i < n then some i.toNat else none) else if 0 ≤ i + n then some (i + n).toNat else none
def clampI (i : Int) (n : Nat) : Nat := if i < 0 then (i + n).toNat else min i.toNat n
def cut {α : Type} (xs : List α) (lo hi : Option Int) : List α :=
  let a := match lo with
    | some i => clampI i xs.length
    | none => 0
  let b := match hi with
    | some i => clampI i xs.length
    | none => xs.length
  (xs.take b).drop a
def rangeD (lo hi : Int) : List D := (List.range (hi - lo).toNat).map fun (k : Nat) => D.int (lo + (k : Int))
def enumD : Nat → List D → List D
  | _, [] => []
  | n, d :: ds => .tup [.int (n : Int), d] :: enumD (n + 1) ds
def zipD : List D → List D → List D
  | a :: as, b :: bs => .tup [a, b] :: zipD as bs
  | _, _ => []

/-! ### the text's form -/
inductive Bf where
  | len | int | str | abs | max | min | ord | sum | all | any | sorted | tuple | list
  deriving DecidableEq
inductive Bm where
  | join | startswith | split | append | extend | insert | reverse | pop | index | get | setdefault
  deriving DecidableEq
inductive Ty where
  | int | bool | str | tuple | list | dict
  deriving DecidableEq
inductive BOp where
  | add | sub | mul | fdiv | mod | pow
inductive COp where
  | eq | ne | lt | le | gt | ge | isin | notin
inductive Tg where
  | one (i : Nat)
  | tup (is : List Nat)
inductive Cv where
  | non | bl (b : Bool)
mutual
inductive E where
  | v (i : Nat)
  | int (i : Int)
  | bl (b : Bool)
  | str (s : String)
  | non
  | glob (x : String)
  | gin (neg : Bool) (a : E) (x : String)
  | gat (x : String) (a : E)
  | tup (es : Es)
  | tupS (es : Es) (last : E)
  | lst (es : Es)
  | dct (tk : Bool) (ks : List String) (es : Es)
  | bin (op : BOp) (a b : E)
  | cmp (op : COp) (a b : E)
  | isc (neg : Bool) (c : Cv) (a : E)
  | and (a b : E)
  | or (a b : E)
  | not (a : E)
  | ife (c a b : E)
  | neg (a : E)
  | ix (a i : E)
  | cut (a : E) (lo hi : Option Unit) (x y : E)
  | fld (a : E) (f : String)
  | call (f : String) (es : Es)
  | meth (o : E) (m : String) (es : Es)
  | make (c : String) (es : Es)
  | bm (o : E) (m : Bm) (es : Es)
  | blt (f : Bf) (es : Es)
  | isa (a : E) (t : Ty)
  | hfld (f : String)
  | hisa (c : String)
  | fmt (a : E)
  | fstr (es : Es)
  | lc (t : Tg) (it : It) (c : Option Unit) (cond elt : E)
  | lkE (e x : E)
inductive Es where
  | nil
  | cons (e : E) (es : Es)
inductive It where
  | seq (e : E)
  | vals (e : E)
  | rng1 (e : E)
  | rng2 (a b : E)
  | enm (e : E)
  | zip (a b : E)
end
mutual
inductive S where
  | asg (t : Tg) (e : E)
  | asgF (o : E) (f : String) (e : E)
  | asgI (o i e : E)
  | aug (x : Nat) (op : BOp) (e : E)
  | augF (o : E) (f : String) (op : BOp) (e : E)
  | augI (o i : E) (op : BOp) (e : E)
  | ex (e : E)
  | ret (e : E)
  | ret0
  | iff (c : E) (a b : Ss)
  | whl (c : E) (b : Ss)
  | fr (t : Tg) (it : It) (b : Ss)
  | rse (fromNone : Bool) (c : String) (es : Es)
  | try_ (b : Ss) (hs : Hs)
  | pass | brk | cont
  | any
  | lkS (e : E) (s : S)
inductive Ss where
  | nil
  | cons (s : S) (ss : Ss)
inductive Hs where
  | nil
  | cons (cs : List String) (nm : Option Nat) (b : Ss) (hs : Hs)
end

/-! ### operations by values -/
def addR (h : Hp) : D → D → R D
  | .int i, .int j => .ok (.int (i + j)) h
  | .str a, .str b => if a.length + b.length ≤ LIM then .ok (.str (a ++ b)) h else .bad
  | .tup a, .tup b => if a.length + b.length ≤ LIM then .ok (.tup (a ++ b)) h else .bad
  | .obj i, .obj j => match h[i]?, h[j]? with
    | some (.lst a), some (.lst b) => if a.length + b.length ≤ LIM then .ok (.obj h.length) (h ++ [.lst (a ++ b)]) else .bad
    | _, _ => .bad
  | _, _ => .bad
def mulR (h : Hp) : D → D → R D
  | .int i, .int j => if i.natAbs < 2 ^ 64 ∨ j.natAbs < 2 ^ 64 then .ok (.int (i * j)) h else .bad
  | .str s, .int j => if s.length * j.toNat ≤ LIM ∧ j.natAbs < 2 ^ 62 then .ok (.str (List.replicate j.toNat s).flatten) h else .bad
  | .obj i, .int j => match h[i]? with
    | some (.lst a) => if a.length * j.toNat ≤ LIM ∧ j.natAbs < 2 ^ 62 then .ok (.obj h.length) (h ++ [.lst (List.replicate j.toNat a).flatten]) else .bad
    | _ => .bad
  | _, _ => .bad
def binR (op : BOp) (h : Hp) (a b : D) : R D :=
  match op with
  | .add => addR h a b
  | .mul => mulR h a b
  | .sub => match a, b with
    | .int i, .int j => .ok (.int (i - j)) h
    | _, _ => .bad
  | .fdiv => match a, b with
    | .int i, .int j => if 0 < j ∧ j.natAbs < 10 ^ 100 then .ok (.int (i / j)) h else .bad
    | _, _ => .bad
  | .mod => match a, b with
    | .int i, .int j => if 0 < j then .ok (.int (i % j)) h else .bad
    | _, _ => .bad
  | .pow => match a, b with
    | .int i, .int j => if 0 ≤ j ∧ j.natAbs ≤ 1000 ∧ i.natAbs < 2 ^ 64 then .ok (.int (i ^ j.toNat)) h else .bad
    | _, _ => .bad
/-- a op= b where nothing is changed in place -/
def augR (op : BOp) (h : Hp) (a b : D) : R D :=
  match op, a, b with
  | .add, .int i, .int j => .ok (.int (i + j)) h
  | .sub, .int i, .int j => .ok (.int (i - j)) h
  | .add, .str s, .str t => if s.length + t.length ≤ LIM then .ok (.str (s ++ t)) h else .bad
  | _, _, _ => .bad
/-- a in the items ds -/
def memR (h : Hp) (a : D) (ds : List D) : Option Bool := match dat h DEP a, mapO (dat h DEP) ds with
  | some x, some xs => some (xs.any fun z => pyEq z x)
  | _, _ => none
def inR (h : Hp) (a b : D) : Option Bool :=
  match b with
  | .tup ds => memR h a ds
  | .lst ds => memR h a ds
  | .str s => match a with
    | .str [c] => some (s.contains c)
    | _ => none
  | .obj i => match h[i]? with
    | some (.lst ds) => memR h a ds
    | some (.dct tk kvs) => if keyOk tk a then some (dlook a kvs).isSome else none
    | _ => none
  | _ => none
def cmpO (op : COp) (h : Hp) (a b : D) : Option Bool :=
  match op with
  | .eq => eqR h a b
  | .ne => (eqR h a b).map not
  | .isin => inR h a b
  | .notin => (inR h a b).map not
  | .lt => if alike a b then some (ltB a b) else none
  | .gt => if alike a b then some (ltB b a) else none
  | .le => if alike a b then some (!ltB b a) else none
  | .ge => if alike a b then some (!ltB a b) else none
def cmpR (op : COp) (h : Hp) (a b : D) : R D := (opt (cmpO op h a b) h).bind fun c h => .ok (.bl c) h
def iscV (c : Cv) (d : D) : Bool := match c, d with
  | .non, .non => true
  | .bl b, .bl a => a == b
  | _, _ => false
def negR (h : Hp) : D → R D
  | .int i => .ok (.int (-i)) h
  | _ => .bad
def ixR (h : Hp) (a i : D) : R D :=
  match a, i with
  | .tup ds, .int i => opt ((ixN i ds.length).bind fun k => ds[k]?) h
  | .lst ds, .int i => opt ((ixN i ds.length).bind fun k => ds[k]?) h
  | .str s, .int i => opt (((ixN i s.length).bind fun k => s[k]?).map fun c => .str [c]) h
  | .obj p, i => match h[p]?, i with
    | some (.lst ds), .int i => opt ((ixN i ds.length).bind fun k => ds[k]?) h
    | some (.dct tk kvs), k => if keyOk tk k then opt (dlook k kvs) h else .bad
    | some (.lck kvs), k => if keyOk false k then opt (dlook k kvs) h else .bad
    | _, _ => .bad
  | _, _ => .bad
/-- a dict's item -/
def dixR (h : Hp) (a k : D) : R D :=
  match a with
  | .obj p => match h[p]? with
    | some (.dct tk kvs) => if keyOk tk k then opt (dlook k kvs) h else .bad
    | _ => .bad
  | _ => .bad
/-- a slice's end: an int -/
def endI : D → Option Int
  | .int i => if i.natAbs < 2 ^ 62 then some i else none
  | _ => none
def cutR (h : Hp) (a : D) (lo hi : Option Int) : R D :=
  match a with
  | .tup ds => .ok (.tup (cut ds lo hi)) h
  | .lst ds => .ok (.obj h.length) (h ++ [.lst (cut ds lo hi)])
  | .str s => .ok (.str (cut s lo hi)) h
  | .obj p => match h[p]? with
    | some (.lst ds) => .ok (.obj h.length) (h ++ [.lst (cut ds lo hi)])
    | _ => .bad
  | _ => .bad
def fldR (h : Hp) (a : D) (f : String) : R D :=
  match a with
  | .obj p => match h[p]? with
    | some (.ins _ fs) => opt (fget f fs) h
    | _ => .bad
  | _ => .bad
/-- a field stored -/
def putF (h : Hp) (a : D) (f : String) (d : D) : Option Hp :=
  match a with
  | .obj p => match h[p]? with
    | some (.ins c fs) => if fs.length < 900 then some (h.set p (.ins c (fput f d fs))) else none
    | _ => none
  | _ => none
/-- an instance's class -/
def insC (h : Hp) : D → Option String
  | .obj p => match h[p]? with
    | some (.ins c _) => some c
    | _ => none
  | _ => none
/-- an item stored -/
def putI (h : Hp) (a i d : D) : Option Hp :=
  match a with
  | .obj p => match h[p]? with
    | some (.lst ds) => match i with
      | .int i => (ixN i ds.length).map fun k => h.set p (.lst (ds.set k d))
      | _ => none
    | some (.dct tk kvs) => if keyOk tk i = true ∧ kvs.length < LIM then some (h.set p (.dct tk (dput i d kvs))) else none
    | _ => none
  | _ => none
/-- the items that are walked, and the object that they are read from -/
def iterR (h : Hp) : D → Option (List D × Option Nat)
  | .tup ds => some (ds, none)
  | .lst ds => some (ds, none)
  | .str s => some (s.map fun c => .str [c], none)
  | .obj p => match h[p]? with
    | some (.lst ds) => some (ds, some p)
    | some (.lck kvs) => some (kvs.map (·.1), none)
    | _ => none
  | _ => none
/-- the walk over the dict at p is done -/
def unlE {α : Type} (p : Nat) (kvs : List (D × D)) : R α → R α
  | .ok a h => match h[p]? with
    | some (.lck ks) => if ks = kvs then .ok a (h.set p (.dct false kvs)) else .bad
    | _ => .bad
  | _ => .bad
def unlS (p : Nat) (kvs : List (D × D)) : RS → RS
  | .nx σ h => match h[p]? with
    | some (.lck ks) => if ks = kvs then .nx σ (h.set p (.dct false kvs)) else .bad
    | _ => .bad
  | .rt d h => match h[p]? with
    | some (.lck ks) => if ks = kvs then .rt d (h.set p (.dct false kvs)) else .bad
    | _ => .bad
  | _ => .bad
/-- still as it was -/
def gdOk (h h' : Hp) : Option Nat → Bool
  | none => true
  | some p => match h[p]?, h'[p]? with
    | some (.lst a), some (.lst b) => decide (a = b)
    | _, _ => false
def allBl : List D → Option (List Bool)
  | [] => some []
  | .bl b :: r => (allBl r).map (b :: ·)
  | _ => none
def allInt : List D → Option (List Int)
  | [] => some []
  | .int i :: r => (allInt r).map (i :: ·)
  | _ => none
def allStr : List D → Option (List (List Nat))
  | [] => some []
  | .str i :: r => (allStr r).map (i :: ·)
  | _ => none
def seqOf (h : Hp) : D → Option (List D)
  | .tup ds => some ds
  | .obj p => match h[p]? with
    | some (.lst ds) => some ds
    | _ => none
  | _ => none
def itemsOf (h : Hp) : D → Option (List D)
  | .tup ds => some ds
  | .obj p => match h[p]? with
    | some (.lst ds) => some ds
    | some (.dct _ kvs) => some (kvs.map (·.1))
    | _ => none
  | _ => none
def maxL : List Int → Option Int
  | [] => none
  | a :: r => some (r.foldl (fun m x => if m < x then x else m) a)
def lenR (h : Hp) : List D → R D
  | [.str s] => .ok (.int s.length) h
  | [.tup ds] => .ok (.int ds.length) h
  | [.lst ds] => .ok (.int ds.length) h
  | [.obj p] => match h[p]? with
    | some (.lst ds) => .ok (.int ds.length) h
    | some (.dct false kvs) => .ok (.int kvs.length) h
    | _ => .bad
  | _ => .bad
def intR (h : Hp) : List D → R D
  | [.int i] => .ok (.int i) h
  | [.bl b] => .ok (.int (bi b)) h
  | [.str s] => opt ((textInt s).map .int) h
  | _ => .bad
def strR (h : Hp) : List D → R D
  | [.int i] => if i.natAbs < 10 ^ 100 then .ok (.str (intText i)) h else .bad
  | _ => .bad
def absR (h : Hp) : List D → R D
  | [.int i] => .ok (.int (if i < 0 then -i else i)) h
  | _ => .bad
def maxR (h : Hp) : List D → R D
  | [.int i, .int j] => .ok (.int (if i < j then j else i)) h
  | [.obj p] => match h[p]? with
    | some (.lst ds) => opt (((allInt ds).bind maxL).map .int) h
    | _ => .bad
  | [.tup a, .tup b] => if alike (.tup a) (.tup b) = true then .ok (if ltB (.tup a) (.tup b) = true then .tup b else .tup a) h else .bad
  | _ => .bad
def minR (h : Hp) : List D → R D
  | [.int i, .int j] => .ok (.int (if j < i then j else i)) h
  | _ => .bad
def ordR (h : Hp) : List D → R D
  | [.str [c]] => .ok (.int c) h
  | _ => .bad
def sumR (h : Hp) : List D → R D
  | [.obj p] => match h[p]? with
    | some (.lst ds) => opt ((allInt ds).map fun is => .int is.sum) h
    | _ => .bad
  | _ => .bad
def allR (h : Hp) : List D → R D
  | [.obj p] => match h[p]? with
    | some (.lst ds) => opt ((allBl ds).map fun bs => .bl (bs.all id)) h
    | _ => .bad
  | _ => .bad
def anyR (h : Hp) : List D → R D
  | [.obj p] => match h[p]? with
    | some (.lst ds) => opt ((allBl ds).map fun bs => .bl (bs.any id)) h
    | _ => .bad
  | _ => .bad
def newL (h : Hp) (ds : List D) : R D := .ok (.obj h.length) (h ++ [.lst ds])
def sortR (h : Hp) : List D → R D
  | [.obj p] => match h[p]? with
    | some (.lst ds) => match sortD ds with
      | some es => newL h es
      | none => .bad
    | some (.dct false kvs) => match allInt (kvs.map (·.1)) with
      | some ns => if ns.length < 64 then newL h ((ns.mergeSort fun a b => decide (a ≤ b)).map .int) else .bad
      | none => .bad
    | some (.dct true kvs) => match sortD (kvs.map (·.1)) with
      | some es => newL h es
      | none => .bad
    | _ => .bad
  | _ => .bad
def tupR (h : Hp) : List D → R D
  | [.tup ds] => .ok (.tup ds) h
  | [.lst ds] => .ok (.tup ds) h
  | [.obj p] => match h[p]? with
    | some (.lst ds) => .ok (.tup ds) h
    | _ => .bad
  | _ => .bad
def listR (h : Hp) : List D → R D
  | [.tup ds] => newL h ds
  | [.lst ds] => newL h ds
  | [.obj p] => match h[p]? with
    | some (.lst ds) => newL h ds
    | some (.dct false kvs) => newL h (kvs.map (·.1))
    | _ => .bad
  | _ => .bad
def bltR : Bf → Hp → List D → R D
  | .len => lenR
  | .int => intR
  | .str => strR
  | .abs => absR
  | .max => maxR
  | .min => minR
  | .ord => ordR
  | .sum => sumR
  | .all => allR
  | .any => anyR
  | .sorted => sortR
  | .tuple => tupR
  | .list => listR
def joinS (sep : List Nat) : List (List Nat) → List Nat
  | [] => []
  | [s] => s
  | s :: r => s ++ sep ++ joinS sep r
/-- split by one sign -/
def splitC (c : Nat) : List Nat → List (List Nat)
  | [] => [[]]
  | a :: r => match splitC c r with
    | [] => [[]]
    | w :: ws => if a = c then [] :: w :: ws else (a :: w) :: ws
/-- split by one sign, at most n times -/
def splitN (c : Nat) : Nat → List Nat → List (List Nat)
  | 0, s => [s]
  | _ + 1, [] => [[]]
  | n + 1, a :: r => if a = c then [] :: splitN c n r else match splitN c (n + 1) r with
    | [] => [[a]]
    | w :: ws => (a :: w) :: ws
def idxR (h : Hp) (a : D) (ds : List D) : Option Nat := match dat h DEP a, mapO (dat h DEP) ds with
  | some x, some xs => xs.findIdx? fun z => pyEq z x
  | _, _ => none
def strM (m : Bm) (h : Hp) (s : List Nat) (as : List D) : R D :=
  match m, as with
  | .join, [d] => match (seqOf h d).bind allStr with
      | some ts => if (ts.map List.length).sum + ts.length * s.length ≤ LIM then .ok (.str (joinS s ts)) h else .bad
      | none => .bad
  | .startswith, [.str t] => .ok (.bl (t.isPrefixOf s)) h
  | .split, [.str [c]] => if c < 256 ∧ s.length + 2 ≤ LIM then newL h ((splitC c s).map .str) else .bad
  | .split, [.str [c], .int n] => if (c < 256 ∧ 0 ≤ n ∧ n < 1000) ∧ s.length + 2 ≤ LIM then newL h ((splitN c n.toNat s).map .str) else .bad
  | _, _ => .bad
def lstM (m : Bm) (h : Hp) (p : Nat) (ds : List D) (as : List D) : R D :=
  match m, as with
  | .append, [d] => if ds.length < LIM then .ok .non (h.set p (.lst (ds ++ [d]))) else .bad
  | .extend, [.obj q] => match h[q]? with
      | some (.lst xs) => if ds.length + xs.length ≤ LIM then .ok .non (h.set p (.lst (ds ++ xs))) else .bad
      | _ => .bad
  | .insert, [.int 0, d] => if ds.length < LIM then .ok .non (h.set p (.lst (d :: ds))) else .bad
  | .reverse, [] => .ok .non (h.set p (.lst ds.reverse))
  | .pop, [.int i] => match ixN i ds.length with
      | some k => match ds[k]? with
        | some d => .ok d (h.set p (.lst (ds.eraseIdx k)))
        | none => .bad
      | none => .bad
  | .index, [d] => opt ((idxR h d ds).map fun k => .int (k : Nat)) h
  | _, _ => .bad
def dctM (m : Bm) (h : Hp) (p : Nat) (tk : Bool) (kvs : List (D × D)) (as : List D) : R D :=
  match m, as with
  | .get, [k] => if keyOk tk k then .ok ((dlook k kvs).getD .non) h else .bad
  | .get, [k, d] => if keyOk tk k then .ok ((dlook k kvs).getD d) h else .bad
  | .pop, [k] => if tk = false ∧ keyOk tk k = true then (match dlook k kvs with
      | some v => .ok v (h.set p (.dct tk (ddel k kvs)))
      | none => .bad) else .bad
  | .setdefault, [k, d] => if keyOk tk k = true ∧ kvs.length < LIM then (match dlook k kvs with
      | some v => .ok v h
      | none => .ok d (h.set p (.dct tk (dput k d kvs)))) else .bad
  | _, _ => .bad
def bmR (m : Bm) (h : Hp) (o : D) (as : List D) : R D :=
  match o with
  | .str s => strM m h s as
  | .obj p => match h[p]? with
    | some (.lst ds) => lstM m h p ds as
    | some (.dct tk kvs) => dctM m h p tk kvs as
    | _ => .bad
  | _ => .bad
/-- what kind of object has methods: a text, a list, a dict -/
def kdO (h : Hp) : D → Nat
  | .str _ => 1
  | .obj p => match h[p]? with
    | some (.lst _) => 2
    | some (.dct _ _) => 3
    | _ => 0
  | _ => 0
/-- which have which -/
def mOk : Bm → Nat → Bool
  | .join, 1 => true
  | .startswith, 1 => true
  | .split, 1 => true
  | .append, 2 => true
  | .extend, 2 => true
  | .insert, 2 => true
  | .reverse, 2 => true
  | .index, 2 => true
  | .pop, 2 => true
  | .pop, 3 => true
  | .get, 3 => true
  | .setdefault, 3 => true
  | _, _ => false
def isaR (h : Hp) (d : D) (t : Ty) : Option Bool :=
  match d with
  | .non => some false
  | .bl _ => some (decide (t = .int) || decide (t = .bool))
  | .int _ => some (decide (t = .int))
  | .str _ => some (decide (t = .str))
  | .tup _ => some (decide (t = .tuple))
  | .obj p => match h[p]? with
    | some (.lst _) => some (decide (t = .list))
    | some (.dct false _) => some (decide (t = .dict))
    | _ => none
  | .lst _ => some (decide (t = .list))
/-- a part of an f-string -/
def fmtR : D → Option (List Nat)
  | .str s => some s
  | .int i => if i.natAbs < 10 ^ 100 then some (intText i) else none
  | _ => none
def excSub (c t : String) : Bool := c == t || t == "MusterError" || t == "ValueError"

/-! ### frames -/
def vget (σ : Fr) (i : Nat) : Option D := match σ[i]? with
  | some (some d) => some d
  | _ => none
def vset (σ : Fr) (i : Nat) (d : D) : Fr := σ.set i (some d)
def vsets : Fr → List Nat → List D → Option Fr
  | σ, [], [] => some σ
  | σ, i :: is, d :: ds => vsets (vset σ i d) is ds
  | _, _, _ => none
def tgS (h : Hp) (σ : Fr) (t : Tg) (d : D) : Option Fr := match t with
  | .one i => some (vset σ i d)
  | .tup is => (seqOf h d).bind fun ds => vsets σ is ds
def tgIs : Tg → List Nat
  | .one i => [i]
  | .tup is => is
def wipeO (σ : Fr) : Option Nat → Fr
  | some i => σ.set i none
  | none => σ
/-- the end of an except suite: its name is gone; nothing may be raised in it -/
def RS.suite (r : RS) (nm : Option Nat) : RS := match r with
  | .nx σ h => .nx (wipeO σ nm) h
  | .rt d h => .rt d h
  | .bk σ h => .bk (wipeO σ nm) h
  | .ct σ h => .ct (wipeO σ nm) h
  | _ => .bad
def wipe (σ : Fr) : List Nat → Fr
  | [] => σ
  | i :: is => wipe (σ.set i none) is

/-! ### loops -/
def R.quiet {α : Type} : R α → R α
  | .ok a h => .ok a h
  | _ => .bad
@[simp] theorem R.quiet_ok {α : Type} (a : α) (h : Hp) : (R.ok a h).quiet = .ok a h := rfl
@[simp] theorem R.quiet_ex {α : Type} (x : Exn) (h : Hp) : (R.ex x h : R α).quiet = .bad := rfl
@[simp] theorem R.quiet_bad {α : Type} : (R.bad : R α).quiet = .bad := rfl
/-- a comprehension's: nothing is let out -/
def lcL (g : Hp → Bool) (step : D → Hp → R (Option D)) : List D → List D → Hp → R (List D)
  | [], acc, h => .ok acc h
  | d :: ds, acc, h => (step d h).quiet.bind fun o h' => if g h' then (match o with
    | some y => if acc.length < LIM then lcL g step ds (acc ++ [y]) h' else .bad
    | none => lcL g step ds acc h') else .bad
def forL (g : Hp → Bool) (step : D → Fr → Hp → RS) : List D → Fr → Hp → RS
  | [], σ, h => .nx σ h
  | d :: ds, σ, h => match step d σ h with
    | .nx σ' h' => if g h' then forL g step ds σ' h' else .bad
    | .ct σ' h' => if g h' then forL g step ds σ' h' else .bad
    | .bk σ' h' => .nx σ' h'
    | .rt v h' => .rt v h'
    | .ex x σ' h' => .ex x σ' h'
    | .bad => .bad
def whlL (c : Fr → Hp → R Bool) (b : Fr → Hp → RS) : Nat → Fr → Hp → RS
  | 0, _, _ => .bad
  | n + 1, σ, h => (c σ h).st σ fun t h' => if t then (match b σ h' with
    | .nx σ' h'' => whlL c b n σ' h''
    | .ct σ' h'' => whlL c b n σ' h''
    | .bk σ' h'' => .nx σ' h''
    | .rt v h'' => .rt v h''
    | .ex x σ' h'' => .ex x σ' h''
    | .bad => .bad) else .nx σ h'
def FUEL : Nat := 1000000000

/-! ### the evaluator -/
structure Cx where
  call : String → List D → Hp → R D
  glob : String → Option D
  gd : String → List (D × D)
  hx : Option Exn
  has : String → Bool
mutual
def ev (c : Cx) (σ : Fr) (h : Hp) : E → R D
  | .v i => opt (vget σ i) h
  | .int i => .ok (.int i) h
  | .bl b => .ok (.bl b) h
  | .str s => .ok (.str (cp s)) h
  | .non => .ok .non h
  | .glob x => opt (c.glob x) h
  | .gin n a x => (ev c σ h a).bind fun d h => match d with
    | .str s => .ok (.bl (n ^^ (dlook (.str s) (c.gd x)).isSome)) h
    | _ => .bad
  | .gat x a => (ev c σ h a).bind fun d h => match d with
    | .str s => opt (dlook (.str s) (c.gd x)) h
    | _ => .bad
  | .tup es => (evs c σ h es).bind fun ds h => .ok (.tup ds) h
  | .tupS es e => (evs c σ h es).bind fun ds h => (ev c σ h e).bind fun d h => match d with
    | .tup xs => if ds.length + xs.length ≤ LIM then .ok (.tup (ds ++ xs)) h else .bad
    | _ => .bad
  | .lst es => (evs c σ h es).bind fun ds h => .ok (.obj h.length) (h ++ [.lst ds])
  | .dct tk ks es => (evs c σ h es).bind fun ds h => .ok (.obj h.length) (h ++ [.dct tk ((ks.map fun k => D.str (cp k)).zip ds)])
  | .bin op a b => (ev c σ h a).bind fun x h => (ev c σ h b).bind fun y h => binR op h x y
  | .cmp op a b => (ev c σ h a).bind fun x h => (ev c σ h b).bind fun y h => cmpR op h x y
  | .isc n k a => (ev c σ h a).bind fun x h => .ok (.bl (n ^^ iscV k x)) h
  | .and a b => (ev c σ h a).bind fun x h => (opt (truth h x) h).bind fun t h => if t then ev c σ h b else .ok x h
  | .or a b => (ev c σ h a).bind fun x h => (opt (truth h x) h).bind fun t h => if t then .ok x h else ev c σ h b
  | .not a => (ev c σ h a).bind fun x h => (opt (truth h x) h).bind fun t h => .ok (.bl (!t)) h
  | .ife k a b => (ev c σ h k).bind fun x h => (opt (truth h x) h).bind fun t h => if t then ev c σ h a else ev c σ h b
  | .neg a => (ev c σ h a).bind fun x h => negR h x
  | .ix a i => (ev c σ h a).bind fun x h => (ev c σ h i).bind fun y h => ixR h x y
  | .cut a lo hi x y => (ev c σ h a).bind fun d h =>
      (match lo with
        | some _ => (ev c σ h x).bind fun i h => (opt (endI i) h).bind fun i h => .ok (some i) h
        | none => .ok none h : R (Option Int)).bind fun i h =>
      (match hi with
        | some _ => (ev c σ h y).bind fun j h => (opt (endI j) h).bind fun j h => .ok (some j) h
        | none => .ok none h : R (Option Int)).bind fun j h => cutR h d i j
  | .fld a f => (ev c σ h a).bind fun x h => fldR h x f
  | .call f es => (evs c σ h es).bind fun ds h => c.call f ds h
  | .meth o m es => (ev c σ h o).bind fun x h => match x with
    | .obj p => match h[p]? with
      | some (.ins k fs) => if fget m fs = none ∧ c.has (k ++ "." ++ m) = true then (evs c σ h es).bind fun ds h => c.call (k ++ "." ++ m) (.obj p :: ds) h else .bad
      | _ => .bad
    | _ => .bad
  | .make k es => (evs c σ h es).bind fun ds h => (c.call (k ++ ".__init__") (.obj h.length :: ds) (h ++ [.ins k []])).bind fun d h' => match d with
    | .non => .ok (.obj h.length) h'
    | _ => .bad
  | .bm o m es => (ev c σ h o).bind fun x h => if mOk m (kdO h x) = false then .bad else (evs c σ h es).bind fun ds h' => if kdO h' x = kdO h x then bmR m h' x ds else .bad
  | .blt f es => (evs c σ h es).bind fun ds h => bltR f h ds
  | .isa a t => (ev c σ h a).bind fun x h => (opt (isaR h x t) h).bind fun b h => .ok (.bl b) h
  | .hfld f => opt (c.hx.bind fun x => fget f x.fs) h
  | .hisa k => opt (c.hx.map fun x => .bl (excSub x.cls k)) h
  | .lkE e x => match ev c σ h e with
    | .ok (.obj p) _ => match h[p]? with
      | some (.dct false kvs) => unlE p kvs (ev c σ (h.set p (.lck kvs)) x)
      | _ => .bad
    | _ => .bad
  | .fmt a => (ev c σ h a).bind fun d h => match fmtR d with
    | some s => if s.length ≤ 100000 then .ok (.str s) h else .bad
    | none => .bad
  | .fstr es => (evs c σ h es).bind fun ds h => match allStr ds with
    | some ts => .ok (.str ts.flatten) h
    | none => .bad
  | .lc t it c? cond elt => (evI c σ h it).bind fun p h =>
      (lcL (fun h' => gdOk h h' p.2) (fun d h => match tgS h (wipe σ (tgIs t)) t d with
        | some σ' => (match c? with
          | some _ => (ev c σ' h cond).bind fun x h => (opt (truth h x) h).bind fun b h => if b then (ev c σ' h elt).bind fun y h => .ok (some y) h else .ok none h
          | none => (ev c σ' h elt).bind fun y h => .ok (some y) h)
        | none => .bad) p.1 [] h).bind fun ds h => .ok (.obj h.length) (h ++ [.lst ds])
def evs (c : Cx) (σ : Fr) (h : Hp) : Es → R (List D)
  | .nil => .ok [] h
  | .cons e es => (ev c σ h e).bind fun d h => (evs c σ h es).bind fun ds h => .ok (d :: ds) h
def evI (c : Cx) (σ : Fr) (h : Hp) : It → R (List D × Option Nat)
  | .seq e => (ev c σ h e).bind fun d h => opt (iterR h d) h
  | .vals e => (ev c σ h e).bind fun d h => match d with
    | .obj p => match h[p]? with
      | some (.lck kvs) => .ok (kvs.map (·.2), none) h
      | _ => .bad
    | _ => .bad
  | .rng1 e => (ev c σ h e).bind fun d h => match d with
    | .int j => if j.natAbs < 2 ^ 62 then .ok (rangeD 0 j, none) h else .bad
    | _ => .bad
  | .rng2 a b => (ev c σ h a).bind fun x h => (ev c σ h b).bind fun y h => match x, y with
    | .int i, .int j => if i.natAbs < 2 ^ 62 ∧ j.natAbs < 2 ^ 62 then .ok (rangeD i j, none) h else .bad
    | _, _ => .bad
  | .enm e => (ev c σ h e).bind fun d h => match d with
    | .tup ds => .ok (enumD 0 ds, none) h
    | .lst ds => .ok (enumD 0 ds, none) h
    | .obj p => match h[p]? with
      | some (.lst ds) => .ok (enumD 0 ds, some p) h
      | _ => .bad
    | _ => .bad
  | .zip a b => (ev c σ h a).bind fun x h => (ev c σ h b).bind fun y h => match x, y with
    | .tup xs, .tup ys => .ok (zipD xs ys, none) h
    | .tup xs, .obj q => match h[q]? with
      | some (.lst ys) => .ok (zipD xs ys, some q) h
      | _ => .bad
    | _, _ => .bad
end
/-- a test -/
def evT (c : Cx) (σ : Fr) (h : Hp) (e : E) : R Bool := (ev c σ h e).bind fun x h => opt (truth h x) h
mutual
def exec (c : Cx) (σ : Fr) (h : Hp) : S → RS
  | .asg t e => (ev c σ h e).st σ fun d h => match tgS h σ t d with
    | some σ' => .nx σ' h
    | none => .bad
  | .asgF o f e => (ev c σ h e).st σ fun d h => (ev c σ h o).st σ fun x h => match putF h x f d with
    | some h' => .nx σ h'
    | none => .bad
  | .asgI o i e => (ev c σ h e).st σ fun d h => (ev c σ h o).st σ fun x h => (ev c σ h i).st σ fun k h => match putI h x k d with
    | some h' => .nx σ h'
    | none => .bad
  | .aug x op e => (opt (vget σ x) h).st σ fun a h => (ev c σ h e).st σ fun b h => (augR op h a b).st σ fun d h => .nx (vset σ x d) h
  | .augF o f op e => (ev c σ h o).st σ fun x h1 => (fldR h1 x f).st σ fun a h => (ev c σ h e).st σ fun b h => (augR op h a b).st σ fun d h => if insC h x = insC h1 x then (match putF h x f d with
    | some h' => .nx σ h'
    | none => .bad) else .bad
  | .augI o i op e => (ev c σ h o).st σ fun x h => (ev c σ h i).st σ fun k h => (dixR h x k).st σ fun a h => (ev c σ h e).st σ fun b h => (augR op h a b).st σ fun d h =>
      match putI h x k d with
      | some h' => .nx σ h'
      | none => .bad
  | .ex e => (ev c σ h e).st σ fun _ h => .nx σ h
  | .ret e => (ev c σ h e).st σ fun d h => .rt d h
  | .ret0 => .rt .non h
  | .iff k a b => (evT c σ h k).st σ fun t h => if t then execs c σ h a else execs c σ h b
  | .whl k b => whlL (fun σ h => evT c σ h k) (fun σ h => execs c σ h b) FUEL σ h
  | .fr t it b => (evI c σ h it).st σ fun p h => forL (fun h' => gdOk h h' p.2) (fun d σ h => match tgS h σ t d with
    | some σ' => execs c σ' h b
    | none => .bad) p.1 σ h
  | .rse _ k es => (evs c σ h es).st σ fun ds h => match k, ds with
    | "BadSchedule", [l, r] => .ex ⟨"BadSchedule", [("line", l), ("reason", r)]⟩ σ h
    | k, [] => .ex ⟨k, []⟩ σ h
    | _, _ => .bad
  | .try_ b hs => match execs c σ h b with
    | .ex x σ' h' => execH { c with hx := some x } x σ' h' hs
    | r => r
  | .pass => .nx σ h
  | .brk => .bk σ h
  | .cont => .ct σ h
  | .any => .bad
  | .lkS e s => match ev c σ h e with
    | .ok (.obj p) _ => match h[p]? with
      | some (.dct false kvs) => unlS p kvs (exec c σ (h.set p (.lck kvs)) s)
      | _ => .bad
    | _ => .bad
def execs (c : Cx) (σ : Fr) (h : Hp) : Ss → RS
  | .nil => .nx σ h
  | .cons s ss => (exec c σ h s).seq fun σ h => execs c σ h ss
def execH (c : Cx) (x : Exn) (σ : Fr) (h : Hp) : Hs → RS
  | .nil => .ex x σ h
  | .cons cs nm b hs => if cs.any (excSub x.cls) then (execs c (wipeO σ nm) h b).suite nm else execH c x σ h hs
end

/-! ### a program -/
structure Fn where
  np : Nat
  nl : Nat
  body : Ss
structure Prog where
  fns : String → Option Fn
  glob : String → Option D
  gd : String → List (D × D)
def look {α : Type} (f : String) : List (String × α) → Option α
  | [] => none
  | (a, v) :: r => if f = a then some v else look f r
def mkProg (fns : List (String × Fn)) (globs : List (String × D)) (gds : List (String × List (D × D))) : Prog := ⟨fun f => look f fns, fun x => look x globs, fun x => (look x gds).getD []⟩
def RS.fin : RS → R D
  | .nx _ h => .ok .non h
  | .rt d h => .ok d h
  | .ex x _ h => .ex x h
  | _ => .bad
def start (as : List D) (nl : Nat) : Fr := as.map some ++ List.replicate (nl - as.length) none
def callN (P : Prog) : Nat → String → List D → Hp → R D
  | 0, _, _, _ => .bad
  | n + 1, f, as, h => match P.fns f with
    | some fn => if as.length = fn.np then (execs ⟨callN P n, P.glob, P.gd, none, fun f => (P.fns f).isSome⟩ (start as fn.nl) h fn.body).fin else .bad
    | none => .bad
end Mu
end

section
set_option Elab.async false
set_option linter.all false
set_option maxRecDepth 100000
set_option maxHeartbeats 4000000
/-! Ad: the evaluator Mu tells what the model does: relations, then one lemma a construct. -/
namespace Ad
open PySem PySem.Spec PyProof.Rows L2
abbrev MD := Mu.D
abbrev XS := Mu.E

/-! ### names, texts -/
def toS (s : List Nat) : Str := ⟨s.toArray⟩
def nm (f : String) : Str := Str.ofString f
theorem toS_len (s : List Nat) : (toS s).length = s.length := by simp [toS, Str.length]
theorem toS_list (s : List Nat) : (toS s).cps.toList = s := by simp [toS]
theorem toS_inj {a b : List Nat} (h : toS a = toS b) : a = b := by rw [← toS_list a, ← toS_list b, h]
theorem toS_of (z : Str) : toS z.cps.toList = z := by cases z; simp [toS]
theorem nm_cp (f : String) : nm f = toS (Mu.cp f) := Str.ofString_eq_toList f
theorem cp_inj {a b : String} (h : Mu.cp a = Mu.cp b) : a = b := by
  have e : a.toList = b.toList := by
    have inj : ∀ (l r : List Char), l.map Char.toNat = r.map Char.toNat → l = r := by
      intro l
      induction l with
      | nil => intro r h; cases r <;> simp_all
      | cons c l ih =>
        intro r h
        cases r with
        | nil => simp at h
        | cons d r =>
          simp only [List.map_cons, List.cons.injEq] at h
          rw [Char.toNat_inj.mp h.1, ih r h.2]
    exact inj _ _ h
  exact String.ext (by simpa using e)
theorem nm_inj {a b : String} (h : nm a = nm b) : a = b := by
  rw [nm_cp, nm_cp] at h
  exact cp_inj (toS_inj h)
theorem nm_eq {a b : String} : (nm a = nm b) = (a = b) := propext ⟨nm_inj, fun e => by rw [e]⟩

theorem cp_ok (s : String) : ∀ c ∈ Mu.cp s, c < 0x110000 := by
  intro c h
  unfold Mu.cp at h
  obtain ⟨x, _, rfl⟩ := List.mem_map.mp h
  have v := x.valid
  show x.val.toNat < 0x110000
  rcases v with v | v
  · exact Nat.lt_trans v (by decide)
  · exact v.2
/-! ### what stays -/
/-- a list of the written part -/
def KLst (K : PySem.W.Frag) (a : Addr) (xs : List V) : Prop :=
  ∃ (o : Obj) (its : Array Value) (n : Nat), K.lookup a = some o ∧ o.cls = .type "list" ∧ o.dict = none ∧ o.data = .seq its n ∧ its.size ≤ sizeLine ∧ Vals xs its.toList
/-- a list that is only read -/
def Ro (K : PySem.W.Frag) (H : Hp) (a : Addr) (xs : List V) : Prop := (∃ o, H a = some (.frz o (.lst xs))) ∨ KLst K a xs
theorem Ro.sq {K : PySem.W.Frag} {H : Hp} {a : Addr} {xs : List V} : Ro K H a xs → SqL K H a xs
  | .inl ⟨o, h⟩ => .inl (.inr ⟨o, h⟩)
  | .inr h => .inr h
structure Keep (H H' : Hp) : Prop where
  t : ∀ a xs, H a = some (.tup xs) → H' a = some (.tup xs)
  f : ∀ a o u, H a = some (.frz o u) → H' a = some (.frz o u)
  x : ∀ a fs, H a = some (.xd fs) → H' a = some (.xd fs)
theorem Keep.refl {H : Hp} : Keep H H := ⟨fun _ _ h => h, fun _ _ _ h => h, fun _ _ h => h⟩
theorem Keep.trans {H H1 H2 : Hp} (a : Keep H H1) (b : Keep H1 H2) : Keep H H2 := ⟨fun p xs h => b.t p xs (a.t p xs h), fun p o u h => b.f p o u (a.f p o u h), fun p fs h => b.x p fs (a.x p fs h)⟩
theorem Keep.new {H : Hp} {p : Addr} {o : HO} (n : H p = none) : Keep H (upd H p o) :=
  ⟨fun a xs h => by rw [upd_ne (ne_of_none h n)]; exact h, fun a ob u h => by rw [upd_ne (ne_of_none h n)]; exact h, fun a fs h => by rw [upd_ne (ne_of_none h n)]; exact h⟩
theorem Keep.put {H : Hp} {p : Addr} {o : HO} (m : Mut (H p)) : Keep H (upd H p o) := by
  refine ⟨fun a xs h => ?_, fun a ob u h => ?_, fun a fs h => ?_⟩ <;>
  · rw [upd_ne (fun e => by subst e; rw [h] at m; exact m)]
    exact h
theorem sqt_keep {K : PySem.W.Frag} {H H' : Hp} {a : Addr} {xs : List V} (h : SqT K H a xs) (k : Keep H H') : SqT K H' a xs := by
  rcases h with (h | ⟨o, h⟩) | h
  · exact .inl (.inl (k.t _ _ h))
  · exact .inl (.inr ⟨o, k.f _ _ _ h⟩)
  · exact .inr h
theorem ro_keep {K : PySem.W.Frag} {H H' : Hp} {a : Addr} {xs : List V} (h : Ro K H a xs) (k : Keep H H') : Ro K H' a xs := by
  rcases h with ⟨o, h⟩ | h
  · exact .inl ⟨o, k.f _ _ _ h⟩
  · exact .inr h

/-! ### the relations -/
/-- a moment: where the objects stand, the abstract heap of Mu, that of the layer -/
structure Wd where
  mu : Nat → Addr
  ah : Mu.Hp
  H : Hp
/-- later: nothing stored is lost; what is none of Mu's objects stays as it was -/
structure Lv (w w' : Wd) : Prop where
  n : w.ah.length ≤ w'.ah.length
  m : ∀ i, i < w.ah.length → w'.mu i = w.mu i
  k : Keep w.H w'.H
structure Le (w w' : Wd) : Prop extends Lv w w' where
  d : ∀ a, w'.H a = none → w.H a = none
  fr : ∀ i, w.ah.length ≤ i → i < w'.ah.length → w.H (w'.mu i) = none
  o : ∀ a u, w.H a = some u → (∀ i, i < w.ah.length → w.mu i ≠ a) → w'.H a = some u
theorem Le.refl {w : Wd} : Le w w := ⟨⟨Nat.le_refl _, fun _ _ => rfl, .refl⟩, fun _ h => h, fun i h1 h2 => absurd h2 (Nat.not_lt.mpr h1), fun _ _ h _ => h⟩
theorem Le.trans {a b c : Wd} (x : Le a b) (y : Le b c) : Le a c := by
  refine ⟨⟨Nat.le_trans x.n y.n, fun i h => by rw [y.m i (Nat.lt_of_lt_of_le h x.n), x.m i h], x.k.trans y.k⟩, fun p h => x.d p (y.d p h), fun i h1 h2 => ?_, fun p u h q => ?_⟩
  · by_cases hb : i < b.ah.length
    · rw [y.m i hb]; exact x.fr i h1 hb
    · exact x.d _ (y.fr i (Nat.not_lt.mp hb) h2)
  · refine y.o p u (x.o p u h q) fun i hi e => ?_
    by_cases ha : i < a.ah.length
    · rw [x.m i ha] at e; exact q i ha e
    · have := x.fr i (Nat.not_lt.mp ha) hi
      rw [e, h] at this; cases this
theorem Le.grow {w w' : Wd} (n : w'.ah = w.ah) (m : w'.mu = w.mu) (old : ∀ a u, w.H a = some u → w'.H a = some u) : Le w w' := by
  refine ⟨⟨by rw [n]; exact Nat.le_refl _, fun i _ => by rw [m], ⟨fun a xs h => old _ _ h, fun a o u h => old _ _ h, fun a fs h => old _ _ h⟩⟩, fun a h => ?_, fun i h1 h2 => ?_, fun a u h _ => old a u h⟩
  · cases e : w.H a with
    | none => rfl
    | some u => rw [old a u e] at h; cases h
  · rw [n] at h2; omega
def StrOk (s : List Nat) : Prop := s.length ≤ sizeLine ∧ ∀ c ∈ s, c < 0x110000
mutual
def VR (K : PySem.W.Frag) (w : Wd) : MD → V → Prop
  | .non, v => v = .non
  | .bl b, v => v = .bl b
  | .int i, v => v = .int i
  | .str s, v => StrOk s ∧ v = .str (toS s)
  | .tup ds, v => ∃ a vs, v = .ref a ∧ SqT K w.H a vs ∧ VRs K w ds vs
  | .obj i, v => i < w.ah.length ∧ v = .ref (w.mu i)
  | .lst ds, v => ∃ a vs, v = .ref a ∧ Ro K w.H a vs ∧ VRs K w ds vs
def VRs (K : PySem.W.Frag) (w : Wd) : List MD → List V → Prop
  | [], vs => vs = []
  | d :: ds, vs => ∃ v r, vs = v :: r ∧ VR K w d v ∧ VRs K w ds r
end
mutual
theorem VR.monoV {K : PySem.W.Frag} {w w' : Wd} (l : Lv w w') : ∀ (d : MD) (v : V), VR K w d v → VR K w' d v
  | .non, v, h => h
  | .bl b, v, h => h
  | .int i, v, h => h
  | .str s, v, h => h
  | .tup ds, v, h => by
    obtain ⟨a, vs, e, t, r⟩ := h
    exact ⟨a, vs, e, sqt_keep t l.k, VRs.monoV l ds vs r⟩
  | .obj i, v, h => by
    obtain ⟨hi, e⟩ := h
    exact ⟨Nat.lt_of_lt_of_le hi l.n, by rw [e, l.m i hi]⟩
  | .lst ds, v, h => by
    obtain ⟨a, vs, e, t, r⟩ := h
    exact ⟨a, vs, e, ro_keep t l.k, VRs.monoV l ds vs r⟩
theorem VRs.monoV {K : PySem.W.Frag} {w w' : Wd} (l : Lv w w') : ∀ (ds : List MD) (vs : List V), VRs K w ds vs → VRs K w' ds vs
  | [], vs, h => h
  | d :: ds, vs, h => by
    obtain ⟨v, r, e, h1, h2⟩ := h
    exact ⟨v, r, e, VR.monoV l d v h1, VRs.monoV l ds r h2⟩
end
theorem VR.mono {K : PySem.W.Frag} {w w' : Wd} (l : Le w w') (d : MD) (v : V) (h : VR K w d v) : VR K w' d v := VR.monoV l.toLv d v h
theorem VRs.mono {K : PySem.W.Frag} {w w' : Wd} (l : Le w w') (ds : List MD) (vs : List V) (h : VRs K w ds vs) : VRs K w' ds vs := VRs.monoV l.toLv ds vs h
section
variable {K : PySem.W.Frag} {w : Wd}
theorem VRs.length : ∀ {ds : List MD} {vs : List V}, VRs K w ds vs → ds.length = vs.length
  | [], _, h => by obtain rfl : _ = [] := h; rfl
  | _ :: ds, _, h => by
    obtain ⟨v, r, rfl, _, h2⟩ := h
    simp [VRs.length h2]
theorem VRs.get : ∀ {ds : List MD} {vs : List V} {i : Nat} {d : MD}, VRs K w ds vs → ds[i]? = some d → ∃ v, vs[i]? = some v ∧ VR K w d v
  | [], _, _, _, _, e => by simp at e
  | _ :: _, _, 0, _, h, e => by
    obtain ⟨v, r, rfl, h1, _⟩ := h
    simp at e; subst e
    exact ⟨v, rfl, h1⟩
  | _ :: ds, _, i + 1, _, h, e => by
    obtain ⟨v, r, rfl, _, h2⟩ := h
    obtain ⟨v', e', h'⟩ := VRs.get h2 (by simpa using e)
    exact ⟨v', by simpa using e', h'⟩
theorem VRs.append : ∀ {ds es : List MD} {vs us : List V}, VRs K w ds vs → VRs K w es us → VRs K w (ds ++ es) (vs ++ us)
  | [], _, _, _, h, h' => by obtain rfl : _ = [] := h; exact h'
  | _ :: ds, _, _, _, h, h' => by
    obtain ⟨v, r, rfl, h1, h2⟩ := h
    exact ⟨v, r ++ _, rfl, h1, VRs.append h2 h'⟩
theorem VRs.take : ∀ {ds : List MD} {vs : List V} (n : Nat), VRs K w ds vs → VRs K w (ds.take n) (vs.take n)
  | _, _, 0, _ => by simp [VRs]
  | [], _, _ + 1, h => by obtain rfl : _ = [] := h; simp [VRs]
  | _ :: ds, _, n + 1, h => by
    obtain ⟨v, r, rfl, h1, h2⟩ := h
    exact ⟨v, r.take n, rfl, h1, VRs.take n h2⟩
theorem VRs.drop : ∀ {ds : List MD} {vs : List V} (n : Nat), VRs K w ds vs → VRs K w (ds.drop n) (vs.drop n)
  | _, _, 0, h => h
  | [], _, _ + 1, h => by obtain rfl : _ = [] := h; simp [VRs]
  | _ :: ds, _, n + 1, h => by
    obtain ⟨v, r, rfl, _, h2⟩ := h
    exact VRs.drop n h2
theorem VRs.one {d : MD} {vs : List V} (h : VRs K w [d] vs) : ∃ v, vs = [v] ∧ VR K w d v := by
  obtain ⟨v, r, rfl, h1, h2⟩ := h
  obtain rfl : r = [] := h2
  exact ⟨v, rfl, h1⟩
theorem VRs.two {d e : MD} {vs : List V} (h : VRs K w [d, e] vs) : ∃ v u, vs = [v, u] ∧ VR K w d v ∧ VR K w e u := by
  obtain ⟨v, r, rfl, h1, h2⟩ := h
  obtain ⟨u, rfl, h3⟩ := VRs.one h2
  exact ⟨v, u, rfl, h1, h3⟩
theorem VRs.set : ∀ {ds : List MD} {vs : List V} {d : MD} {v : V} (i : Nat), VRs K w ds vs → VR K w d v → VRs K w (ds.set i d) (vs.set i v)
  | [], _, _, _, _, h, _ => by obtain rfl : _ = [] := h; simp [VRs]
  | _ :: ds, _, _, _, 0, h, h' => by
    obtain ⟨v, r, rfl, _, h2⟩ := h
    exact ⟨_, r, rfl, h', h2⟩
  | _ :: ds, _, _, _, i + 1, h, h' => by
    obtain ⟨v, r, rfl, h1, h2⟩ := h
    exact ⟨v, _, rfl, h1, VRs.set i h2 h'⟩
theorem VRs.eraseIdx : ∀ {ds : List MD} {vs : List V} (i : Nat), VRs K w ds vs → VRs K w (ds.eraseIdx i) (vs.eraseIdx i)
  | [], _, _, h => by obtain rfl : _ = [] := h; simp [VRs]
  | _ :: ds, _, 0, h => by
    obtain ⟨v, r, rfl, _, h2⟩ := h
    exact h2
  | _ :: ds, _, i + 1, h => by
    obtain ⟨v, r, rfl, h1, h2⟩ := h
    exact ⟨v, _, rfl, h1, VRs.eraseIdx i h2⟩
theorem VRs.reverse : ∀ {ds : List MD} {vs : List V}, VRs K w ds vs → VRs K w ds.reverse vs.reverse
  | [], _, h => by obtain rfl : _ = [] := h; simp [VRs]
  | _ :: ds, _, h => by
    obtain ⟨v, r, rfl, h1, h2⟩ := h
    rw [List.reverse_cons, List.reverse_cons]
    exact VRs.append (VRs.reverse h2) ⟨v, [], rfl, h1, rfl⟩
theorem VRs.isEmpty {ds : List MD} {vs : List V} (h : VRs K w ds vs) : vs.isEmpty = ds.isEmpty := by
  cases ds with
  | nil => obtain rfl : vs = [] := h; rfl
  | cons d ds => obtain ⟨v, r, rfl, _⟩ := h; rfl
end

/-! ### objects -/
structure Gc where
  P : Program
  w : World
  K : PySem.W.Frag
  mg : Str → Option Value
  base : Heap
  cA : String → Addr
  xA : String → Addr
  fA : String → Addr
  cs : List String
  fl : List String
  xs : List String
/-- fields -/
def FsR (K : PySem.W.Frag) (w : Wd) : List (String × MD) → List (Str × V) → Prop
  | [], gs => gs = []
  | (f, d) :: fs, gs => ∃ v r, gs = (nm f, v) :: r ∧ VR K w d v ∧ FsR K w fs r
/-- a key -/
def KeyR : MD → Key → Prop
  | .int i, k => k = .inl i
  | .str s, k => StrOk s ∧ k = .inr (toS s)
  | _, _ => False
def KvR (K : PySem.W.Frag) (w : Wd) : List (MD × MD) → List (Key × V) → Prop
  | [], gs => gs = []
  | (a, d) :: fs, gs => ∃ k v r, gs = (k, v) :: r ∧ KeyR a k ∧ VR K w d v ∧ KvR K w fs r
/-- a nested key -/
def nkOf : MD → NestedKey
  | .int i => .num i
  | .str s => .text (toS s)
  | .tup ds => .tup (nksOf ds)
  | _ => .none
where nksOf : List MD → List NestedKey
  | [] => []
  | d :: ds => nkOf d :: nksOf ds
/-- the entries of a dict with nested keys: where each key stands, its value -/
def XsR (K : PySem.W.Frag) (w : Wd) : List (MD × MD) → List (NestedKey × Addr × Value) → Prop
  | [], xs => xs = []
  | (a, d) :: fs, xs => ∃ p u r v, xs = (nkOf a, p, u) :: r ∧ Mu.keyOk true a = true ∧ VR K w a (.ref p) ∧ RelV v u ∧ VR K w d v ∧ XsR K w fs r
def dxPhi (P : Program) (w : World) (a : Addr) (xs : List (NestedKey × Addr × Value)) (h : Heap) : Prop :=
  (a == sysModules) = false ∧ xs.length ≤ sizeLine ∧ ∃ o es ep, h.get? a = some o ∧ o.ExactDict ∧ o.data = .dict es ep ∧ es.toList = xs.map (entryOfKey (nestedKind P w)) ∧ (xs.map (·.1)).Nodup
def hoX (P : Program) (w : World) (a : Addr) (xs : List (NestedKey × Addr × Value)) : HO := .ext (dxPhi P w a xs)
def OR (g : Gc) (w : Wd) (a : Addr) : Mu.AO → Prop
  | .lst ds => ∃ vs, w.H a = some (.lst vs) ∧ VRs g.K w ds vs
  | .dct false kvs => (kvs.map (·.1)).Nodup ∧ ∃ ks, w.H a = some (.dK ks) ∧ KvR g.K w kvs ks
  | .dct true kvs => (kvs.map (·.1)).Nodup ∧ ∃ xs, w.H a = some (hoX g.P g.w a xs) ∧ XsR g.K w kvs xs
  | .ins c fs => c ∈ g.cs ∧ ∃ dx gs, w.H a = some (.ins (g.cA c) dx gs) ∧ FsR g.K w fs gs
  | .lck kvs => (kvs.map (·.1)).Nodup ∧ ∃ o ks, w.H a = some (.frz o (.dK ks)) ∧ KvR g.K w kvs ks
theorem FsR.monoV {K : PySem.W.Frag} {w w' : Wd} (l : Lv w w') : ∀ {fs : List (String × MD)} {gs : List (Str × V)}, FsR K w fs gs → FsR K w' fs gs
  | [], _, h => h
  | (f, d) :: fs, _, h => by
    obtain ⟨v, r, e, h1, h2⟩ := h
    exact ⟨v, r, e, VR.monoV l d v h1, FsR.monoV l h2⟩
theorem KvR.monoV {K : PySem.W.Frag} {w w' : Wd} (l : Lv w w') : ∀ {fs : List (MD × MD)} {gs : List (Key × V)}, KvR K w fs gs → KvR K w' fs gs
  | [], _, h => h
  | (a, d) :: fs, _, h => by
    obtain ⟨k, v, r, e, h0, h1, h2⟩ := h
    exact ⟨k, v, r, e, h0, VR.monoV l d v h1, KvR.monoV l h2⟩
theorem XsR.monoV {K : PySem.W.Frag} {w w' : Wd} (l : Lv w w') : ∀ {fs : List (MD × MD)} {gs : List (NestedKey × Addr × Value)}, XsR K w fs gs → XsR K w' fs gs
  | [], _, h => h
  | (a, d) :: fs, _, h => by
    obtain ⟨p, u, r, v, e, h0, h1, h2, h3, h4⟩ := h
    exact ⟨p, u, r, v, e, h0, VR.monoV l a _ h1, h2, VR.monoV l d v h3, XsR.monoV l h4⟩
theorem FsR.mono {K : PySem.W.Frag} {w w' : Wd} {fs : List (String × MD)} {gs : List (Str × V)} (h : FsR K w fs gs) (l : Le w w') : FsR K w' fs gs := FsR.monoV l.toLv h
theorem KvR.mono {K : PySem.W.Frag} {w w' : Wd} {fs : List (MD × MD)} {gs : List (Key × V)} (h : KvR K w fs gs) (l : Le w w') : KvR K w' fs gs := KvR.monoV l.toLv h
theorem XsR.mono {K : PySem.W.Frag} {w w' : Wd} {fs : List (MD × MD)} {gs : List (NestedKey × Addr × Value)} (h : XsR K w fs gs) (l : Le w w') : XsR K w' fs gs := XsR.monoV l.toLv h
theorem OR.monoV {g : Gc} {w w' : Wd} (l : Lv w w') {a : Addr} (e : w'.H a = w.H a) : ∀ {o : Mu.AO}, OR g w a o → OR g w' a o
  | .lst ds, ⟨vs, h, r⟩ => ⟨vs, e.trans h, VRs.monoV l ds vs r⟩
  | .dct false kvs, ⟨n, ks, h, r⟩ => ⟨n, ks, e.trans h, KvR.monoV l r⟩
  | .dct true kvs, ⟨n, xs, h, r⟩ => ⟨n, xs, e.trans h, XsR.monoV l r⟩
  | .ins c fs, ⟨m, dx, gs, h, r⟩ => ⟨m, dx, gs, e.trans h, FsR.monoV l r⟩
  | .lck kvs, ⟨n, o, ks, h, r⟩ => ⟨n, o, ks, e.trans h, KvR.monoV l r⟩
theorem OR.mono {g : Gc} {w w' : Wd} {a : Addr} {o : Mu.AO} (h : OR g w a o) (l : Le w w') (e : w'.H a = w.H a) : OR g w' a o := OR.monoV l.toLv e h
theorem OR.some {g : Gc} {w : Wd} {a : Addr} : ∀ {o : Mu.AO}, OR g w a o → ∃ u, w.H a = .some u
  | .lst ds, ⟨vs, h, r⟩ => ⟨_, h⟩
  | .dct false kvs, ⟨n, ks, h, r⟩ => ⟨_, h⟩
  | .dct true kvs, ⟨n, xs, h, r⟩ => ⟨_, h⟩
  | .ins c fs, ⟨_, dx, gs, h, r⟩ => ⟨_, h⟩
  | .lck kvs, ⟨_, _, _, h, _⟩ => ⟨_, h⟩
theorem OR.mut' {g : Gc} {w : Wd} {a : Addr} : ∀ {o : Mu.AO}, OR g w a o → o.isL = false → Mut (w.H a)
  | .lst ds, ⟨vs, h, r⟩, _ => by rw [h]; exact True.intro
  | .dct false kvs, ⟨n, ks, h, r⟩, _ => by rw [h]; exact True.intro
  | .dct true kvs, ⟨n, xs, h, r⟩, _ => by rw [h]; exact True.intro
  | .ins c fs, ⟨_, dx, gs, h, r⟩, _ => by rw [h]; exact True.intro
  | .lck kvs, _, e => nomatch e
theorem OR.mut {g : Gc} {w : Wd} {a : Addr} {o : Mu.AO} (h : OR g w a o) (nl : o.isL = false := by rfl) : Mut (w.H a) := OR.mut' h nl
structure HR (g : Gc) (w : Wd) : Prop where
  inj : ∀ i j, i < w.ah.length → j < w.ah.length → w.mu i = w.mu j → i = j
  ob : ∀ i o, w.ah[i]? = some o → OR g w (w.mu i) o
section
variable {g : Gc} {w : Wd}
/-- a new object -/
def Wd.new (w : Wd) (p : Addr) (o : Mu.AO) (H' : Hp) : Wd := ⟨fun i => if i = w.ah.length then p else w.mu i, w.ah ++ [o], H'⟩
theorem Le.new (w : Wd) (p : Addr) (o : Mu.AO) {H' : Hp} (hp : w.H p = none) (old : ∀ a u, w.H a = some u → H' a = some u) : Le w (w.new p o H') := by
  refine ⟨⟨by simp [Wd.new], fun i h => by simp [Wd.new, Nat.ne_of_lt h], ⟨fun a xs h => old _ _ h, fun a o u h => old _ _ h, fun a fs h => old _ _ h⟩⟩, fun a h => ?_, fun i h1 h2 => ?_, fun a u h _ => old a u h⟩
  · cases e : w.H a with
    | none => rfl
    | some u => rw [show (w.new p o H').H a = some u from old a u e] at h; cases h
  · have : i = w.ah.length := by simp [Wd.new] at h2; omega
    subst this
    have e : (w.new p o H').mu w.ah.length = p := by simp [Wd.new]
    rw [e]; exact hp
theorem Le.newU {w : Wd} {p : Addr} {o : Mu.AO} {ho : HO} (hp : w.H p = none) : Le w (w.new p o (upd w.H p ho)) := Le.new w p o hp fun a u e => by rw [upd_ne (ne_of_none e hp)]; exact e
theorem HR.new (h : HR g w) {p : Addr} {o : Mu.AO} {H' : Hp} (n : w.H p = none) (old : ∀ a u, w.H a = some u → H' a = some u) (new : OR g (w.new p o H') p o) : HR g (w.new p o H') := by
  have l := Le.new w p o n old
  have lt : ∀ i, i < w.ah.length → ∃ o, w.ah[i]? = some o := fun i hi => ⟨_, List.getElem?_eq_getElem hi⟩
  have nep : ∀ i, i < w.ah.length → w.mu i ≠ p := fun i hi e => by
    obtain ⟨o, ho⟩ := lt i hi
    obtain ⟨u, hu⟩ := (h.ob i o ho).some
    rw [e, n] at hu; cases hu
  refine ⟨fun i j hi hj e => ?_, fun i u e => ?_⟩
  · have hi' : i < w.ah.length + 1 := by simpa [Wd.new] using hi
    have hj' : j < w.ah.length + 1 := by simpa [Wd.new] using hj
    by_cases ei : i = w.ah.length <;> by_cases ej : j = w.ah.length
    · omega
    · have : w.mu j = p := by simpa [Wd.new, ei, ej] using e.symm
      exact absurd this (nep j (by omega))
    · have : w.mu i = p := by simpa [Wd.new, ei, ej] using e
      exact absurd this (nep i (by omega))
    · exact h.inj i j (by omega) (by omega) (by simpa [Wd.new, ei, ej] using e)
  · by_cases ei : i = w.ah.length
    · subst ei
      have : o = u := by simpa [Wd.new] using e
      subst this
      have em : (w.new p o H').mu w.ah.length = p := by simp [Wd.new]
      rw [em]; exact new
    · have e' : (w.ah ++ [o])[i]? = some u := e
      have hi : i < w.ah.length := by
        have := (List.getElem?_eq_some_iff.mp e').1
        rw [List.length_append, List.length_singleton] at this; omega
      rw [List.getElem?_append_left hi] at e'
      have em : (w.new p o H').mu i = w.mu i := by simp [Wd.new, ei]
      rw [em]
      have q := h.ob i u e'
      obtain ⟨ho, hu⟩ := q.some
      exact q.mono l (by show H' _ = _; rw [hu]; exact old _ _ hu)
/-- an object changed -/
def Wd.put (w : Wd) (i : Nat) (o : Mu.AO) (ho : HO) : Wd := ⟨w.mu, w.ah.set i o, upd w.H (w.mu i) ho⟩
theorem Le.put (w : Wd) (i : Nat) (o : Mu.AO) (ho : HO) (hi : i < w.ah.length) (m : Mut (w.H (w.mu i))) : Le w (w.put i o ho) := by
  refine ⟨⟨by simp [Wd.put], fun _ _ => rfl, Keep.put m⟩, fun a h => ?_, fun j h1 h2 => ?_, fun a u h q => ?_⟩
  · by_cases e : a = w.mu i
    · subst e
      rw [show (w.put i o ho).H (w.mu i) = some ho from upd_same] at h; cases h
    · rw [show (w.put i o ho).H a = w.H a from upd_ne e] at h; exact h
  · simp [Wd.put] at h2; omega
  · exact (upd_ne (fun e => q i hi e.symm)).trans h
theorem HR.put (h : HR g w) {i : Nat} {o o' : Mu.AO} {ho : HO} (e : w.ah[i]? = some o) (new : OR g (w.put i o' ho) (w.mu i) o') (nl : o.isL = false := by rfl) : HR g (w.put i o' ho) := by
  have hi : i < w.ah.length := (List.getElem?_eq_some_iff.mp e).1
  have l := Le.put w i o' ho hi ((h.ob i o e).mut nl)
  refine ⟨fun a b ha hb q => h.inj a b (by simpa [Wd.put] using ha) (by simpa [Wd.put] using hb) q, fun j u q => ?_⟩
  by_cases ej : i = j
  · subst ej
    have : o' = u := by simpa [Wd.put, hi] using q
    subst this
    exact new
  · have q' : w.ah[j]? = some u := by simpa [Wd.put, List.getElem?_set_ne ej] using q
    have hj : j < w.ah.length := (List.getElem?_eq_some_iff.mp q').1
    have ne : w.mu j ≠ w.mu i := fun z => ej (h.inj i j hi hj z.symm)
    exact (h.ob j u q').mono l (by show upd w.H (w.mu i) ho (w.mu j) = _; rw [upd_ne ne])
theorem VR.obj_at (h : HR g w) {i : Nat} {v : V} (r : VR g.K w (.obj i) v) {o : Mu.AO} (e : w.ah[i]? = some o) : v = .ref (w.mu i) ∧ OR g w (w.mu i) o := ⟨r.2, h.ob i o e⟩
end

/-! ### frames -/
def FR (K : PySem.W.Frag) (w : Wd) : Mu.Fr → L2.St → Prop
  | [], σ => σ = []
  | none :: fr, σ => ∃ x r, σ = x :: r ∧ FR K w fr r
  | some d :: fr, σ => ∃ v r, σ = some v :: r ∧ VR K w d v ∧ FR K w fr r
section
variable {K : PySem.W.Frag} {w w' : Wd}
theorem FR.monoV (l : Lv w w') : ∀ {fr : Mu.Fr} {σ : L2.St}, FR K w fr σ → FR K w' fr σ
  | [], _, h => h
  | none :: fr, _, h => by
    obtain ⟨x, r, e, h⟩ := h
    exact ⟨x, r, e, FR.monoV l h⟩
  | some d :: fr, _, h => by
    obtain ⟨v, r, e, h1, h⟩ := h
    exact ⟨v, r, e, VR.monoV l d v h1, FR.monoV l h⟩
theorem FR.mono {fr : Mu.Fr} {σ : L2.St} (h : FR K w fr σ) (l : Le w w') : FR K w' fr σ := FR.monoV l.toLv h
theorem FR.get : ∀ {fr : Mu.Fr} {σ : L2.St} {i : Nat} {d : MD}, FR K w fr σ → Mu.vget fr i = some d → ∃ v, σ[i]? = some (some v) ∧ VR K w d v
  | [], _, _, _, _, e => by simp [Mu.vget] at e
  | none :: fr, _, 0, _, h, e => by simp [Mu.vget] at e
  | none :: fr, _, i + 1, d, h, e => by
    obtain ⟨x, r, rfl, h⟩ := h
    obtain ⟨v, e', q⟩ := FR.get (i := i) (d := d) h (by simpa [Mu.vget] using e)
    exact ⟨v, by simpa using e', q⟩
  | some a :: fr, _, 0, d, h, e => by
    obtain ⟨v, r, rfl, h1, h⟩ := h
    have : a = d := by simpa [Mu.vget] using e
    subst this
    exact ⟨v, rfl, h1⟩
  | some a :: fr, _, i + 1, d, h, e => by
    obtain ⟨x, r, rfl, _, h⟩ := h
    obtain ⟨v, e', q⟩ := FR.get (i := i) (d := d) h (by simpa [Mu.vget] using e)
    exact ⟨v, by simpa using e', q⟩
theorem FR.set : ∀ {fr : Mu.Fr} {σ : L2.St} (i : Nat) {d : MD} {v : V}, FR K w fr σ → VR K w d v → FR K w (Mu.vset fr i d) (σ.set i (some v))
  | [], _, _, _, _, h, _ => by obtain rfl : _ = [] := h; simp [Mu.vset, FR]
  | none :: fr, _, 0, _, _, h, r => by
    obtain ⟨x, s, rfl, h⟩ := h
    exact ⟨_, s, rfl, r, h⟩
  | none :: fr, _, i + 1, _, _, h, r => by
    obtain ⟨x, s, rfl, h⟩ := h
    exact ⟨x, _, rfl, FR.set i h r⟩
  | some a :: fr, _, 0, _, _, h, r => by
    obtain ⟨x, s, rfl, _, h⟩ := h
    exact ⟨_, s, rfl, r, h⟩
  | some a :: fr, _, i + 1, _, _, h, r => by
    obtain ⟨x, s, rfl, h1, h⟩ := h
    exact ⟨x, _, rfl, h1, FR.set i h r⟩
theorem FR.none_ : ∀ {fr : Mu.Fr} {σ : L2.St} (i : Nat), FR K w fr σ → FR K w (fr.set i none) (σ.set i none)
  | [], _, _, h => by obtain rfl : _ = [] := h; simp [FR]
  | none :: fr, _, 0, h => by
    obtain ⟨x, s, rfl, h⟩ := h
    exact ⟨_, s, rfl, h⟩
  | none :: fr, _, i + 1, h => by
    obtain ⟨x, s, rfl, h⟩ := h
    exact ⟨x, _, rfl, FR.none_ i h⟩
  | some a :: fr, _, 0, h => by
    obtain ⟨x, s, rfl, _, h⟩ := h
    exact ⟨_, s, rfl, h⟩
  | some a :: fr, _, i + 1, h => by
    obtain ⟨x, s, rfl, h1, h⟩ := h
    exact ⟨x, _, rfl, h1, FR.none_ i h⟩
theorem FR.start : ∀ {ds : List MD} {vs : List V} (n : Nat), VRs K w ds vs → FR K w (ds.map some ++ List.replicate n none) (vs.map some ++ List.replicate n none)
  | [], _, n, h => by
    obtain rfl : _ = [] := h
    induction n with
    | zero => simp [FR]
    | succ n ih => exact ⟨none, _, rfl, ih⟩
  | d :: ds, _, n, h => by
    obtain ⟨v, r, rfl, h1, h2⟩ := h
    exact ⟨v, _, rfl, h1, FR.start n h2⟩
end

/-! ### what is wanted behind an evaluation -/
/-- an exception: its class, its own dict -/
def XR (g : Gc) (w : Wd) (x : Mu.Exn) (cls : Value) (d : Option Addr) : Prop :=
  (cls = .ref (g.xA x.cls) ∧ x.cls ∈ g.xs) ∧ ((x.fs = [] ∧ d = none) ∨ (x.cls = "BadSchedule" ∧ ∃ l r dd gs u v, x.fs = [("line", l), ("reason", r)] ∧ d = some dd ∧ w.H dd = some (.xd gs) ∧ gs.lookup (nm "line") = some u ∧ VR g.K w l u ∧ gs.lookup (nm "reason") = some v ∧ VR g.K w r v))
def Aft {α β : Type} (g : Gc) (rel : Wd → α → β → Prop) (w : Wd) (r : Mu.R α) (Q : β → Hp → Prop) (E : XK) : Prop :=
  match r with
  | .ok a ah' => ∀ b w', w'.ah = ah' → Le w w' → HR g w' → rel w' a b → Q b w'.H
  | .ex x ah' => ∀ cls d w', w'.ah = ah' → Le w w' → HR g w' → XR g w' x cls d → E cls d w'.H
  | .bad => False
section
variable {α β γ δ : Type} {g : Gc} {rel : Wd → α → β → Prop} {rel' : Wd → γ → δ → Prop} {w : Wd} {E : XK}
theorem Aft.later {r : Mu.R α} {Q : β → Hp → Prop} {w' : Wd} (h : Aft g rel w r Q E) (l : Le w w') : Aft g rel w' r Q E := by
  cases r with
  | ok a ah' => exact fun b w2 e l2 hr q => h b w2 e (l.trans l2) hr q
  | ex x ah' => exact fun c d w2 e l2 hr q => h c d w2 e (l.trans l2) hr q
  | bad => exact h
theorem Aft.cut {r : Mu.R α} {f : α → Mu.Hp → Mu.R γ} {Q : δ → Hp → Prop} (h : Aft g rel' w (r.bind f) Q E) :
    Aft g rel w r (fun b H1 => ∃ a w1, w1.H = H1 ∧ Le w w1 ∧ HR g w1 ∧ rel w1 a b ∧ r = .ok a w1.ah ∧ Aft g rel' w1 (f a w1.ah) Q E) E := by
  cases r with
  | ok a ah' =>
    intro b w1 e l hr q
    subst e
    exact ⟨a, w1, rfl, l, hr, q, rfl, Aft.later h l⟩
  | ex x ah' => exact h
  | bad => exact h
/-- the end: a value -/
theorem Aft.now {a : α} {b : β} {Q : β → Hp → Prop} {ah : Mu.Hp} (h : Aft g rel w (.ok a ah) Q E) {w' : Wd} (e : w'.ah = ah) (l : Le w w') (hr : HR g w') (q : rel w' a b) : Q b w'.H := h b w' e l hr q
end
def AftS (g : Gc) (w : Wd) (r : Mu.RS) (D : Ends) (W : WX) : Prop :=
  match r with
  | .nx fr ah' => ∀ σ w', w'.ah = ah' → Le w w' → HR g w' → FR g.K w' fr σ → D.nx σ w'.H
  | .rt d ah' => ∀ v w', w'.ah = ah' → Le w w' → HR g w' → VR g.K w' d v → D.rt v w'.H
  | .bk fr ah' => ∀ σ w', w'.ah = ah' → Le w w' → HR g w' → FR g.K w' fr σ → D.bk σ w'.H
  | .ct fr ah' => ∀ σ w', w'.ah = ah' → Le w w' → HR g w' → FR g.K w' fr σ → D.ct σ w'.H
  | .ex x fr ah' => ∀ cls d σ w', w'.ah = ah' → Le w w' → HR g w' → FR g.K w' fr σ → XR g w' x cls d → W cls d σ w'.H
  | .bad => False
theorem AftS.later {g : Gc} {w w' : Wd} {r : Mu.RS} {D : Ends} {W : WX} (h : AftS g w r D W) (l : Le w w') : AftS g w' r D W := by
  cases r with
  | nx fr ah' => exact fun σ w2 e l2 hr q => h σ w2 e (l.trans l2) hr q
  | rt d ah' => exact fun σ w2 e l2 hr q => h σ w2 e (l.trans l2) hr q
  | bk fr ah' => exact fun σ w2 e l2 hr q => h σ w2 e (l.trans l2) hr q
  | ct fr ah' => exact fun σ w2 e l2 hr q => h σ w2 e (l.trans l2) hr q
  | ex x fr ah' => exact fun c d σ w2 e l2 hr q x => h c d σ w2 e (l.trans l2) hr q x
  | bad => exact h
/-- an expression's reading -/
def tE (g : Gc) (W : WX) (c : Mu.Cx) (e : XS) : TE := fun σ H Q => ∃ w fr, w.H = H ∧ HR g w ∧ FR g.K w fr σ ∧ Aft g (VR g.K) w (Mu.ev c fr w.ah e) Q (fun cl d H' => W cl d σ H')
def tA (g : Gc) (W : WX) (c : Mu.Cx) (es : Mu.Es) : TA := fun σ H Q => ∃ w fr, w.H = H ∧ HR g w ∧ FR g.K w fr σ ∧ Aft g (VRs g.K) w (Mu.evs c fr w.ah es) Q (fun cl d H' => W cl d σ H')
def relB (_ : Wd) (a b : Bool) : Prop := b = a
def tT (g : Gc) (W : WX) (c : Mu.Cx) (e : XS) : TT := fun σ H Q => ∃ w fr, w.H = H ∧ HR g w ∧ FR g.K w fr σ ∧ Aft g relB w (Mu.evT c fr w.ah e) Q (fun cl d H' => W cl d σ H')
def tSt (g : Gc) (W : WX) (c : Mu.Cx) (s : Mu.S) : TS := fun D σ H => ∃ w fr, w.H = H ∧ HR g w ∧ FR g.K w fr σ ∧ AftS g w (Mu.exec c fr w.ah s) D W
def tSs (g : Gc) (W : WX) (c : Mu.Cx) (s : Mu.Ss) : TS := fun D σ H => ∃ w fr, w.H = H ∧ HR g w ∧ FR g.K w fr σ ∧ AftS g w (Mu.execs c fr w.ah s) D W
end Ad
end

section
set_option Elab.async false
set_option linter.all false
set_option maxRecDepth 100000
set_option maxHeartbeats 4000000
namespace Ad
open PySem PySem.Spec PyProof.Rows L2
/-- also within an except suite -/
structure GoodH (g : Gc) (X : Cx) (W : WX) : Prop where
  P : X.prog = g.P
  w : X.w = g.w
  K : X.K = g.K
  mg : X.mg = g.mg
  base : X.base = g.base
  nd : X.N.Nodup
  takes : Takes X W
  un : X.A.units + 200 < cLine
structure Good (g : Gc) (X : Cx) (W : WX) : Prop extends GoodH g X W where
  calm : X.calm = true
instance {g : Gc} {X : Cx} {W : WX} : Coe (Good g X W) (GoodH g X W) := ⟨Good.toGoodH⟩
theorem lim_eq : Mu.LIM = sizeLine := by rw [sizeLine_eq]; rfl
section
variable {α β γ δ : Type} {g : Gc} {X : Cx} {W : WX} {c : Mu.Cx} {rel : Wd → α → β → Prop}
theorem PE_weak {e : Expr} {t t' : TE} (h : PE X e t) (k : ∀ σ H Q, t' σ H Q → t σ H Q) : PE X e t' := ⟨fun pins s σ H Q I q => h.run pins s σ H Q I (k σ H Q q)⟩
theorem PT_weak {e : Expr} {t t' : TT} (h : PT X e t) (k : ∀ σ H Q, t' σ H Q → t σ H Q) : PT X e t' := ⟨fun pins s σ H Q I q => h.run pins s σ H Q I (k σ H Q q)⟩
theorem PA_weak {e : List Expr} {t t' : TA} (h : PA X e t) (k : ∀ σ H Q, t' σ H Q → t σ H Q) : PA X e t' := ⟨fun pos pins s σ H Q I q => h.run pos pins s σ H Q I (k σ H Q q)⟩
theorem PS_weak {e : Stmt} {t t' : TS} (h : PS X e t) (k : ∀ D σ H, t' D σ H → t D σ H) : PS X e t' := ⟨fun pins s σ H D I q => h.run pins s σ H D I (k D σ H q)⟩
theorem PSs_weak {e : List Stmt} {t t' : TS} (h : PSs X e t) (k : ∀ D σ H, t' D σ H → t D σ H) : PSs X e t' := ⟨fun pins s σ H D I q => h.run pins s σ H D I (k D σ H q)⟩
theorem Aft.imp {w : Wd} {r : Mu.R α} {Q Q' : β → Hp → Prop} {E : XK} (h : Aft g rel w r Q E) (k : ∀ b H, Q b H → Q' b H) : Aft g rel w r Q' E := by
  cases r with
  | ok a ah' => exact fun b w2 e l2 hr q => k _ _ (h b w2 e l2 hr q)
  | ex x ah' => exact h
  | bad => exact h
theorem Aft.opt {w : Wd} {o : Option α} {ah : Mu.Hp} {Q : β → Hp → Prop} {E : XK} (h : Aft g rel w (Mu.opt o ah) Q E) : ∃ a, o = some a ∧ Aft g rel w (.ok a ah) Q E := by
  cases o with
  | none => exact h.elim
  | some a => exact ⟨a, rfl, h⟩
/-- one part's value, then what follows -/
theorem one {a : XS} {f : MD → Mu.Hp → Mu.R α} {fr : Mu.Fr} {σ : L2.St} {w : Wd} {Q : β → Hp → Prop} (hr : HR g w) (hf : FR g.K w fr σ)
    (h : Aft g rel w ((Mu.ev c fr w.ah a).bind f) Q (fun cl d H' => W cl d σ H')) :
    tE g W c a σ w.H (fun x H1 => ∃ d w1, w1.H = H1 ∧ Le w w1 ∧ HR g w1 ∧ FR g.K w1 fr σ ∧ VR g.K w1 d x ∧ Mu.ev c fr w.ah a = .ok d w1.ah ∧ Aft g rel w1 (f d w1.ah) Q (fun cl d H' => W cl d σ H')) :=
  ⟨w, fr, rfl, hr, hf, (Aft.cut h).imp fun x H1 ⟨d, w1, e, l, hr1, q, z, k⟩ => ⟨d, w1, e, l, hr1, hf.mono l, q, z, k⟩⟩
theorem oneA {es : Mu.Es} {f : List MD → Mu.Hp → Mu.R α} {fr : Mu.Fr} {σ : L2.St} {w : Wd} {Q : β → Hp → Prop} (hr : HR g w) (hf : FR g.K w fr σ)
    (h : Aft g rel w ((Mu.evs c fr w.ah es).bind f) Q (fun cl d H' => W cl d σ H')) :
    tA g W c es σ w.H (fun vs H1 => ∃ ds w1, w1.H = H1 ∧ Le w w1 ∧ HR g w1 ∧ FR g.K w1 fr σ ∧ VRs g.K w1 ds vs ∧ Mu.evs c fr w.ah es = .ok ds w1.ah ∧ Aft g rel w1 (f ds w1.ah) Q (fun cl d H' => W cl d σ H')) :=
  ⟨w, fr, rfl, hr, hf, (Aft.cut h).imp fun x H1 ⟨d, w1, e, l, hr1, q, z, k⟩ => ⟨d, w1, e, l, hr1, hf.mono l, q, z, k⟩⟩
theorem oneT {a : XS} {f : Bool → Mu.Hp → Mu.R α} {fr : Mu.Fr} {σ : L2.St} {w : Wd} {Q : β → Hp → Prop} (hr : HR g w) (hf : FR g.K w fr σ)
    (h : Aft g rel w ((Mu.evT c fr w.ah a).bind f) Q (fun cl d H' => W cl d σ H')) :
    tT g W c a σ w.H (fun x H1 => ∃ w1, w1.H = H1 ∧ Le w w1 ∧ HR g w1 ∧ FR g.K w1 fr σ ∧ Mu.evT c fr w.ah a = .ok x w1.ah ∧ Aft g rel w1 (f x w1.ah) Q (fun cl d H' => W cl d σ H')) :=
  ⟨w, fr, rfl, hr, hf, (Aft.cut h).imp fun x H1 ⟨d, w1, e, l, hr1, q, z, k⟩ => by cases (show x = d from q); exact ⟨w1, e, l, hr1, hf.mono l, z, k⟩⟩
/-- a new object of the layer's -/
theorem Aft.made {w : Wd} {o : Mu.AO} {ho : HO} {Q : V → Hp → Prop} {E : XK} (hr : HR g w) (h : Aft g (VR g.K) w (.ok (.obj w.ah.length) (w.ah ++ [o])) Q E)
    (new : ∀ p, w.H p = none → OR g (w.new p o (upd w.H p ho)) p o) : ∀ p, w.H p = none → Q (.ref p) (upd w.H p ho) := fun p hp =>
  h (.ref p) (w.new p o (upd w.H p ho)) rfl (Le.newU hp) (hr.new hp (fun a u e => by rw [upd_ne (ne_of_none e hp)]; exact e) (new p hp)) ⟨by simp [Wd.new], by simp [Wd.new]⟩
/-- a new tuple of the layer's: no object of Mu's -/
def Wd.tup (w : Wd) (p : Addr) (vs : List V) : Wd := ⟨w.mu, w.ah, upd w.H p (.tup vs)⟩
theorem Le.tup {w : Wd} {p : Addr} {vs : List V} (hp : w.H p = none) : Le w (w.tup p vs) := Le.grow rfl rfl fun a u e => (upd_ne (ne_of_none e hp)).trans e
theorem HR.tup {w : Wd} {p : Addr} {vs : List V} (hr : HR g w) (hp : w.H p = none) : HR g (w.tup p vs) :=
  ⟨hr.inj, fun i o e => by
    have q := hr.ob i o e
    obtain ⟨u, hu⟩ := q.some
    exact q.mono (Le.tup hp) (by show upd w.H p (.tup vs) (w.mu i) = _; rw [upd_ne (ne_of_none hu hp)])⟩
theorem Aft.madeT {w : Wd} {ds : List MD} {vs : List V} {Q : V → Hp → Prop} {E : XK} (hr : HR g w) (h : Aft g (VR g.K) w (.ok (.tup ds) w.ah) Q E) (r : VRs g.K w ds vs) :
    ∀ p, w.H p = none → Q (.ref p) (upd w.H p (.tup vs)) := fun p hp =>
  h (.ref p) (w.tup p vs) rfl (Le.tup hp) (hr.tup hp) ⟨p, vs, rfl, .of upd_same, VRs.mono (Le.tup hp) _ _ r⟩
def lenEs : Mu.Es → Nat
  | .nil => 0
  | .cons _ es => lenEs es + 1
theorem evs_len : ∀ {es : Mu.Es} {fr : Mu.Fr} {h h' : Mu.Hp} {ds : List MD}, Mu.evs c fr h es = .ok ds h' → ds.length = lenEs es
  | .nil, fr, h, h', ds, e => by rw [Mu.evs] at e; cases e; rfl
  | .cons a es, fr, h, h', ds, e => by
    rw [Mu.evs] at e
    cases e1 : Mu.ev c fr h a with
    | ok d h1 =>
      rw [e1, Mu.R.bind_ok] at e
      cases e2 : Mu.evs c fr h1 es with
      | ok ds' h2 =>
        rw [e2, Mu.R.bind_ok] at e
        cases e
        simp [lenEs, evs_len e2]
      | ex x h2 => rw [e2] at e; cases e
      | bad => rw [e2] at e; cases e
    | ex x h2 => rw [e1] at e; cases e
    | bad => rw [e1] at e; cases e

/-! ### names, constants -/
theorem e_v {i : Nat} {x : Str} {pos : Pos} (hN : X.N[i]? = some x) (hv : Vis X.env.scope x) (hd : (x == ("__debug__" : Str)) = false) (hcd : (x == ("__classdict__" : Str)) = false) : PE X (.Name x pos) (tE g W c (.v i)) := by
  refine PE_weak (pe_var hN hv hd hcd) ?_
  rintro σ H Q ⟨w, fr, rfl, hr, hf, h⟩
  rw [Mu.ev] at h
  obtain ⟨d, e, h⟩ := h.opt
  obtain ⟨v, e1, r⟩ := hf.get e
  exact ⟨v, e1, h v w rfl .refl hr r⟩
theorem e_int {i : Int} {j : Nat} {pos : Pos} : PE X (.Constant (.int i) j pos) (tE g W c (.int i)) :=
  PE_weak pe_int (by rintro σ H Q ⟨w, fr, rfl, hr, hf, h⟩; rw [Mu.ev] at h; exact h _ w rfl .refl hr rfl)
theorem e_bl {b : Bool} {j : Nat} {pos : Pos} : PE X (.Constant (.bool b) j pos) (tE g W c (.bl b)) :=
  PE_weak pe_bl (by rintro σ H Q ⟨w, fr, rfl, hr, hf, h⟩; rw [Mu.ev] at h; exact h _ w rfl .refl hr rfl)
theorem e_non {j : Nat} {pos : Pos} : PE X (.Constant .none j pos) (tE g W c .non) :=
  PE_weak pe_non (by rintro σ H Q ⟨w, fr, rfl, hr, hf, h⟩; rw [Mu.ev] at h; exact h _ w rfl .refl hr rfl)
theorem e_str {s : String} {j : Nat} {pos : Pos} (hl : (Mu.cp s).length ≤ sizeLine) : PE X (.Constant (.str (nm s)) j pos) (tE g W c (.str s)) :=
  PE_weak pe_str (by rintro σ H Q ⟨w, fr, rfl, hr, hf, h⟩; rw [Mu.ev] at h; exact h _ w rfl .refl hr ⟨⟨hl, cp_ok s⟩, by rw [nm_cp]⟩)
/-- a module's constant -/
def GlobOk (g : Gc) (x : String) (d : MD) : Prop := ∀ w, ∃ v u, g.mg (nm x) = some u ∧ RelV v u ∧ VR g.K w d v
theorem e_glob {x : String} {pos : Pos} (G : GoodH g X W) (hg : Gl X (nm x)) (ok : ∀ d, c.glob x = some d → GlobOk g x d) (hd : (nm x == ("__debug__" : Str)) = false) : PE X (.Name (nm x) pos) (tE g W c (.glob x)) := by
  refine ⟨fun pins s σ H Q I h => ?_⟩
  obtain ⟨w, fr, rfl, hr, hf, h⟩ := h
  rw [Mu.ev] at h
  obtain ⟨d, e, h⟩ := h.opt
  obtain ⟨v, u, hm, r, q⟩ := ok d e w
  exact (pe_glob (v := v) hg (by rw [G.mg]; exact hm) r hd).run pins s σ w.H Q I (h v w rfl .refl hr q)

/-! ### displays -/
theorem a_nil : PA X [] (tA g W c .nil) := PA_weak pa_nil (by rintro σ H Q ⟨w, fr, rfl, hr, hf, h⟩; rw [Mu.evs] at h; exact h _ w rfl .refl hr rfl)
theorem a_cons {e : Expr} {es : List Expr} {d : XS} {ds : Mu.Es} (he : PE X e (tE g W c d)) (hs : PA X es (tA g W c ds)) (hst : starEach (e :: es) X.env = (false, eval e X.env) :: starEach es X.env) : PA X (e :: es) (tA g W c (.cons d ds)) := by
  refine PA_weak (pa_cons he hs hst) ?_
  rintro σ H Q ⟨w, fr, rfl, hr, hf, h⟩
  rw [Mu.evs] at h
  obtain ⟨w1, fr1, e1, hr1, hf1, q1⟩ := one (rel := VRs g.K) hr hf h
  refine ⟨w1, fr1, e1, hr1, hf1, q1.imp fun x H1 ⟨dx, w2, e2, l2, hr2, hf2, r2, _, q2⟩ => ?_⟩
  subst e2
  obtain ⟨w3, fr3, e3, hr3, hf3, q3⟩ := oneA (rel := VRs g.K) hr2 hf2 q2
  refine ⟨w3, fr3, e3, hr3, hf3, q3.imp fun xs H2 ⟨dxs, w4, e4, l4, hr4, hf4, r4, _, q4⟩ => ?_⟩
  subst e4
  exact q4 _ w4 rfl .refl hr4 ⟨x, xs, rfl, VR.mono l4 _ _ r2, r4⟩
theorem e_tup {es : List Expr} {ds : Mu.Es} {k : Nat} {pos : Pos} (hs : PA X es (tA g W c ds)) (hl : lenEs ds ≤ 1000) : PE X (.Tuple es k pos) (tE g W c (.tup ds)) := by
  refine PE_weak (pe_tup hs) ?_
  rintro σ H Q ⟨w, fr, rfl, hr, hf, h⟩
  rw [Mu.ev] at h
  obtain ⟨w3, fr3, e3, hr3, hf3, q3⟩ := oneA (rel := VR g.K) hr hf h
  refine ⟨w3, fr3, e3, hr3, hf3, q3.imp fun xs H2 ⟨dxs, w4, e4, l4, hr4, hf4, r4, z, q4⟩ => ?_⟩
  subst e4
  refine ⟨by rw [← r4.length, evs_len z, sizeLine_eq]; omega, Aft.madeT hr4 q4 r4⟩
theorem e_lst {es : List Expr} {ds : Mu.Es} {pos : Pos} (hs : PA X es (tA g W c ds)) (hl : lenEs ds ≤ 1000) : PE X (.List es pos) (tE g W c (.lst ds)) := by
  refine PE_weak (pe_lst hs) ?_
  rintro σ H Q ⟨w, fr, rfl, hr, hf, h⟩
  rw [Mu.ev] at h
  obtain ⟨w3, fr3, e3, hr3, hf3, q3⟩ := oneA (rel := VR g.K) hr hf h
  refine ⟨w3, fr3, e3, hr3, hf3, q3.imp fun xs H2 ⟨dxs, w4, e4, l4, hr4, hf4, r4, z, q4⟩ => ?_⟩
  subst e4
  refine ⟨by rw [← r4.length, evs_len z, sizeLine_eq]; omega, fun p hp => ?_⟩
  exact Aft.made hr4 q4 (fun p hp => ⟨xs, upd_same, VRs.mono (Le.newU hp) _ _ r4⟩) p hp
end
end Ad
end

section
set_option Elab.async false
set_option linter.all false
set_option maxRecDepth 100000
set_option maxHeartbeats 4000000
namespace Ad
open PySem PySem.Spec PyProof.Rows L2
theorem sl_num : sizeLine = 16777216 := sizeLine_eq
theorem lim_num : Mu.LIM = 16777216 := rfl
/-! ### data -/
mutual
def pdOf : MD → PyData
  | .non => .none
  | .bl b => .bool b
  | .int i => .int i
  | .str s => .str (toS s)
  | .tup ds => .tuple (pdsOf ds)
  | .lst ds => .list (pdsOf ds)
  | .obj _ => .dict []
def pdsOf : List MD → List PyData
  | [] => []
  | d :: ds => pdOf d :: pdsOf ds
end
theorem toS_beq (a b : List Nat) : (toS a == toS b) = decide (a = b) := by
  by_cases e : a = b
  · subst e; simp
  · have : toS a ≠ toS b := fun h => e (toS_inj h)
    simp [e, this]
mutual
theorem eqv_pd : ∀ a b : MD, PyData.eqv (pdOf a) (pdOf b) = Mu.pyEq a b
  | .non, b => by cases b <;> simp [pdOf, PyData.eqv, Mu.pyEq]
  | .bl x, b => by cases b <;> first | (simp [pdOf, PyData.eqv, Mu.pyEq, Mu.bi, Bool.beq_eq_decide_eq]; done) | (simp only [pdOf, PyData.eqv, Mu.pyEq, Mu.bi, Bool.beq_eq_decide_eq]; exact decide_eq_decide.mpr Iff.rfl)
  | .int x, b => by cases b <;> first | (simp [pdOf, PyData.eqv, Mu.pyEq, Mu.bi, Bool.beq_eq_decide_eq]; done) | (simp only [pdOf, PyData.eqv, Mu.pyEq, Mu.bi, Bool.beq_eq_decide_eq]; exact decide_eq_decide.mpr Iff.rfl)
  | .str x, b => by cases b <;> simp [pdOf, PyData.eqv, Mu.pyEq, toS_beq]
  | .tup x, b => by
    cases b with
    | tup y => simpa [pdOf, PyData.eqv, Mu.pyEq] using eqvs_pd x y
    | _ => simp [pdOf, PyData.eqv, Mu.pyEq]
  | .lst x, b => by
    cases b with
    | lst y => simpa [pdOf, PyData.eqv, Mu.pyEq] using eqvs_pd x y
    | _ => simp [pdOf, PyData.eqv, Mu.pyEq]
  | .obj x, b => by cases b <;> simp [pdOf, PyData.eqv, Mu.pyEq]
theorem eqvs_pd : ∀ a b : List MD, PyData.eqvAll (pdsOf a) (pdsOf b) = Mu.pyEqs a b
  | [], [] => by simp [pdsOf, PyData.eqvAll, Mu.pyEqs]
  | [], _ :: _ => by simp [pdsOf, PyData.eqvAll, Mu.pyEqs]
  | _ :: _, [] => by simp [pdsOf, PyData.eqvAll, Mu.pyEqs]
  | x :: xs, y :: ys => by simp [pdsOf, PyData.eqvAll, Mu.pyEqs, eqv_pd x y, eqvs_pd xs ys]
end
theorem strOk_of {s : List Nat} (h : StrOk s) : PyData.strOk (toS s) = true := by
  unfold PyData.strOk toS
  rw [Array.all_eq_true]
  intro i hi
  simp only [List.getElem_toArray, decide_eq_true_eq]
  exact h.2 _ (List.getElem_mem _)
theorem mapO_some {α β : Type} {f : α → Option β} : ∀ {as : List α} {bs : List β}, Mu.mapO f as = some bs → (as = [] ∧ bs = []) ∨ ∃ a ar b br, as = a :: ar ∧ bs = b :: br ∧ f a = some b ∧ Mu.mapO f ar = some br
  | [], bs, h => by cases h; exact .inl ⟨rfl, rfl⟩
  | a :: ar, bs, h => by
    unfold Mu.mapO at h
    cases e1 : f a with
    | none => rw [e1] at h; cases h
    | some b =>
      rw [e1] at h
      cases e2 : Mu.mapO f ar with
      | none => rw [e2] at h; cases h
      | some br =>
        rw [e2] at h
        cases h
        exact .inr ⟨a, ar, b, br, rfl, rfl, e1, e2⟩
/-- what a value tells as data -/
structure Tells (g : Gc) (w : Wd) (v : V) (n : Nat) (d : PyData) : Prop where
  dp : Dp g.K w.H v d
  lay : d.canLay0 = true
  dep : d.depth ≤ n
structure TellsAll (g : Gc) (w : Wd) (vs : List V) (n : Nat) (ds : List PyData) : Prop where
  dp : DpAll g.K w.H vs ds
  lay : PyData.canLayAll0 ds = true
  dep : PyData.depthAll ds ≤ n
theorem tells_list {g : Gc} {w : Wd} {n : Nat} (ih : ∀ (d x : MD) (v : V), Mu.dat w.ah n d = some x → VR g.K w d v → Tells g w v n (pdOf x)) :
    ∀ (ds xs : List MD) (vs : List V), Mu.mapO (Mu.dat w.ah n) ds = some xs → VRs g.K w ds vs → TellsAll g w vs n (pdsOf xs) := by
  intro ds
  induction ds with
  | nil =>
    intro xs vs h r
    cases h
    obtain rfl : vs = [] := r
    exact ⟨.nil, by simp [pdsOf, PyData.canLayAll0], by simp [pdsOf, PyData.depthAll]⟩
  | cons d ds ihl =>
    intro xs vs h r
    rcases mapO_some h with ⟨h1, _⟩ | ⟨a, ar, b, br, e1, rfl, e3, e4⟩
    · cases h1
    · cases e1
      obtain ⟨v, vr, rfl, r1, r2⟩ := r
      have t1 := ih _ _ v e3 r1
      have t2 := ihl _ vr e4 r2
      exact ⟨.cons t1.dp t2.dp, by simp [pdsOf, PyData.canLayAll0, t1.lay, t2.lay], by simp only [pdsOf, PyData.depthAll]; exact Nat.max_le.mpr ⟨t1.dep, t2.dep⟩⟩
theorem tells {g : Gc} {w : Wd} (hr : HR g w) : ∀ (n : Nat) (d x : MD) (v : V), Mu.dat w.ah n d = some x → VR g.K w d v → Tells g w v n (pdOf x)
  | 0, d, x, v, h, r => by
    cases d with
    | non => cases h; obtain rfl : v = .non := r; exact ⟨.non, by simp [pdOf, PyData.canLay0], by simp [pdOf, PyData.depth]⟩
    | bl b => cases h; obtain rfl : v = .bl b := r; exact ⟨.bl b, by simp [pdOf, PyData.canLay0], by simp [pdOf, PyData.depth]⟩
    | int i => cases h; obtain rfl : v = .int i := r; exact ⟨.int i, by simp [pdOf, PyData.canLay0], by simp [pdOf, PyData.depth]⟩
    | str s => cases h; obtain ⟨ok, rfl⟩ := r; exact ⟨.str _, by simp [pdOf, PyData.canLay0, strOk_of ok], by simp [pdOf, PyData.depth]⟩
    | tup ds => cases h
    | obj i => cases h
    | lst ds => cases h
  | n + 1, d, x, v, h, r => by
    cases d with
    | non => cases h; obtain rfl : v = .non := r; exact ⟨.non, by simp [pdOf, PyData.canLay0], by simp [pdOf, PyData.depth]⟩
    | bl b => cases h; obtain rfl : v = .bl b := r; exact ⟨.bl b, by simp [pdOf, PyData.canLay0], by simp [pdOf, PyData.depth]⟩
    | int i => cases h; obtain rfl : v = .int i := r; exact ⟨.int i, by simp [pdOf, PyData.canLay0], by simp [pdOf, PyData.depth]⟩
    | str s => cases h; obtain ⟨ok, rfl⟩ := r; exact ⟨.str _, by simp [pdOf, PyData.canLay0, strOk_of ok], by simp [pdOf, PyData.depth]⟩
    | tup ds =>
      simp only [Mu.dat] at h
      obtain ⟨xs, e, rfl⟩ := Option.map_eq_some_iff.mp h
      obtain ⟨a, vs, rfl, t, rs⟩ := r
      have ta := tells_list (tells hr n) ds xs vs e rs
      exact ⟨.tup t ta.dp, by simp only [pdOf, PyData.canLay0]; exact ta.lay, by simp only [pdOf, PyData.depth]; exact Nat.succ_le_succ ta.dep⟩
    | lst ds =>
      simp only [Mu.dat] at h
      obtain ⟨xs, e, rfl⟩ := Option.map_eq_some_iff.mp h
      obtain ⟨a, vs, rfl, t, rs⟩ := r
      have ta := tells_list (tells hr n) ds xs vs e rs
      exact ⟨.lst t.sq ta.dp, by simp only [pdOf, PyData.canLay0]; exact ta.lay, by simp only [pdOf, PyData.depth]; exact Nat.succ_le_succ ta.dep⟩
    | obj i =>
      simp only [Mu.dat] at h
      split at h
      · rename_i ds e0
        obtain ⟨xs, e, rfl⟩ := Option.map_eq_some_iff.mp h
        obtain ⟨rfl, vs, t, rs⟩ := VR.obj_at hr r e0
        have ta := tells_list (tells hr n) ds xs vs e rs
        exact ⟨.lst (.of t) ta.dp, by simp only [pdOf, PyData.canLay0]; exact ta.lay, by simp only [pdOf, PyData.depth]; exact Nat.succ_le_succ ta.dep⟩
      · cases h
theorem eq_tells {g : Gc} {w : Wd} (hr : HR g w) {a b : MD} {x y : V} {t : Bool} (h : Mu.eqR w.ah a b = some t) (ra : VR g.K w a x) (rb : VR g.K w b y) :
    ∃ d e, Dp g.K w.H x d ∧ Dp g.K w.H y e ∧ SeqAt.shaped d = true ∧ SeqAt.shaped e = true ∧ PyData.eqv d e = t := by
  unfold Mu.eqR at h
  cases e1 : Mu.dat w.ah Mu.DEP a with
  | none => rw [e1] at h; cases h
  | some p =>
    rw [e1] at h
    cases e2 : Mu.dat w.ah Mu.DEP b with
    | none => rw [e2] at h; cases h
    | some q =>
      rw [e2] at h
      cases h
      have t1 := tells hr _ _ _ _ e1 ra
      have t2 := tells hr _ _ _ _ e2 rb
      have d1 : (pdOf p).depth ≤ 64 := Nat.le_trans t1.dep (by decide)
      have d2 : (pdOf q).depth ≤ 64 := Nat.le_trans t2.dep (by decide)
      exact ⟨pdOf p, pdOf q, t1.dp, t2.dp, by simp [SeqAt.shaped, t1.lay, d1], by simp [SeqAt.shaped, t2.lay, d2], eqv_pd p q⟩

/-! ### operators -/
def opA : Mu.BOp → Operator
  | .add => .Add
  | .sub => .Sub
  | .mul => .Mult
  | .fdiv => .FloorDiv
  | .mod => .Mod
  | .pow => .Pow
def rBin (g : Gc) (op : Mu.BOp) : R2 := fun x y H Q => ∃ d1 d2 w E, w.H = H ∧ HR g w ∧ VR g.K w d1 x ∧ VR g.K w d2 y ∧ Aft g (VR g.K) w (Mu.binR op w.ah d1 d2) Q E
theorem toS_app (a b : List Nat) : toS a ++ toS b = toS (a ++ b) := by
  have : (toS a ++ toS b).cps = (toS (a ++ b)).cps := by
    show (toS a).cps ++ (toS b).cps = _
    simp [toS]
  cases h1 : toS a ++ toS b
  rw [h1] at this
  simp only [toS] at this ⊢
  rw [this]
theorem StrOk.app {a b : List Nat} (h1 : StrOk a) (h2 : StrOk b) (hl : a.length + b.length ≤ sizeLine) : StrOk (a ++ b) :=
  ⟨by simpa using hl, fun c hc => (List.mem_append.mp hc).elim (h1.2 c) (h2.2 c)⟩
section
variable {g : Gc} {X : Cx} {W : WX} {c : Mu.Cx}
theorem bin_add (G : GoodH g X W) : OpR X (binaryOp .Add) (rBin g .add) := by
  intro pins s σ H x y v u Q I rx ry h
  obtain ⟨d1, d2, w, E, rfl, hr, r1, r2, h⟩ := h
  have hl := lim_eq
  cases d1 with
  | int i =>
    cases d2 with
    | int j =>
      obtain rfl : x = .int i := r1
      obtain rfl : y = .int j := r2
      exact op_add pins s σ w.H _ _ v u Q I rx ry ⟨i, j, rfl, rfl, h _ w rfl .refl hr rfl⟩
    | _ => exact h.elim
  | str a =>
    cases d2 with
    | str b =>
      obtain ⟨o1, rfl⟩ := r1
      obtain ⟨o2, rfl⟩ := r2
      simp only [Mu.binR, Mu.addR] at h
      split at h
      · rename_i hz
        rw [lim_eq] at hz
        refine op_add_str pins s σ w.H _ _ v u Q I rx ry ⟨_, _, rfl, rfl, by rw [toS_len, toS_len]; exact hz, ?_⟩
        rw [toS_app]
        exact h _ w rfl .refl hr ⟨o1.app o2 hz, rfl⟩
      · exact h.elim
    | _ => exact h.elim
  | tup a =>
    cases d2 with
    | tup b =>
      obtain ⟨p, vs, rfl, t1, q1⟩ := r1
      obtain ⟨q, us, rfl, t2, q2⟩ := r2
      simp only [Mu.binR, Mu.addR] at h
      split at h
      · rename_i hz
        rw [lim_eq] at hz
        refine op_catA pins s σ w.H _ _ v u Q I rx ry ⟨p, q, vs, us, rfl, rfl, by rw [G.K]; exact t1, by rw [G.K]; exact t2, by rw [← q1.length, ← q2.length]; exact hz, fun e => ?_, fun _ e => ?_, fun _ _ => ?_⟩
        · subst e
          have : a = [] := by have := q1.length; cases a <;> simp_all
          subst this
          exact h _ w rfl .refl hr ⟨q, us, rfl, t2, q2⟩
        · subst e
          have : b = [] := by have := q2.length; cases b <;> simp_all
          subst this
          exact h _ w rfl .refl hr ⟨p, vs, rfl, t1, by rw [List.append_nil]; exact q1⟩
        · exact Aft.madeT hr h (VRs.append q1 q2)
      · exact h.elim
    | _ => exact h.elim
  | obj i =>
    cases d2 with
    | obj j =>
      simp only [Mu.binR, Mu.addR] at h
      split at h
      · rename_i a b e1 e2
        split at h
        · rename_i hz
          rw [lim_eq] at hz
          obtain ⟨rfl, vs, h1, q1⟩ := VR.obj_at hr r1 e1
          obtain ⟨rfl, us, h2, q2⟩ := VR.obj_at hr r2 e2
          refine op_cat pins s σ w.H _ _ v u Q I rx ry ⟨_, _, vs, us, rfl, rfl, h1, h2, by rw [← q1.length, ← q2.length]; exact hz, ?_⟩
          exact Aft.made hr h fun p hp => ⟨vs ++ us, upd_same, VRs.mono (Le.newU hp) _ _ (VRs.append q1 q2)⟩
        · exact h.elim
      · exact h.elim
    | _ => exact h.elim
  | _ => exact h.elim
theorem bin_sub (G : GoodH g X W) : OpR X (binaryOp .Sub) (rBin g .sub) := by
  intro pins s σ H x y v u Q I rx ry h
  obtain ⟨d1, d2, w, E, rfl, hr, r1, r2, h⟩ := h
  cases d1 with
  | int i =>
    cases d2 with
    | int j =>
      obtain rfl : x = .int i := r1
      obtain rfl : y = .int j := r2
      exact op_sub pins s σ w.H _ _ v u Q I rx ry ⟨i, j, rfl, rfl, h _ w rfl .refl hr rfl⟩
    | _ => exact h.elim
  | _ => exact h.elim
theorem bin_mod (G : GoodH g X W) : OpR X (binaryOp .Mod) (rBin g .mod) := by
  intro pins s σ H x y v u Q I rx ry h
  obtain ⟨d1, d2, w, E, rfl, hr, r1, r2, h⟩ := h
  cases d1 with
  | int i =>
    cases d2 with
    | int j =>
      obtain rfl : x = .int i := r1
      obtain rfl : y = .int j := r2
      simp only [Mu.binR] at h
      split at h
      · rename_i hj
        exact op_mod pins s σ w.H _ _ v u Q I rx ry ⟨i, j, rfl, rfl, hj, h _ w rfl .refl hr rfl⟩
      · exact h.elim
    | _ => exact h.elim
  | _ => exact h.elim
theorem bin_fdiv (G : GoodH g X W) : OpR X (binaryOp .FloorDiv) (rBin g .fdiv) := by
  intro pins s σ H x y v u Q I rx ry h
  obtain ⟨d1, d2, w, E, rfl, hr, r1, r2, h⟩ := h
  cases d1 with
  | int i =>
    cases d2 with
    | int j =>
      obtain rfl : x = .int i := r1
      obtain rfl : y = .int j := r2
      simp only [Mu.binR] at h
      split at h
      · rename_i hj
        refine op_fdivW pins s σ w.H _ _ v u Q I rx ry ⟨i, j, rfl, rfl, wide_div (b := 400) hj.1 ?_ (by decide) (by decide), h _ w rfl .refl hr rfl⟩
        exact Nat.lt_trans hj.2 (by decide +kernel)
      · exact h.elim
    | _ => exact h.elim
  | _ => exact h.elim
theorem bin_pow (G : GoodH g X W) : OpR X (binaryOp .Pow) (rBin g .pow) := by
  intro pins s σ H x y v u Q I rx ry h
  obtain ⟨d1, d2, w, E, rfl, hr, r1, r2, h⟩ := h
  cases d1 with
  | int i =>
    cases d2 with
    | int j =>
      obtain rfl : x = .int i := r1
      obtain rfl : y = .int j := r2
      simp only [Mu.binR] at h
      split at h
      · rename_i hj
        exact op_pow pins s σ w.H _ _ v u Q I rx ry ⟨i, j, rfl, rfl, ⟨hj.1, by omega, hj.2.2⟩, h _ w rfl .refl hr rfl⟩
      · exact h.elim
    | _ => exact h.elim
  | _ => exact h.elim
theorem rep_foldl {α : Type} (a : List α) : ∀ (n : Nat) (acc : Array α), (List.replicate n a.toArray).foldl (· ++ ·) acc = acc ++ ((List.replicate n a).flatten).toArray
  | 0, acc => by simp
  | n + 1, acc => by rw [List.replicate_succ, List.foldl_cons, rep_foldl a n]; simp [List.replicate_succ]
theorem bin_mul (G : GoodH g X W) : OpR X (binaryOp .Mult) (rBin g .mul) := by
  intro pins s σ H x y v u Q I rx ry h
  obtain ⟨d1, d2, w, E, rfl, hr, r1, r2, h⟩ := h
  cases d1 with
  | int i =>
    cases d2 with
    | int j =>
      obtain rfl : x = .int i := r1
      obtain rfl : y = .int j := r2
      simp only [Mu.binR, Mu.mulR] at h
      split at h
      · rename_i hj
        exact op_mul pins s σ w.H _ _ v u Q I rx ry ⟨i, j, rfl, rfl, hj.imp (fun q => by omega) (fun q => by omega), h _ w rfl .refl hr rfl⟩
      · exact h.elim
    | _ => exact h.elim
  | str a =>
    cases d2 with
    | int j =>
      obtain ⟨o1, rfl⟩ := r1
      obtain rfl : y = .int j := r2
      simp only [Mu.binR, Mu.mulR] at h
      split at h
      · rename_i hz
        rw [lim_eq] at hz
        obtain ⟨hz, h12⟩ := hz
        have h1 : j < 2 ^ 62 := by omega
        have h2 : -(2 ^ 62) ≤ j := by omega
        obtain ⟨t, rfl⟩ := rx
        obtain ⟨t', rfl⟩ := ry
        have ok : StrOk (List.replicate j.toNat a).flatten := by
          refine ⟨?_, fun c hc => ?_⟩
          · rw [List.length_flatten]; simpa [Nat.mul_comm] using hz
          · obtain ⟨l, hl, hcl⟩ := List.mem_flatten.mp hc
            rw [(List.mem_replicate.mp hl).2] at hcl
            exact o1.2 c hcl
        have fin : ∀ tk t', EP X pins σ Q (.str (toS (List.replicate j.toNat a).flatten) t') { s with toks := tk } := fun tk t' => ⟨.str (toS (List.replicate j.toNat a).flatten), w.H, I.tok _, ⟨_, rfl⟩, h _ w rfl .refl hr ⟨ok, rfl⟩⟩
        have e1 : decide (j < -(2 ^ 63 : Int)) = false := decide_eq_false (by omega)
        have e2 : decide (j ≥ 2 ^ 63) = false := decide_eq_false (by omega)
        have hn := sl_num
        have hz' : (toS a).length * j.toNat ≤ 16777216 := by rw [toS_len]; omega
        refine PySem.P.mul_str (by rw [e1, e2]; rfl) (fun hj _ hgt => ?_) (fun _ _ => ?_) ?_
        · have hj0 : 0 < j := by omega
          have : ((toS a).length : Int) ≤ (2 ^ 63 - 1) / j := by
            rw [Int.le_ediv_iff_mul_le hj0]
            have e : ((toS a).length : Int) * j = (((toS a).length * j.toNat : Nat) : Int) := by rw [Int.natCast_mul, Int.toNat_of_nonneg (by omega)]
            rw [e]; omega
          omega
        · unfold Builtin.Str.tooLong
          rw [decide_eq_false]; omega
        · have tk0 : toS (List.replicate j.toNat a).flatten = Str.empty ∨ 1 ≤ j := by
            by_cases q : 1 ≤ j
            · exact .inr q
            · left
              have : j.toNat = 0 := by omega
              rw [this]; rfl
          split
          · rename_i hj
            refine ⟨by decide, ?_⟩
            rcases tk0 with z | z
            · rw [← z]; exact fin _ _
            · omega
          · rename_i hj
            split
            · rename_i hq
              have z : toS (List.replicate j.toNat a).flatten = toS a := by
                rw [Bool.or_eq_true, beq_iff_eq, beq_iff_eq] at hq
                rcases hq with q | q
                · subst q; simp
                · rw [toS_len] at q
                  have : a = [] := List.length_eq_zero_iff.mp q
                  subst this; simp
              have := fin s.toks t
              rw [z] at this
              exact this
            · have z : (⟨(List.replicate j.toNat (toS a).cps).foldl (· ++ ·) #[]⟩ : Str) = toS (List.replicate j.toNat a).flatten := by
                show (⟨(List.replicate j.toNat a.toArray).foldl (· ++ ·) #[]⟩ : Str) = _
                rw [rep_foldl]; simp [toS]
              rw [z]
              exact ⟨by rw [toS_len]; exact ok.1, fin _ _⟩
      · exact h.elim
    | _ => exact h.elim
  | obj i =>
    cases d2 with
    | int j =>
      obtain rfl : y = .int j := r2
      simp only [Mu.binR, Mu.mulR] at h
      split at h
      · rename_i a e1
        split at h
        · rename_i hz
          rw [lim_eq] at hz
          obtain ⟨rfl, vs, h1, q1⟩ := VR.obj_at hr r1 e1
          have rep : ∀ (w' : Wd) (n : Nat), VRs g.K w' a vs → VRs g.K w' (List.replicate n a).flatten (List.replicate n vs).flatten := by
            intro w' n q
            induction n with
            | zero => simp [VRs]
            | succ n ih => rw [List.replicate_succ, List.replicate_succ, List.flatten_cons, List.flatten_cons]; exact VRs.append q ih
          refine op_rep pins s σ w.H _ _ v u Q I rx ry ⟨_, j, vs, rfl, rfl, h1, by omega, by omega, by rw [← q1.length]; exact hz.1, ?_⟩
          exact Aft.made hr h fun p hp => ⟨_, upd_same, rep _ _ (VRs.mono (Le.newU hp) _ _ q1)⟩
        · exact h.elim
      · exact h.elim
    | _ => exact h.elim
  | _ => exact h.elim
theorem op_bin (G : GoodH g X W) : ∀ op : Mu.BOp, OpR X (binaryOp (opA op)) (rBin g op)
  | .add => bin_add G
  | .sub => bin_sub G
  | .mul => bin_mul G
  | .fdiv => bin_fdiv G
  | .mod => bin_mod G
  | .pow => bin_pow G
theorem e_bin {op : Mu.BOp} {a b : XS} {x y : Expr} {pos : Pos} (G : GoodH g X W) (ha : PE X x (tE g W c a)) (hb : PE X y (tE g W c b)) : PE X (.BinOp x (opA op) y pos) (tE g W c (.bin op a b)) := by
  refine PE_weak (pe_op (op_bin G op) ha hb) ?_
  rintro σ H Q ⟨w, fr, rfl, hr, hf, h⟩
  rw [Mu.ev] at h
  obtain ⟨w1, fr1, e1, hr1, hf1, q1⟩ := one (rel := VR g.K) hr hf h
  refine ⟨w1, fr1, e1, hr1, hf1, q1.imp fun x H1 ⟨dx, w2, e2, l2, hr2, hf2, r2, _, q2⟩ => ?_⟩
  subst e2
  obtain ⟨w3, fr3, e3, hr3, hf3, q3⟩ := one (rel := VR g.K) hr2 hf2 q2
  refine ⟨w3, fr3, e3, hr3, hf3, q3.imp fun xs H2 ⟨dxs, w4, e4, l4, hr4, hf4, r4, _, q4⟩ => ?_⟩
  exact ⟨dx, dxs, w4, _, e4, hr4, VR.mono l4 _ _ r2, r4, q4⟩
end
end Ad
end

section
set_option Elab.async false
set_option linter.all false
set_option maxRecDepth 100000
set_option maxHeartbeats 4000000
namespace Ad
open PySem PySem.Spec PyProof.Rows L2
/-! ### dicts of ints and texts -/
section
variable {K : PySem.W.Frag} {w : Wd}
/-- the key that a value gives -/
def kOf : MD → Key
  | .str s => .inr (toS s)
  | .int i => .inl i
  | _ => .inl 0
theorem KeyR.of {a : MD} {k : Key} (h : KeyR a k) : k = kOf a ∧ Mu.keyOk false a = true := by
  cases a <;> simp only [KeyR] at h <;> first | exact h.elim | skip
  · exact ⟨h, rfl⟩
  · exact ⟨h.2, rfl⟩
theorem kOf_inj {a b : MD} (h1 : Mu.keyOk false a = true) (h2 : Mu.keyOk false b = true) (e : kOf a = kOf b) : a = b := by
  cases a <;> simp only [Mu.keyOk, Bool.not_false, Bool.false_and] at h1 <;> first | cases h1 | skip
  · cases b <;> simp only [Mu.keyOk, Bool.not_false, Bool.false_and] at h2 <;> first | cases h2 | skip
    · injection e with e; rw [e]
    · cases e
  · cases b <;> simp only [Mu.keyOk, Bool.not_false, Bool.false_and] at h2 <;> first | cases h2 | skip
    · cases e
    · injection e with e; rw [toS_inj e]
theorem KeyR.inj {a b : MD} {k : Key} (h1 : KeyR a k) (h2 : KeyR b k) : a = b := kOf_inj h1.of.2 h2.of.2 (h1.of.1.symm.trans h2.of.1)
theorem KeyR.fn {a : MD} {k l : Key} (h1 : KeyR a k) (h2 : KeyR a l) : k = l := h1.of.1.trans h2.of.1.symm
theorem KeyR.val {a : MD} {k : Key} (h : KeyR a k) : VR K w a (kV k) := by
  cases a <;> simp only [KeyR] at h <;> first | exact h.elim | skip
  · subst h; exact rfl
  · obtain ⟨o, rfl⟩ := h; exact ⟨o, rfl⟩
theorem keyR_of {a : MD} {v : V} (h : Mu.keyOk false a = true) (r : VR K w a v) : ∃ k, KeyR a k ∧ v = kV k := by
  cases a <;> simp only [Mu.keyOk, Bool.not_false, Bool.false_and] at h <;> first | cases h | skip
  · rename_i i; exact ⟨.inl i, rfl, r⟩
  · rename_i s; exact ⟨.inr (toS s), ⟨r.1, rfl⟩, r.2⟩
theorem KvR.length : ∀ {fs : List (MD × MD)} {gs : List (Key × V)}, KvR K w fs gs → fs.length = gs.length
  | [], _, h => by obtain rfl : _ = [] := h; rfl
  | (a, d) :: fs, _, h => by
    obtain ⟨k, v, r, rfl, _, _, h⟩ := h
    simp [KvR.length h]
theorem KvR.keyVals : ∀ {fs : List (MD × MD)} {gs : List (Key × V)}, KvR K w fs gs → VRs K w (fs.map (·.1)) (gs.map fun kv => kV kv.1)
  | [], _, h => by obtain rfl : _ = [] := h; exact rfl
  | (a, d) :: fs, _, h => by
    obtain ⟨k, v, r, rfl, h0, _, h⟩ := h
    exact ⟨_, _, rfl, h0.val, KvR.keyVals h⟩
theorem KvR.vals : ∀ {fs : List (MD × MD)} {gs : List (Key × V)}, KvR K w fs gs → VRs K w (fs.map (·.2)) (gs.map (·.2))
  | [], _, h => by obtain rfl : _ = [] := h; exact rfl
  | (a, d) :: fs, _, h => by
    obtain ⟨k, v, r, rfl, _, h1, h⟩ := h
    exact ⟨_, _, rfl, h1, KvR.vals h⟩
theorem KvR.look {a : MD} {k : Key} (hk : KeyR a k) : ∀ {fs : List (MD × MD)} {gs : List (Key × V)}, KvR K w fs gs →
    (Mu.dlook a fs = none ∧ valV gs k = none) ∨ ∃ d v, Mu.dlook a fs = some d ∧ valV gs k = some v ∧ VR K w d v
  | [], _, h => by obtain rfl : _ = [] := h; exact .inl ⟨rfl, rfl⟩
  | (b, d) :: fs, _, h => by
    obtain ⟨l, v, r, rfl, h0, h1, h⟩ := h
    by_cases e : b = a
    · subst e
      have : k = l := hk.fn h0
      subst this
      exact .inr ⟨d, v, by simp [Mu.dlook], valV_pos rfl, h1⟩
    · have ne : ¬ l = k := fun z => e (by subst z; exact h0.inj hk)
      have q := KvR.look hk h
      rw [valV_neg (p := (l, v)) ne]
      simpa [Mu.dlook, e] using q
theorem KvR.mem {k : Key} {v : V} : ∀ {fs : List (MD × MD)} {gs : List (Key × V)}, KvR K w fs gs → (k, v) ∈ gs → ∃ a d, (a, d) ∈ fs ∧ KeyR a k ∧ VR K w d v
  | [], _, h, m => by obtain rfl : _ = [] := h; cases m
  | (b, d) :: fs, _, h, m => by
    obtain ⟨l, u, r, rfl, h0, h1, h⟩ := h
    rcases List.mem_cons.mp m with e | m
    · cases e; exact ⟨b, d, by simp, h0, h1⟩
    · obtain ⟨a, d', m', q⟩ := KvR.mem h m
      exact ⟨a, d', by simp [m'], q⟩
theorem KvR.any {a : MD} {k : Key} (hk : KeyR a k) {fs : List (MD × MD)} {gs : List (Key × V)} (h : KvR K w fs gs) : (gs.any fun kv => decide (kv.1 = k)) = (Mu.dlook a fs).isSome := by
  rw [valV_any]
  rcases h.look hk with ⟨e1, e2⟩ | ⟨d, v, e1, e2, _⟩ <;> rw [e1, e2] <;> rfl
theorem dput_none {a d : MD} : ∀ {fs : List (MD × MD)}, Mu.dlook a fs = none → Mu.dput a d fs = fs ++ [(a, d)]
  | [], _ => rfl
  | (b, e) :: fs, h => by
    unfold Mu.dlook at h
    split at h
    · cases h
    · rename_i ne
      simp [Mu.dput, ne, dput_none h]
theorem KvR.app {a d : MD} {k : Key} {v : V} (hk : KeyR a k) (hv : VR K w d v) : ∀ {fs : List (MD × MD)} {gs : List (Key × V)}, KvR K w fs gs → KvR K w (fs ++ [(a, d)]) (gs ++ [(k, v)])
  | [], _, h => by obtain rfl : _ = [] := h; exact ⟨k, v, [], rfl, hk, hv, rfl⟩
  | (b, e) :: fs, _, h => by
    obtain ⟨l, u, r, rfl, h0, h1, h⟩ := h
    exact ⟨l, u, _, rfl, h0, h1, KvR.app hk hv h⟩
theorem not_mem_of {a : MD} : ∀ {fs : List (MD × MD)}, a ∉ fs.map (·.1) → Mu.dlook a fs = none
  | [], _ => rfl
  | (b, e) :: fs, h => by
    simp only [List.map_cons, List.mem_cons, not_or] at h
    simp only [Mu.dlook]
    rw [if_neg (fun z => h.1 z.symm)]
    exact not_mem_of h.2
theorem KvR.upd {a d : MD} {k : Key} {v : V} (hk : KeyR a k) (hv : VR K w d v) : ∀ {fs : List (MD × MD)} {gs : List (Key × V)}, KvR K w fs gs → (fs.map (·.1)).Nodup → (Mu.dlook a fs).isSome = true →
    KvR K w (Mu.dput a d fs) (gs.map fun kv => if kv.1 = k then (kv.1, v) else kv)
  | [], _, h, _, s => by cases s
  | (b, e) :: fs, _, h, nd, s => by
    obtain ⟨l, u, r, rfl, h0, h1, h⟩ := h
    simp only [List.map_cons, List.nodup_cons] at nd
    by_cases q : b = a
    · subst q
      have : k = l := hk.fn h0
      subst this
      have same : (r.map fun kv => if kv.1 = k then (kv.1, v) else kv) = r := by
        refine (List.map_congr_left fun kv m => ?_).trans (List.map_id r)
        obtain ⟨c, dd, m', q1, _⟩ := KvR.mem (k := kv.1) (v := kv.2) h m
        have : kv.1 ≠ k := fun z => nd.1 (by rw [z] at q1; rw [hk.inj q1]; exact List.mem_map.mpr ⟨_, m', rfl⟩)
        rw [if_neg this]; rfl
      have e1 : Mu.dput b d ((b, e) :: fs) = (b, d) :: fs := by simp [Mu.dput]
      have e2 : ((k, u) :: r).map (fun kv => if kv.1 = k then (kv.1, v) else kv) = (k, v) :: r := by
        rw [List.map_cons, same]; simp
      rw [e1, e2]
      exact ⟨k, v, r, rfl, h0, hv, h⟩
    · have ne : ¬ l = k := fun z => q (by subst z; exact h0.inj hk)
      have s' : (Mu.dlook a fs).isSome = true := by simpa [Mu.dlook, q] using s
      have := KvR.upd hk hv h nd.2 s'
      simp only [Mu.dput, q, if_false]
      exact ⟨l, u, _, by simp [ne], h0, h1, this⟩
theorem KvR.put {a d : MD} {k : Key} {v : V} (hk : KeyR a k) (hv : VR K w d v) {fs : List (MD × MD)} {gs : List (Key × V)} (h : KvR K w fs gs) (nd : (fs.map (·.1)).Nodup) : KvR K w (Mu.dput a d fs) (putK gs k v) := by
  unfold putK
  have e := h.any hk
  rw [e]
  cases q : Mu.dlook a fs with
  | none => rw [dput_none q]; exact h.app hk hv
  | some x => exact h.upd hk hv nd (by rw [q]; rfl)
theorem mem_dput {a d b : MD} : ∀ {fs : List (MD × MD)}, b ∈ (Mu.dput a d fs).map (·.1) → b = a ∨ b ∈ fs.map (·.1)
  | [], h => by left; simpa [Mu.dput] using h
  | (c, e) :: fs, h => by
    by_cases q : c = a
    · subst q
      right; simpa [Mu.dput] using h
    · simp only [Mu.dput, q, if_false, List.map_cons, List.mem_cons] at h
      rcases h with h | h
      · right; simp [h]
      · rcases mem_dput h with h | h
        · exact .inl h
        · right; simp [h]
theorem nd_dput {a d : MD} : ∀ {fs : List (MD × MD)}, (fs.map (·.1)).Nodup → ((Mu.dput a d fs).map (·.1)).Nodup
  | [], _ => by simp [Mu.dput]
  | (c, e) :: fs, h => by
    simp only [List.map_cons, List.nodup_cons] at h
    by_cases q : c = a
    · subst q; simpa [Mu.dput] using h
    · simp only [Mu.dput, q, if_false, List.map_cons, List.nodup_cons]
      refine ⟨fun m => ?_, nd_dput h.2⟩
      rcases mem_dput m with z | z
      · exact q z
      · exact h.1 z
theorem KvR.del {a : MD} {k : Key} (hk : KeyR a k) : ∀ {fs : List (MD × MD)} {gs : List (Key × V)}, KvR K w fs gs → (fs.map (·.1)).Nodup → KvR K w (Mu.ddel a fs) (dropK gs k)
  | [], _, h, _ => by obtain rfl : _ = [] := h; exact rfl
  | (b, e) :: fs, _, h, nd => by
    obtain ⟨l, u, r, rfl, h0, h1, h⟩ := h
    simp only [List.map_cons, List.nodup_cons] at nd
    by_cases q : b = a
    · subst q
      have : k = l := hk.fn h0
      subst this
      have same : r.filter (fun kv => decide (kv.1 ≠ k)) = r := List.filter_eq_self.mpr fun kv m => by
        obtain ⟨c, dd, m', q1, _⟩ := KvR.mem (k := kv.1) (v := kv.2) h m
        exact decide_eq_true fun z => nd.1 (by rw [z] at q1; rw [hk.inj q1]; exact List.mem_map.mpr ⟨_, m', rfl⟩)
      simp only [Mu.ddel, if_true, dropK]
      rw [List.filter_cons]
      simp only [ne_eq, not_true, decide_false, Bool.false_eq_true, if_false]
      have same' : r.filter (fun kv => decide (¬kv.1 = k)) = r := same
      rw [same']; exact h
    · have ne : ¬ l = k := fun z => q (by subst z; exact h0.inj hk)
      have := KvR.del hk h nd.2
      simp only [Mu.ddel, q, if_false, dropK] at this ⊢
      rw [List.filter_cons]
      simp only [ne_eq, ne, not_false_eq_true, decide_true, if_true]
      exact ⟨l, u, _, rfl, h0, h1, this⟩
theorem mem_ddel {a b : MD} : ∀ {fs : List (MD × MD)}, b ∈ (Mu.ddel a fs).map (·.1) → b ∈ fs.map (·.1)
  | [], h => h
  | (c, e) :: fs, h => by
    by_cases q : c = a
    · subst q
      have h' : b ∈ fs.map (·.1) := by simpa only [Mu.ddel, if_true] using h
      exact List.mem_cons_of_mem _ h'
    · simp only [Mu.ddel, q, if_false, List.map_cons, List.mem_cons] at h ⊢
      exact h.imp id mem_ddel
theorem nd_ddel {a : MD} : ∀ {fs : List (MD × MD)}, (fs.map (·.1)).Nodup → ((Mu.ddel a fs).map (·.1)).Nodup
  | [], h => h
  | (c, e) :: fs, h => by
    simp only [List.map_cons, List.nodup_cons] at h
    by_cases q : c = a
    · subst q; simpa [Mu.ddel] using h.2
    · simp only [Mu.ddel, q, if_false, List.map_cons, List.nodup_cons]
      exact ⟨fun m => h.1 (mem_ddel m), nd_ddel h.2⟩
end

/-! ### dicts of nested tuples -/
section
variable {K : PySem.W.Frag} {w : Wd} {g : Gc} {X : Cx}
mutual
theorem nk_inj (n : Nat) : ∀ (a b : MD), Mu.keyIn n a = true → Mu.keyIn n b = true → nkOf a = nkOf b → a = b
  | .int i, b, _, hb, e => by
    cases b <;> simp only [nkOf] at e <;> first | (cases e; rfl) | cases e | (cases n <;> simp [Mu.keyIn] at hb)
  | .str s, b, _, hb, e => by
    cases b <;> simp only [nkOf] at e <;> first | (injection e with e; rw [toS_inj e]) | cases e | (cases n <;> simp [Mu.keyIn] at hb)
  | .tup ds, b, ha, hb, e => by
    cases n with
    | zero => simp [Mu.keyIn] at ha
    | succ n =>
      cases b with
      | tup es =>
        simp only [nkOf] at e
        injection e with e
        simp only [Mu.keyIn] at ha hb
        rw [nks_inj n ds es ha hb e]
      | int i => simp only [nkOf] at e; cases e
      | str i => simp only [nkOf] at e; cases e
      | _ => simp [Mu.keyIn] at hb
  | .non, _, ha, _, _ => by cases n <;> simp [Mu.keyIn] at ha
  | .bl _, _, ha, _, _ => by cases n <;> simp [Mu.keyIn] at ha
  | .obj _, _, ha, _, _ => by cases n <;> simp [Mu.keyIn] at ha
  | .lst _, _, ha, _, _ => by cases n <;> simp [Mu.keyIn] at ha
theorem nks_inj (n : Nat) : ∀ (a b : List MD), a.all (Mu.keyIn n) = true → b.all (Mu.keyIn n) = true → nkOf.nksOf a = nkOf.nksOf b → a = b
  | [], [], _, _, _ => rfl
  | [], _ :: _, _, _, e => by simp [nkOf.nksOf] at e
  | _ :: _, [], _, _, e => by simp [nkOf.nksOf] at e
  | x :: xs, y :: ys, ha, hb, e => by
    simp only [nkOf.nksOf, List.cons.injEq] at e
    simp only [List.all_cons, Bool.and_eq_true] at ha hb
    rw [nk_inj n x y ha.1 hb.1 e.1, nks_inj n xs ys ha.2 hb.2 e.2]
end
theorem keyIn_of {a : MD} (h : Mu.keyOk true a = true) : ∃ ds, a = .tup ds ∧ Mu.keyIn 7 a = true := by
  cases a <;> simp only [Mu.keyOk, Bool.not_true, Bool.true_and] at h <;> first | cases h | skip
  exact ⟨_, rfl, by simpa [Mu.keyIn] using h⟩
theorem nkey_inj {a b : MD} (h1 : Mu.keyOk true a = true) (h2 : Mu.keyOk true b = true) (e : nkOf a = nkOf b) : a = b := by
  obtain ⟨_, _, k1⟩ := keyIn_of h1
  obtain ⟨_, _, k2⟩ := keyIn_of h2
  exact nk_inj 7 a b k1 k2 e
theorem nested_all {X : Cx} {pins : List (Addr × Obj)} {σ : L2.St} {s : Shared} {n : Nat} (ih : ∀ (d : MD) (v : V) (u : Value), Mu.keyIn n d = true → VR K w d v → RelV v u → NestedIs s.heap (nkOf d) u ∧ (nkOf d).depth ≤ n) :
    ∀ (ds : List MD) (vs : List V) (us : List Value), ds.all (Mu.keyIn n) = true → VRs K w ds vs → Vals vs us → NestedAll s.heap (nkOf.nksOf ds) us ∧ NestedKey.depthAll (nkOf.nksOf ds) ≤ n := by
  intro ds
  induction ds with
  | nil =>
    intro vs us _ r q
    obtain rfl : vs = [] := r
    cases q
    exact ⟨.nil, Nat.zero_le _⟩
  | cons d ds ihl =>
    intro vs us h r q
    obtain ⟨v, vr, rfl, r1, r2⟩ := r
    simp only [List.all_cons, Bool.and_eq_true] at h
    cases q with
    | cons q1 q2 =>
      obtain ⟨a1, b1⟩ := ih d v _ h.1 r1 q1
      obtain ⟨a2, b2⟩ := ihl vr _ h.2 r2 q2
      exact ⟨.cons a1 a2, Nat.max_le.mpr ⟨b1, b2⟩⟩
theorem nested_is {X : Cx} {pins : List (Addr × Obj)} {σ : L2.St} {s : Shared} (hK : X.K = K) (I : Inv X pins σ w.H s) : ∀ (n : Nat) (d : MD) (v : V) (u : Value), Mu.keyIn n d = true → VR K w d v → RelV v u → NestedIs s.heap (nkOf d) u ∧ (nkOf d).depth ≤ n
  | 0, d, v, u, h, r, q => by
    cases d <;> simp only [Mu.keyIn] at h <;> first | cases h | skip
    · obtain rfl : v = .int _ := r
      obtain ⟨t, rfl⟩ := q
      exact ⟨.int _ _, Nat.zero_le _⟩
    · obtain ⟨_, rfl⟩ := r
      obtain ⟨t, rfl⟩ := q
      exact ⟨.text _ _, Nat.zero_le _⟩
  | n + 1, d, v, u, h, r, q => by
    cases d <;> simp only [Mu.keyIn] at h <;> first | cases h | skip
    · obtain rfl : v = .int _ := r
      obtain ⟨t, rfl⟩ := q
      exact ⟨.int _ _, Nat.zero_le _⟩
    · obtain ⟨_, rfl⟩ := r
      obtain ⟨t, rfl⟩ := q
      exact ⟨.text _ _, Nat.zero_le _⟩
    · obtain ⟨a, vs, rfl, t, rs⟩ := r
      obtain rfl : u = .ref a := q
      obtain ⟨its, rv, p, hz⟩ := I.tuple (by rw [hK]; exact t)
      obtain ⟨o, e1, e2, n', e3⟩ := p
      obtain ⟨a1, b1⟩ := nested_all (X := X) (pins := pins) (σ := σ) (nested_is hK I n) _ _ _ h rs rv
      exact ⟨.tup e1 e2 e3 (by simpa using a1), Nat.succ_le_succ b1⟩
theorem nested_key {pins : List (Addr × Obj)} {σ : L2.St} {s : Shared} {P : Program} {wo : World} (hK : X.K = K) (I : Inv X pins σ w.H s) {d : MD} {p : Addr} (h : Mu.keyOk true d = true) (r : VR K w d (.ref p)) :
    (nestedKind P wo).is s.heap (nkOf d) p := by
  obtain ⟨_, _, k⟩ := keyIn_of h
  obtain ⟨a, b⟩ := nested_is hK I 7 d _ _ k r (show RelV (.ref p) (.ref p) from rfl)
  exact ⟨a, by omega⟩
theorem XsR.length : ∀ {fs : List (MD × MD)} {xs : List (NestedKey × Addr × Value)}, XsR K w fs xs → fs.length = xs.length
  | [], _, h => by obtain rfl : _ = [] := h; rfl
  | (a, d) :: fs, _, h => by
    obtain ⟨p, u, r, v, rfl, _, _, _, _, h⟩ := h
    simp [XsR.length h]
theorem XsR.keys {pins : List (Addr × Obj)} {σ : L2.St} {s : Shared} {P : Program} {wo : World} (hK : X.K = K) (I : Inv X pins σ w.H s) : ∀ {fs : List (MD × MD)} {xs : List (NestedKey × Addr × Value)}, XsR K w fs xs →
    ∀ x ∈ xs, (nestedKind P wo).is s.heap x.1 x.2.1
  | [], _, h => by obtain rfl : _ = [] := h; intro x m; cases m
  | (a, d) :: fs, _, h => by
    obtain ⟨p, u, r, v, rfl, h0, h1, _, _, h⟩ := h
    intro x m
    rcases List.mem_cons.mp m with e | m
    · subst e; exact nested_key hK I h0 h1
    · exact XsR.keys hK I h x m
theorem XsR.look {a : MD} (hk : Mu.keyOk true a = true) : ∀ {fs : List (MD × MD)} {xs : List (NestedKey × Addr × Value)}, XsR K w fs xs →
    (Mu.dlook a fs = none ∧ atKey xs (nkOf a) = none) ∨ ∃ d v p u, Mu.dlook a fs = some d ∧ atKey xs (nkOf a) = some (p, u) ∧ RelV v u ∧ VR K w d v
  | [], _, h => by obtain rfl : _ = [] := h; exact .inl ⟨rfl, rfl⟩
  | (b, d) :: fs, _, h => by
    obtain ⟨p, u, r, v, rfl, h0, h1, h2, h3, h⟩ := h
    by_cases e : b = a
    · subst e
      exact .inr ⟨d, v, p, u, by simp [Mu.dlook], by simp [atKey], h2, h3⟩
    · have ne : ¬ nkOf b = nkOf a := fun z => e (nkey_inj h0 hk z)
      have q := XsR.look hk h
      have e2 : atKey ((nkOf b, p, u) :: r) (nkOf a) = atKey r (nkOf a) := by simp [atKey, ne]
      rw [e2]
      simpa [Mu.dlook, e] using q
theorem XsR.mem {x : NestedKey × Addr × Value} : ∀ {fs : List (MD × MD)} {xs : List (NestedKey × Addr × Value)}, XsR K w fs xs → x ∈ xs → ∃ a d, (a, d) ∈ fs ∧ x.1 = nkOf a ∧ Mu.keyOk true a = true
  | [], _, h, m => by obtain rfl : _ = [] := h; cases m
  | (b, d) :: fs, _, h, m => by
    obtain ⟨p, u, r, v, rfl, h0, h1, h2, h3, h⟩ := h
    rcases List.mem_cons.mp m with e | m
    · subst e; exact ⟨b, d, by simp, rfl, h0⟩
    · obtain ⟨a, d', m', q⟩ := XsR.mem h m
      exact ⟨a, d', by simp [m'], q⟩
theorem XsR.app {a d : MD} {p : Addr} {u : Value} {v : V} (hk : Mu.keyOk true a = true) (hp : VR K w a (.ref p)) (ru : RelV v u) (hv : VR K w d v) : ∀ {fs : List (MD × MD)} {xs : List (NestedKey × Addr × Value)}, XsR K w fs xs → XsR K w (fs ++ [(a, d)]) (xs ++ [(nkOf a, p, u)])
  | [], _, h => by obtain rfl : _ = [] := h; exact ⟨p, u, [], v, rfl, hk, hp, ru, hv, rfl⟩
  | (b, e) :: fs, _, h => by
    obtain ⟨p', u', r, v', rfl, h0, h1, h2, h3, h⟩ := h
    exact ⟨p', u', _, v', rfl, h0, h1, h2, h3, XsR.app hk hp ru hv h⟩
theorem XsR.upd {a d : MD} {u : Value} {v : V} (hk : Mu.keyOk true a = true) (ru : RelV v u) (hv : VR K w d v) : ∀ {fs : List (MD × MD)} {xs : List (NestedKey × Addr × Value)}, XsR K w fs xs → (fs.map (·.1)).Nodup → (Mu.dlook a fs).isSome = true →
    XsR K w (Mu.dput a d fs) (xs.map (putAt (nkOf a) u))
  | [], _, h, _, s => by cases s
  | (b, e) :: fs, _, h, nd, s => by
    obtain ⟨p', u', r, v', rfl, h0, h1, h2, h3, h⟩ := h
    simp only [List.map_cons, List.nodup_cons] at nd
    by_cases q : b = a
    · subst q
      have same : r.map (putAt (nkOf b) u) = r := by
        refine (List.map_congr_left fun x m => ?_).trans (List.map_id r)
        obtain ⟨c, dd, m', q1, q2⟩ := XsR.mem h m
        have : x.1 ≠ nkOf b := fun z => nd.1 (by rw [q1] at z; rw [← nkey_inj q2 hk z]; exact List.mem_map.mpr ⟨_, m', rfl⟩)
        unfold putAt; rw [if_neg this]; rfl
      have e1 : Mu.dput b d ((b, e) :: fs) = (b, d) :: fs := by simp [Mu.dput]
      have e2 : ((nkOf b, p', u') :: r).map (putAt (nkOf b) u) = (nkOf b, p', u) :: r := by
        rw [List.map_cons, same]; simp [putAt]
      rw [e1, e2]
      exact ⟨p', u, r, v, rfl, h0, h1, ru, hv, h⟩
    · have ne : ¬ nkOf b = nkOf a := fun z => q (nkey_inj h0 hk z)
      have s' : (Mu.dlook a fs).isSome = true := by simpa [Mu.dlook, q] using s
      have := XsR.upd hk ru hv h nd.2 s'
      simp only [Mu.dput, q, if_false]
      exact ⟨p', u', _, v', by simp [putAt, ne], h0, h1, h2, h3, this⟩
theorem XsR.put {a d : MD} {p : Addr} {u : Value} {v : V} (hk : Mu.keyOk true a = true) (hp : VR K w a (.ref p)) (ru : RelV v u) (hv : VR K w d v) {fs : List (MD × MD)} {xs : List (NestedKey × Addr × Value)} (h : XsR K w fs xs) (nd : (fs.map (·.1)).Nodup) :
    XsR K w (Mu.dput a d fs) (storedH xs (nkOf a) p u) := by
  rcases h.look hk with ⟨e1, e2⟩ | ⟨d', v', p', u', e1, e2, _⟩
  · rw [dput_none e1, storedH_new e2]; exact h.app hk hp ru hv
  · rw [storedH_old e2]; exact h.upd hk ru hv nd (by rw [e1]; rfl)
end
end Ad
end

section
set_option Elab.async false
set_option linter.all false
set_option maxRecDepth 100000
set_option maxHeartbeats 4000000
namespace Ad
open PySem PySem.Spec PyProof.Rows L2
theorem Aft.bl {g : Gc} {w : Wd} {t : Bool} {ah : Mu.Hp} {Q : VK} {E : XK} (h : Aft g (VR g.K) w (.ok (.bl t) ah) Q E) (e : w.ah = ah) (hr : HR g w) : Q (.bl t) w.H := h _ w e .refl hr rfl
/-! ### order -/
theorem ltS_eq : ∀ a b : List Nat, Mu.ltS a b = decide (a < b)
  | [], [] => by simp [Mu.ltS]
  | [], _ :: _ => by simp [Mu.ltS]
  | _ :: _, [] => by simp [Mu.ltS]
  | a :: as, b :: bs => by
    have ih := ltS_eq as bs
    simp only [Mu.ltS, ih]
    by_cases e : a = b
    · subst e; simp [List.cons_lt_cons_iff]
    · simp [e, List.cons_lt_cons_iff]
theorem alike_list {n : Nat} (ih : ∀ a b, Mu.alikeN n a b = true → PySem.W.alike (pdOf a) (pdOf b) = true ∧ PySem.W.dataLt (pdOf a) (pdOf b) = Mu.ltB a b ∧ PyData.eqv (pdOf a) (pdOf b) = Mu.pyEq a b) :
    ∀ as bs, Mu.all2 (Mu.alikeN n) as bs = true → PySem.W.alikeAll (pdsOf as) (pdsOf bs) = true ∧ PyProof.Rows.lexLt itemOrd (PySem.W.keyToksAll (pdsOf as)) (PySem.W.keyToksAll (pdsOf bs)) = Mu.ltBs as bs
  | [], [], _ => ⟨by simp [pdsOf, PySem.W.alikeAll], by simp only [pdsOf, Mu.ltBs]; exact lex_irrefl _⟩
  | [], _ :: _, h => by simp [Mu.all2] at h
  | _ :: _, [], h => by simp [Mu.all2] at h
  | a :: as, b :: bs, h => by
    simp only [Mu.all2, Bool.and_eq_true] at h
    obtain ⟨h1, h2, h3⟩ := ih a b h.1
    obtain ⟨k1, k2⟩ := alike_list ih as bs h.2
    refine ⟨by simp [pdsOf, PySem.W.alikeAll, h1, k1], ?_⟩
    simp only [pdsOf, Mu.ltBs]
    rw [PySem.W.dataLt_cons h1, h3, h2, k2]
theorem alike_pd : ∀ (n : Nat) (a b : MD), Mu.alikeN n a b = true → PySem.W.alike (pdOf a) (pdOf b) = true ∧ PySem.W.dataLt (pdOf a) (pdOf b) = Mu.ltB a b ∧ PyData.eqv (pdOf a) (pdOf b) = Mu.pyEq a b
  | 0, a, b, h => by
    refine ⟨?_, ?_, eqv_pd a b⟩ <;> cases a <;> cases b <;> simp only [Mu.alikeN] at h <;> first | cases h | skip
    · simp [pdOf, PySem.W.alike]
    · simp [pdOf, PySem.W.alike]
    · simp only [pdOf, Mu.ltB]; rw [PySem.W.dataLt_int]
    · simp only [pdOf, Mu.ltB]; rw [PySem.W.dataLt_str, toS_list, toS_list, ltS_eq]
  | n + 1, a, b, h => by
    refine ⟨?_, ?_, eqv_pd a b⟩ <;> cases a <;> cases b <;> simp only [Mu.alikeN] at h <;> first | cases h | skip
    · simp [pdOf, PySem.W.alike]
    · simp [pdOf, PySem.W.alike]
    · simp only [pdOf, PySem.W.alike]; exact (alike_list (alike_pd n) _ _ h).1
    · simp only [pdOf, Mu.ltB]; rw [PySem.W.dataLt_int]
    · simp only [pdOf, Mu.ltB]; rw [PySem.W.dataLt_str, toS_list, toS_list, ltS_eq]
    · simp only [pdOf, Mu.ltB]; rw [PySem.W.dataLt_tuple]; exact (alike_list (alike_pd n) _ _ h).2
theorem dat_list {ah : Mu.Hp} {n : Nat} (ih : ∀ a b, Mu.alikeN n a b = true → Mu.dat ah n a = some a) : ∀ as bs, Mu.all2 (Mu.alikeN n) as bs = true → Mu.mapO (Mu.dat ah n) as = some as
  | [], _, _ => rfl
  | _ :: _, [], h => by simp [Mu.all2] at h
  | a :: as, b :: bs, h => by
    simp only [Mu.all2, Bool.and_eq_true] at h
    simp only [Mu.mapO, ih a b h.1, dat_list ih as bs h.2]
theorem dat_alike {ah : Mu.Hp} : ∀ (n : Nat) (a b : MD), Mu.alikeN n a b = true → Mu.dat ah n a = some a
  | 0, a, b, h => by cases a <;> cases b <;> first | rfl | (simp [Mu.alikeN] at h; done)
  | n + 1, a, b, h => by
    cases a <;> cases b <;> first | rfl | (simp [Mu.alikeN] at h; done) | skip
    simp only [Mu.alikeN] at h
    simp only [Mu.dat]
    rw [dat_list (dat_alike n) _ _ h]; rfl
theorem all2_comm {α : Type} {f : α → α → Bool} (h : ∀ a b, f a b = f b a) : ∀ as bs, Mu.all2 f as bs = Mu.all2 f bs as
  | [], [] => rfl
  | [], _ :: _ => rfl
  | _ :: _, [] => rfl
  | a :: as, b :: bs => by simp only [Mu.all2]; rw [h a b, all2_comm h as bs]
theorem alike_comm : ∀ (n : Nat) (a b : MD), Mu.alikeN n a b = Mu.alikeN n b a
  | 0, a, b => by cases a <;> cases b <;> rfl
  | n + 1, a, b => by
    cases a <;> cases b <;> first | rfl | skip
    simp only [Mu.alikeN]
    exact all2_comm (alike_comm n) _ _
theorem pd_ne_none {a b : MD} {n : Nat} (h : Mu.alikeN n a b = true) : pdOf a ≠ .none := by
  cases n <;> cases a <;> cases b <;> first | (simp [pdOf]; done) | (simp [Mu.alikeN] at h; done)
structure Ord (g : Gc) (w : Wd) (a b : MD) (x y : V) : Prop where
  t1 : Tells g w x 8 (pdOf a)
  t2 : Tells g w y 8 (pdOf b)
  al : PySem.W.alike (pdOf a) (pdOf b) = true
  lt : PySem.W.dataLt (pdOf a) (pdOf b) = Mu.ltB a b
  gt : PySem.W.dataLt (pdOf b) (pdOf a) = Mu.ltB b a
  ne : pdOf a ≠ .none
theorem ord_of {g : Gc} {w : Wd} (hr : HR g w) {a b : MD} {x y : V} (h : Mu.alike a b = true) (r1 : VR g.K w a x) (r2 : VR g.K w b y) : Ord g w a b x y := by
  have h' : Mu.alikeN 8 a b = true := h
  have h2 : Mu.alikeN 8 b a = true := by rw [alike_comm]; exact h'
  exact ⟨tells hr 8 a a x (dat_alike 8 a b h') r1, tells hr 8 b b y (dat_alike 8 b a h2) r2, (alike_pd 8 a b h').1, (alike_pd 8 a b h').2.1, (alike_pd 8 b a h2).2.1, pd_ne_none h'⟩

def cA : Mu.COp → CmpOp
  | .eq => .Eq
  | .ne => .NotEq
  | .lt => .Lt
  | .le => .LtE
  | .gt => .Gt
  | .ge => .GtE
  | .isin => .In
  | .notin => .NotIn
def rCmp (g : Gc) (op : Mu.COp) : R2 := fun x y H Q => ∃ d1 d2 w E, w.H = H ∧ HR g w ∧ VR g.K w d1 x ∧ VR g.K w d2 y ∧ Aft g (VR g.K) w (Mu.cmpR op w.ah d1 d2) Q E
section
variable {g : Gc} {X : Cx} {W : WX} {c : Mu.Cx}
theorem cmp_some {op : Mu.COp} {d1 d2 : MD} {w : Wd} {Q : VK} {E : XK} (hr : HR g w) (h : Aft g (VR g.K) w (Mu.cmpR op w.ah d1 d2) Q E) : ∃ t, Mu.cmpO op w.ah d1 d2 = some t ∧ Q (.bl t) w.H := by
  unfold Mu.cmpR at h
  cases e : Mu.cmpO op w.ah d1 d2 with
  | none => rw [e] at h; exact h.elim
  | some t => rw [e] at h; exact ⟨t, rfl, Aft.bl h rfl hr⟩
theorem ord_room {A : Around} {x y : PyData} (h : A.units + 200 < cLine) (hx : x.depth ≤ 8) : A.units + min x.depth y.depth < cLine := by
  have := Nat.min_le_left x.depth y.depth
  omega
theorem op_ord (G : GoodH g X W) {op : Mu.COp} {d1 d2 : MD} {pins : List (Addr × Obj)} {s : Shared} {σ : L2.St} {w : Wd} {x y : V} {v u : Value} {Q : VK} (I : Inv X pins σ w.H s) (rx : RelV x v) (ry : RelV y u) (hr : HR g w) (r1 : VR g.K w d1 x) (r2 : VR g.K w d2 y)
    (h : Mu.alike d1 d2 = true) (ho : (op = .lt ∧ Q (.bl (Mu.ltB d1 d2)) w.H) ∨ (op = .gt ∧ Q (.bl (Mu.ltB d2 d1)) w.H) ∨ (op = .le ∧ Q (.bl (!Mu.ltB d2 d1)) w.H) ∨ (op = .ge ∧ Q (.bl (!Mu.ltB d1 d2)) w.H)) :
    wpAny (model X.prog X.w) X.A (compareOp (cA op) v u) (EP X pins σ Q) X.xe s := by
  have o := ord_of hr h r1 r2
  have e1 : Dp X.K w.H x (pdOf d1) := by rw [G.K]; exact o.t1.dp
  have e2 : Dp X.K w.H y (pdOf d2) := by rw [G.K]; exact o.t2.dp
  obtain ⟨as, q1⟩ := Dp.reads I _ x v e1 rx
  obtain ⟨bs, q2⟩ := Dp.reads I _ y u e2 ry
  have hu := ord_room (y := pdOf d2) G.un o.t1.dep
  rcases ho with ⟨rfl, q⟩ | ⟨rfl, q⟩ | ⟨rfl, q⟩ | ⟨rfl, q⟩
  · exact PySem.W.lt_data q1 q2 o.al o.ne hu ⟨.bl _, _, I, rfl, by rw [o.lt]; exact q⟩
  · exact PySem.W.gt_data q1 q2 o.al o.ne hu ⟨.bl _, _, I, rfl, by rw [o.gt]; exact q⟩
  · exact PySem.W.le_data q1 q2 o.al o.ne hu ⟨.bl _, _, I, rfl, by rw [o.gt]; exact q⟩
  · exact PySem.W.ge_data q1 q2 o.al o.ne hu ⟨.bl _, _, I, rfl, by rw [o.lt]; exact q⟩
/-- the entries as the library tells them -/
theorem dict_of {pins : List (Addr × Obj)} {s : Shared} {σ : L2.St} {w : Wd} {a : Addr} {kvs : List (MD × MD)} {xs : List (NestedKey × Addr × Value)} (G : GoodH g X W) (I : Inv X pins σ w.H s) (h : w.H a = some (hoX g.P g.w a xs)) (r : XsR g.K w kvs xs) :
    (a == sysModules) = false ∧ xs.length ≤ sizeLine ∧ s.heap.DictOfH (nestedKind X.prog X.w) a xs := by
  obtain ⟨⟨hd, hl, o, es, ep, h1, h2, h3, h4, h5⟩, _⟩ := I.hok a _ h
  rw [G.P, G.w]
  exact ⟨hd, hl, o, es, ep, h1, h2, h3, h4, XsR.keys G.K I r, h5⟩
theorem nroom (G : GoodH g X W) : (nestedKind X.prog X.w).room X.A.in1 := by
  have := G.un
  show X.A.units + 1 + 8 < cLine
  omega
theorem any_pd (d : MD) : ∀ xs : List MD, ((pdsOf xs).any fun z => PyData.eqv z (pdOf d)) = xs.any fun z => Mu.pyEq z d
  | [] => rfl
  | x :: xs => by simp only [pdsOf, List.any_cons, any_pd d xs, eqv_pd]
theorem mem_some {ah : Mu.Hp} {a : MD} {ds : List MD} {t : Bool} (h : Mu.memR ah a ds = some t) : ∃ x xs, Mu.dat ah Mu.DEP a = some x ∧ Mu.mapO (Mu.dat ah Mu.DEP) ds = some xs ∧ t = xs.any fun z => Mu.pyEq z x := by
  unfold Mu.memR at h
  cases e1 : Mu.dat ah Mu.DEP a with
  | none => rw [e1] at h; cases h
  | some x =>
    rw [e1] at h
    cases e2 : Mu.mapO (Mu.dat ah Mu.DEP) ds with
    | none => rw [e2] at h; cases h
    | some xs => rw [e2] at h; cases h; exact ⟨x, xs, rfl, rfl, rfl⟩
theorem in_room {A : Around} {xs : List PyData} {d : PyData} (h : A.units + 200 < cLine) (hx : d.depth ≤ 50) : A.units + 1 + min (PyData.depthAll xs) d.depth < cLine := by
  have := Nat.min_le_right (PyData.depthAll xs) d.depth
  omega
theorem op_mem (G : GoodH g X W) (neg : Bool) {d1 d2 : MD} {pins : List (Addr × Obj)} {s : Shared} {σ : L2.St} {w : Wd} {x y : V} {v u : Value} {Q : VK} (I : Inv X pins σ w.H s) (rx : RelV x v) (ry : RelV y u) (hr : HR g w) (r1 : VR g.K w d1 x) (r2 : VR g.K w d2 y)
    {t : Bool} (h : Mu.inR w.ah d1 d2 = some t) (q : Q (.bl (neg ^^ t)) w.H) :
    wpAny (model X.prog X.w) X.A (compareOp (if neg then .NotIn else .In) v u) (EP X pins σ Q) X.xe s := by
  -- a sequence of data
  have seq : ∀ (ds : List MD) (vs : List V) (a : Addr), y = .ref a → Mu.memR w.ah d1 ds = some t → VRs g.K w ds vs → (SqL X.K w.H a vs ∨ SqT X.K w.H a vs) → wpAny (model X.prog X.w) X.A (compareOp (if neg then .NotIn else .In) v u) (EP X pins σ Q) X.xe s := by
    intro ds vs a ey hm rs hs
    subst ey
    obtain ⟨p, xs, e1, e2, rfl⟩ := mem_some hm
    have t1 := tells hr _ _ _ _ e1 r1
    have t2 := tells_list (tells hr Mu.DEP) ds xs vs e2 rs
    have k1 : Dp X.K w.H x (pdOf p) := by rw [G.K]; exact t1.dp
    have k2 : DpAll X.K w.H vs (pdsOf xs) := by rw [G.K]; exact t2.dp
    obtain ⟨as, q1⟩ := Dp.reads I _ x v k1 rx
    have hd : (pdOf p).depth ≤ 50 := t1.dep
    have fin : EP X pins σ Q (.bool (neg ^^ (pdsOf xs).any fun z => PyData.eqv z (pdOf p))) s := ⟨.bl _, _, I, rfl, by rw [any_pd]; exact q⟩
    rcases hs with hs | hs
    · obtain ⟨bs, q2⟩ := Dp.reads I (.list (pdsOf xs)) (.ref a) u (.lst hs k2) ry
      cases neg with
      | false => exact SeqAt.in_list_reads q2 q1 t2.lay t1.lay (in_room G.un hd) (by simpa using fin)
      | true => exact SeqAt.notIn_list_reads q2 q1 t2.lay t1.lay (in_room G.un hd) (by simpa using fin)
    · obtain ⟨bs, q2⟩ := Dp.reads I (.tuple (pdsOf xs)) (.ref a) u (.tup hs k2) ry
      cases neg with
      | false => exact SeqAt.in_tuple_reads q2 q1 t2.lay t1.lay (in_room G.un hd) (by simpa using fin)
      | true => exact SeqAt.notIn_tuple_reads q2 q1 t2.lay t1.lay (in_room G.un hd) (by simpa using fin)
  cases d2 with
  | tup ds =>
    obtain ⟨a, vs, e, t2, rs⟩ := r2
    exact seq ds vs a e h rs (.inr (by rw [G.K]; exact t2))
  | lst ds =>
    obtain ⟨a, vs, e, t2, rs⟩ := r2
    exact seq ds vs a e h rs (.inl (by rw [G.K]; exact t2.sq))
  | str z =>
    cases d1 with
    | str k =>
      obtain ⟨o1, rfl⟩ := r1
      obtain ⟨o2, rfl⟩ := r2
      match k, h with
      | [ch], h =>
        simp only [Mu.inR, Option.some.injEq] at h
        subst h
        have e : decide (ch ∈ (toS z).cps.toList) = z.contains ch := by rw [toS_list]; simp
        cases neg with
        | false => exact op_in_sign pins s σ w.H _ _ v u Q I rx ry ⟨ch, toS z, rfl, rfl, by rw [e]; simpa using q⟩
        | true => exact op_notIn_sign pins s σ w.H _ _ v u Q I rx ry ⟨ch, toS z, rfl, rfl, by rw [e]; simpa using q⟩
    | _ => simp [Mu.inR] at h
  | obj i =>
    simp only [Mu.inR] at h
    split at h
    · rename_i ds e0
      obtain ⟨rfl, vs, t2, rs⟩ := VR.obj_at hr r2 e0
      exact seq ds vs _ rfl h rs (.inl (.of t2))
    · rename_i tk kvs e0
      split at h
      · rename_i hk
        cases h
        obtain ⟨rfl, o⟩ := VR.obj_at hr r2 e0
        obtain rfl : u = .ref (w.mu i) := ry
        cases tk with
        | false =>
          obtain ⟨nd, ks, hd, rel⟩ := o
          obtain ⟨k, kr, rfl⟩ := keyR_of hk r1
          have g1 : DGet w.H (w.mu i) (kV k) (valV ks k) := DGet.k hd
          have e : (valV ks k).isSome = (Mu.dlook d1 kvs).isSome := by
            rcases rel.look kr with ⟨e1, e2⟩ | ⟨d, v', e1, e2, _⟩ <;> rw [e1, e2] <;> rfl
          have hu : X.A.units + 1 < cLine := by have := G.un; omega
          cases neg with
          | false => exact d_in hu I g1 rx fun s' I' => ⟨.bl _, _, I', rfl, by rw [e]; simpa using q⟩
          | true => exact d_notIn hu I g1 rx fun s' I' => ⟨.bl _, _, I', rfl, by rw [e]; simpa using q⟩
        | true =>
          obtain ⟨nd, xs, hd, rel⟩ := o
          obtain ⟨z, hz, _⟩ := keyIn_of hk
          subst hz
          obtain ⟨p, vs, rfl, t2, rs⟩ := id r1
          obtain rfl : v = .ref p := rx
          obtain ⟨hsm, hl, dd⟩ := dict_of G I hd rel
          have hkey := nested_key (P := X.prog) (wo := X.w) G.K I hk r1
          have e : (atKey xs (nkOf (.tup z))).isSome = (Mu.dlook (.tup z) kvs).isSome := by
            rcases rel.look hk with ⟨e1, e2⟩ | ⟨d, v', p', u', e1, e2, _⟩ <;> rw [e1, e2] <;> rfl
          cases neg with
          | false => exact wpAny_in_heap (nroom G) hkey hsm dd ⟨.bl _, _, I.tok _, rfl, by rw [e]; simpa using q⟩
          | true => exact wpAny_notIn_heap (nroom G) hkey hsm dd ⟨.bl _, _, I.tok _, rfl, by rw [e]; simpa using q⟩
      · cases h
    · cases h
  | _ => simp [Mu.inR] at h
/-- a comparison that is told to be t -/
def rCmpT (g : Gc) (op : Mu.COp) (x y : V) (H : Hp) (Q : VK) : Prop := ∃ d1 d2 w t, w.H = H ∧ HR g w ∧ VR g.K w d1 x ∧ VR g.K w d2 y ∧ Mu.cmpO op w.ah d1 d2 = some t ∧ Q (.bl t) w.H
theorem op_cmpT (G : GoodH g X W) (op : Mu.COp) : OpR X (compareOp (cA op)) (rCmpT g op) := by
  intro pins s σ H x y v u Q I rx ry h
  obtain ⟨d1, d2, w, t, rfl, hr, r1, r2, e, q⟩ := h
  have hu64 : X.A.units + 64 < cLine := by have := G.un; omega
  cases op with
  | eq =>
    obtain ⟨d, f, a1, a2, a3, a4, rfl⟩ := eq_tells hr e r1 r2
    exact op_eqD hu64 pins s σ w.H x y v u Q I rx ry ⟨d, f, by rw [G.K]; exact a1, by rw [G.K]; exact a2, a3, a4, q⟩
  | ne =>
    obtain ⟨t', e', rfl⟩ := Option.map_eq_some_iff.mp e
    obtain ⟨d, f, a1, a2, a3, a4, rfl⟩ := eq_tells hr e' r1 r2
    exact op_neD hu64 pins s σ w.H x y v u Q I rx ry ⟨d, f, by rw [G.K]; exact a1, by rw [G.K]; exact a2, a3, a4, q⟩
  | lt =>
    simp only [Mu.cmpO] at e
    split at e
    · rename_i ha; cases e; exact op_ord G (op := .lt) I rx ry hr r1 r2 ha (.inl ⟨rfl, q⟩)
    · cases e
  | gt =>
    simp only [Mu.cmpO] at e
    split at e
    · rename_i ha; cases e; exact op_ord G (op := .gt) I rx ry hr r1 r2 ha (.inr (.inl ⟨rfl, q⟩))
    · cases e
  | le =>
    simp only [Mu.cmpO] at e
    split at e
    · rename_i ha; cases e; exact op_ord G (op := .le) I rx ry hr r1 r2 ha (.inr (.inr (.inl ⟨rfl, q⟩)))
    · cases e
  | ge =>
    simp only [Mu.cmpO] at e
    split at e
    · rename_i ha; cases e; exact op_ord G (op := .ge) I rx ry hr r1 r2 ha (.inr (.inr (.inr ⟨rfl, q⟩)))
    · cases e
  | isin => exact op_mem G false I rx ry hr r1 r2 e (by simpa using q)
  | notin =>
    obtain ⟨t', e', rfl⟩ := Option.map_eq_some_iff.mp e
    exact op_mem G true I rx ry hr r1 r2 e' (by simpa using q)
theorem op_cmp (G : GoodH g X W) (op : Mu.COp) : OpR X (compareOp (cA op)) (rCmp g op) := by
  intro pins s σ H x y v u Q I rx ry h
  obtain ⟨d1, d2, w, E, rfl, hr, r1, r2, h⟩ := h
  obtain ⟨t, e, q⟩ := cmp_some hr h
  exact op_cmpT G op pins s σ w.H x y v u Q I rx ry ⟨d1, d2, w, t, rfl, hr, r1, r2, e, q⟩
theorem twoE {α β : Type} {rel : Wd → α → β → Prop} {a b : XS} {f : MD → MD → Mu.Hp → Mu.R α} {fr : Mu.Fr} {σ : L2.St} {w : Wd} {Q : β → Hp → Prop} (hr : HR g w) (hf : FR g.K w fr σ)
    (h : Aft g rel w ((Mu.ev c fr w.ah a).bind fun x h => (Mu.ev c fr h b).bind fun y h => f x y h) Q (fun cl d H' => W cl d σ H')) :
    tE g W c a σ w.H fun x H1 => tE g W c b σ H1 fun y H2 => ∃ d1 d2 w2, w2.H = H2 ∧ HR g w2 ∧ FR g.K w2 fr σ ∧ VR g.K w2 d1 x ∧ VR g.K w2 d2 y ∧ Aft g rel w2 (f d1 d2 w2.ah) Q (fun cl d H' => W cl d σ H') := by
  obtain ⟨w1, fr1, e1, hr1, hf1, q1⟩ := one hr hf h
  refine ⟨w1, fr1, e1, hr1, hf1, q1.imp fun x H1 ⟨dx, w2, e2, l2, hr2, hf2, r2, _, q2⟩ => ?_⟩
  subst e2
  obtain ⟨w3, fr3, e3, hr3, hf3, q3⟩ := one hr2 hf2 q2
  refine ⟨w3, fr3, e3, hr3, hf3, q3.imp fun xs H2 ⟨dxs, w4, e4, l4, hr4, hf4, r4, _, q4⟩ => ?_⟩
  exact ⟨dx, dxs, w4, e4, hr4, hf4, VR.mono l4 _ _ r2, r4, q4⟩
theorem e_cmp {op : Mu.COp} {a b : XS} {x y : Expr} {pos : Pos} (G : GoodH g X W) (ha : PE X x (tE g W c a)) (hb : PE X y (tE g W c b)) (hm : behindInMarks (cA op) y = false) : PE X (.Compare x [cA op] [y] pos) (tE g W c (.cmp op a b)) := by
  refine PE_weak (pe_cmpR (op_cmp G op) ha hb hm) ?_
  rintro σ H Q ⟨w, fr, rfl, hr, hf, h⟩
  rw [Mu.ev] at h
  obtain ⟨w1, fr1, e1, hr1, hf1, q1⟩ := twoE (rel := VR g.K) hr hf h
  refine ⟨w1, fr1, e1, hr1, hf1, q1.imp fun x H1 ⟨w2, fr2, e2, hr2, hf2, q2⟩ => ⟨w2, fr2, e2, hr2, hf2, q2.imp fun y H2 ⟨d1, d2, w3, e3, hr3, _, r1, r2, q3⟩ => ⟨d1, d2, w3, _, e3, hr3, r1, r2, q3⟩⟩⟩
end
end Ad
end

section
set_option Elab.async false
set_option linter.all false
set_option maxRecDepth 100000
set_option maxHeartbeats 4000000
namespace Ad
open PySem PySem.Spec PyProof.Rows L2
section
variable {g : Gc} {X : Cx} {W : WX} {c : Mu.Cx}
/-! ### is None, is True, is False -/
def cvC : Mu.Cv → Const
  | .non => .none
  | .bl b => .bool b
def cvV : Mu.Cv → V
  | .non => .non
  | .bl b => .bl b
def cvU : Mu.Cv → Value
  | .non => Value.none
  | .bl b => Value.bool b
def rIsc (g : Gc) (neg : Bool) (k : Mu.Cv) : R2 := fun x y H Q => ∃ d w, w.H = H ∧ VR g.K w d x ∧ y = cvV k ∧ Q (.bl (neg ^^ Mu.iscV k d)) H
theorem op_isc (neg : Bool) (k : Mu.Cv) : OpR X (compareOp (if neg then .IsNot else .Is)) (rIsc g neg k) := by
  intro pins s σ H x y v u Q I rx ry h
  obtain ⟨d, w, rfl, r, rfl, q⟩ := h
  have hu : u = cvU k := by
    cases k with
    | non => exact ry
    | bl b => exact ry
  have key : plainIs v u = true ∧ (v == u) = Mu.iscV k d := by
    subst hu
    cases d with
    | non => obtain rfl : x = .non := r; cases (show v = Value.none from rx); cases k <;> exact ⟨rfl, rfl⟩
    | bl b =>
      obtain rfl : x = .bl b := r; cases (show v = Value.bool b from rx)
      cases k with
      | non => exact ⟨rfl, rfl⟩
      | bl b' => cases b <;> cases b' <;> exact ⟨rfl, rfl⟩
    | int i => obtain rfl : x = .int i := r; obtain ⟨t, rfl⟩ := (show ∃ t, v = Value.int i t from rx); cases k <;> exact ⟨rfl, rfl⟩
    | str z => obtain ⟨_, rfl⟩ := r; obtain ⟨t, rfl⟩ := (show ∃ t, v = Value.str _ t from rx); cases k <;> exact ⟨rfl, rfl⟩
    | tup ds => obtain ⟨a, vs, rfl, _⟩ := r; cases (show v = Value.ref a from rx); cases k <;> exact ⟨rfl, rfl⟩
    | obj i => obtain ⟨_, rfl⟩ := r; cases (show v = Value.ref _ from rx); cases k <;> exact ⟨rfl, rfl⟩
    | lst ds => obtain ⟨a, vs, rfl, _⟩ := r; cases (show v = Value.ref a from rx); cases k <;> exact ⟨rfl, rfl⟩
  cases neg with
  | false => exact wpAny_is_plain key.1 ⟨.bl _, _, I, rfl, by rw [key.2]; simpa using q⟩
  | true => exact wpAny_isNot_plain key.1 ⟨.bl _, _, I, rfl, by rw [key.2]; simpa using q⟩
theorem pe_cv {k : Mu.Cv} {j : Nat} {pos : Pos} : PE X (.Constant (cvC k) j pos) (tC (cvV k)) := by
  cases k with
  | non => exact pe_non
  | bl b => exact pe_bl
theorem e_isc {neg : Bool} {k : Mu.Cv} {a : XS} {x : Expr} {j : Nat} {p pos : Pos} (ha : PE X x (tE g W c a)) : PE X (.Compare x [if neg then .IsNot else .Is] [.Constant (cvC k) j p] pos) (tE g W c (.isc neg k a)) := by
  refine PE_weak (pe_cmpR (op_isc (g := g) neg k) ha pe_cv (by cases k <;> cases neg <;> rfl)) ?_
  rintro σ H Q ⟨w, fr, rfl, hr, hf, h⟩
  rw [Mu.ev] at h
  obtain ⟨w1, fr1, e1, hr1, hf1, q1⟩ := one (rel := VR g.K) hr hf h
  refine ⟨w1, fr1, e1, hr1, hf1, q1.imp fun x H1 ⟨dx, w2, e2, l2, hr2, hf2, r2, _, q2⟩ => ?_⟩
  subst e2
  exact ⟨dx, w2, rfl, r2, rfl, Aft.bl q2 rfl hr2⟩

/-! ### truth -/
theorem tru_of {w : Wd} (hr : HR g w) {d : MD} {v : V} {t : Bool} (h : Mu.truth w.ah d = some t) (r : VR g.K w d v) : TruV g.K v w.H t := by
  cases d with
  | non => obtain rfl : v = .non := r; cases h; rfl
  | bl b => obtain rfl : v = .bl b := r; cases h; rfl
  | int i =>
    obtain rfl : v = .int i := r
    cases h
    show decide (i ≠ 0) = (i != 0)
    by_cases e : i = 0 <;> simp [e]
  | str s =>
    obtain ⟨o, rfl⟩ := r
    cases h
    refine ⟨by rw [toS_len]; exact o.1, ?_⟩
    rw [toS_len]
    cases s with
    | nil => rfl
    | cons a r => simp; omega
  | tup ds =>
    obtain ⟨a, vs, rfl, t2, rs⟩ := r
    cases h
    exact .inr (.inl ⟨vs, t2, by rw [rs.isEmpty]⟩)
  | lst ds =>
    obtain ⟨a, vs, rfl, t2, rs⟩ := r
    cases h
    exact .inl ⟨vs, t2.sq, by rw [rs.isEmpty]⟩
  | obj i =>
    simp only [Mu.truth] at h
    split at h
    · rename_i ds e0
      cases h
      obtain ⟨rfl, vs, t2, rs⟩ := VR.obj_at hr r e0
      exact .inl ⟨vs, .of t2, by rw [rs.isEmpty]⟩
    · rename_i kvs e0
      cases h
      obtain ⟨rfl, nd, ks, t2, rel⟩ := VR.obj_at hr r e0
      refine .inr (.inr ⟨ks, t2, ?_⟩)
      have := rel.length
      cases kvs <;> cases ks <;> simp_all
    · cases h
theorem Aft.tru {α β : Type} {rel : Wd → α → β → Prop} {w : Wd} {d : MD} {f : Bool → Mu.Hp → Mu.R α} {Q : β → Hp → Prop} {E : XK} (h : Aft g rel w ((Mu.opt (Mu.truth w.ah d) w.ah).bind f) Q E) :
    ∃ t, Mu.truth w.ah d = some t ∧ Aft g rel w (f t w.ah) Q E := by
  cases e : Mu.truth w.ah d with
  | none => rw [e] at h; exact h.elim
  | some t => rw [e] at h; exact ⟨t, rfl, h⟩
theorem e_and {a b : XS} {x y : Expr} {r : List Expr} {pos : Pos} (G : GoodH g X W) (ha : PE X x (tE g W c a)) (hb : PE X (.BoolOp .And (y :: r) pos) (tE g W c b)) : PE X (.BoolOp .And (x :: y :: r) pos) (tE g W c (.and a b)) := by
  refine PE_weak (pe_andT ha hb) ?_
  rintro σ H Q ⟨w, fr, rfl, hr, hf, h⟩
  rw [Mu.ev] at h
  obtain ⟨w1, fr1, e1, hr1, hf1, q1⟩ := one (rel := VR g.K) hr hf h
  refine ⟨w1, fr1, e1, hr1, hf1, q1.imp fun x H1 ⟨dx, w2, e2, l2, hr2, hf2, r2, _, q2⟩ => ?_⟩
  subst e2
  obtain ⟨t, et, q3⟩ := q2.tru
  refine ⟨t, by rw [G.K]; exact tru_of hr2 et r2, ?_⟩
  cases t with
  | true => exact ⟨w2, fr, rfl, hr2, hf2, q3⟩
  | false => exact q3 _ w2 rfl .refl hr2 r2
theorem e_or {a b : XS} {x y : Expr} {r : List Expr} {pos : Pos} (G : GoodH g X W) (ha : PE X x (tE g W c a)) (hb : PE X (.BoolOp .Or (y :: r) pos) (tE g W c b)) : PE X (.BoolOp .Or (x :: y :: r) pos) (tE g W c (.or a b)) := by
  refine PE_weak (pe_orT ha hb) ?_
  rintro σ H Q ⟨w, fr, rfl, hr, hf, h⟩
  rw [Mu.ev] at h
  obtain ⟨w1, fr1, e1, hr1, hf1, q1⟩ := one (rel := VR g.K) hr hf h
  refine ⟨w1, fr1, e1, hr1, hf1, q1.imp fun x H1 ⟨dx, w2, e2, l2, hr2, hf2, r2, _, q2⟩ => ?_⟩
  subst e2
  obtain ⟨t, et, q3⟩ := q2.tru
  refine ⟨t, by rw [G.K]; exact tru_of hr2 et r2, ?_⟩
  cases t with
  | true => exact q3 _ w2 rfl .refl hr2 r2
  | false => exact ⟨w2, fr, rfl, hr2, hf2, q3⟩
theorem e_bone {op : BoolOp} {b : XS} {y : Expr} {pos : Pos} (hb : PE X y (tE g W c b)) : PE X (.BoolOp op [y] pos) (tE g W c b) := pe_one hb
theorem e_not {a : XS} {x : Expr} {pos : Pos} (G : GoodH g X W) (ha : PE X x (tE g W c a)) : PE X (.UnaryOp .Not x pos) (tE g W c (.not a)) := by
  refine PE_weak (pe_notT ha) ?_
  rintro σ H Q ⟨w, fr, rfl, hr, hf, h⟩
  rw [Mu.ev] at h
  obtain ⟨w1, fr1, e1, hr1, hf1, q1⟩ := one (rel := VR g.K) hr hf h
  refine ⟨w1, fr1, e1, hr1, hf1, q1.imp fun x H1 ⟨dx, w2, e2, l2, hr2, hf2, r2, _, q2⟩ => ?_⟩
  subst e2
  obtain ⟨t, et, q3⟩ := q2.tru
  exact ⟨t, by rw [G.K]; exact tru_of hr2 et r2, Aft.bl q3 rfl hr2⟩
theorem e_ife {k a b : XS} {z x y : Expr} {pos : Pos} (hk : PT X z (tT g W c k)) (ha : PE X x (tE g W c a)) (hb : PE X y (tE g W c b)) : PE X (.IfExp z x y pos) (tE g W c (.ife k a b)) := by
  refine PE_weak (pe_ifExp hk ha hb) ?_
  rintro σ H Q ⟨w, fr, rfl, hr, hf, h⟩
  have h' : Aft g (VR g.K) w ((Mu.evT c fr w.ah k).bind fun t h => if t then Mu.ev c fr h a else Mu.ev c fr h b) Q (fun cl d H' => W cl d σ H') := by
    rw [Mu.ev] at h
    unfold Mu.evT
    cases e : Mu.ev c fr w.ah k with
    | ok d ah => rw [e] at h; exact h
    | ex x ah => rw [e] at h; exact h
    | bad => rw [e] at h; exact h
  obtain ⟨w1, fr1, e1, hr1, hf1, q1⟩ := oneT (rel := VR g.K) hr hf h'
  refine ⟨w1, fr1, e1, hr1, hf1, q1.imp fun t H1 ⟨w2, e2, l2, hr2, hf2, _, q2⟩ => ?_⟩
  subst e2
  cases t with
  | true => exact ⟨w2, fr, rfl, hr2, hf2, q2⟩
  | false => exact ⟨w2, fr, rfl, hr2, hf2, q2⟩
theorem e_neg {a : XS} {x : Expr} {pos : Pos} (ha : PE X x (tE g W c a)) : PE X (.UnaryOp .USub x pos) (tE g W c (.neg a)) := by
  refine PE_weak (pe_un un_neg ha) ?_
  rintro σ H Q ⟨w, fr, rfl, hr, hf, h⟩
  rw [Mu.ev] at h
  obtain ⟨w1, fr1, e1, hr1, hf1, q1⟩ := one (rel := VR g.K) hr hf h
  refine ⟨w1, fr1, e1, hr1, hf1, q1.imp fun x H1 ⟨dx, w2, e2, l2, hr2, hf2, r2, _, q2⟩ => ?_⟩
  subst e2
  cases dx with
  | int i =>
    obtain rfl : x = .int i := r2
    exact ⟨i, rfl, q2 _ w2 rfl .refl hr2 rfl⟩
  | _ => exact q2.elim

/-! ### tests -/
theorem split_tru {w : Wd} {r : Mu.R MD} {Q : Bool → Hp → Prop} {E : XK} (h : Aft g relB w (r.bind fun x h => Mu.opt (Mu.truth h x) h) Q E) :
    Aft g (VR g.K) w r (fun x H' => ∃ d w' t, w'.H = H' ∧ HR g w' ∧ VR g.K w' d x ∧ r = .ok d w'.ah ∧ Mu.truth w'.ah d = some t ∧ Q t H') E :=
  (Aft.cut h).imp fun x H' ⟨d, w', e, l, hr, q, z, k⟩ => by
    obtain ⟨t, et, k⟩ := Aft.opt k
    subst e
    exact ⟨d, w', t, rfl, hr, q, z, et, k _ w' rfl .refl hr rfl⟩
/-- an expression whose test is its value's truth -/
theorem t_val {e : XS} {x : Expr} (G : GoodH g X W) (h : PE X x (tE g W c e)) (he : ∀ whole, isTrue x X.env whole = (do let v ← whole; standAt x.pos; holding [v] (truthy v))) : PT X x (tT g W c e) := by
  refine PT_weak (pt_truth h he) ?_
  rintro σ H Q ⟨w, fr, rfl, hr, hf, h⟩
  refine ⟨w, fr, rfl, hr, hf, (split_tru h).imp fun x H' ⟨d, w', t, e, hr', r, _, et, q⟩ => ?_⟩
  subst e
  exact ⟨t, by rw [G.K]; exact tru_of hr' et r, q⟩
/-- the value is a bool -/
def BlE (c : Mu.Cx) (e : XS) : Prop := ∀ fr h d h', Mu.ev c fr h e = .ok d h' → ∃ t, d = .bl t
theorem t_bl {e : XS} {w : Wd} {fr : Mu.Fr} {Q : Bool → Hp → Prop} {E : XK} (hb : BlE c e) (h : Aft g relB w (Mu.evT c fr w.ah e) Q E) : Aft g (VR g.K) w (Mu.ev c fr w.ah e) (fun x H' => ∃ k, x = .bl k ∧ Q k H') E :=
  (split_tru h).imp fun x H' ⟨d, w', t, e, hr', r, z, et, q⟩ => by
    obtain ⟨t', rfl⟩ := hb _ _ _ _ z
    cases et
    exact ⟨_, r, q⟩
theorem bl_cmp {op : Mu.COp} {a b : XS} : BlE c (.cmp op a b) := by
  intro fr h d h' e
  rw [Mu.ev] at e
  cases e1 : Mu.ev c fr h a with
  | ok x h1 =>
    rw [e1, Mu.R.bind_ok] at e
    cases e2 : Mu.ev c fr h1 b with
    | ok y h2 =>
      rw [e2, Mu.R.bind_ok] at e
      unfold Mu.cmpR at e
      cases e3 : Mu.cmpO op h2 x y with
      | none => rw [e3] at e; cases e
      | some t => rw [e3] at e; cases e; exact ⟨t, rfl⟩
    | ex x h2 => rw [e2] at e; cases e
    | bad => rw [e2] at e; cases e
  | ex x h2 => rw [e1] at e; cases e
  | bad => rw [e1] at e; cases e
theorem bl_isc {neg : Bool} {k : Mu.Cv} {a : XS} : BlE c (.isc neg k a) := by
  intro fr h d h' e
  rw [Mu.ev] at e
  cases e1 : Mu.ev c fr h a with
  | ok x h1 => rw [e1, Mu.R.bind_ok] at e; cases e; exact ⟨_, rfl⟩
  | ex x h2 => rw [e1] at e; cases e
  | bad => rw [e1] at e; cases e
theorem t_cmp {op : Mu.COp} {a b : XS} {x y : Expr} {pos : Pos} (G : GoodH g X W) (ha : PE X x (tE g W c a)) (hb : PE X y (tE g W c b)) (hm : behindInMarks (cA op) y = false) : PT X (.Compare x [cA op] [y] pos) (tT g W c (.cmp op a b)) := by
  refine PT_weak (pt_cmpR (op_cmp G op) ha hb hm) ?_
  rintro σ H Q ⟨w, fr, rfl, hr, hf, h⟩
  have h := t_bl bl_cmp h
  rw [Mu.ev] at h
  obtain ⟨w1, fr1, e1, hr1, hf1, q1⟩ := twoE (rel := VR g.K) hr hf h
  exact ⟨w1, fr1, e1, hr1, hf1, q1.imp fun x H1 ⟨w2, fr2, e2, hr2, hf2, q2⟩ => ⟨w2, fr2, e2, hr2, hf2, q2.imp fun y H2 ⟨d1, d2, w3, e3, hr3, _, r1, r2, q3⟩ => ⟨d1, d2, w3, _, e3, hr3, r1, r2, q3⟩⟩⟩
theorem t_isc {neg : Bool} {k : Mu.Cv} {a : XS} {x : Expr} {j : Nat} {p pos : Pos} (ha : PE X x (tE g W c a)) : PT X (.Compare x [if neg then .IsNot else .Is] [.Constant (cvC k) j p] pos) (tT g W c (.isc neg k a)) := by
  refine PT_weak (pt_cmpR (op_isc (g := g) neg k) ha pe_cv (by cases k <;> cases neg <;> rfl)) ?_
  rintro σ H Q ⟨w, fr, rfl, hr, hf, h⟩
  have h := t_bl bl_isc h
  rw [Mu.ev] at h
  obtain ⟨w1, fr1, e1, hr1, hf1, q1⟩ := one (rel := VR g.K) hr hf h
  refine ⟨w1, fr1, e1, hr1, hf1, q1.imp fun x H1 ⟨dx, w2, e2, l2, hr2, hf2, r2, _, q2⟩ => ?_⟩
  subst e2
  exact ⟨dx, w2, rfl, r2, rfl, Aft.bl q2 rfl hr2⟩
theorem evT_ok {fr : Mu.Fr} {h h1 : Mu.Hp} {e : XS} {d : MD} (z : Mu.ev c fr h e = .ok d h1) : Mu.evT c fr h e = Mu.opt (Mu.truth h1 d) h1 := by unfold Mu.evT; rw [z]; rfl
/-- and, or by tests -/
theorem and_T {fr : Mu.Fr} {h : Mu.Hp} {a b : XS} : Mu.evT c fr h (.and a b) = (Mu.evT c fr h a).bind fun t h => if t then Mu.evT c fr h b else .ok false h := by
  unfold Mu.evT
  rw [Mu.ev]
  cases e : Mu.ev c fr h a with
  | ok d h1 =>
    simp only [Mu.R.bind_ok]
    cases et : Mu.truth h1 d with
    | none => rfl
    | some t => cases t <;> simp [et]
  | ex x h1 => rfl
  | bad => rfl
theorem or_T {fr : Mu.Fr} {h : Mu.Hp} {a b : XS} : Mu.evT c fr h (.or a b) = (Mu.evT c fr h a).bind fun t h => if t then .ok true h else Mu.evT c fr h b := by
  unfold Mu.evT
  rw [Mu.ev]
  cases e : Mu.ev c fr h a with
  | ok d h1 =>
    simp only [Mu.R.bind_ok]
    cases et : Mu.truth h1 d with
    | none => rfl
    | some t => cases t <;> simp [et]
  | ex x h1 => rfl
  | bad => rfl
theorem not_T {fr : Mu.Fr} {h : Mu.Hp} {a : XS} : Mu.evT c fr h (.not a) = (Mu.evT c fr h a).bind fun t h => .ok (!t) h := by
  unfold Mu.evT
  rw [Mu.ev]
  cases e : Mu.ev c fr h a with
  | ok d h1 =>
    simp only [Mu.R.bind_ok]
    cases et : Mu.truth h1 d with
    | none => rfl
    | some t => rfl
  | ex x h1 => rfl
  | bad => rfl
theorem ife_T {fr : Mu.Fr} {h : Mu.Hp} {k a b : XS} : Mu.evT c fr h (.ife k a b) = (Mu.evT c fr h k).bind fun t h => if t then Mu.evT c fr h a else Mu.evT c fr h b := by
  unfold Mu.evT
  rw [Mu.ev]
  cases e : Mu.ev c fr h k with
  | ok d h1 =>
    simp only [Mu.R.bind_ok]
    cases et : Mu.truth h1 d with
    | none => rfl
    | some t => cases t <;> rfl
  | ex x h1 => rfl
  | bad => rfl
theorem w_and {a b : XS} {x y : Expr} {r : List Expr} {pos : Pos} (ha : PT X x (tT g W c a)) (hb : PW X (.BoolOp .And (y :: r) pos) (tT g W c b)) : PW X (.BoolOp .And (x :: y :: r) pos) (tT g W c (.and a b)) := by
  refine ⟨fun wh pins s σ H Q I h => (pw_and ha hb).run wh pins s σ H Q I ?_⟩
  obtain ⟨w, fr, rfl, hr, hf, h⟩ := h
  rw [and_T] at h
  obtain ⟨w1, fr1, e1, hr1, hf1, q1⟩ := oneT (rel := relB) hr hf h
  refine ⟨w1, fr1, e1, hr1, hf1, q1.imp fun t H1 ⟨w2, e2, l2, hr2, hf2, _, q2⟩ => ?_⟩
  subst e2
  cases t with
  | true => exact ⟨w2, fr, rfl, hr2, hf2, q2⟩
  | false => exact q2 _ w2 rfl .refl hr2 rfl
theorem w_or {a b : XS} {x y : Expr} {r : List Expr} {pos : Pos} (ha : PT X x (tT g W c a)) (hb : PW X (.BoolOp .Or (y :: r) pos) (tT g W c b)) : PW X (.BoolOp .Or (x :: y :: r) pos) (tT g W c (.or a b)) := by
  refine ⟨fun wh pins s σ H Q I h => (pw_or ha hb).run wh pins s σ H Q I ?_⟩
  obtain ⟨w, fr, rfl, hr, hf, h⟩ := h
  rw [or_T] at h
  obtain ⟨w1, fr1, e1, hr1, hf1, q1⟩ := oneT (rel := relB) hr hf h
  refine ⟨w1, fr1, e1, hr1, hf1, q1.imp fun t H1 ⟨w2, e2, l2, hr2, hf2, _, q2⟩ => ?_⟩
  subst e2
  cases t with
  | true => exact q2 _ w2 rfl .refl hr2 rfl
  | false => exact ⟨w2, fr, rfl, hr2, hf2, q2⟩
theorem t_not {a : XS} {x : Expr} {pos : Pos} (ha : PT X x (tT g W c a)) : PT X (.UnaryOp .Not x pos) (tT g W c (.not a)) := by
  refine PT_weak (pt_not ha) ?_
  rintro σ H Q ⟨w, fr, rfl, hr, hf, h⟩
  rw [not_T] at h
  obtain ⟨w1, fr1, e1, hr1, hf1, q1⟩ := oneT (rel := relB) hr hf h
  refine ⟨w1, fr1, e1, hr1, hf1, q1.imp fun t H1 ⟨w2, e2, l2, hr2, hf2, _, q2⟩ => ?_⟩
  subst e2
  exact q2 _ w2 rfl .refl hr2 rfl

/-! ### subscripts, slices, fields -/
theorem ixN_eq (i : Int) (n : Nat) : L2.ixN n i = Mu.ixN i n := by
  unfold L2.ixN Mu.ixN
  split
  · rfl
  · split <;> split <;> first | rfl | omega
theorem atI_of {w : Wd} {ds : List MD} {vs : List V} {i : Int} {k : Nat} {d : MD} (h1 : Mu.ixN i ds.length = some k) (h2 : ds[k]? = some d) (r : VRs g.K w ds vs) : ∃ v, atI vs i = some v ∧ VR g.K w d v := by
  obtain ⟨v, e, q⟩ := r.get h2
  refine ⟨v, ?_, q⟩
  unfold atI
  rw [ixN_eq, ← r.length, h1]
  exact e
def rIxM (g : Gc) : R2 := fun x y H Q => ∃ d1 d2 w E, w.H = H ∧ HR g w ∧ VR g.K w d1 x ∧ VR g.K w d2 y ∧ Aft g (VR g.K) w (Mu.ixR w.ah d1 d2) Q E
theorem ix_some {w : Wd} {o : Option Nat} {ds : List MD} {Q : VK} {E : XK} (h : Aft g (VR g.K) w (Mu.opt (o.bind fun k => ds[k]?) w.ah) Q E) : ∃ k d, o = some k ∧ ds[k]? = some d ∧ Aft g (VR g.K) w (.ok d w.ah) Q E := by
  obtain ⟨d, e, h⟩ := h.opt
  obtain ⟨k, e1, e2⟩ := Option.bind_eq_some_iff.mp e
  exact ⟨k, d, e1, e2, h⟩
theorem ix_ok (G : GoodH g X W) : IxR X (rIxM g) := by
  intro value slice pins s σ H x y v u Q I rx ry h hs
  obtain ⟨d1, d2, w, E, rfl, hr, r1, r2, h⟩ := h
  cases d1 with
  | tup ds =>
    cases d2 with
    | int i =>
      obtain ⟨a, vs, rfl, t, rs⟩ := r1
      obtain rfl : y = .int i := r2
      obtain ⟨k, d, e1, e2, h⟩ := ix_some h
      obtain ⟨z, ez, rz⟩ := atI_of e1 e2 rs
      exact ix_tup value slice pins s σ w.H _ _ v u Q I rx ry ⟨a, vs, i, z, rfl, rfl, by rw [G.K]; exact t, ez, h _ w rfl .refl hr rz⟩ hs
    | _ => exact h.elim
  | lst ds =>
    cases d2 with
    | int i =>
      obtain ⟨a, vs, rfl, t, rs⟩ := r1
      obtain rfl : y = .int i := r2
      obtain ⟨k, d, e1, e2, h⟩ := ix_some h
      obtain ⟨z, ez, rz⟩ := atI_of e1 e2 rs
      exact ix_list value slice pins s σ w.H _ _ v u Q I rx ry ⟨a, vs, i, z, rfl, rfl, by rw [G.K]; exact t.sq, ez, h _ w rfl .refl hr rz⟩ hs
    | _ => exact h.elim
  | str z =>
    cases d2 with
    | int i =>
      obtain ⟨o, rfl⟩ := r1
      obtain rfl : y = .int i := r2
      simp only [Mu.ixR] at h
      obtain ⟨d, e, h⟩ := h.opt
      obtain ⟨ch, e', rfl⟩ := Option.map_eq_some_iff.mp e
      obtain ⟨k, e1, e2⟩ := Option.bind_eq_some_iff.mp e'
      refine ix_str value slice pins s σ w.H _ _ v u Q I rx ry ⟨toS z, i, ch, rfl, rfl, by rw [toS_len]; exact o.1, ?_, h _ w rfl .refl hr ⟨⟨by rw [sl_num]; simp, fun c' hc => ?_⟩, rfl⟩⟩ hs
      · rw [toS_list]; unfold atI; rw [ixN_eq, e1]; exact e2
      · obtain rfl : c' = ch := by simpa using hc
        exact o.2 _ (List.mem_of_getElem? e2)
    | _ => exact h.elim
  | obj p =>
    simp only [Mu.ixR] at h
    split at h
    · rename_i ds i e0
      obtain ⟨rfl, vs, t, rs⟩ := VR.obj_at hr r1 e0
      obtain rfl : y = .int i := r2
      obtain ⟨k, d, e1, e2, h⟩ := ix_some h
      obtain ⟨z, ez, rz⟩ := atI_of e1 e2 rs
      exact ix_list value slice pins s σ w.H _ _ v u Q I rx ry ⟨_, vs, i, z, rfl, rfl, .of t, ez, h _ w rfl .refl hr rz⟩ hs
    · rename_i tk kvs e0
      split at h
      · rename_i hk
        obtain ⟨d, ed, h'⟩ := h.opt
        clear h
        obtain ⟨rfl, o⟩ := VR.obj_at hr r1 e0
        obtain rfl : v = .ref (w.mu p) := rx
        cases tk with
        | false =>
          obtain ⟨nd, ks, hd, rel⟩ := o
          obtain ⟨k, kr, rfl⟩ := keyR_of hk r2
          rcases rel.look kr with ⟨e1, e2⟩ | ⟨d', v', e1, e2, rv⟩
          · rw [e1] at ed; cases ed
          · rw [e1] at ed; cases ed
            have g1 : DGet w.H (w.mu p) (kV k) (some v') := by rw [← e2]; exact DGet.k hd
            have hu : X.A.units + 1 < cLine := by have := G.un; omega
            exact tail_any (dict_typeIs I g1) PySem.F.slot_dict_getitem.lookup (d_getItem hu I g1 ry fun w' s' I' q => ⟨_, _, I', q, h' _ w rfl .refl hr rv⟩) hs
        | true =>
          obtain ⟨nd, xs, hd, rel⟩ := o
          obtain ⟨z, hz, _⟩ := keyIn_of hk
          subst hz
          obtain ⟨p', vs, rfl, t2, rs⟩ := id r2
          obtain rfl : u = .ref p' := ry
          obtain ⟨hsm, hl, dd⟩ := dict_of G I hd rel
          have hkey := nested_key (P := X.prog) (wo := X.w) G.K I hk r2
          rcases rel.look hk with ⟨e1, e2⟩ | ⟨d', v', p2, u2, e1, e2, ru, rv⟩
          · rw [e1] at ed; cases ed
          · rw [e1] at ed; cases ed
            exact tail_any dd.typeIs PySem.F.slot_dict_getitem.lookup (wpAny_getItem_heap (nroom G) hkey dd e2 ⟨_, _, I.tok _, ru, h' _ w rfl .refl hr rv⟩) hs
      · exact h.elim
    · rename_i kvs e0
      split at h
      · rename_i hk
        obtain ⟨d, ed, h'⟩ := h.opt
        clear h
        obtain ⟨rfl, o⟩ := VR.obj_at hr r1 e0
        obtain rfl : v = .ref (w.mu p) := rx
        obtain ⟨nd, od, ks, hd, rel⟩ := o
        obtain ⟨k, kr, rfl⟩ := keyR_of hk r2
        rcases rel.look kr with ⟨e1, e2⟩ | ⟨d', v', e1, e2, rv⟩
        · rw [e1] at ed; cases ed
        · rw [e1] at ed; cases ed
          have g1 : DGet w.H (w.mu p) (kV k) (some v') := by rw [← e2]; exact .inl ⟨ks, k, .inr ⟨od, hd⟩, rfl, rfl⟩
          have hu : X.A.units + 1 < cLine := by have := G.un; omega
          exact tail_any (dict_typeIs I g1) PySem.F.slot_dict_getitem.lookup (d_getItem hu I g1 ry fun w' s' I' q => ⟨_, _, I', q, h' _ w rfl .refl hr rv⟩) hs
      · exact h.elim
    · exact h.elim
  | _ => exact h.elim
theorem e_ix {a b : XS} {x y : Expr} {pos : Pos} (G : GoodH g X W) (ha : PE X x (tE g W c a)) (hb : PE X y (tE g W c b)) (hs : PlainIx y) : PE X (.Subscript x y pos) (tE g W c (.ix a b)) := by
  refine PE_weak (pe_ix (ix_ok G) ha hb hs) ?_
  rintro σ H Q ⟨w, fr, rfl, hr, hf, h⟩
  rw [Mu.ev] at h
  obtain ⟨w1, fr1, e1, hr1, hf1, q1⟩ := twoE (rel := VR g.K) hr hf h
  exact ⟨w1, fr1, e1, hr1, hf1, q1.imp fun x H1 ⟨w2, fr2, e2, hr2, hf2, q2⟩ => ⟨w2, fr2, e2, hr2, hf2, q2.imp fun y H2 ⟨d1, d2, w3, e3, hr3, _, r1, r2, q3⟩ => ⟨d1, d2, w3, _, e3, hr3, r1, r2, q3⟩⟩⟩
theorem sIx_eq (n dflt : Nat) (o : Option Int) : HT.sIx n dflt o = match o with
    | some i => Mu.clampI i n
    | none => dflt := by
  cases o with
  | none => rfl
  | some i => rfl
theorem cut_eq {α : Type} (xs : List α) (lo hi : Option Int) : Mu.cut xs lo hi = (xs.drop (HT.sIx xs.length 0 lo)).take (HT.sIx xs.length xs.length hi - HT.sIx xs.length 0 lo) := by
  unfold Mu.cut
  rw [sIx_eq, sIx_eq]
  cases lo <;> cases hi <;> simp only [List.drop_take]
theorem VRs.cutV {w : Wd} {ds : List MD} {vs : List V} (r : VRs g.K w ds vs) (lo hi : Option Int) : VRs g.K w (Mu.cut ds lo hi) (L2.cutV vs lo hi) := by
  rw [cut_eq]
  unfold L2.cutV
  rw [← r.length]
  exact (r.drop _).take _
theorem cut_whole {α : Type} {xs : List α} {lo hi : Option Int} (h : HT.sIx xs.length 0 lo = 0 ∧ HT.sIx xs.length xs.length hi = xs.length) : Mu.cut xs lo hi = xs := by
  rw [cut_eq, h.1, h.2]; simp
def rCutM (g : Gc) : V → Option Int → Option Int → Hp → VK → Prop := fun x lo hi H Q => ∃ d w E, w.H = H ∧ HR g w ∧ VR g.K w d x ∧ Aft g (VR g.K) w (Mu.cutR w.ah d lo hi) Q E
theorem cutR_ok (G : GoodH g X W) : SlR X (rCutM g) := by
  intro pins s σ H x v vl vu lo hi sl Q I rx hs pl pu h
  obtain ⟨d, w, E, rfl, hr, r, h⟩ := h
  cases d with
  | tup ds =>
    obtain ⟨a, vs, rfl, t, rs⟩ := r
    refine sl_tupA pins s σ w.H _ v vl vu lo hi sl Q I rx hs pl pu ⟨a, vs, rfl, by rw [G.K]; exact t, fun e => ?_, fun _ => ?_⟩
    · rw [← rs.length] at e
      exact h _ w rfl .refl hr ⟨a, vs, rfl, t, by rw [cut_whole e]; exact rs⟩
    · exact Aft.madeT hr h (rs.cutV lo hi)
  | lst ds =>
    obtain ⟨a, vs, rfl, t, rs⟩ := r
    refine sl_list pins s σ w.H _ v vl vu lo hi sl Q I rx hs pl pu ⟨a, vs, rfl, by rw [G.K]; exact t.sq, ?_⟩
    exact Aft.made hr h fun p hp => ⟨_, upd_same, VRs.mono (Le.newU hp) _ _ (rs.cutV lo hi)⟩
  | str z =>
    obtain ⟨o, rfl⟩ := r
    refine sl_str pins s σ w.H _ v vl vu lo hi sl Q I rx hs pl pu ⟨toS z, rfl, by rw [toS_len]; exact o.1, ?_⟩
    have e : cutS (toS z) lo hi = toS (Mu.cut z lo hi) := by
      unfold cutS
      rw [toS_list, toS_len, cut_eq]; rfl
    rw [e]
    refine h _ w rfl .refl hr ⟨⟨?_, fun ch hc => ?_⟩, rfl⟩
    · rw [cut_eq, List.length_take, List.length_drop]
      have := o.1; omega
    · rw [cut_eq] at hc
      exact o.2 _ (List.mem_of_mem_drop (List.mem_of_mem_take hc))
  | obj p =>
    simp only [Mu.cutR] at h
    split at h
    · rename_i ds e0
      obtain ⟨rfl, vs, t, rs⟩ := VR.obj_at hr r e0
      refine sl_list pins s σ w.H _ v vl vu lo hi sl Q I rx hs pl pu ⟨_, vs, rfl, .of t, ?_⟩
      exact Aft.made hr h fun p hp => ⟨_, upd_same, VRs.mono (Le.newU hp) _ _ (rs.cutV lo hi)⟩
    · exact h.elim
  | _ => exact h.elim
def partE : Option Unit → Expr → Option Expr
  | some _, e => some e
  | none, _ => none
def partR (c : Mu.Cx) (fr : Mu.Fr) (h : Mu.Hp) (o : Option Unit) (x : XS) : Mu.R (Option Int) := match o with
  | some _ => (Mu.ev c fr h x).bind fun i h => (Mu.opt (Mu.endI i) h).bind fun i h => .ok (some i) h
  | none => .ok none h
def relEq {α : Type} (_ : Wd) (a b : α) : Prop := b = a
def tO (g : Gc) (W : WX) (c : Mu.Cx) (o : Option Unit) (x : XS) : TO := fun σ H Q => ∃ w fr, w.H = H ∧ HR g w ∧ FR g.K w fr σ ∧ Aft g relEq w (partR c fr w.ah o x) Q (fun cl d H' => W cl d σ H')
theorem po_part {o : Option Unit} {x : XS} {e : Expr} (he : o.isSome = true → PE X e (tE g W c x)) : PO X (partE o e) (tO g W c o x) := by
  cases o with
  | none =>
    refine ⟨fun pins s σ H Q I h => po_none.run pins s σ H Q I ?_⟩
    obtain ⟨w, fr, rfl, hr, hf, h⟩ := h
    exact h _ w rfl .refl hr rfl
  | some u =>
    refine ⟨fun pins s σ H Q I h => (po_some (he rfl)).run pins s σ H Q I ?_⟩
    obtain ⟨w, fr, rfl, hr, hf, h⟩ := h
    obtain ⟨w1, fr1, e1, hr1, hf1, q1⟩ := one (rel := relEq) hr hf h
    refine ⟨w1, fr1, e1, hr1, hf1, q1.imp fun x H1 ⟨dx, w2, e2, l2, hr2, hf2, r2, _, q2⟩ => ?_⟩
    subst e2
    cases dx with
    | int i =>
      obtain rfl : x = .int i := r2
      simp only [Mu.endI] at q2
      split at q2
      · exact ⟨i, rfl, q2 _ w2 rfl .refl hr2 rfl⟩
      · exact q2.elim
    | _ => exact q2.elim
theorem cut_ev {a x y : XS} {lo hi : Option Unit} {fr : Mu.Fr} {h : Mu.Hp} : Mu.ev c fr h (.cut a lo hi x y) = (Mu.ev c fr h a).bind fun d h => (partR c fr h lo x).bind fun i h => (partR c fr h hi y).bind fun j h => Mu.cutR h d i j := by
  rw [Mu.ev]; cases lo <;> cases hi <;> rfl
theorem oneO {α β : Type} {rel : Wd → α → β → Prop} {o : Option Unit} {a : XS} {f : Option Int → Mu.Hp → Mu.R α} {fr : Mu.Fr} {σ : L2.St} {w : Wd} {Q : β → Hp → Prop} (hr : HR g w) (hf : FR g.K w fr σ)
    (h : Aft g rel w ((partR c fr w.ah o a).bind f) Q (fun cl d H' => W cl d σ H')) :
    tO g W c o a σ w.H (fun x H1 => ∃ w1, w1.H = H1 ∧ Le w w1 ∧ HR g w1 ∧ FR g.K w1 fr σ ∧ Aft g rel w1 (f x w1.ah) Q (fun cl d H' => W cl d σ H')) :=
  ⟨w, fr, rfl, hr, hf, (Aft.cut h).imp fun x H1 ⟨d, w1, e, l, hr1, q, z, k⟩ => by cases (show x = d from q); exact ⟨w1, e, l, hr1, hf.mono l, k⟩⟩
theorem e_cut {a x y : XS} {lo hi : Option Unit} {e l u : Expr} {p pos : Pos} (G : GoodH g X W) (ha : PE X e (tE g W c a)) (hl : lo.isSome = true → PE X l (tE g W c x)) (hu : hi.isSome = true → PE X u (tE g W c y)) :
    PE X (.Subscript e (.Slice (partE lo l) (partE hi u) none p) pos) (tE g W c (.cut a lo hi x y)) := by
  refine PE_weak (pe_slice (cutR_ok G) ha (po_part hl) (po_part hu)) ?_
  rintro σ H Q ⟨w, fr, rfl, hr, hf, h⟩
  rw [cut_ev] at h
  obtain ⟨w1, fr1, e1, hr1, hf1, q1⟩ := one (rel := VR g.K) hr hf h
  refine ⟨w1, fr1, e1, hr1, hf1, q1.imp fun x H1 ⟨dx, w2, e2, l2, hr2, hf2, r2, _, q2⟩ => ?_⟩
  subst e2
  obtain ⟨w3, fr3, e3, hr3, hf3, q3⟩ := oneO (rel := VR g.K) hr2 hf2 q2
  refine ⟨w3, fr3, e3, hr3, hf3, q3.imp fun i H2 ⟨w4, e4, l4, hr4, hf4, q4⟩ => ?_⟩
  subst e4
  obtain ⟨w5, fr5, e5, hr5, hf5, q5⟩ := oneO (rel := VR g.K) hr4 hf4 q4
  refine ⟨w5, fr5, e5, hr5, hf5, q5.imp fun j H3 ⟨w6, e6, l6, hr6, hf6, q6⟩ => ?_⟩
  exact ⟨dx, w6, _, e6, hr6, VR.mono l6 _ _ (VR.mono l4 _ _ r2), q6⟩
end
end Ad
end

section
set_option Elab.async false
set_option linter.all false
set_option maxRecDepth 100000
set_option maxHeartbeats 4000000
namespace Ad
open PySem PySem.Spec PyProof.Rows L2
/-! ### fields -/
section
variable {K : PySem.W.Frag} {w : Wd}
theorem FsR.get {f : String} : ∀ {fs : List (String × MD)} {gs : List (Str × V)}, FsR K w fs gs → (Mu.fget f fs = none ∧ gs.lookup (nm f) = none) ∨ ∃ d v, Mu.fget f fs = some d ∧ gs.lookup (nm f) = some v ∧ VR K w d v
  | [], _, h => by obtain rfl : _ = [] := h; exact .inl ⟨rfl, rfl⟩
  | (a, d) :: fs, _, h => by
    obtain ⟨v, r, rfl, h1, h⟩ := h
    by_cases e : f = a
    · subst e
      exact .inr ⟨d, v, by simp [Mu.fget], by simp [List.lookup], h1⟩
    · have ne : (nm f == nm a) = false := by
        rw [beq_eq_false_iff_ne]; exact fun z => e (nm_inj z)
      have q := FsR.get (f := f) h
      rw [List.lookup_cons, ne]
      simpa [Mu.fget, e] using q
theorem FsR.length : ∀ {fs : List (String × MD)} {gs : List (Str × V)}, FsR K w fs gs → fs.length = gs.length
  | [], _, h => by obtain rfl : _ = [] := h; rfl
  | (a, d) :: fs, _, h => by
    obtain ⟨v, r, rfl, _, h⟩ := h
    simp [FsR.length h]
theorem FsR.put {f : String} {d : MD} {v : V} (hv : VR K w d v) : ∀ {fs : List (String × MD)} {gs : List (Str × V)}, FsR K w fs gs → FsR K w (Mu.fput f d fs) (L2.putF (nm f) v gs)
  | [], _, h => by obtain rfl : _ = [] := h; exact ⟨v, [], rfl, hv, rfl⟩
  | (a, e) :: fs, _, h => by
    obtain ⟨u, r, rfl, h1, h⟩ := h
    by_cases q : a = f
    · subst q
      have e1 : Mu.fput a d ((a, e) :: fs) = (a, d) :: fs := by simp [Mu.fput]
      have e2 : L2.putF (nm a) v ((nm a, u) :: r) = (nm a, v) :: r := by simp [L2.putF]
      rw [e1, e2]; exact ⟨v, r, rfl, hv, h⟩
    · have ne : ¬ nm a = nm f := fun z => q (nm_inj z)
      have e1 : Mu.fput f d ((a, e) :: fs) = (a, e) :: Mu.fput f d fs := by simp [Mu.fput, q]
      have e2 : L2.putF (nm f) v ((nm a, u) :: r) = (nm a, u) :: L2.putF (nm f) v r := by simp [L2.putF, ne]
      rw [e1, e2]; exact ⟨u, _, rfl, h1, FsR.put hv h⟩
end
/-- what the top's run tells of classes and functions -/
structure Fx (g : Gc) (mP : Mu.Prog) (gf ml : List String) : Prop where
  cls : ∀ k ∈ g.cs, Cls g.K (g.cA k)
  noat : ∀ k ∈ g.cs, ∀ f ∈ g.fl, NoAttr g.K (g.cA k) (nm f)
  glo : ∀ f ∈ gf, g.mg (nm f) = some (.ref (g.fA f)) ∧ PySem.W.keepIn g.K (.ref (g.fA f)) = true
  made : ∀ k ∈ g.cs, g.mg (nm k) = some (.ref (g.cA k)) ∧ Mk g.K (g.cA k) (g.fA (k ++ ".__init__"))
  meth : ∀ k ∈ g.cs, ∀ m ∈ ml, ∀ fn, mP.fns (k ++ "." ++ m) = some fn → Meth g.K (g.cA k) (nm m) (g.fA (k ++ "." ++ m))
/-- a function's promise -/
def spF (g : Gc) (mP : Mu.Prog) (n : Nat) (f : String) : Sp := fun vs H Q E => ∃ w ds fn, w.H = H ∧ HR g w ∧ VRs g.K w ds vs ∧ mP.fns f = some fn ∧ ds.length = fn.np ∧ Aft g (VR g.K) w (Mu.callN mP n f ds w.ah) Q E
/-- every function keeps its promise at fuel n -/
def Fns (g : Gc) (mP : Mu.Prog) (n k : Nat) : Prop := ∀ f fn, mP.fns f = some fn → ∃ fd ps, FnOk g.P g.w g.K g.mg g.base (L2.CX g.P g.w) k (g.fA f) fd ps (spF g mP n f) ∧ Binds g.K fd ps [] ∧ ps.length = fn.np
def cx (mP : Mu.Prog) (n : Nat) (hx : Option Mu.Exn) : Mu.Cx := ⟨Mu.callN mP n, mP.glob, mP.gd, hx, fun f => (mP.fns f).isSome⟩
/-- what calls want of the context -/
structure Calls (g : Gc) (mP : Mu.Prog) (gf ml : List String) (n k : Nat) (X : Cx) : Prop where
  fx : Fx g mP gf ml
  fns : Fns g mP n k
  room : Room (k + 1) X.A
section
variable {g : Gc} {X : Cx} {W : WX} {c : Mu.Cx} {mP : Mu.Prog} {gf ml : List String} {n k : Nat} {hx : Option Mu.Exn}
theorem e_fld {a : XS} {x : Expr} {f : String} {pos : Pos} (G : GoodH g X W) (F : Fx g mP gf ml) (ha : PE X x (tE g W c a)) (hf : f ∈ g.fl) (hb : attributeBase x (nm f) X.env (eval x X.env) = eval x X.env) : PE X (.Attribute x (nm f) pos) (tE g W c (.fld a f)) := by
  refine PE_weak (pe_fld ha hb) ?_
  rintro σ H Q ⟨w, fr, rfl, hr, hfr, h⟩
  rw [Mu.ev] at h
  obtain ⟨w1, fr1, e1, hr1, hf1, q1⟩ := one (rel := VR g.K) hr hfr h
  refine ⟨w1, fr1, e1, hr1, hf1, q1.imp fun x H1 ⟨dx, w2, e2, l2, hr2, hf2, r2, _, q2⟩ => ?_⟩
  subst e2
  cases dx with
  | obj p =>
    simp only [Mu.fldR] at q2
    split at q2
    · rename_i kc fs e0
      obtain ⟨d, ed, q3⟩ := q2.opt
      obtain ⟨rfl, hc, dx, gs, hh, rs⟩ := VR.obj_at hr2 r2 e0
      rcases rs.get (f := f) with ⟨z, _⟩ | ⟨d', v, z1, z2, rv⟩
      · rw [z] at ed; cases ed
      · rw [z1] at ed; cases ed
        exact ⟨_, _, dx, gs, v, rfl, hh, by rw [G.K]; exact F.cls _ hc, by rw [G.K]; exact F.noat _ hc _ hf, z2, q3 _ w2 rfl .refl hr2 rv⟩
    · exact q2.elim
  | _ => exact q2.elim

/-! ### calls of the text's own functions -/
theorem dbg_of {x : Str} (h : (x == ("__debug__" : Str)) = false) : (x == ("__debug__" : Str)) = false := h
/-- written arguments: none is starred -/
def plainArgs : List Expr → Bool
  | [] => true
  | .Starred .. :: _ => false
  | _ :: r => plainArgs r
theorem star_cons {e : Expr} {es : List Expr} (h : plainArgs (e :: es) = true) (env : Env) : starEach (e :: es) env = (false, eval e env) :: starEach es env ∧ plainArgs es = true := by
  cases e <;> first | exact ⟨rfl, h⟩ | cases h
theorem star_any : ∀ {es : List Expr} (h : plainArgs es = true) (env : Env) (pos : Pos), (backTo pos (starEach es env)).any (·.1) = false
  | [], _, _, _ => rfl
  | e :: es, h, env, pos => by
    obtain ⟨h1, h2⟩ := star_cons h env
    rw [h1]
    have := star_any h2 env pos
    show (false || (backTo pos (starEach es env)).any (·.1)) = false
    rw [this]; rfl
theorem star_len : ∀ (es : List Expr) (env : Env), (starEach es env).length = es.length
  | [], _ => rfl
  | e :: es, env => by cases e <;> simp [starEach, star_len es env]
theorem e_call {f : String} {e : Expr} {es : List Expr} {ds : Mu.Es} {p pos : Pos} (G : GoodH g X W) (C : Calls g mP gf ml n k X) (hg : Gl X (nm f)) (hf : f ∈ gf) (hd : (nm f == ("__debug__" : Str)) = false) (hp : plainArgs (e :: es) = true)
    (ha : PA X (e :: es) (tA g W (cx mP n hx) ds)) : PE X (.Call (.Name (nm f) p) (e :: es) [] pos) (tE g W (cx mP n hx) (.call f ds)) := by
  refine ⟨fun pins s σ H Q I h => ?_⟩
  obtain ⟨w, fr, rfl, hr, hfr, h⟩ := h
  rw [Mu.ev] at h
  -- is there such a function
  obtain ⟨w1, fr1, e1, hr1, hf1, q1⟩ := oneA (rel := VR g.K) hr hfr h
  refine wpAny_Call_Name_kw (ld_glob I hg (by rw [G.mg]; exact (C.fx.glo f hf).1) ?_ hd)
  have hk : PySem.W.keepIn X.K (.ref (g.fA f)) = true := by rw [G.K]; exact (C.fx.glo f hf).2
  refine PySem.W.callWith_K (h₀ := X.base) I.ok.mod.kin hk (thn (ha.run pos pins s σ w.H _ I ⟨w1, fr1, e1, hr1, hf1, q1⟩) fun us s1 hh => ?_) (star_cons hp X.env).1 (star_any (star_cons hp X.env).2 X.env pos)
  obtain ⟨vs, H1, I1, r, dvs, w2, e2, l2, hr2, hf2, rv, _, q2⟩ := hh
  subst e2
  refine ⟨I1.kIn, ?_⟩
  have q2' : Aft g (VR g.K) w2 (Mu.callN mP n f dvs w2.ah) Q (fun cl d H' => W cl d σ H') := q2
  have hfn : ∃ fn, mP.fns f = some fn ∧ dvs.length = fn.np := by
    cases n with
    | zero => exact q2'.elim
    | succ n =>
      rw [Mu.callN] at q2'
      cases ef : mP.fns f with
      | none => rw [ef] at q2'; exact q2'.elim
      | some fn =>
        rw [ef] at q2'
        by_cases hl : dvs.length = fn.np
        · exact ⟨fn, rfl, hl⟩
        · simp only [hl, if_false] at q2'; exact q2'.elim
  obtain ⟨fn, ef, hl⟩ := hfn
  obtain ⟨fd, ps, FO, bo, _⟩ := C.fns f fn ef
  have FO' : FnOk X.prog X.w X.K X.mg X.base (L2.CX X.prog X.w) k (g.fA f) fd ps (spF g mP n f) := by rw [G.P, G.w, G.K, G.mg, G.base]; exact FO
  exact run_fnS (E := WE W) FO' (C.room.mono (Nat.le_succ _)) (by rw [G.K]; exact bo) (passAt G.takes σ) I1 r ⟨w2, dvs, fn, rfl, hr2, rv, ef, hl, q2'⟩
/-- a method's call, whatever its object -/
theorem meth_eval {o : Expr} {name : Str} {apos pos : Pos} {args : List Expr} {env : Env} (hb : attributeBase o name env (eval o env) = eval o env) (hp : plainArgs args = true) (hl : args.length < 30) (hpos : (apos.endLine == pos.line) = true) :
    eval (.Call (.Attribute o name apos) args [] pos) env = (do
      let ov ← eval o env
      standAt apos.atName
      let (f, first) ← holding [ov] (getMethod ov name (do return (← importBound o env).getD true))
      callWith pos f first (backTo pos (starEach args env)) (backToKw pos (keywordEach [] env))) := by
  have hf : methodCallForm (args.length + ([] : List Keyword).length) (backTo pos (starEach args env)) (backToKw pos (keywordEach [] env)) = true := by
    have h1 := star_any hp env pos
    unfold methodCallForm
    have h2 : (backTo pos (starEach args env)).all (fun x => !x.1) = true := by
      rw [List.all_eq_true]
      rw [List.any_eq_false] at h1
      intro x hx
      have := h1 x hx
      simpa using this
    rw [h2]
    simp [keywordEach, backToKw, hl]
  show (do
    let ov ← attributeBase o name env (eval o env)
    standAt apos.atName
    methodCall o name apos pos env ov (args.length + ([] : List Keyword).length) (backTo pos (starEach args env)) (backToKw pos (keywordEach [] env))) = _
  rw [hb]
  unfold methodCall
  rw [hf]
  unfold methodCallPos
  rw [hpos]
  rfl
theorem call_there {f : String} {ds : List MD} {ah : Mu.Hp} {Q : VK} {E : XK} {w : Wd} (h : Aft g (VR g.K) w (Mu.callN mP n f ds ah) Q E) : ∃ fn, mP.fns f = some fn ∧ ds.length = fn.np := by
  cases n with
  | zero => exact h.elim
  | succ n =>
    rw [Mu.callN] at h
    cases ef : mP.fns f with
    | none => rw [ef] at h; exact h.elim
    | some fn =>
      rw [ef] at h
      by_cases hl : ds.length = fn.np
      · exact ⟨fn, rfl, hl⟩
      · simp only [hl, if_false] at h; exact h.elim
theorem fn_at (G : GoodH g X W) (C : Calls g mP gf ml n k X) {f : String} {fn : Mu.Fn} (ef : mP.fns f = some fn) : ∃ fd ps, FnOk X.prog X.w X.K X.mg X.base (L2.CX X.prog X.w) k (g.fA f) fd ps (spF g mP n f) ∧ Binds X.K fd ps [] := by
  obtain ⟨fd, ps, FO, bo, _⟩ := C.fns f fn ef
  rw [G.P, G.w, G.K, G.mg, G.base]
  exact ⟨fd, ps, FO, bo⟩
theorem e_meth {m : String} {o : XS} {x e : Expr} {es : List Expr} {ds : Mu.Es} {apos pos : Pos} (G : GoodH g X W) (C : Calls g mP gf ml n k X) (hm : m ∈ ml) (hb : attributeBase x (nm m) X.env (eval x X.env) = eval x X.env) (hp : plainArgs (e :: es) = true) (hl : (e :: es).length < 30)
    (hpos : (apos.endLine == pos.line) = true) (ho : PE X x (tE g W (cx mP n hx) o)) (ha : PA X (e :: es) (tA g W (cx mP n hx) ds)) : PE X (.Call (.Attribute x (nm m) apos) (e :: es) [] pos) (tE g W (cx mP n hx) (.meth o m ds)) := by
  refine ⟨fun pins s σ H Q I h => ?_⟩
  obtain ⟨w, fr, rfl, hr, hfr, h⟩ := h
  rw [Mu.ev] at h
  obtain ⟨w1, fr1, e1, hr1, hf1, q1⟩ := one (rel := VR g.K) hr hfr h
  refine PySem.W.methodCall_KW (kws := []) (thn (ho.run pins s σ w.H _ I ⟨w1, fr1, e1, hr1, hf1, q1⟩) fun u s1 hh => ?_) (meth_eval hb hp hl hpos)
  obtain ⟨ov, H1, I1, rx, d, w2, e2, l2, hr2, hf2, r2, _, q2⟩ := hh
  subst e2
  cases d with
  | obj p =>
    simp only at q2
    split at q2
    · rename_i kc fs e0
      split at q2
      · rename_i hno
        obtain ⟨hno, hhas⟩ := hno
        obtain ⟨rfl, hc, dx, gs, hh, rs⟩ := VR.obj_at hr2 r2 e0
        obtain rfl : u = .ref (w2.mu p) := rx
        have hno' : gs.lookup (nm m) = none := by
          rcases rs.get (f := m) with ⟨_, z⟩ | ⟨d', v, z1, _⟩
          · exact z
          · exact absurd (hno.symm.trans z1) (by simp)
        obtain ⟨fn, ef⟩ := Option.isSome_iff_exists.mp (show (mP.fns (kc ++ "." ++ m)).isSome = true from hhas)
        have M : Meth X.K (g.cA kc) (nm m) (g.fA (kc ++ "." ++ m)) := by rw [G.K]; exact C.fx.meth kc hc m hm fn ef
        refine getmeth_ok I1 hh (by rw [G.K]; exact C.fx.cls kc hc) M hno' ?_
        obtain ⟨w3, fr3, e3, hr3, hf3, q3⟩ := oneA (rel := VR g.K) hr2 hf2 q2
        refine PySem.W.callWith_K (first := [.ref (w2.mu p)]) (h₀ := X.base) I.ok.mod.kin M.kp (thn (ha.run pos pins s1 σ w2.H _ I1 ⟨w3, fr3, e3, hr3, hf3, q3⟩) fun us s2 hh => ?_) (star_cons hp X.env).1 (star_any (star_cons hp X.env).2 X.env pos)
        obtain ⟨vs, H2, I2, r, dvs, w4, e4, l4, hr4, hf4, rv, _, q4⟩ := hh
        subst e4
        refine ⟨I2.kIn, ?_⟩
        have q4' : Aft g (VR g.K) w4 (Mu.callN mP n (kc ++ "." ++ m) (.obj p :: dvs) w4.ah) Q (fun cl d H' => W cl d σ H') := q4
        obtain ⟨fn', ef', hlen⟩ := call_there q4'
        obtain ⟨fd, ps, FO, bo⟩ := fn_at G C ef'
        have ro : VR g.K w4 (.obj p) (.ref (w2.mu p)) := VR.mono l4 _ _ r2
        exact run_fnS (us := .ref (w2.mu p) :: us) (vs := .ref (w2.mu p) :: vs) (E := WE W) FO (C.room.mono (Nat.le_succ _)) bo (passAt G.takes σ) I2 (.cons rfl r) ⟨w4, (Mu.D.obj p :: dvs), fn', rfl, hr4, ⟨_, _, rfl, ro, rv⟩, ef', hlen, q4'⟩
      · exact q2.elim
    · exact q2.elim
  | _ => exact q2.elim
theorem e_meth0 {m : String} {o : XS} {x : Expr} {apos pos : Pos} (G : GoodH g X W) (C : Calls g mP gf ml n k X) (hm : m ∈ ml) (hb : attributeBase x (nm m) X.env (eval x X.env) = eval x X.env)
    (hpos : (apos.endLine == pos.line) = true) (ho : PE X x (tE g W (cx mP n hx) o)) : PE X (.Call (.Attribute x (nm m) apos) [] [] pos) (tE g W (cx mP n hx) (.meth o m .nil)) := by
  refine ⟨fun pins s σ H Q I h => ?_⟩
  obtain ⟨w, fr, rfl, hr, hfr, h⟩ := h
  rw [Mu.ev] at h
  obtain ⟨w1, fr1, e1, hr1, hf1, q1⟩ := one (rel := VR g.K) hr hfr h
  refine PySem.W.methodCall_KW (kws := []) (thn (ho.run pins s σ w.H _ I ⟨w1, fr1, e1, hr1, hf1, q1⟩) fun u s1 hh => ?_) (meth_eval hb rfl (by decide) hpos)
  obtain ⟨ov, H1, I1, rx, d, w2, e2, l2, hr2, hf2, r2, _, q2⟩ := hh
  subst e2
  cases d with
  | obj p =>
    simp only at q2
    split at q2
    · rename_i kc fs e0
      split at q2
      · rename_i hno
        obtain ⟨hno, hhas⟩ := hno
        obtain ⟨rfl, hc, dx, gs, hh, rs⟩ := VR.obj_at hr2 r2 e0
        obtain rfl : u = .ref (w2.mu p) := rx
        have hno' : gs.lookup (nm m) = none := by
          rcases rs.get (f := m) with ⟨_, z⟩ | ⟨d', v, z1, _⟩
          · exact z
          · exact absurd (hno.symm.trans z1) (by simp)
        obtain ⟨fn, ef⟩ := Option.isSome_iff_exists.mp (show (mP.fns (kc ++ "." ++ m)).isSome = true from hhas)
        have M : Meth X.K (g.cA kc) (nm m) (g.fA (kc ++ "." ++ m)) := by rw [G.K]; exact C.fx.meth kc hc m hm fn ef
        refine getmeth_ok I1 hh (by rw [G.K]; exact C.fx.cls kc hc) M hno' ?_
        rw [Mu.evs, Mu.R.bind_ok] at q2
        have q4' : Aft g (VR g.K) w2 (Mu.callN mP n (kc ++ "." ++ m) [.obj p] w2.ah) Q (fun cl d H' => W cl d σ H') := q2
        obtain ⟨fn', ef', hlen⟩ := call_there q4'
        obtain ⟨fd, ps, FO, bo⟩ := fn_at G C ef'
        exact PySem.W.callWith_K0 (first := [.ref (w2.mu p)]) I1.kIn M.kp (run_fnS (us := [.ref (w2.mu p)]) (vs := [.ref (w2.mu p)]) (E := WE W) FO (C.room.mono (Nat.le_succ _)) bo (passAt G.takes σ) I1 (.cons rfl .nil) ⟨w2, [Mu.D.obj p], fn', rfl, hr2, ⟨_, _, rfl, r2, rfl⟩, ef', hlen, q4'⟩)
      · exact q2.elim
    · exact q2.elim
  | _ => exact q2.elim
/-- a class is called: the new object goes through its first function -/
theorem makeAt {pins : List (Addr × Obj)} {σ : L2.St} {h0 : Hp} {s : Shared} {Q : VK} {us : List Value} {vs : List V} {C a : Addr} {fd : FuncData} {ps : List Str} {sp : Sp} {CT : CXT} {E : XK} (M : Mk X.K C a)
    (F : FnOk X.prog X.w X.K X.mg X.base CT k a fd ps sp) (room : Room (k + 1) X.A) (bo : Binds X.K fd ps []) (pa : PassesAt CT X σ E) (I : Inv X pins σ h0 s) (r : Vals vs us)
    (hh : ∀ x dx, h0 x = none → h0 dx = none → dx ≠ x → sp (.ref x :: vs) (upd (upd h0 dx (.own x)) x (.ins C dx [])) (fun v h2 => v = .non ∧ Q (.ref x) h2) E) :
    wpAny (model X.prog X.w) X.A (call (.ref C) us) (EP X pins σ Q) X.xe s := by
  let n0 := s.heap.objs.size
  have told := hh (n0 + 1) n0 (I.hok.fresh (Nat.le_succ n0)) (I.hok.fresh (Nat.le_refl n0)) (Nat.ne_of_lt (Nat.lt_succ_self n0))
  have J := Inv.made (C := C) I
  have both : Vals (V.ref (n0 + 1) :: vs) (Value.ref (n0 + 1) :: us) := .cons rfl r
  have len : (Value.ref (n0 + 1) :: us).length = ps.length := both.length.symm.trans (F.len _ _ _ _ told)
  have b1 := bo _ (Value.ref (n0 + 1) :: us) J.kIn (by rw [List.append_nil]; exact len)
  rw [List.append_nil] at b1
  refine wpAny_call (make_map (f := a) I.kIn M.makes M.init (beq_iff_eq.mp M.fn) (codeAny_mono (F.run _ X.stack _ _ ⟨Value.ref (n0 + 1) :: us, []⟩ _ _ _ E (room.make C us []) (J.env0.make C us []) b1 both told) fun end_ s2 q2 => ?_))
  match end_, q2 with
  | .error e, q2 => exact pa pins _ _ e s2 J q2
  | .ok (.ret u), q2 =>
    obtain ⟨v, h3, I3, rv, e3, q3⟩ := J.after q2
    subst e3
    exact ⟨rv, V.ref (n0 + 1), h3, I3, rfl, q3⟩
  | .ok .next, q2 => exact q2.elim
  | .ok .brk, q2 => exact q2.elim
  | .ok .cont, q2 => exact q2.elim
/-- C(..) -/
theorem run_made {kc : String} {dvs : List MD} {vs : List V} {us : List Value} {pins : List (Addr × Obj)} {σ : L2.St} {w : Wd} {s : Shared} {Q : VK} (G : GoodH g X W) (C : Calls g mP gf ml n k X) (hc : kc ∈ g.cs) (I : Inv X pins σ w.H s) (r : Vals vs us) (hr : HR g w) (rv : VRs g.K w dvs vs)
    (h : Aft g (VR g.K) w ((Mu.callN mP n (kc ++ ".__init__") (.obj w.ah.length :: dvs) (w.ah ++ [.ins kc []])).bind fun d h' => match d with
      | .non => .ok (.obj w.ah.length) h'
      | _ => .bad) Q (fun cl d H' => W cl d σ H')) :
    wpAny (model X.prog X.w) X.A (call (.ref (g.cA kc)) us) (EP X pins σ Q) X.xe s := by
  have hfn : ∃ fn, mP.fns (kc ++ ".__init__") = some fn ∧ (Mu.D.obj w.ah.length :: dvs).length = fn.np := by
    cases hn : Mu.callN mP n (kc ++ ".__init__") (.obj w.ah.length :: dvs) (w.ah ++ [.ins kc []]) with
    | bad => rw [hn] at h; exact h.elim
    | ok d ah' =>
      exact call_there (g := g) (Q := fun _ _ => True) (E := fun _ _ _ => True) (w := w) (by rw [hn]; exact fun _ _ _ _ _ _ => trivial)
    | ex x ah' =>
      exact call_there (g := g) (Q := fun _ _ => True) (E := fun _ _ _ => True) (w := w) (by rw [hn]; exact fun _ _ _ _ _ _ _ => trivial)
  obtain ⟨fn, ef, hlen⟩ := hfn
  obtain ⟨fd, ps, FO, bo⟩ := fn_at G C ef
  have M : Mk X.K (g.cA kc) (g.fA (kc ++ ".__init__")) := by rw [G.K]; exact (C.fx.made kc hc).2
  refine makeAt M FO C.room bo (passAt G.takes σ) I r fun x dx hx hdx hne => ?_
  have old : ∀ a u, w.H a = some u → (upd (upd w.H dx (.own x)) x (.ins (g.cA kc) dx [])) a = some u := fun a u e => by
    rw [upd_ne (ne_of_none e hx), upd_ne (ne_of_none e hdx)]; exact e
  have hr' := hr.new (o := .ins kc []) hx old ⟨hc, dx, [], upd_same, rfl⟩
  have l' := Le.new w x (.ins kc []) hx old
  refine ⟨_, (Mu.D.obj w.ah.length :: dvs), fn, rfl, hr', ⟨.ref x, vs, rfl, ⟨by simp [Wd.new], by simp [Wd.new]⟩, VRs.mono l' _ _ rv⟩, ef, hlen, ?_⟩
  have h2 := Aft.later h l'
  refine (Aft.cut h2).imp fun v H1 hh => ?_
  obtain ⟨d, w1, e1, l1, hr1, rd, _, q1⟩ := hh
  subst e1
  cases d with
  | non =>
    refine ⟨rd, q1 _ w1 rfl .refl hr1 ?_⟩
    have lt : w.ah.length < w1.ah.length := Nat.lt_of_lt_of_le (by simp [Wd.new]) l1.n
    exact ⟨lt, by rw [l1.m _ (by simp [Wd.new])]; simp [Wd.new]⟩
  | _ => exact q1.elim
end
end Ad
end

section
set_option Elab.async false
set_option linter.all false
set_option maxRecDepth 100000
set_option maxHeartbeats 4000000
namespace PySem
open Sem (wp)
open PySem.W PyProof.Rows
/-- max of two: the pair is walked, its items compared as data -/
theorem ad_max_two {prog : Program} {w : World} {A : Around} {E : Value → Shared → Prop} {s : Shared} {a b : Value} {x y : PyData} {as : List Addr} {Q : Value → Shared → Prop} (hh : A.handled = none) (hr : ReadsAll s.heap [a, b] [x, y] as) (ha : AlikeAll [x, y]) (hu : A.units + 1 + PyData.depthAll [x, y] < cLine)
    (h : ∀ h' tk, (∀ c o, s.heap.get? c = some o → h'.get? c = some o) → Q (if dataLt x y then b else a) { s with heap := h', toks := tk }) :
    wpAny (model prog w) A (call (.builtin "max") [a, b]) Q E s := by
  have hname : (toString "max" ++ toString ".loop" : String) = "max.loop" := by decide
  refine call_function_tree F.kind_max F.plain_max F.entry_max (F.args_max2 _ _) ?_
  show wpAny _ A.in1 (Builtin.Builtins.bindParams "max" ["key", "default"] 0 ⟨[], []⟩ >>= _) _ _ s
  refine wpAny_bind (wpAny_of_eq (show Builtin.Builtins.bindParams "max" ["key", "default"] 0 ⟨[], []⟩ = pure [none, none] from rfl) ?_)
  show wpAny _ A.in1 (newTuple [a, b] >>= _) _ _ s
  refine wpAny_bind (wpAny_newObj_type ?_)
  have hT : (s.heap.push { cls := .type "tuple", data := .seq #[a, b] }).IsTuple s.heap.objs.size #[a, b] := ⟨_, Heap.get?_push_size _ rfl, rfl, 0, rfl⟩
  have hr1 : ReadsAll (s.heap.push { cls := .type "tuple", data := .seq #[a, b] }) [a, b] [x, y] as := ReadsAll.keeps (fun c o e => Heap.get?_push_of_some _ e) hr
  refine wpAny_bind (iter_tupleW (A := A.in1) (s := { s with heap := s.heap.push { cls := .type "tuple", data := .seq #[a, b] } }) hh hT fun s₂ e W st hfp hw hk => ?_)
  refine wpAny_bind (wpAny_newObj_type ?_)
  rw [hname]
  refine wpAny_pure ⟨plainId_quiet F.plain_max_loop _, codeAny_max_loop_firstH W _ hw _ (cmpIn_gt (A := A.in1) (s := { s with heap := s.heap.push { cls := .type "tuple", data := .seq #[a, b] } }) (vs := #[a, b]) hr1 ha (by show A.units + 1 + _ < _; exact hu)) s₂.heap.objs.size (fun hm => Nat.lt_irrefl _ (hfp _ hm)) (fresh_in hk) _ (by simp) (fun b o e => Heap.get?_push_of_some _ (hk b o e)) (W.frame 0 s₂ _ s₂.toks st (Nat.le_refl _) fun b _ o e => Heap.get?_push_of_some _ e) (Heap.get?_push_size _ rfl) fun v s' hP hm => ?_⟩
  have m := Moved.drop_new (tk := s₂.toks) hm (Nat.le_refl _)
  obtain ⟨h', tk, rfl, hk'⟩ := moved_old e rfl m
  have hv : v = if dataLt x y then b else a := by
    cases hc : dataLt x y <;> simp [argBest, hc] at hP <;> simp [hP]
  rw [hv]
  exact h h' tk fun c o eo => hk' c o (Heap.get?_push_of_some _ eo)
end PySem
namespace Ad
open PySem PySem.Spec PyProof.Rows L2 PySem.W PySem.NumText
def rBlt (g : Gc) (f : Mu.Bf) : List V → Hp → VK → Prop := fun vs H Q => ∃ ds w E, w.H = H ∧ HR g w ∧ VRs g.K w ds vs ∧ Aft g (VR g.K) w (Mu.bltR f w.ah ds) Q E
section
variable {g : Gc} {X : Cx} {W : WX}
theorem newL_of {w : Wd} {ds : List MD} {vs : List V} {Q : V → Hp → Prop} {E : XK} (hr : HR g w) (h : Aft g (VR g.K) w (Mu.newL w.ah ds) Q E) (r : VRs g.K w ds vs) : ∀ p, w.H p = none → Q (.ref p) (upd w.H p (.lst vs)) :=
  Aft.made hr h fun p hp => ⟨vs, upd_same, VRs.mono (Le.newU hp) _ _ r⟩
theorem b_len (G : Good g X W) : CallR X (.builtin "len") (rBlt g .len) := by
  intro pins s σ H vs us Q I rv h
  obtain ⟨ds, w, E, rfl, hr, r, h⟩ := h
  have h : Aft g (VR g.K) w (Mu.lenR w.ah ds) Q E := h
  unfold Mu.lenR at h
  split at h
  · obtain ⟨v, rfl, o, rfl⟩ := r.one
    exact call_len_str pins s σ w.H _ us Q I rv ⟨_, rfl, by rw [toS_len]; exact o.1, by rw [toS_len]; exact h _ w rfl .refl hr rfl⟩
  · obtain ⟨v, rfl, a, xs, rfl, t, rs⟩ := r.one
    exact call_len_seq pins s σ w.H _ us Q I rv ⟨a, xs, rfl, .inr (by rw [G.K]; exact t), by rw [← rs.length]; exact h _ w rfl .refl hr rfl⟩
  · obtain ⟨v, rfl, a, xs, rfl, t, rs⟩ := r.one
    exact call_len_seq pins s σ w.H _ us Q I rv ⟨a, xs, rfl, .inl (by rw [G.K]; exact t.sq), by rw [← rs.length]; exact h _ w rfl .refl hr rfl⟩
  · obtain ⟨v, rfl, q⟩ := r.one
    split at h
    · rename_i e0
      obtain ⟨rfl, xs, t, rs⟩ := VR.obj_at hr q e0
      exact call_len_seq pins s σ w.H _ us Q I rv ⟨_, xs, rfl, .inl (.of t), by rw [← rs.length]; exact h _ w rfl .refl hr rfl⟩
    · rename_i e0
      obtain ⟨rfl, nd, ks, hd, rel⟩ := VR.obj_at hr q e0
      obtain ⟨u, rfl, ru⟩ := vals1 rv
      cases ru
      exact d_len I (.inl hd) fun t s' I' => ⟨.int ks.length, _, I', ⟨t, rfl⟩, by rw [← rel.length]; exact h _ w rfl .refl hr rfl⟩
    · exact h.elim
  · exact h.elim
theorem allDigits_of {s : List Nat} (h : s.all Mu.isDig = true) : AllDigits s := fun c hc => by
  have := List.all_eq_true.mp h c hc
  simpa [Mu.isDig] using this
theorem textInt_of {s : List Nat} {n : Int} (h : Mu.textInt s = some n) : PySem.intText? (toS s) = some n ∧ (toS s).length ≤ 640 := by
  unfold Mu.textInt at h
  split at h
  · cases h
  · rename_i c r
    split at h
    · rename_i hc
      split at h
      · rename_i hz
        obtain ⟨h1, h2, h3⟩ := hz
        cases h
        subst hc
        have hl : (toS (45 :: r)).length ≤ 640 := by rw [toS_len, List.length_cons]; exact Nat.le_trans (Nat.succ_le_succ h3) (by decide)
        exact ⟨intText_neg (cs := r) (toS_list _) (allDigits_of h2) h1 (by omega), hl⟩
      · cases h
    · split at h
      · rename_i hz
        obtain ⟨h2, h3⟩ := hz
        cases h
        have hl : (toS (c :: r)).length ≤ 640 := by rw [toS_len, List.length_cons]; exact Nat.le_trans (Nat.succ_le_succ h3) (by decide)
        have e := intText_digits (x := toS (c :: r)) (by rw [toS_list]; exact allDigits_of h2) (by rw [toS_list]; simp) (by omega)
        rw [toS_list] at e
        exact ⟨e, hl⟩
      · cases h
theorem b_int (G : Good g X W) : CallR X (.type "int") (rBlt g .int) := by
  intro pins s σ H vs us Q I rv h
  obtain ⟨ds, w, E, rfl, hr, r, h⟩ := h
  have h : Aft g (VR g.K) w (Mu.intR w.ah ds) Q E := h
  unfold Mu.intR at h
  split at h
  · obtain ⟨v, rfl, q⟩ := r.one
    obtain rfl : v = .int _ := q
    exact call_int1 pins s σ w.H _ us Q I rv (.inl ⟨_, rfl, h _ w rfl .refl hr rfl⟩)
  · obtain ⟨v, rfl, q⟩ := r.one
    obtain rfl : v = .bl _ := q
    exact call_int1 pins s σ w.H _ us Q I rv (.inr ⟨_, rfl, h _ w rfl .refl hr rfl⟩)
  · obtain ⟨v, rfl, o, rfl⟩ := r.one
    obtain ⟨d, e, h⟩ := h.opt
    obtain ⟨n, e1, rfl⟩ := Option.map_eq_some_iff.mp e
    obtain ⟨h1, h2⟩ := textInt_of e1
    exact call_int_str pins s σ w.H _ us Q I rv ⟨_, n, rfl, h1, h2, h _ w rfl .refl hr rfl⟩
  · exact h.elim
theorem log_small {n : Nat} (h : n < 10 ^ 100) : n.log2 < 1920 := by
  by_cases e : n = 0
  · subst e; decide
  · have h1 : 2 ^ n.log2 ≤ n := Nat.log2_self_le e
    have h2 : (10 : Nat) ^ 100 < 2 ^ 400 := by decide +kernel
    have h3 : 2 ^ n.log2 < 2 ^ 400 := Nat.lt_trans (Nat.lt_of_le_of_lt h1 h) h2
    have := (Nat.pow_lt_pow_iff_right (by decide : 1 < 2)).mp h3
    omega
theorem cp_nat (n : Nat) : Mu.cp (toString n) = Mu.natDigits n := by
  show Mu.cp (Nat.repr n) = _
  unfold Mu.cp Mu.natDigits Nat.repr
  simp
theorem cp_int (i : Int) : Mu.cp (toString i) = Mu.intText i := by
  cases i with
  | ofNat n =>
    have e : toString (Int.ofNat n) = toString n := rfl
    rw [e, cp_nat]
    have : ¬ (Int.ofNat n < 0) := by simp
    unfold Mu.intText
    rw [if_neg this]; rfl
  | negSucc n =>
    have e : toString (Int.negSucc n) = "-" ++ toString (n + 1) := rfl
    have : Int.negSucc n < 0 := Int.negSucc_lt_zero n
    unfold Mu.intText
    rw [if_pos this, e]
    have : Mu.cp ("-" ++ toString (n + 1)) = 45 :: Mu.cp (toString (n + 1)) := by
      unfold Mu.cp; simp
    rw [this, cp_nat]; rfl
theorem str_int {i : Int} (h : i.natAbs < 10 ^ 100) : (Str.ofString (toString i)) = toS (Mu.intText i) ∧ StrOk (Mu.intText i) := by
  have e : Str.ofString (toString i) = toS (Mu.intText i) := by rw [← cp_int]; exact nm_cp _
  refine ⟨e, ?_, ?_⟩
  · have := int_text_fits (log_small h)
    have e2 := congrArg Str.length e
    rw [toS_len] at e2
    rw [← e2]; exact this
  · rw [← cp_int]; exact cp_ok _
theorem b_str (G : Good g X W) : CallR X (.type "str") (rBlt g .str) := by
  intro pins s σ H vs us Q I rv h
  obtain ⟨ds, w, E, rfl, hr, r, h⟩ := h
  have h : Aft g (VR g.K) w (Mu.strR w.ah ds) Q E := h
  unfold Mu.strR at h
  split at h
  · obtain ⟨v, rfl, q⟩ := r.one
    obtain rfl : v = .int _ := q
    split at h
    · rename_i i hz
      obtain ⟨e, ok⟩ := str_int hz
      exact call_str_int pins s σ w.H _ us Q I rv ⟨_, rfl, log_small hz, h _ w rfl .refl hr ⟨ok, by rw [← e]⟩⟩
    · exact h.elim
  · exact h.elim
theorem b_abs (G : Good g X W) : CallR X (.builtin "abs") (rBlt g .abs) := by
  intro pins s σ H vs us Q I rv h
  obtain ⟨ds, w, E, rfl, hr, r, h⟩ := h
  have h : Aft g (VR g.K) w (Mu.absR w.ah ds) Q E := h
  unfold Mu.absR at h
  split at h
  · obtain ⟨v, rfl, q⟩ := r.one
    obtain rfl : v = .int _ := q
    exact call_abs pins s σ w.H _ us Q I rv ⟨_, rfl, h _ w rfl .refl hr rfl⟩
  · exact h.elim
theorem ints_of {w : Wd} : ∀ {ds : List MD} {is : List Int} {vs : List V}, Mu.allInt ds = some is → VRs g.K w ds vs → vs = is.map V.int
  | [], is, vs, h, r => by
    cases h
    obtain rfl : vs = [] := r
    rfl
  | d :: ds, is, vs, h, r => by
    cases d with
    | int i =>
      obtain ⟨js, e, rfl⟩ := Option.map_eq_some_iff.mp h
      obtain ⟨v, t, rfl, q, r2⟩ := r
      obtain rfl : v = .int i := q
      rw [ints_of e r2]; rfl
    | _ => cases h
theorem bls_of {w : Wd} : ∀ {ds : List MD} {is : List Bool} {vs : List V}, Mu.allBl ds = some is → VRs g.K w ds vs → vs = is.map V.bl
  | [], is, vs, h, r => by
    cases h
    obtain rfl : vs = [] := r
    rfl
  | d :: ds, is, vs, h, r => by
    cases d with
    | bl i =>
      obtain ⟨js, e, rfl⟩ := Option.map_eq_some_iff.mp h
      obtain ⟨v, t, rfl, q, r2⟩ := r
      obtain rfl : v = .bl i := q
      rw [bls_of e r2]; rfl
    | _ => cases h
theorem strs_of {w : Wd} : ∀ {ds : List MD} {is : List (List Nat)} {vs : List V}, Mu.allStr ds = some is → VRs g.K w ds vs → vs = (is.map toS).map V.str ∧ ∀ s ∈ is, StrOk s
  | [], is, vs, h, r => by
    cases h
    obtain rfl : vs = [] := r
    exact ⟨rfl, fun _ m => nomatch m⟩
  | d :: ds, is, vs, h, r => by
    cases d with
    | str i =>
      obtain ⟨js, e, rfl⟩ := Option.map_eq_some_iff.mp h
      obtain ⟨v, t, rfl, ⟨o, q⟩, r2⟩ := r
      obtain rfl : v = .str _ := q
      obtain ⟨e2, o2⟩ := strs_of e r2
      refine ⟨by rw [e2]; rfl, fun s m => ?_⟩
      rcases List.mem_cons.mp m with rfl | m
      · exact o
      · exact o2 s m
    | _ => cases h
theorem maxF_le : ∀ (r : List Int) (a : Int), (r.foldl (fun m x => if m < x then x else m) a = a ∨ r.foldl (fun m x => if m < x then x else m) a ∈ r) ∧ a ≤ r.foldl (fun m x => if m < x then x else m) a ∧ ∀ x ∈ r, x ≤ r.foldl (fun m x => if m < x then x else m) a
  | [], a => ⟨.inl rfl, Int.le_refl _, fun _ m => nomatch m⟩
  | b :: r, a => by
    obtain ⟨h1, h2, h3⟩ := maxF_le r (if a < b then b else a)
    rw [List.foldl_cons]
    generalize List.foldl (fun m x => if m < x then x else m) (if a < b then b else a) r = M at h1 h2 h3
    split at h1 <;> rename_i hab <;> simp only [hab, if_true, if_false] at h2
    · refine ⟨.inr ?_, by omega, fun x m => ?_⟩
      · rcases h1 with e | e
        · rw [e]; simp
        · simp [e]
      · rcases List.mem_cons.mp m with rfl | m
        · exact h2
        · exact h3 x m
    · refine ⟨?_, by omega, fun x m => ?_⟩
      · rcases h1 with e | e
        · exact .inl e
        · exact .inr (by simp [e])
      · rcases List.mem_cons.mp m with rfl | m
        · omega
        · exact h3 x m
theorem all2_left {f : MD → MD → Bool} (ih : ∀ a b, f a b = true → f a a = true) : ∀ x y : List MD, Mu.all2 f x y = true → Mu.all2 f x x = true
  | [], _, _ => rfl
  | a :: x, [], h => by simp [Mu.all2] at h
  | a :: x, b :: y, h => by
    simp only [Mu.all2, Bool.and_eq_true] at h ⊢
    exact ⟨ih a b h.1, all2_left ih x y h.2⟩
theorem alike_left : ∀ (n : Nat) (a b : MD), Mu.alikeN n a b = true → Mu.alikeN n a a = true
  | 0, a, b, h => by cases a <;> cases b <;> simp_all [Mu.alikeN]
  | n + 1, a, b, h => by
    cases a <;> cases b <;> simp [Mu.alikeN] at h ⊢
    exact all2_left (alike_left n) _ _ h
theorem b_max (G : Good g X W) : CallR X (.builtin "max") (rBlt g .max) := by
  intro pins s σ H vs us Q I rv h
  obtain ⟨ds, w, E, rfl, hr, r, h⟩ := h
  have h : Aft g (VR g.K) w (Mu.maxR w.ah ds) Q E := h
  unfold Mu.maxR at h
  split at h
  · obtain ⟨v, u, rfl, q1, q2⟩ := r.two
    obtain rfl : v = .int _ := q1
    obtain rfl : u = .int _ := q2
    exact call_max2 G.calm pins s σ w.H _ us Q I rv ⟨_, _, rfl, h _ w rfl .refl hr rfl⟩
  · obtain ⟨v, rfl, q⟩ := r.one
    split at h
    · rename_i ds' e0
      obtain ⟨rfl, xs, t, rs⟩ := VR.obj_at hr q e0
      obtain ⟨d, e, h⟩ := h.opt
      obtain ⟨m, e1, rfl⟩ := Option.map_eq_some_iff.mp e
      obtain ⟨is, e2, e3⟩ := Option.bind_eq_some_iff.mp e1
      have ex := ints_of e2 rs
      subst ex
      cases is with
      | nil => cases e3
      | cons a r =>
        cases e3
        obtain ⟨m1, m2, m3⟩ := maxF_le r a
        refine cr_max G.calm pins s σ w.H _ us Q I rv ⟨_, a :: r, rfl, .of t, by simp, fun m hm hle => ?_⟩
        have e4 : m = r.foldl (fun m x => if m < x then x else m) a := by
          have l1 : m ≤ r.foldl (fun m x => if m < x then x else m) a := by
            rcases List.mem_cons.mp hm with rfl | hm
            · exact m2
            · exact m3 m hm
          have l2 : r.foldl (fun m x => if m < x then x else m) a ≤ m := hle _ (by rcases m1 with e | e; rw [e]; simp; simp [e])
          omega
        rw [e4]
        exact h _ w rfl .refl hr rfl
    · exact h.elim
  · split at h
    · rename_i x y _ hal
      obtain ⟨v, u, rfl, q1, q2⟩ := r.two
      obtain ⟨u1, u2, rfl, r1, r2⟩ := vals2 rv
      have o := ord_of hr hal q1 q2
      obtain ⟨as1, d1⟩ := Dp.reads I _ v _ (by rw [G.K]; exact o.t1.dp) r1
      obtain ⟨as2, d2⟩ := Dp.reads I _ u _ (by rw [G.K]; exact o.t2.dp) r2
      have ne2 : pdOf (.tup y) ≠ .none := by simp [pdOf]
      have hu : X.A.units + 200 < cLine := G.un
      refine PySem.ad_max_two (x := pdOf (.tup x)) (y := pdOf (.tup y)) (I.ok.hd G.calm) (.cons d1 (.cons d2 .nil)) ⟨?_, ?_⟩ ?_ fun h' tk k => ?_
      · have a2 : Mu.alikeN 8 (.tup y) (.tup x) = true := by rw [alike_comm]; exact hal
        intro z hz z' hz'
        simp only [List.mem_cons, List.not_mem_nil, or_false] at hz hz'
        rcases hz with rfl | rfl <;> rcases hz' with rfl | rfl
        · exact (alike_pd 8 _ _ (alike_left 8 _ _ hal)).1
        · exact o.al
        · exact (alike_pd 8 _ _ a2).1
        · exact (alike_pd 8 _ _ (alike_left 8 _ _ a2)).1
      · intro z hz
        simp only [List.mem_cons, List.not_mem_nil, or_false] at hz
        rcases hz with rfl | rfl
        · exact o.ne
        · exact ne2
      · have t1 := o.t1.dep
        have t2 := o.t2.dep
        have : PyData.depthAll [pdOf (.tup x), pdOf (.tup y)] ≤ 8 := by simp only [PyData.depthAll]; omega
        omega
      · rw [o.lt]
        cases hb : Mu.ltB (.tup x) (.tup y) with
        | true => rw [hb] at h; exact ⟨_, w.H, I.kept k, r2, h _ w rfl .refl hr q2⟩
        | false => rw [hb] at h; exact ⟨_, w.H, I.kept k, r1, h _ w rfl .refl hr q1⟩
    · exact h.elim
  · exact h.elim
theorem b_min (G : Good g X W) : CallR X (.builtin "min") (rBlt g .min) := by
  intro pins s σ H vs us Q I rv h
  obtain ⟨ds, w, E, rfl, hr, r, h⟩ := h
  have h : Aft g (VR g.K) w (Mu.minR w.ah ds) Q E := h
  unfold Mu.minR at h
  split at h
  · obtain ⟨v, u, rfl, q1, q2⟩ := r.two
    obtain rfl : v = .int _ := q1
    obtain rfl : u = .int _ := q2
    exact call_min2 G.calm pins s σ w.H _ us Q I rv ⟨_, _, rfl, h _ w rfl .refl hr rfl⟩
  · exact h.elim
theorem b_ord (G : Good g X W) : CallR X (.builtin "ord") (rBlt g .ord) := by
  intro pins s σ H vs us Q I rv h
  obtain ⟨ds, w, E, rfl, hr, r, h⟩ := h
  have h : Aft g (VR g.K) w (Mu.ordR w.ah ds) Q E := h
  unfold Mu.ordR at h
  split at h
  · obtain ⟨v, rfl, o, rfl⟩ := r.one
    exact call_ord pins s σ w.H _ us Q I rv ⟨_, rfl, by rw [toS_len]; rfl, h _ w rfl .refl hr rfl⟩
  · exact h.elim
theorem b_sum (G : Good g X W) : CallR X (.builtin "sum") (rBlt g .sum) := by
  intro pins s σ H vs us Q I rv h
  obtain ⟨ds, w, E, rfl, hr, r, h⟩ := h
  have h : Aft g (VR g.K) w (Mu.sumR w.ah ds) Q E := h
  unfold Mu.sumR at h
  split at h
  · obtain ⟨v, rfl, q⟩ := r.one
    split at h
    · rename_i ds' e0
      obtain ⟨rfl, xs, t, rs⟩ := VR.obj_at hr q e0
      obtain ⟨d, e, h⟩ := h.opt
      obtain ⟨is, e1, rfl⟩ := Option.map_eq_some_iff.mp e
      have ex := ints_of e1 rs
      subst ex
      exact cr_sum G.calm pins s σ w.H _ us Q I rv ⟨_, is, rfl, .of t, h _ w rfl .refl hr rfl⟩
    · exact h.elim
  · exact h.elim
theorem b_all (G : Good g X W) : CallR X (.builtin "all") (rBlt g .all) := by
  intro pins s σ H vs us Q I rv h
  obtain ⟨ds, w, E, rfl, hr, r, h⟩ := h
  have h : Aft g (VR g.K) w (Mu.allR w.ah ds) Q E := h
  unfold Mu.allR at h
  split at h
  · obtain ⟨v, rfl, q⟩ := r.one
    split at h
    · rename_i ds' e0
      obtain ⟨rfl, xs, t, rs⟩ := VR.obj_at hr q e0
      obtain ⟨d, e, h⟩ := h.opt
      obtain ⟨is, e1, rfl⟩ := Option.map_eq_some_iff.mp e
      have ex := bls_of e1 rs
      subst ex
      exact cr_all G.calm pins s σ w.H _ us Q I rv ⟨_, is, rfl, .of t, h _ w rfl .refl hr rfl⟩
    · exact h.elim
  · exact h.elim
theorem b_any (G : Good g X W) : CallR X (.builtin "any") (rBlt g .any) := by
  intro pins s σ H vs us Q I rv h
  obtain ⟨ds, w, E, rfl, hr, r, h⟩ := h
  have h : Aft g (VR g.K) w (Mu.anyR w.ah ds) Q E := h
  unfold Mu.anyR at h
  split at h
  · obtain ⟨v, rfl, q⟩ := r.one
    split at h
    · rename_i ds' e0
      obtain ⟨rfl, xs, t, rs⟩ := VR.obj_at hr q e0
      obtain ⟨d, e, h⟩ := h.opt
      obtain ⟨is, e1, rfl⟩ := Option.map_eq_some_iff.mp e
      have ex := bls_of e1 rs
      subst ex
      exact cr_any G.calm pins s σ w.H _ us Q I rv ⟨_, is, rfl, .of t, h _ w rfl .refl hr rfl⟩
    · exact h.elim
  · exact h.elim
theorem b_tuple (G : Good g X W) : CallR X (.type "tuple") (rBlt g .tuple) := by
  intro pins s σ H vs us Q I rv h
  obtain ⟨ds, w, E, rfl, hr, r, h⟩ := h
  have h : Aft g (VR g.K) w (Mu.tupR w.ah ds) Q E := h
  unfold Mu.tupR at h
  split at h
  · obtain ⟨v, rfl, q⟩ := r.one
    obtain ⟨a, xs, rfl, t, rs⟩ := id q
    exact call_tupleT pins s σ w.H _ us Q I rv ⟨a, xs, rfl, by rw [G.K]; exact t, h _ w rfl .refl hr q⟩
  · obtain ⟨v, rfl, a, xs, rfl, t, rs⟩ := r.one
    exact call_tuple_of pins s σ w.H _ us Q I rv ⟨a, xs, rfl, .inl ⟨by rw [G.K]; exact t.sq, Aft.madeT hr h rs⟩⟩
  · obtain ⟨v, rfl, q⟩ := r.one
    split at h
    · rename_i ds' e0
      obtain ⟨rfl, xs, t, rs⟩ := VR.obj_at hr q e0
      exact call_tuple_of pins s σ w.H _ us Q I rv ⟨_, xs, rfl, .inl ⟨.of t, Aft.madeT hr h rs⟩⟩
    · exact h.elim
  · exact h.elim
theorem b_list (G : Good g X W) : CallR X (.type "list") (rBlt g .list) := by
  intro pins s σ H vs us Q I rv h
  obtain ⟨ds, w, E, rfl, hr, r, h⟩ := h
  have h : Aft g (VR g.K) w (Mu.listR w.ah ds) Q E := h
  unfold Mu.listR at h
  split at h
  · obtain ⟨v, rfl, a, xs, rfl, t, rs⟩ := r.one
    exact call_list_of pins s σ w.H _ us Q I rv ⟨a, xs, rfl, .inr (by rw [G.K]; exact t), newL_of hr h rs⟩
  · obtain ⟨v, rfl, a, xs, rfl, t, rs⟩ := r.one
    exact call_list_of pins s σ w.H _ us Q I rv ⟨a, xs, rfl, .inl (by rw [G.K]; exact t.sq), newL_of hr h rs⟩
  · obtain ⟨v, rfl, q⟩ := r.one
    split at h
    · rename_i ds' e0
      obtain ⟨rfl, xs, t, rs⟩ := VR.obj_at hr q e0
      exact call_list_of pins s σ w.H _ us Q I rv ⟨_, xs, rfl, .inl (.of t), newL_of hr h rs⟩
    · rename_i kvs e0
      obtain ⟨rfl, nd, ks, hd, rel⟩ := VR.obj_at hr q e0
      refine call_list_dK G.calm pins s σ w.H _ us Q I rv ⟨_, ks, rfl, hd, newL_of hr h rel.keyVals⟩
    · exact h.elim
  · exact h.elim
/-! ### sorted -/
/-- what an item stands for -/
def Stands (g : Gc) (w : Wd) (u : Value) (d : MD) : Prop := ∃ v, RelV v u ∧ VR g.K w d v
theorem stands_each {w : Wd} : ∀ {ds : List MD} {vs : List V} {us : List Value}, VRs g.K w ds vs → Vals vs us → EachIs (Stands g w) us ds
  | [], _, _, r, q => by
    obtain rfl : _ = [] := r
    cases q; exact .nil
  | d :: ds, _, _, r, q => by
    obtain ⟨v, t, rfl, r1, r2⟩ := r
    cases q with
    | cons q1 q2 => exact .cons ⟨v, q1, r1⟩ (stands_each r2 q2)
theorem each_stands {w : Wd} : ∀ {ds : List MD} {us : List Value}, EachIs (Stands g w) us ds → ∃ vs, Vals vs us ∧ VRs g.K w ds vs
  | _, _, .nil => ⟨[], .nil, rfl⟩
  | _, _, .cons ⟨v, q1, r1⟩ t => by
    obtain ⟨vs, q2, r2⟩ := each_stands t
    exact ⟨v :: vs, .cons q1 q2, ⟨v, vs, rfl, r1, r2⟩⟩
theorem sort_alike {ds es : List MD} (h : Mu.sortD ds = some es) : es = ds.mergeSort Mu.leD ∧ (∀ a ∈ ds, ∀ b ∈ ds, Mu.alike a b = true) ∧ ∀ d ∈ ds, d ≠ .tup [] := by
  unfold Mu.sortD at h
  split at h
  · cases h; exact ⟨by simp, by simp, by simp⟩
  · cases h
  · rename_i d r hne
    split at h
    · rename_i hal
      have e := Option.some.inj h
      have hal' : ∀ a ∈ d :: r, ∀ b ∈ d :: r, Mu.alike a b = true := fun a ha b hb => List.all_eq_true.mp (List.all_eq_true.mp hal a ha) b hb
      refine ⟨e.symm, hal', fun x hx e => ?_⟩
      subst e
      have a1 := hal' d (by simp) _ hx
      cases d with
      | tup ds =>
        cases ds with
        | nil => first | exact hne.elim | exact (hne rfl).elim | exact (hne _ rfl).elim | exact (hne _).elim
        | cons a b => simp [Mu.alike, Mu.alikeN, Mu.all2] at a1
      | _ => simp [Mu.alike, Mu.alikeN] at a1
    · cases h
theorem pdAll_alike {ds : List MD} (h : ∀ a ∈ ds, ∀ b ∈ ds, Mu.alike a b = true) : AllAlike (ds.map pdOf) := fun d hd e he => by
  obtain ⟨a, ha, rfl⟩ := List.mem_map.mp hd
  obtain ⟨b, hb, rfl⟩ := List.mem_map.mp he
  exact (alike_pd 8 a b (h a ha b hb)).1
theorem pd_sortable {ds : List MD} (h : ∀ a ∈ ds, ∀ b ∈ ds, Mu.alike a b = true) (hn : ∀ d ∈ ds, d ≠ .tup []) : Sortable (ds.map pdOf) := by
  cases ds with
  | nil => exact .inl fun _ m => nomatch m
  | cons d r =>
    have key : ∀ x ∈ d :: r, Mu.alike d x = true := h d (by simp)
    cases d with
    | tup ts =>
      left
      intro e he
      obtain ⟨x, hx, rfl⟩ := List.mem_map.mp he
      have a1 := key x hx
      have a2 := hn x hx
      cases x with
      | tup xs =>
        cases xs with
        | nil => exact absurd rfl a2
        | cons y ys => exact ⟨pdOf y, pdsOf ys, by simp [pdOf, pdsOf]⟩
      | _ => simp [Mu.alike, Mu.alikeN] at a1
    | int i =>
      right
      intro e he
      obtain ⟨x, hx, rfl⟩ := List.mem_map.mp he
      have a1 := key x hx
      cases x <;> first | (simp [Mu.alike, Mu.alikeN] at a1; done) | (simp [pdOf]; done)
    | str i =>
      right
      intro e he
      obtain ⟨x, hx, rfl⟩ := List.mem_map.mp he
      have a1 := key x hx
      cases x <;> first | (simp [Mu.alike, Mu.alikeN] at a1; done) | (simp [pdOf]; done)
    | _ =>
      have a1 := key _ (List.mem_cons_self ..)
      simp [Mu.alike, Mu.alikeN] at a1
theorem sort_le {ds : List MD} (h : ∀ a ∈ ds, ∀ b ∈ ds, Mu.alike a b = true) : ds.mergeSort (dataLe false pdOf) = ds.mergeSort Mu.leD := by
  have := List.map_mergeSort (r := dataLe false pdOf) (s := Mu.leD) (f := id) (l := ds) (fun a ha b hb => by
    rw [dataLe_eq]
    show (!PySem.W.dataLt (pdOf b) (pdOf a)) = !Mu.ltB b a
    rw [(alike_pd 8 b a (h b hb a ha)).2.1])
  simpa using this
theorem pd_depth {ds : List MD} (h : ∀ a ∈ ds, ∀ b ∈ ds, Mu.alike a b = true) {w : Wd} (hr : HR g w) {vs : List V} (r : VRs g.K w ds vs) : ∀ d ∈ ds, (pdOf d).depth ≤ 8 := fun d hd => by
  obtain ⟨i, hi, e⟩ := List.mem_iff_getElem.mp hd
  obtain ⟨v, _, q⟩ := r.get (i := i) (d := d) (by rw [← e]; exact List.getElem?_eq_getElem hi)
  exact (ord_of hr (h d hd d hd) q q).t1.dep
theorem reads_each {w : Wd} {pins : List (Addr × Obj)} {σ : L2.St} {s : Shared} (G : Good g X W) (hr : HR g w) (I : Inv X pins σ w.H s) {ds : List MD} (h : ∀ a ∈ ds, ∀ b ∈ ds, Mu.alike a b = true) : ∀ {es : List MD} {vs : List V} {us : List Value}, (∀ e ∈ es, e ∈ ds) → VRs g.K w es vs → Vals vs us → EachIs (fun v b => ∃ as, Reads s.heap v (pdOf b) as) us es
  | [], _, _, _, r, q => by
    obtain rfl : _ = [] := r
    cases q; exact .nil
  | d :: es, _, _, m, r, q => by
    obtain ⟨v, t, rfl, r1, r2⟩ := r
    cases q with
    | cons q1 q2 =>
      have hd := m d (by simp)
      have o := ord_of hr (h d hd d hd) r1 r1
      exact .cons (Dp.reads I _ v _ (by rw [G.K]; exact o.t1.dp) q1) (reads_each G hr I h (fun e me => m e (by simp [me])) r2 q2)
theorem sort_list (G : Good g X W) {pins : List (Addr × Obj)} {σ : L2.St} {s : Shared} {w : Wd} {l : Addr} {ds es : List MD} {vs : List V} {Q : V → Hp → Prop} {E : XK} (I : Inv X pins σ w.H s) (hr : HR g w) (hl : SqL X.K w.H l vs) (r : VRs g.K w ds vs) (e : Mu.sortD ds = some es) (h : Aft g (VR g.K) w (Mu.newL w.ah es) Q E) :
    wpAny (model X.prog X.w) X.A (call (.builtin "sorted") [.ref l]) (EP X pins σ Q) X.xe s := by
  obtain ⟨rfl, hal, hne⟩ := sort_alike e
  obtain ⟨its, rv, pl, hz⟩ := I.list hl
  have hlen : ds.length = its.length := r.length.trans rv.length
  have hL : ds.length ≤ sizeLine := by rw [r.length]; exact hz
  have hu : X.A.units + 200 < cLine := G.un
  refine sorted_data (enc := pdOf) (R := Stands g w) pl.isList (stands_each r rv) (reads_each G hr I hal (fun _ m => m) r rv) (pdAll_alike hal) (pd_sortable hal hne) hL (fun b hb => ?_) fun out ho eo => ?_
  · have := pd_depth hal hr r b hb
    omega
  · rw [sort_le hal] at eo
    obtain ⟨vs', q1, q2⟩ := each_stands eo
    obtain ⟨ep, he'⟩ := PyProof.Rows.sortedAll_at s.heap its out.toArray
    have hlen' : vs'.length ≤ sizeLine := by rw [q1.length, ho]; exact hL
    exact ⟨.ref _, upd w.H (s.heap.objs.size + 1) (.lst vs'), I.laid (t' := s.toks) (fun _ _ => PyProof.Rows.sortedAll_old) (Nat.le_succ _) ⟨hlen', out, ep, q1, he'⟩, rfl, newL_of hr h q2 _ (I.hok.fresh (Nat.le_succ _))⟩
end
end Ad
end

section
set_option Elab.async false
set_option linter.all false
set_option maxRecDepth 100000
set_option maxHeartbeats 4000000
namespace Ad
open PySem PySem.Spec PyProof.Rows L2
/-- a method of built-in values keeps Mu's word -/
def MtG (g : Gc) (X : Cx) (kd : Nat) (m : Mu.Bm) (id : String) : Prop :=
  ∀ (pins : List (Addr × Obj)) (s : Shared) (σ : L2.St) (w : Wd) (d : MD) (ds : List MD) (x : V) (vs : List V) (v : Value) (us : List Value) (Q : VK) (E : XK), Inv X pins σ w.H s → HR g w → VR g.K w d x → VRs g.K w ds vs → RelV x v → Vals vs us →
    Mu.kdO w.ah d = kd → Aft g (VR g.K) w (Mu.bmR m w.ah d ds) Q E → wpAny (model X.prog X.w) X.A (call (.builtin id) (v :: us)) (EP X pins σ Q) X.xe s
section
variable {g : Gc} {X : Cx} {W : WX}
theorem kd2 {ah : Mu.Hp} {d : MD} (h : Mu.kdO ah d = 2) : ∃ p ds, d = .obj p ∧ ah[p]? = some (.lst ds) := by
  cases d <;> simp only [Mu.kdO] at h <;> first | (cases h; done) | skip
  rename_i p
  split at h
  · rename_i ds e; exact ⟨p, ds, rfl, e⟩
  · cases h
  · cases h
theorem kd3 {ah : Mu.Hp} {d : MD} (h : Mu.kdO ah d = 3) : ∃ p tk kvs, d = .obj p ∧ ah[p]? = some (.dct tk kvs) := by
  cases d <;> simp only [Mu.kdO] at h <;> first | (cases h; done) | skip
  rename_i p
  split at h
  · cases h
  · rename_i tk kvs e; exact ⟨p, tk, kvs, rfl, e⟩
  · cases h
theorem kd1 {ah : Mu.Hp} {d : MD} (h : Mu.kdO ah d = 1) : ∃ s, d = .str s := by
  cases d <;> simp only [Mu.kdO] at h <;> first | (cases h; done) | exact ⟨_, rfl⟩ | skip
  split at h <;> cases h
theorem bm_lst {m : Mu.Bm} {ah : Mu.Hp} {p : Nat} {xs as : List MD} (e : ah[p]? = some (.lst xs)) : Mu.bmR m ah (.obj p) as = Mu.lstM m ah p xs as := by
  simp [Mu.bmR, e]
theorem bm_dct {m : Mu.Bm} {ah : Mu.Hp} {p : Nat} {tk : Bool} {xs : List (MD × MD)} {as : List MD} (e : ah[p]? = some (.dct tk xs)) : Mu.bmR m ah (.obj p) as = Mu.dctM m ah p tk xs as := by
  simp [Mu.bmR, e]
/-- a list of Mu's changed -/
theorem Aft.wrote {w : Wd} {p : Nat} {xs ys : List MD} {vs : List V} {a : MD} {v : V} {Q : VK} {E : XK} (hr : HR g w) (e : w.ah[p]? = some (.lst xs)) (h : Aft g (VR g.K) w (.ok a (w.ah.set p (.lst ys))) Q E) (r : VRs g.K w ys vs) (ra : VR g.K w a v) : Q v (upd w.H (w.mu p) (.lst vs)) := by
  have mu : Mut (w.H (w.mu p)) := (hr.ob p _ e).mut
  have l := Le.put w p (.lst ys) (.lst vs) (List.getElem?_eq_some_iff.mp e).1 mu
  exact h v (w.put p (.lst ys) (.lst vs)) rfl l (hr.put e ⟨vs, upd_same, VRs.mono l _ _ r⟩) (VR.mono l _ _ ra)
theorem m_append (G : Good g X W) : MtG g X 2 .append "list.append" := by
  intro pins s σ w d ds x vs v us Q E I hr rd rs rv ru hk h
  obtain ⟨p, xs, rfl, e⟩ := kd2 hk
  rw [bm_lst e] at h
  obtain ⟨rfl, ws, t, q⟩ := VR.obj_at hr rd e
  unfold Mu.lstM at h
  split at h <;> first | (rename_i hm; cases hm; done) | skip
  · rename_i a
    obtain ⟨u, rfl, ra⟩ := rs.one
    split at h
    · rename_i hz
      rw [lim_eq] at hz
      exact mt_append pins s σ w.H _ _ v us Q I rv ru ⟨_, ws, u, rfl, rfl, t, by rw [← q.length]; exact hz, Aft.wrote hr e h (VRs.append q ⟨u, [], rfl, ra, rfl⟩) rfl⟩
    · exact h.elim
  all_goals exact h.elim
theorem m_extend (G : Good g X W) : MtG g X 2 .extend "list.extend" := by
  intro pins s σ w d ds x vs v us Q E I hr rd rs rv ru hk h
  obtain ⟨p, xs, rfl, e⟩ := kd2 hk
  rw [bm_lst e] at h
  obtain ⟨rfl, ws, t, q⟩ := VR.obj_at hr rd e
  unfold Mu.lstM at h
  split at h <;> first | (rename_i hm; cases hm; done) | skip
  · rename_i a
    obtain ⟨u, rfl, ra⟩ := rs.one
    split at h
    · rename_i zs e2
      obtain ⟨rfl, us2, t2, q2⟩ := VR.obj_at hr ra e2
      split at h
      · rename_i hz
        rw [lim_eq] at hz
        exact mt_extend pins s σ w.H _ _ v us Q I rv ru ⟨_, _, ws, us2, rfl, rfl, t, t2, by rw [← q.length, ← q2.length]; exact hz, Aft.wrote hr e h (VRs.append q q2) rfl⟩
      · exact h.elim
    · exact h.elim
  all_goals exact h.elim
theorem m_insert (G : Good g X W) : MtG g X 2 .insert "list.insert" := by
  intro pins s σ w d ds x vs v us Q E I hr rd rs rv ru hk h
  obtain ⟨p, xs, rfl, e⟩ := kd2 hk
  rw [bm_lst e] at h
  obtain ⟨rfl, ws, t, q⟩ := VR.obj_at hr rd e
  unfold Mu.lstM at h
  split at h <;> first | (rename_i hm; cases hm; done) | skip
  · rename_i a
    obtain ⟨i, u, rfl, ri, ra⟩ := rs.two
    obtain rfl : i = .int 0 := ri
    split at h
    · rename_i hz
      rw [lim_eq] at hz
      exact mt_insert pins s σ w.H _ _ v us Q I rv ru ⟨_, ws, 0, u, rfl, rfl, t, by rw [← q.length]; exact hz, by decide, by decide, by simpa using Aft.wrote (vs := u :: ws) hr e h ⟨u, ws, rfl, ra, q⟩ rfl⟩
    · exact h.elim
  all_goals exact h.elim
theorem m_reverse (G : Good g X W) : MtG g X 2 .reverse "list.reverse" := by
  intro pins s σ w d ds x vs v us Q E I hr rd rs rv ru hk h
  obtain ⟨p, xs, rfl, e⟩ := kd2 hk
  rw [bm_lst e] at h
  obtain ⟨rfl, ws, t, q⟩ := VR.obj_at hr rd e
  unfold Mu.lstM at h
  split at h <;> first | (rename_i hm; cases hm; done) | skip
  · obtain rfl : vs = [] := rs
    exact mt_reverse pins s σ w.H _ _ v us Q I rv ru ⟨_, ws, rfl, rfl, t, Aft.wrote hr e h q.reverse rfl⟩
  all_goals exact h.elim
theorem seqIndex_of {i : Int} {n k : Nat} (h : Mu.ixN i n = some k) (hn : n ≤ 16777216) : seqIndex? i n = some k ∧ -(2 ^ 63) ≤ i ∧ i < 2 ^ 63 := by
  unfold Mu.ixN at h
  split at h
  · rename_i h0
    split at h
    · rename_i h1
      cases h
      exact ⟨PySem.StrLaws.seqIndex_nonneg h0 h1, by omega, by omega⟩
    · cases h
  · rename_i h0
    split at h
    · rename_i h1
      cases h
      refine ⟨?_, by omega, by omega⟩
      unfold seqIndex?
      have a1 : i < 0 := by omega
      simp only [a1, if_true]
      split
      · rename_i hb
        rw [show i + (n : Int) = (n : Int) + i from by omega] at *
        try rfl
      · rename_i hb
        exfalso; revert hb; simp; omega
    · cases h
theorem m_popL (G : Good g X W) : MtG g X 2 .pop "list.pop" := by
  intro pins s σ w d ds x vs v us Q E I hr rd rs rv ru hk h
  obtain ⟨p, xs, rfl, e⟩ := kd2 hk
  rw [bm_lst e] at h
  obtain ⟨rfl, ws, t, q⟩ := VR.obj_at hr rd e
  unfold Mu.lstM at h
  split at h <;> first | (rename_i hm; cases hm; done) | skip
  · rename_i i _
    obtain ⟨u, rfl, ri⟩ := rs.one
    obtain rfl : u = .int i := ri
    split at h
    · rename_i k hk1
      split at h
      · rename_i y hy
        obtain ⟨z, ez, rz⟩ := q.get hy
        have hz := (I.lstM t).1
        rw [q.length] at hk1
        obtain ⟨s1, s2, s3⟩ := seqIndex_of hk1 (by rw [← sl_num]; exact hz)
        exact mt_popAt pins s σ w.H _ _ v us Q I rv ru ⟨_, ws, i, k, z, rfl, rfl, t, s2, s3, s1, ez, Aft.wrote hr e h (VRs.eraseIdx k q) rz⟩
      · exact h.elim
    · exact h.elim
  all_goals exact h.elim
end
end Ad
end

section
set_option Elab.async false
set_option linter.all false
set_option maxRecDepth 100000
set_option maxHeartbeats 4000000
namespace Ad
open PySem PySem.Spec PyProof.Rows L2
section
variable {g : Gc} {X : Cx} {W : WX}
/-! ### dicts written -/
theorem put_dx {w : Wd} {p : Nat} {kvs kvs' : List (MD × MD)} {xs' : List (NestedKey × Addr × Value)} (hr : HR g w) (e : w.ah[p]? = some (.dct true kvs)) (nd : (kvs'.map (·.1)).Nodup) (rel : XsR g.K w kvs' xs') :
    Le w (w.put p (.dct true kvs') (hoX g.P g.w (w.mu p) xs')) ∧ HR g (w.put p (.dct true kvs') (hoX g.P g.w (w.mu p) xs')) := by
  have mu : Mut (w.H (w.mu p)) := (hr.ob p _ e).mut
  have l := Le.put w p (.dct true kvs') (hoX g.P g.w (w.mu p) xs') (List.getElem?_eq_some_iff.mp e).1 mu
  exact ⟨l, hr.put e ⟨nd, xs', upd_same, rel.mono l⟩⟩
theorem put_dk {w : Wd} {p : Nat} {kvs kvs' : List (MD × MD)} {ks' : List (Key × V)} (hr : HR g w) (e : w.ah[p]? = some (.dct false kvs)) (nd : (kvs'.map (·.1)).Nodup) (rel : KvR g.K w kvs' ks') :
    Le w (w.put p (.dct false kvs') (.dK ks')) ∧ HR g (w.put p (.dct false kvs') (.dK ks')) := by
  have mu : Mut (w.H (w.mu p)) := (hr.ob p _ e).mut
  have l := Le.put w p (.dct false kvs') (.dK ks') (List.getElem?_eq_some_iff.mp e).1 mu
  exact ⟨l, hr.put e ⟨nd, ks', upd_same, rel.mono l⟩⟩
theorem inv_dx {pins : List (Addr × Obj)} {σ : L2.St} {s : Shared} {w : Wd} {a : Addr} {xs xs' : List (NestedKey × Addr × Value)} {h' : Heap} {t' : Nat} (G : Good g X W) (I : Inv X pins σ w.H s) (hd : w.H a = some (hoX g.P g.w a xs)) (hsm : (a == sysModules) = false)
    (hl : xs'.length ≤ sizeLine) (dd : h'.DictOfH (nestedKind X.prog X.w) a xs') (hs : Heap.SameBut a s.heap h') : Inv X pins σ (upd w.H a (hoX g.P g.w a xs')) { s with heap := h', toks := t' } := by
  obtain ⟨q, es, ep, hq, h2, h3, h4, _, h5⟩ := dd
  refine d_write I (by rw [hd]; exact True.intro) hs ⟨q, hq⟩ ⟨?_, ⟨q, hq⟩, fun h1 h2 z k => ?_⟩
  · refine ⟨hsm, hl, q, es, ep, hq, h2, h3, ?_, h5⟩
    rw [← G.P, ← G.w]; exact h4
  · obtain ⟨b1, b2, o, es, ep, b3, b4⟩ := z
    exact ⟨b1, b2, o, es, ep, k _ b3, b4⟩
theorem m_getD (G : Good g X W) : MtG g X 3 .get "dict.get" := by
  intro pins s σ w d ds x vs v us Q E I hr rd rs rv ru hk h
  obtain ⟨p, tk, kvs, rfl, e⟩ := kd3 hk
  rw [bm_dct e] at h
  obtain ⟨rfl, o⟩ := VR.obj_at hr rd e
  obtain rfl : v = .ref (w.mu p) := rv
  have hu : X.A.units + 1 < cLine := by have := G.un; omega
  unfold Mu.dctM at h
  split at h <;> first | (rename_i hm; cases hm; done) | skip
  · rename_i k _
    obtain ⟨y, rfl, ry⟩ := rs.one
    obtain ⟨u, rfl, ru1⟩ := vals1 ru
    split at h
    · rename_i hk1
      cases tk with
      | false =>
        obtain ⟨nd, ks, hd, rel⟩ := o
        obtain ⟨k', kr, rfl⟩ := keyR_of hk1 ry
        refine d_get1 hu I (DGet.k hd) ru1 fun w' s' I' q => ⟨_, _, I', q, ?_⟩
        rcases rel.look kr with ⟨e1, e2⟩ | ⟨d', v', e1, e2, rv⟩
        · rw [e2]; rw [e1] at h; exact h _ w rfl .refl hr rfl
        · rw [e2]; rw [e1] at h; exact h _ w rfl .refl hr rv
      | true =>
        obtain ⟨nd, xs, hd, rel⟩ := o
        obtain ⟨z, hz, _⟩ := keyIn_of hk1
        subst hz
        obtain ⟨p', vs', rfl, t2, rs2⟩ := id ry
        obtain rfl : u = .ref p' := ru1
        obtain ⟨hsm, hl, dd⟩ := dict_of G.toGoodH I hd rel
        have hkey := nested_key (P := X.prog) (wo := X.w) G.K I hk1 ry
        refine call_meetsIn PySem.F.slot_dict_get dd.typeIs PySem.F.entry_dict_get (PySem.F.args_dict_get_2 _ _) (meetsH_dict_get _ _ p' hsm) ⟨nroom G.toGoodH, _, xs, hkey, dd, ?_⟩
        rcases rel.look hk1 with ⟨e1, e2⟩ | ⟨d', v', p2, u2, e1, e2, rw', rv'⟩
        · rw [e1] at h; rw [e2]; exact ⟨.non, _, I.tok _, rfl, h _ w rfl .refl hr rfl⟩
        · rw [e1] at h; rw [e2]; exact ⟨v', _, I.tok _, rw', h _ w rfl .refl hr rv'⟩
    · exact h.elim
  · rename_i k df _
    obtain ⟨y, z, rfl, ry, rz⟩ := rs.two
    obtain ⟨u, u', rfl, ru1, ru2⟩ := vals2 ru
    split at h
    · rename_i hk1
      cases tk with
      | false =>
        obtain ⟨nd, ks, hd, rel⟩ := o
        obtain ⟨k', kr, rfl⟩ := keyR_of hk1 ry
        refine d_get2 hu I (DGet.k hd) ru1 ru2 fun w' s' I' q => ⟨_, _, I', q, ?_⟩
        rcases rel.look kr with ⟨e1, e2⟩ | ⟨d', v', e1, e2, rv⟩
        · rw [e2]; rw [e1] at h; exact h _ w rfl .refl hr rz
        · rw [e2]; rw [e1] at h; exact h _ w rfl .refl hr rv
      | true =>
        obtain ⟨nd, xs, hd, rel⟩ := o
        obtain ⟨ts, hz, _⟩ := keyIn_of hk1
        subst hz
        obtain ⟨p', vs', rfl, t2, rs2⟩ := id ry
        obtain rfl : u = .ref p' := ru1
        obtain ⟨hsm, hl, dd⟩ := dict_of G.toGoodH I hd rel
        have hkey := nested_key (P := X.prog) (wo := X.w) G.K I hk1 ry
        refine call_meetsIn PySem.F.slot_dict_get dd.typeIs PySem.F.entry_dict_get (PySem.F.args_dict_get_3 _ _ _) (meetsH_dict_get_default _ _ p' hsm u') ⟨nroom G.toGoodH, _, xs, hkey, dd, ?_⟩
        rcases rel.look hk1 with ⟨e1, e2⟩ | ⟨d', v', p2, u2, e1, e2, rw', rv'⟩
        · rw [e1] at h; rw [e2]; exact ⟨z, _, I.tok _, ru2, h _ w rfl .refl hr rz⟩
        · rw [e1] at h; rw [e2]; exact ⟨v', _, I.tok _, rw', h _ w rfl .refl hr rv'⟩
    · exact h.elim
  all_goals exact h.elim
theorem m_popD (G : Good g X W) : MtG g X 3 .pop "dict.pop" := by
  intro pins s σ w d ds x vs v us Q E I hr rd rs rv ru hk h
  obtain ⟨p, tk, kvs, rfl, e⟩ := kd3 hk
  rw [bm_dct e] at h
  obtain ⟨rfl, o⟩ := VR.obj_at hr rd e
  obtain rfl : v = .ref (w.mu p) := rv
  unfold Mu.dctM at h
  split at h <;> first | (rename_i hm; cases hm; done) | skip
  · rename_i k _
    obtain ⟨y, rfl, ry⟩ := rs.one
    obtain ⟨u, rfl, ru1⟩ := vals1 ru
    split at h
    · rename_i hk0
      obtain ⟨rfl, hk1⟩ := hk0
      obtain ⟨nd, ks, hd, rel⟩ := o
      obtain ⟨k', kr, rfl⟩ := keyR_of hk1 ry
      rcases rel.look kr with ⟨e1, e2⟩ | ⟨d', v', e1, e2, rv⟩
      · rw [e1] at h; exact h.elim
      · rw [e1] at h
        obtain ⟨l, hr'⟩ := put_dk hr e (nd_ddel (a := k) nd) (rel.del kr nd)
        exact d_pop I hd ru1 e2 (.inl rfl) fun w' s' I' q => ⟨v', _, I', q, h v' _ rfl l hr' (VR.mono l _ _ rv)⟩
    · exact h.elim
  all_goals exact h.elim
theorem lookV {kvs : List (Key × V)} {vs : List (Key × Value)} (r : KV kvs vs) (k : Key) : RelO (valV kvs k) (valueAt vs k) := r.val k
theorem m_setdef (G : Good g X W) : MtG g X 3 .setdefault "dict.setdefault" := by
  intro pins s σ w d ds x vs v us Q E I hr rd rs rv ru hk h
  obtain ⟨p, tk, kvs, rfl, e⟩ := kd3 hk
  rw [bm_dct e] at h
  obtain ⟨rfl, o⟩ := VR.obj_at hr rd e
  obtain rfl : v = .ref (w.mu p) := rv
  unfold Mu.dctM at h
  split at h <;> first | (rename_i hm; cases hm; done) | skip
  · rename_i k df _
    obtain ⟨y, z, rfl, ry, rz⟩ := rs.two
    obtain ⟨u, u', rfl, ru1, ru2⟩ := vals2 ru
    split at h
    · rename_i hk0
      obtain ⟨hk1, hz⟩ := hk0
      rw [lim_eq] at hz
      cases tk with
      | false =>
        obtain ⟨nd, ks, hd, rel⟩ := o
        obtain ⟨k', kr, rfl⟩ := keyR_of hk1 ry
        obtain ⟨hz2, hsm, us2, rel2, dd⟩ := dk_of I.hok hd
        refine call_meetsIn PySem.F.slot_dict_setdefault dd.typeIs PySem.F.entry_dict_setdefault (PySem.F.args_dict_setdefault_3 _ _ _) (kt_meets_setdefault (mixKind X.prog X.w) (w.mu p) (kV_is ru1) hsm u') ⟨us2, dd, by rw [← rel2.length]; exact hz2, fun v2 hv2 => ?_, fun hn h' dd' hs => ?_⟩
        · rcases rel.look kr with ⟨e1, e2⟩ | ⟨d', v', e1, e2, rv⟩
          · have := rel2.val k'
            rw [e2, hv2] at this
            exact this.elim
          · rw [e1] at h
            have := rel2.val k'
            rw [e2, hv2] at this
            exact ⟨v', _, I.tok _, this, h _ w rfl .refl hr rv⟩
        · rcases rel.look kr with ⟨e1, e2⟩ | ⟨d', v', e1, e2, rv⟩
          · rw [e1] at h
            obtain ⟨l, hr'⟩ := put_dk hr e (nd_dput (a := k) (d := df) nd) (rel.put kr rz nd)
            have he : ∃ q, h'.get? (w.mu p) = some q := let ⟨q, _, _, hq, _⟩ := dd'; ⟨q, hq⟩
            have hl : (putK ks k' z).length ≤ sizeLine := by have := length_putK ks k' z; have := rel.length; omega
            exact ⟨z, _, d_write I (by rw [hd]; exact True.intro) hs he (dk_new hl hsm (rel2.put k' ru2) dd'), ru2, h _ _ rfl l hr' (VR.mono l _ _ rz)⟩
          · have := rel2.val k'
            rw [e2, hn] at this
            exact this.elim
      | true =>
        obtain ⟨nd, xs, hd, rel⟩ := o
        obtain ⟨ts, hts, _⟩ := keyIn_of hk1
        subst hts
        obtain ⟨p', vs', rfl, t2, rs2⟩ := id ry
        obtain rfl : u = .ref p' := ru1
        obtain ⟨hsm, hl, dd⟩ := dict_of G.toGoodH I hd rel
        have hkey := nested_key (P := X.prog) (wo := X.w) G.K I hk1 ry
        refine call_setdefault_heap (nroom G.toGoodH) hkey hsm dd (fun q hq => ?_) (fun hn h' dd' hs => ?_) hl
        · rcases rel.look hk1 with ⟨e1, e2⟩ | ⟨d', v', p2, u2, e1, e2, rw', rv'⟩
          · rw [e2] at hq; cases hq
          · rw [e2] at hq; cases hq
            rw [e1] at h
            exact ⟨v', _, I.tok _, rw', h _ w rfl .refl hr rv'⟩
        · rcases rel.look hk1 with ⟨e1, e2⟩ | ⟨d', v', p2, u2, e1, e2, rw', rv'⟩
          · rw [e1] at h
            obtain ⟨l, hr'⟩ := put_dx hr e (nd_dput (a := .tup ts) (d := df) nd) (rel.put hk1 ry ru2 rz nd)
            have hl2 : (storedH xs (nkOf (.tup ts)) p' u').length ≤ sizeLine := by have := storedH_length xs (nkOf (.tup ts)) p' u'; have := rel.length; omega
            exact ⟨z, _, inv_dx G I hd hsm hl2 dd' hs, ru2, h _ _ rfl l hr' (VR.mono l _ _ rz)⟩
          · rw [e2] at hn; cases hn
    · exact h.elim
  all_goals exact h.elim
theorem findIdx_pd (d : MD) : ∀ (xs : List MD) (k : Nat), (xs.findIdx? fun z => Mu.pyEq z d) = some k → (∃ z, xs[k]? = some z ∧ Mu.pyEq z d = true) ∧ ∀ m z, m < k → xs[m]? = some z → Mu.pyEq z d = false
  | [], k, h => by simp at h
  | x :: xs, k, h => by
    rw [List.findIdx?_cons] at h
    split at h
    · rename_i hx
      cases h
      exact ⟨⟨x, rfl, hx⟩, fun m z hm => by omega⟩
    · rename_i hx
      obtain ⟨k', e, rfl⟩ := Option.map_eq_some_iff.mp h
      obtain ⟨h1, h2⟩ := findIdx_pd d xs k' e
      refine ⟨by simpa using h1, fun m z hm hz => ?_⟩
      cases m with
      | zero =>
        simp at hz; subst hz
        simpa using hx
      | succ m => exact h2 m z (by omega) (by simpa using hz)
theorem pds_get : ∀ (xs : List MD) (m : Nat), (pdsOf xs)[m]? = (xs[m]?).map pdOf
  | [], m => by simp [pdsOf]
  | x :: xs, 0 => by simp [pdsOf]
  | x :: xs, m + 1 => by simp [pdsOf, pds_get xs m]
theorem m_index (G : Good g X W) : MtG g X 2 .index "list.index" := by
  intro pins s σ w d ds x vs v us Q E I hr rd rs rv ru hk h
  obtain ⟨p, xs, rfl, e⟩ := kd2 hk
  rw [bm_lst e] at h
  obtain ⟨rfl, ws, t, q⟩ := VR.obj_at hr rd e
  unfold Mu.lstM at h
  split at h <;> first | (rename_i hm; cases hm; done) | skip
  · rename_i a _
    obtain ⟨u, rfl, ra⟩ := rs.one
    obtain ⟨d, e1, h⟩ := h.opt
    obtain ⟨k, e2, rfl⟩ := Option.map_eq_some_iff.mp e1
    unfold Mu.idxR at e2
    split at e2
    · rename_i da das h1 h2
      have t1 := tells hr _ _ _ _ h1 ra
      have t2 := tells_list (tells hr Mu.DEP) xs das ws h2 q
      obtain ⟨⟨z, hz1, hz2⟩, hno⟩ := findIdx_pd da das k e2
      have hu : X.A.units + 65 < cLine := by have := G.un; omega
      have d1 : (pdOf da).depth ≤ 50 := t1.dep
      have d2 : PyData.depthAll (pdsOf das) ≤ 50 := t2.dep
      refine mt_indexD hu pins s σ w.H _ _ v us Q I rv ru ⟨_, u, pdOf da, pdsOf das, k, pdOf z, rfl, rfl, .lst (.of t) (by rw [G.K]; exact t2.dp), by rw [G.K]; exact t1.dp, ?_, ?_, by rw [pds_get, hz1]; rfl, by rw [eqv_pd]; exact hz2, fun m z' hm hz' => ?_, h _ w rfl .refl hr rfl⟩
      · have : 1 + PyData.depthAll (pdsOf das) ≤ 64 := by omega
        simp [SeqAt.shaped, PyData.canLay0, t2.lay, PyData.depth]; omega
      · simp [SeqAt.shaped, t1.lay]; omega
      · rw [pds_get] at hz'
        obtain ⟨y, hy, rfl⟩ := Option.map_eq_some_iff.mp hz'
        rw [eqv_pd]; exact hno m y hm hy
    · cases e2
  all_goals exact h.elim
end
end Ad
end

section
set_option Elab.async false
set_option linter.all false
set_option maxRecDepth 100000
set_option maxHeartbeats 4000000
namespace Ad
open PySem PySem.Spec PyProof.Rows L2
theorem toS_join (s : List Nat) : ∀ ts : List (List Nat), Str.join (toS s) (ts.map toS) = toS (Mu.joinS s ts)
  | [] => rfl
  | [t] => rfl
  | t :: u :: r => by
    show toS t ++ toS s ++ Str.join (toS s) ((u :: r).map toS) = toS (t ++ s ++ Mu.joinS s (u :: r))
    rw [toS_join s (u :: r), toS_app, toS_app]
theorem joinS_ok {s : List Nat} : ∀ {ts : List (List Nat)}, StrOk s → (∀ t ∈ ts, StrOk t) → (Mu.joinS s ts).length ≤ (ts.map List.length).sum + ts.length * s.length ∧ ∀ c ∈ Mu.joinS s ts, c < 0x110000
  | [], _, _ => ⟨by simp [Mu.joinS], fun c h => nomatch h⟩
  | [t], _, h => ⟨by simp [Mu.joinS], (h t (by simp)).2⟩
  | t :: u :: r, hs, h => by
    obtain ⟨h1, h2⟩ := joinS_ok (ts := u :: r) hs fun x hx => h x (by simp [hx])
    have e : Mu.joinS s (t :: u :: r) = t ++ s ++ Mu.joinS s (u :: r) := rfl
    rw [e]
    refine ⟨?_, fun c hc => ?_⟩
    · simp only [List.length_append, List.map_cons, List.sum_cons, List.length_cons, Nat.succ_mul] at h1 ⊢
      omega
    · rcases List.mem_append.mp hc with hc | hc
      · rcases List.mem_append.mp hc with hc | hc
        · exact (h t (by simp)).2 c hc
        · exact hs.2 c hc
      · exact h2 c hc
section
variable {g : Gc} {X : Cx} {W : WX} {c : Mu.Cx}
theorem m_join (G : Good g X W) : MtG g X 1 .join "str.join" := by
  intro pins s σ w d ds x vs v us Q E I hr rd rs rv ru hk h
  obtain ⟨a, rfl⟩ := kd1 hk
  obtain ⟨oa, rfl⟩ := rd
  have h : Aft g (VR g.K) w (Mu.strM .join w.ah a ds) Q E := h
  cases ds with
  | nil => exact h.elim
  | cons b rest =>
    cases rest with
    | cons _ _ => exact h.elim
    | nil =>
    have h : Aft g (VR g.K) w (match (Mu.seqOf w.ah b).bind Mu.allStr with
      | some ts => if (ts.map List.length).sum + ts.length * a.length ≤ Mu.LIM then .ok (.str (Mu.joinS a ts)) w.ah else .bad
      | none => .bad) Q E := h
    obtain ⟨u, rfl, ra⟩ := rs.one
    split at h
    · rename_i ts e
      split at h
      · rename_i hz
        obtain ⟨xs, e1, e2⟩ := Option.bind_eq_some_iff.mp e
        have key : ∀ (p : Addr) (ws : List V), u = .ref p → (SqL X.K w.H p ws ∨ SqT X.K w.H p ws) → VRs g.K w xs ws → wpAny (model X.prog X.w) X.A (call (.builtin "str.join") (v :: us)) (EP X pins σ Q) X.xe s := by
          intro p ws hp hs hw
          subst hp
          obtain ⟨rfl, ok⟩ := strs_of e2 hw
          obtain ⟨l1, l2⟩ := joinS_ok oa ok
          have hz' : (ts.map List.length).sum + ts.length * a.length ≤ 16777216 := hz
          have ej : Txt.join (toS a) (ts.map toS) = toS (Mu.joinS a ts) := by rw [eq_of_beq (join_plain_closes (toS a) (ts.map toS)), toS_join]
          refine mt_join pins s σ w.H _ _ v us Q I rv ru ⟨_, p, ts.map toS, rfl, rfl, hs, ?_, ?_⟩
          · rw [toS_len, List.length_map, List.map_map]
            have : (Str.length ∘ toS) = List.length := by funext z; exact toS_len z
            rw [this]; exact hz'
          · rw [ej]
            exact h _ w rfl .refl hr ⟨⟨by rw [sl_num]; omega, l2⟩, rfl⟩
        cases b with
        | tup ds =>
          obtain ⟨p, ws, rfl, t, q⟩ := ra
          cases e1
          exact key p ws rfl (.inr (by rw [G.K]; exact t)) q
        | obj i =>
          simp only [Mu.seqOf] at e1
          split at e1
          · rename_i zs e0
            cases e1
            obtain ⟨rfl, ws, t, q⟩ := VR.obj_at hr ra e0
            exact key _ ws rfl (.inl (.of t)) q
          · cases e1
        | _ => cases e1
      · exact h.elim
    · exact h.elim
theorem starts_eq (a b : List Nat) : Txt.startswith (toS a) (toS b) = b.isPrefixOf a := by
  unfold Txt.startswith
  rw [StrLaws.subAt_eq, toS_list, toS_list, toS_len, toS_len]
  simp only [Nat.zero_add, List.drop_zero]
  by_cases hp : b <+: a
  · have := List.IsPrefix.length_le hp
    rw [(List.prefix_iff_eq_take.mp hp).symm]
    simp [this, hp]
  · have e1 : b.isPrefixOf a = false := by
      rw [← Bool.not_eq_true, List.isPrefixOf_iff_prefix]; exact hp
    rw [e1]
    have : ¬ (List.take b.length a = b) := fun e => hp (List.prefix_iff_eq_take.mpr e.symm)
    simp [this]
theorem m_starts (G : Good g X W) : MtG g X 1 .startswith "str.startswith" := by
  intro pins s σ w d ds x vs v us Q E I hr rd rs rv ru hk h
  obtain ⟨a, rfl⟩ := kd1 hk
  obtain ⟨oa, rfl⟩ := rd
  have h : Aft g (VR g.K) w (Mu.strM .startswith w.ah a ds) Q E := h
  cases ds with
  | nil => exact h.elim
  | cons b rest =>
    cases rest with
    | cons _ _ => cases b <;> exact h.elim
    | nil =>
      cases b with
      | str t =>
        obtain ⟨u, rfl, ob, rfl⟩ := rs.one
        exact mt_startswith pins s σ w.H _ _ v us Q I rv ru ⟨_, _, rfl, rfl, by rw [starts_eq]; exact h _ w rfl .refl hr rfl⟩
      | _ => exact h.elim
end
open PySem.StrLaws
/-! ### splitting at one sign -/
theorem splitC_cons (c x : Nat) (r : List Nat) : Mu.splitC c (x :: r) = (match Mu.splitC c r with | [] => [[]] | w :: ws => if x = c then [] :: w :: ws else (x :: w) :: ws) := rfl
theorem splitN_cons (c n a : Nat) (r : List Nat) : Mu.splitN c (n + 1) (a :: r) = (if a = c then [] :: Mu.splitN c n r else match Mu.splitN c (n + 1) r with | [] => [[a]] | w :: ws => (a :: w) :: ws) := rfl
theorem splitC_ne (c : Nat) : ∀ l : List Nat, Mu.splitC c l ≠ []
  | [] => by simp [Mu.splitC]
  | a :: r => by
    unfold Mu.splitC
    split
    · simp
    · split <;> simp
theorem pre_one (c x : Nat) (r : List Nat) : TL.pre [c] (x :: r) = decide (x = c) := by
  show ([x] == [c]) = _
  by_cases q : x = c
  · rw [q]; simp
  · simp [q]
theorem spl_splitC (c : Nat) : ∀ (l acc : List Nat), TL.spl [c] 0 acc l = match Mu.splitC c l with | w :: ws => (acc ++ w) :: ws | [] => []
  | [], acc => by rw [TL.spl_nil]; simp [Mu.splitC]
  | x :: r, acc => by
    have ne := splitC_ne c r
    by_cases q : x = c
    · rw [TL.spl_hit (by rw [pre_one]; simpa using q)]
      have ih := spl_splitC c r []
      have e1 : ([c] : List Nat).length - 1 = 0 := rfl
      rw [e1, ih, splitC_cons]
      cases e : Mu.splitC c r with
      | nil => exact absurd e ne
      | cons w ws => simp [q]
    · rw [TL.spl_miss (by rw [pre_one]; simpa using q), spl_splitC c r (acc ++ [x])]
      rw [show Mu.splitC c (x :: r) = (match Mu.splitC c r with | [] => [[]] | w :: ws => if x = c then [] :: w :: ws else (x :: w) :: ws) from rfl]
      cases e : Mu.splitC c r with
      | nil => exact absurd e ne
      | cons w ws => simp [q]
theorem all1 {c : Nat} (hc : c < 256) : (toS [c]).cps.all (· < 256) = true := by simp [toS, hc]
theorem split_eq (s : List Nat) {c : Nat} (hc : c < 256) : Txt.split (toS s) (toS [c]) = (Mu.splitC c s).map toS := by
  have tls : ∀ l, TL.tl (toS l) = l := toS_list
  apply TL.map_tl_inj
  rw [TL.split_spl (toS s) (toS [c]) (by rw [tls]; simp) (TL.kind_ok (all1 hc)), tls, tls, spl_splitC, List.map_map]
  have : (TL.tl ∘ toS) = id := by funext z; exact tls z
  rw [this, List.map_id]
  cases e : Mu.splitC c s with
  | nil => exact absurd e (splitC_ne c s)
  | cons w ws => simp
theorem splitC_ok (c : Nat) : ∀ (s : List Nat) (B : Nat), s.length ≤ B → (∀ x ∈ s, x < 0x110000) → ∀ t ∈ Mu.splitC c s, t.length ≤ B ∧ ∀ x ∈ t, x < 0x110000
  | [], B, _, _, t, ht => by
    have : t = [] := by simpa [Mu.splitC] using ht
    subst this; exact ⟨Nat.zero_le _, fun _ h => nomatch h⟩
  | a :: r, B, hl, hs, t, ht => by
    simp only [List.length_cons] at hl
    have ih := splitC_ok c r (B - 1) (by omega) (fun x hx => hs x (List.mem_cons_of_mem _ hx))
    unfold Mu.splitC at ht
    split at ht
    · have : t = [] := by simpa using ht
      subst this; exact ⟨Nat.zero_le _, fun _ h => nomatch h⟩
    · rename_i w ws e
      rw [e] at ih
      split at ht
      · rcases List.mem_cons.mp ht with q | q
        · subst q; exact ⟨Nat.zero_le _, fun _ h => nomatch h⟩
        · have := ih t q; exact ⟨by omega, this.2⟩
      · rcases List.mem_cons.mp ht with q | q
        · have := ih w (by simp)
          subst q
          refine ⟨by simp only [List.length_cons]; omega, fun x hx => ?_⟩
          rcases List.mem_cons.mp hx with z | z
          · subst z; exact hs _ (by simp)
          · exact this.2 x z
        · have := ih t (List.mem_cons_of_mem _ q); exact ⟨by omega, this.2⟩
/-! ### at most so many times -/
theorem splitN_free {c : Nat} : ∀ (n : Nat) (l : List Nat), c ∉ l → Mu.splitN c n l = [l]
  | 0, l, _ => by cases l <;> rfl
  | n + 1, [], _ => rfl
  | n + 1, a :: r, h => by
    have h1 : ¬ a = c := fun e => h (e ▸ List.mem_cons_self ..)
    have ih := splitN_free (n + 1) r (fun z => h (List.mem_cons_of_mem _ z))
    rw [splitN_cons, if_neg h1, ih]
theorem splitN_hit {c : Nat} (n : Nat) (rest : List Nat) : ∀ p : List Nat, c ∉ p → Mu.splitN c (n + 1) (p ++ c :: rest) = p :: Mu.splitN c n rest
  | [], _ => by
    show Mu.splitN c (n + 1) (c :: rest) = _
    rw [splitN_cons, if_pos rfl]
  | a :: p, h => by
    have h1 : ¬ a = c := fun e => h (e ▸ List.mem_cons_self ..)
    have ih := splitN_hit n rest p (fun z => h (List.mem_cons_of_mem _ z))
    show Mu.splitN c (n + 1) (a :: (p ++ c :: rest)) = _
    rw [splitN_cons, if_neg h1, ih]
theorem occ_run (s sub : Str) (hi k F : Nat) : ∀ (l : List Nat) (u v : Array Nat × Nat), v.fst.toList = u.fst.toList.take k → (v.fst.size < k → v = u) → u.fst.size + l.length ≤ F →
    (forIn l v (occBody s sub hi k)).run.fst.toList = (forIn l u (occBody s sub hi F)).run.fst.toList.take k
  | [], u, v, h, _, _ => h
  | a :: l, u, v, h, h2, h3 => by
    simp only [List.length_cons] at h3
    have sz : v.fst.size = min k u.fst.size := by
      have := congrArg List.length h
      simpa using this
    rw [List.forIn_cons, List.forIn_cons]
    unfold occBody
    by_cases cf : ((u.fst.size < F ∧ u.snd ≤ a) ∧ a + sub.length ≤ hi) ∧ Builtin.Str.subAt s sub a = true
    · rw [if_pos cf]
      by_cases q : v.fst.size < k
      · have e := h2 q
        subst e
        rw [if_pos ⟨⟨⟨q, cf.1.1.2⟩, cf.1.2⟩, cf.2⟩]
        refine occ_run s sub hi k F l _ _ ?_ (fun _ => rfl) (by simp only [Array.size_push]; omega)
        simp only [Array.toList_push]
        rw [List.take_of_length_le]
        simp; omega
      · rw [if_neg (fun z => q z.1.1.1)]
        refine occ_run s sub hi k F l _ _ ?_ (fun z => absurd z q) (by simp only [Array.size_push]; omega)
        simp only [Array.toList_push]
        rw [h, List.take_append_of_le_length]
        simp; omega
    · rw [if_neg cf]
      by_cases q : v.fst.size < k
      · have e := h2 q
        subst e
        rw [if_neg (fun z => cf ⟨⟨⟨by omega, z.1.1.2⟩, z.1.2⟩, z.2⟩)]
        exact occ_run s sub hi k F l _ _ h (fun _ => rfl) (by show v.fst.size + l.length ≤ F; omega)
      · rw [if_neg (fun z => q z.1.1.1)]
        exact occ_run s sub hi k F l _ _ h (fun z => absurd z q) (by show u.fst.size + l.length ≤ F; omega)
theorem occ_take (x y : Str) (k : Nat) : Builtin.Str.occurrences x y 0 x.length k = (Builtin.Str.occurrences x y 0 x.length (x.length + 1)).take k := by
  rw [occ_eq, occ_eq]
  exact occ_run x y x.length k (x.length + 1) _ _ _ (by simp) (fun _ => rfl) (by simp)
theorem parts_splN {x : Str} {c : Nat} : ∀ (cuts : List Nat) (a f n : Nat), a ≤ (TL.tl x).length → ChainG x ⟨#[c]⟩ x.length a cuts f → (∀ k, f ≤ k → ¬ At x ⟨#[c]⟩ x.length k) →
    (partsFrom x 1 a (cuts.take n)).map TL.tl = Mu.splitN c n ((TL.tl x).drop a)
  | [], a, f, n, ha, h, hn => by
    have e : f = a := h
    subst e
    rw [List.take_nil]
    show [TL.tl (Builtin.Str.strSub x f x.length)] = _
    have pf := part_free x c f x.length (Nat.le_refl _) (fun k h1 _ => hn k h1)
    have es : (Builtin.Str.strSub x f x.length).cps.toList = (TL.tl x).drop f := TL.tl_strSub_end x f
    rw [es] at pf
    rw [splitN_free n _ pf, TL.tl_strSub_end]
  | cc :: r, a, f, 0, ha, h, hn => by
    show [TL.tl (Builtin.Str.strSub x a x.length)] = _
    rw [TL.tl_strSub_end]
    cases (TL.tl x).drop a <;> rfl
  | cc :: r, a, f, n + 1, ha, h, hn => by
    obtain ⟨h1, h2, h3, h4⟩ := h
    have hc : cc + 1 ≤ x.length := h2.1
    have hx := TL.len_tl x
    have ih := parts_splN r (cc + 1) f n (by omega) h4 hn
    show TL.tl (Builtin.Str.strSub x a cc) :: (partsFrom x 1 (cc + 1) (r.take n)).map TL.tl = _
    rw [ih]
    have pf := part_free x c a cc (by omega) (fun k k1 k2 => h3 k k1 k2)
    have es : (Builtin.Str.strSub x a cc).cps.toList = ((TL.tl x).drop a).take (cc - a) := TL.tl_strSub x a cc
    have et : TL.tl (Builtin.Str.strSub x a cc) = ((TL.tl x).drop a).take (cc - a) := es
    rw [es] at pf
    have hat : TL.pre [c] ((TL.tl x).drop cc) = true := (TL.at_iff (y := ⟨#[c]⟩) (by show [c] ≠ []; simp) cc).mp h2
    obtain ⟨d, e⟩ := TL.getElem_drop_cons (L := TL.tl x) (a := cc) (by omega)
    rw [e, pre_one] at hat
    have hd : d = c := by simpa using hat
    have edrop : (TL.tl x).drop a = ((TL.tl x).drop a).take (cc - a) ++ c :: (TL.tl x).drop (cc + 1) := by
      have t := List.take_append_drop (cc - a) ((TL.tl x).drop a)
      rw [TL.drop_two, show a + (cc - a) = cc by omega, e, hd] at t
      exact t.symm
    rw [et]
    conv => rhs; rw [edrop]
    rw [splitN_hit n _ _ pf]
theorem splitMax_eq (s : List Nat) {c : Nat} (hc : c < 256) (n : Int) (hn : 0 ≤ n) : Txt.splitMax (toS s) (toS [c]) n = (Mu.splitN c n.toNat s).map toS := by
  have tls : ∀ l, TL.tl (toS l) = l := toS_list
  have ey : toS [c] = ⟨#[c]⟩ := rfl
  have lim : limitOf (toS s) n = n.toNat := by unfold limitOf; rw [if_neg (by omega)]
  obtain ⟨f, g, hnn⟩ := occ_tight (toS s) (toS [c]) (by rw [toS_len]; simp)
  have key := parts_splN _ 0 f n.toNat (Nat.zero_le _) g hnn
  rw [List.drop_zero, tls] at key
  have fin : ∀ ps : List Str, ps.map TL.tl = Mu.splitN c n.toNat s → ps = (Mu.splitN c n.toNat s).map toS := fun ps e => by
    apply TL.map_tl_inj
    rw [e, List.map_map]
    have : (TL.tl ∘ toS) = id := by funext z; exact tls z
    rw [this, List.map_id]
  have nk := TL.kind_ok (x := toS s) (all1 hc)
  unfold Txt.splitMax
  rw [lim, occ_take]
  by_cases h1 : (decide ((toS s).length < (toS [c]).length) || decide (Builtin.Str.strKind (toS s) < Builtin.Str.strKind (toS [c]))) = true
  · rw [if_pos h1]
    have hlt : (toS s).length < (toS [c]).length := by
      simp only [Bool.or_eq_true, decide_eq_true_eq] at h1
      rcases h1 with h | h
      · exact h
      · exact absurd h nk
    rw [toS_len, toS_len] at hlt
    have s0 : s = [] := by
      cases s with
      | nil => rfl
      | cons a r => simp at hlt
    subst s0
    apply fin
    cases n.toNat <;> rfl
  · rw [if_neg h1]
    by_cases h2 : ((Builtin.Str.occurrences (toS s) (toS [c]) 0 (toS s).length ((toS s).length + 1)).take n.toNat).isEmpty = true
    · rw [if_pos h2]
      rw [List.isEmpty_iff.mp h2] at key
      apply fin
      rw [← key]
      show [TL.tl (toS s)] = [TL.tl (Builtin.Str.strSub (toS s) 0 (toS s).length)]
      rw [TL.tl_strSub_end, List.drop_zero]
    · rw [if_neg h2, partsBetween_eq]
      apply fin
      exact key
theorem splitN_ok (c : Nat) : ∀ (n : Nat) (s : List Nat) (B : Nat), s.length ≤ B → (∀ x ∈ s, x < 0x110000) → ∀ t ∈ Mu.splitN c n s, t.length ≤ B ∧ ∀ x ∈ t, x < 0x110000
  | 0, s, B, hl, hs, t, ht => by
    have : t = s := by cases s <;> simpa [Mu.splitN] using ht
    subst this; exact ⟨hl, hs⟩
  | n + 1, [], B, _, _, t, ht => by
    have : t = [] := by simpa [Mu.splitN] using ht
    subst this; exact ⟨Nat.zero_le _, fun _ h => nomatch h⟩
  | n + 1, a :: r, B, hl, hs, t, ht => by
    simp only [List.length_cons] at hl
    unfold Mu.splitN at ht
    split at ht
    · rcases List.mem_cons.mp ht with q | q
      · subst q; exact ⟨Nat.zero_le _, fun _ h => nomatch h⟩
      · have := splitN_ok c n r (B - 1) (by omega) (fun x hx => hs x (List.mem_cons_of_mem _ hx)) t q
        exact ⟨by omega, this.2⟩
    · have ih := splitN_ok c (n + 1) r (B - 1) (by omega) (fun x hx => hs x (List.mem_cons_of_mem _ hx))
      split at ht
      · have : t = [a] := by simpa using ht
        subst this
        exact ⟨by simp; omega, fun x hx => by rw [List.mem_singleton.mp hx]; exact hs a (by simp)⟩
      · rename_i w ws e
        rw [e] at ih
        rcases List.mem_cons.mp ht with q | q
        · have := ih w (by simp)
          subst q
          refine ⟨by simp only [List.length_cons]; omega, fun x hx => ?_⟩
          rcases List.mem_cons.mp hx with z | z
          · subst z; exact hs _ (by simp)
          · exact this.2 x z
        · have := ih t (List.mem_cons_of_mem _ q); exact ⟨by omega, this.2⟩
section
variable {g : Gc} {X : Cx} {W : WX} {c : Mu.Cx}
theorem strs_vr {w : Wd} : ∀ ts : List (List Nat), (∀ t ∈ ts, StrOk t) → VRs g.K w (ts.map Mu.D.str) ((ts.map toS).map V.str)
  | [], _ => rfl
  | t :: ts, h => ⟨.str (toS t), (ts.map toS).map V.str, rfl, ⟨h t (by simp), rfl⟩, strs_vr ts fun x hx => h x (by simp [hx])⟩
theorem m_split (G : Good g X W) : MtG g X 1 .split "str.split" := by
  intro pins s σ w d ds x vs v us Q E I hr rd rs rv ru hk h
  obtain ⟨a, rfl⟩ := kd1 hk
  obtain ⟨oa, rfl⟩ := rd
  have h : Aft g (VR g.K) w (Mu.strM .split w.ah a ds) Q E := h
  unfold Mu.strM at h
  split at h
  · rename_i e _; cases e
  · rename_i e _; cases e
  · rename_i c _ _
    split at h
    · rename_i hz
      obtain ⟨u, rfl, ob, rfl⟩ := rs.one
      have hz' : a.length + 2 ≤ 16777216 := hz.2
      have ok : ∀ t ∈ Mu.splitC c a, StrOk t := fun t ht => by
        have := splitC_ok c a a.length (Nat.le_refl _) oa.2 t ht
        exact ⟨by rw [sl_num]; omega, this.2⟩
      exact mt_split pins s σ w.H _ _ v us Q I rv ru ⟨_, _, rfl, rfl, rfl, by rw [toS_len, sl_num]; exact hz', by rw [split_eq a hz.1]; exact newL_of hr h (strs_vr _ ok)⟩
    · exact h.elim
  · rename_i c n _ _
    split at h
    · rename_i hz
      obtain ⟨v1, r1, e1, q1, q2⟩ := rs
      obtain ⟨v2, e2, q3⟩ := VRs.one q2
      subst e1
      subst e2
      obtain ⟨ob, rfl⟩ := q1
      obtain rfl := q3
      have hz' : a.length + 2 ≤ 16777216 := hz.2
      have ok : ∀ t ∈ Mu.splitN c n.toNat a, StrOk t := fun t ht => by
        have := splitN_ok c n.toNat a a.length (Nat.le_refl _) oa.2 t ht
        exact ⟨by rw [sl_num]; omega, this.2⟩
      exact mt_splitMax pins s σ w.H _ _ v us Q I rv ru ⟨_, _, n, rfl, rfl, rfl, by omega, by omega, by rw [toS_len, sl_num]; exact hz', by rw [splitMax_eq a hz.1.1 n hz.1.2.1]; exact newL_of hr h (strs_vr _ ok)⟩
    · exact h.elim
  · exact h.elim
end
end Ad
end

section
set_option Elab.async false
set_option linter.all false
set_option maxRecDepth 100000
set_option maxHeartbeats 4000000
namespace Ad
open PySem PySem.Spec PyProof.Rows L2
section
open PySem.W (EachIs SortsAt sortingHeap sortingHeap_old each_map list_sort_vals sortVals_data sortVals dataKind sortVals_length)
variable {g : Gc} {X : Cx} {W : WX} {c : Mu.Cx}
theorem xs_keys {w : Wd} : ∀ {kvs : List (MD × MD)} {xs : List (NestedKey × Addr × Value)}, XsR g.K w kvs xs → VRs g.K w (kvs.map (·.1)) (xs.map fun x => V.ref x.2.1)
  | [], xs, h => by
    obtain rfl : xs = [] := h
    rfl
  | (a, d) :: fs, xs, h => by
    obtain ⟨p, u, r, v, rfl, _, h1, _, _, h2⟩ := h
    exact ⟨.ref p, r.map fun x => V.ref x.2.1, rfl, h1, xs_keys h2⟩
theorem val_refs : ∀ xs : List (NestedKey × Addr × Value), Vals (xs.map fun x => V.ref x.2.1) (xs.map fun x => Value.ref x.2.1)
  | [] => .nil
  | _ :: r => .cons rfl (val_refs r)
/-- sorted(d) of a dict whose keys are tuples -/
theorem sort_dict (G : Good g X W) {pins : List (Addr × Obj)} {σ : L2.St} {s : Shared} {w : Wd} {a : Addr} {kvs : List (MD × MD)} {xs : List (NestedKey × Addr × Value)} {es' : List MD} {Q : V → Hp → Prop} {E : XK} (I : Inv X pins σ w.H s) (hr : HR g w) (hd : w.H a = some (hoX g.P g.w a xs)) (r : XsR g.K w kvs xs)
    (e : Mu.sortD (kvs.map (·.1)) = some es') (h : Aft g (VR g.K) w (Mu.newL w.ah es') Q E) :
    wpAny (model X.prog X.w) X.A (call (.builtin "sorted") [.ref a]) (EP X pins σ Q) X.xe s := by
  obtain ⟨rfl, hal, hne⟩ := sort_alike e
  obtain ⟨⟨lo, hl, o, es, ep, ho, hx, hdt, he, hn⟩, _⟩ := I.hok a _ hd
  have rks := xs_keys r
  have l1 : es.size = xs.length := by have := congrArg List.length he; simpa using this
  have hu : X.A.units + 200 < cLine := G.un
  refine Calls.call_function_entry PyProof.Rows.kind_sorted PyProof.Rows.plain_sorted PyProof.Rows.entry_sorted (PyProof.Rows.args_sorted1 _) ?_
  unfold Builtin.«sorted»
  refine wpAny_bind (m := checkCount "sorted" 1 1 _) (wpAny_pure ?_)
  refine wpAny_bind (PySem.W.kdu_collect (A := X.A.in1) (kdl_raw lo hx hdt) (I.ok.hd G.calm) ho (by omega) fun h' tk acc hk hacc => ?_)
  have ea : acc.toList = xs.map fun x => Value.ref x.2.1 := by
    have hlen : acc.toList.length = xs.length := by rw [Array.length_toList, hacc.1]; exact l1
    apply List.ext_getElem?
    intro j
    rw [List.getElem?_map]
    cases hj : acc.toList[j]? with
    | none =>
      have h1 := List.getElem?_eq_none_iff.mp hj
      rw [List.getElem?_eq_none (by omega)]
      all_goals rfl
    | some v =>
      obtain ⟨en, hen, hv⟩ := hacc.2 j v (by rw [← Array.getElem?_toList]; exact hj)
      have qe : es.toList[j]? = (xs.map (entryOfKey (nestedKind g.P g.w)))[j]? := by rw [he]
      rw [Array.getElem?_toList, hen, List.getElem?_map] at qe
      cases hb : xs[j]? with
      | none => rw [hb] at qe; exact nomatch (show some en = none from qe)
      | some b =>
        rw [hb] at qe
        have e2 : en = entryOfKey (nestedKind g.P g.w) b := Option.some.inj qe
        rw [hv, e2]
        all_goals rfl
  have I1 : Inv X pins σ w.H { s with heap := h', toks := tk } := I.kept hk
  generalize hvs : acc.toList = us at *
  have rv : Vals (xs.map fun x => V.ref x.2.1) us := by rw [ea]; exact val_refs xs
  have hlen : us.length = (kvs.map (·.1)).length := by rw [ea, List.length_map, rks.length, List.length_map]
  have hL : (kvs.map (·.1)).length ≤ sizeLine := by rw [rks.length, List.length_map]; exact hl
  refine wpAny_bind (wpAny_newList ?_ (by rw [hlen]; exact hL))
  have hoL : (h'.push (seqObj "list" us.toArray 0)).get? h'.objs.size = some (seqObj "list" us.toArray 0) := Heap.get?_push_size _ rfl
  show wpAny _ _ _ _ _ { s with heap := h'.push (seqObj "list" us.toArray 0), toks := tk }
  have er := reads_each G hr I1 hal (fun _ m => m) rks rv
  have er' : EachIs (fun v b => ∃ as, Reads (sortingHeap (h'.push (seqObj "list" us.toArray 0)) h'.objs.size us) v (pdOf b) as) us (kvs.map (·.1)) :=
    er.mono fun _ _ ⟨as, q⟩ => ⟨as, PyProof.Rows.Reads.keeps (fun b ob eb => sortingHeap_old (Nat.ne_of_lt (Heap.lt_size eb)) (Heap.get?_push_of_some _ eb)) q⟩
  have eS := stands_each rks rv
  have bm : ∀ d, d ∈ (kvs.map (·.1)).map pdOf → X.A.in1.in1.units + d.depth < cLine := fun d hd => by
    obtain ⟨b, hb, rfl⟩ := List.mem_map.mp hd
    have := pd_depth hal hr rks b hb
    show X.A.units + 1 + 1 + _ < _
    omega
  have SA := SortsAt.data (prog := X.prog) (w := X.w) (A := X.A.in1.in1) (s := { s with heap := sortingHeap (h'.push (seqObj "list" us.toArray 0)) h'.objs.size us, toks := tk }) (each_map (R := fun v d => ∃ as, Reads (sortingHeap (h'.push (seqObj "list" us.toArray 0)) h'.objs.size us) v d as) pdOf er') (pdAll_alike hal) (pd_sortable hal hne) bm
  refine wpAny_bind (wpAny_holding (wpAny_call_entry PyProof.Rows.slot_list_sort ⟨_, hoL, rfl⟩ PyProof.Rows.entry_list_sort
    (list_sort_vals (s := { s with heap := h'.push (seqObj "list" us.toArray 0), toks := tk }) hoL SA (by rw [hlen]; exact hL) ⟨_, rfl, ?_⟩) (PyProof.Rows.args_list_sort _)))
  have eo := sortVals_data false eS er' (pdAll_alike hal)
  have ho2 : (sortVals (dataKind (sortingHeap (h'.push (seqObj "list" us.toArray 0)) h'.objs.size us) ((kvs.map (·.1)).map pdOf)) false us us).length = us.length := sortVals_length false rfl
  generalize sortVals (dataKind (sortingHeap (h'.push (seqObj "list" us.toArray 0)) h'.objs.size us) ((kvs.map (·.1)).map pdOf)) false us us = out at *
  rw [sort_le hal] at eo
  obtain ⟨vs', q1, q2⟩ := each_stands eo
  obtain ⟨e', he'⟩ := PyProof.Rows.sortedHeap_at (vs := us) (out := out.toArray) hoL
  have hlen' : vs'.length ≤ sizeLine := by rw [q1.length, ho2, hlen]; exact hL
  refine wpAny_pure ⟨_, rfl, .ref h'.objs.size, upd w.H h'.objs.size (.lst vs'), I1.laid (t' := tk) (fun b u eb => ?_) (Nat.le_refl _)
    (show ObjOk X.prog X.w _ _ _ (.lst vs') from ⟨hlen', out, e', q1, he'⟩), rfl, newL_of hr h q2 _ (I1.hok.fresh (Nat.le_refl _))⟩
  have hb : b < h'.objs.size := Heap.lt_size eb
  rw [PyProof.Rows.sortedHeap_old (Nat.ne_of_lt hb) (by rw [size_push']; exact Nat.lt_succ_of_lt hb)]
  exact Heap.get?_push_of_some _ eb
/-! ### built-in functions called -/
def bfN : Mu.Bf → String
  | .len => "len" | .int => "int" | .str => "str" | .abs => "abs" | .max => "max" | .min => "min" | .ord => "ord"
  | .sum => "sum" | .all => "all" | .any => "any" | .sorted => "sorted" | .tuple => "tuple" | .list => "list"
theorem sorted_one : ∀ {a b : List Int}, a.Perm b → a.Pairwise (· ≤ ·) → b.Pairwise (· ≤ ·) → a = b
  | [], b, p, _, _ => (List.nil_perm.mp p).symm
  | x :: a, [], p, _, _ => by have := p.length_eq; simp at this
  | x :: a, y :: b, p, h1, h2 => by
    have hx : x ∈ y :: b := p.subset (by simp)
    have hy : y ∈ x :: a := p.symm.subset (by simp)
    rw [List.pairwise_cons] at h1 h2
    have exy : x = y := by
      rcases List.mem_cons.mp hx with e | e
      · exact e
      · rcases List.mem_cons.mp hy with e2 | e2
        · exact e2.symm
        · have := h1.1 y e2; have := h2.1 x e; omega
    subst exy
    rw [sorted_one (List.Perm.cons_inv p) h1.2 h2.2]
theorem keys_int {w : Wd} : ∀ {kvs : List (MD × MD)} {gs : List (Key × V)} {ns : List Int}, KvR g.K w kvs gs → Mu.allInt (kvs.map (·.1)) = some ns → gs.map (·.1) = ns.map Sum.inl
  | [], gs, ns, h, e => by
    obtain rfl : gs = [] := h
    cases e; rfl
  | (a, d) :: fs, gs, ns, h, e => by
    obtain ⟨k, v, r, rfl, h0, _, h2⟩ := h
    cases a with
    | int i =>
      have e' : (Mu.allInt (fs.map (·.1))).map (fun l => i :: l) = some ns := e
      cases q : Mu.allInt (fs.map (·.1)) with
      | none => rw [q] at e'; cases e'
      | some ms =>
        rw [q] at e'; cases e'
        obtain rfl : k = .inl i := h0
        simp [keys_int h2 q]
    | _ => cases e
theorem ints_vr {w : Wd} : ∀ ns : List Int, VRs g.K w (ns.map Mu.D.int) (ns.map V.int)
  | [] => rfl
  | n :: ns => ⟨.int n, ns.map V.int, rfl, rfl, ints_vr ns⟩
theorem b_sorted (G : Good g X W) : CallR X (.builtin "sorted") (rBlt g .sorted) := by
  intro pins s σ H vs us Q I rv h
  obtain ⟨ds, w, E, rfl, hr, r, h⟩ := h
  have h : Aft g (VR g.K) w (Mu.sortR w.ah ds) Q E := h
  unfold Mu.sortR at h
  split at h
  · obtain ⟨v, rfl, q⟩ := r.one
    split at h
    · rename_i ds' e0
      obtain ⟨rfl, xs, t, rs⟩ := VR.obj_at hr q e0
      obtain ⟨u, rfl, ru⟩ := vals1 rv
      cases ru
      split at h
      · rename_i es e1
        exact sort_list G I hr (.of t) rs e1 h
      · exact h.elim
    · rename_i kvs e0
      split at h
      · rename_i ns e1
        split at h
        · rename_i h64
          obtain ⟨rfl, hnd, gs, hH, hk⟩ := VR.obj_at hr q e0
          refine call_sortedDI G.calm pins s σ w.H _ us Q I rv ⟨w.mu _, gs, ns, rfl, .inl hH, keys_int hk e1, h64, fun ys p hp hs np => ?_⟩
          have hm : ys = ns.mergeSort fun a b => decide (a ≤ b) := by
            refine sorted_one (hp.trans (List.mergeSort_perm _ _).symm) hs ?_
            have := List.pairwise_mergeSort (le := fun a b : Int => decide (a ≤ b)) (fun a b c h1 h2 => by simp at *; omega) (fun a b => by simp; omega) ns
            exact this.imp fun h => of_decide_eq_true h
          subst hm
          exact newL_of hr h (ints_vr _) p np
        · exact h.elim
      · exact h.elim
    · rename_i kvs e0
      split at h
      · rename_i es e1
        obtain ⟨rfl, hnd, xs, hH, hk⟩ := VR.obj_at hr q e0
        obtain ⟨u, rfl, ru⟩ := vals1 rv
        cases ru
        exact sort_dict G I hr hH hk e1 h
      · exact h.elim
    · exact h.elim
  · exact h.elim
theorem rb_of {f : Mu.Bf} {e : Expr} {es : List Expr} {ds : Mu.Es} {p pos : Pos} (hh : PE X (.Call (.Name (nm (bfN f)) p) (e :: es) [] pos) (tCB (rBlt g f) (tA g W c ds))) :
    PE X (.Call (.Name (nm (bfN f)) p) (e :: es) [] pos) (tE g W c (.blt f ds)) := by
  refine PE_weak hh ?_
  rintro σ H Q ⟨w, fr, rfl, hr, hf, h⟩
  rw [Mu.ev] at h
  obtain ⟨w1, fr1, e1, hr1, hf1, q1⟩ := oneA (rel := VR g.K) hr hf h
  refine ⟨w1, fr1, e1, hr1, hf1, q1.imp fun x H1 ⟨dx, w2, e2, l2, hr2, hf2, r2, _, q2⟩ => ?_⟩
  exact ⟨dx, w2, _, e2, hr2, r2, q2⟩
theorem e_blt {f : Mu.Bf} {e : Expr} {es : List Expr} {ds : Mu.Es} {p pos : Pos} (G : Good g X W) (hg : Gl X (nm (bfN f))) (hm : g.mg (nm (bfN f)) = none) (hp : plainArgs (e :: es) = true) (ha : PA X (e :: es) (tA g W c ds)) :
    PE X (.Call (.Name (nm (bfN f)) p) (e :: es) [] pos) (tE g W c (.blt f ds)) := by
  have he := (star_cons hp X.env).1
  have hpl := star_any (star_cons hp X.env).2 X.env pos
  rw [← G.mg] at hm
  cases f with
  | len => exact rb_of (pe_callB (b_len G) hg hm (by kernel_rfl) ha (by decide +kernel) (by decide +kernel) he hpl)
  | int => exact rb_of (pe_callTy (b_int G) hg hm (by kernel_rfl) ha (by decide +kernel) (by decide +kernel) he hpl)
  | str => exact rb_of (pe_callTy (b_str G) hg hm (by kernel_rfl) ha (by decide +kernel) (by decide +kernel) he hpl)
  | abs => exact rb_of (pe_callB (b_abs G) hg hm (by kernel_rfl) ha (by decide +kernel) (by decide +kernel) he hpl)
  | max => exact rb_of (pe_callB (b_max G) hg hm (by kernel_rfl) ha (by decide +kernel) (by decide +kernel) he hpl)
  | min => exact rb_of (pe_callB (b_min G) hg hm (by kernel_rfl) ha (by decide +kernel) (by decide +kernel) he hpl)
  | ord => exact rb_of (pe_callB (b_ord G) hg hm (by kernel_rfl) ha (by decide +kernel) (by decide +kernel) he hpl)
  | sum => exact rb_of (pe_callB (b_sum G) hg hm (by kernel_rfl) ha (by decide +kernel) (by decide +kernel) he hpl)
  | all => exact rb_of (pe_callB (b_all G) hg hm (by kernel_rfl) ha (by decide +kernel) (by decide +kernel) he hpl)
  | any => exact rb_of (pe_callB (b_any G) hg hm (by kernel_rfl) ha (by decide +kernel) (by decide +kernel) he hpl)
  | sorted => exact rb_of (pe_callB (b_sorted G) hg hm (by kernel_rfl) ha (by decide +kernel) (by decide +kernel) he hpl)
  | tuple => exact rb_of (pe_callTy (b_tuple G) hg hm (by kernel_rfl) ha (by decide +kernel) (by decide +kernel) he hpl)
  | list => exact rb_of (pe_callTy (b_list G) hg hm (by kernel_rfl) ha (by decide +kernel) (by decide +kernel) he hpl)

/-! ### methods of built-in values -/
def bmN : Mu.Bm → String
  | .join => "join" | .startswith => "startswith" | .split => "split" | .append => "append" | .extend => "extend" | .insert => "insert"
  | .reverse => "reverse" | .pop => "pop" | .index => "index" | .get => "get" | .setdefault => "setdefault"
structure Mm (g : Gc) (X : Cx) (k : Nat) (m : Mu.Bm) : Prop where
  ex : ∃ T id, PlainAttrs T ∧ Slot T (nm (bmN m)) id ∧ typeOf (.builtin id) = pure (.type "method_descriptor") ∧ T = (if k = 1 then "str" else if k = 2 then "list" else "dict") ∧ MtG g X k m id
theorem mm_of (G : Good g X W) {k : Nat} {m : Mu.Bm} (h : Mu.mOk m k = true) : Mm g X k m := by
  unfold Mu.mOk at h
  split at h
  · exact ⟨"str", "str.join", F.plainAttrs_str, F.slot_str_join, F.type_str_join, rfl, m_join G⟩
  · exact ⟨"str", "str.startswith", F.plainAttrs_str, F.slot_str_startswith, F.type_str_startswith, rfl, m_starts G⟩
  · exact ⟨"str", "str.split", F.plainAttrs_str, F.slot_str_split, F.type_str_split, rfl, m_split G⟩
  · exact ⟨"list", "list.append", F.plainAttrs_list, F.slot_list_append, F.type_list_append, rfl, m_append G⟩
  · exact ⟨"list", "list.extend", F.plainAttrs_list, F.slot_list_extend, F.type_list_extend, rfl, m_extend G⟩
  · exact ⟨"list", "list.insert", F.plainAttrs_list, F.slot_list_insert, F.type_list_insert, rfl, m_insert G⟩
  · exact ⟨"list", "list.reverse", F.plainAttrs_list, F.slot_list_reverse, F.type_list_reverse, rfl, m_reverse G⟩
  · exact ⟨"list", "list.index", F.plainAttrs_list, F.slot_list_index, F.type_list_index, rfl, m_index G⟩
  · exact ⟨"list", "list.pop", F.plainAttrs_list, F.slot_list_pop, F.type_list_pop, rfl, m_popL G⟩
  · exact ⟨"dict", "dict.pop", F.plainAttrs_dict, F.slot_dict_pop, F.type_dict_pop, rfl, m_popD G⟩
  · exact ⟨"dict", "dict.get", F.plainAttrs_dict, F.slot_dict_get, F.type_dict_get, rfl, m_getD G⟩
  · exact ⟨"dict", "dict.setdefault", F.plainAttrs_dict, F.slot_dict_setdefault, F.type_dict_setdefault, rfl, m_setdef G⟩
  · cases h
theorem kd_is (G : Good g X W) {pins : List (Addr × Obj)} {σ : L2.St} {s : Shared} {w : Wd} {d : MD} {x : V} {v : Value} {m : Mu.Bm} (I : Inv X pins σ w.H s) (hr : HR g w) (rd : VR g.K w d x) (rv : RelV x v) (h : Mu.mOk m (Mu.kdO w.ah d) = true) :
    s.TypeIs v (if Mu.kdO w.ah d = 1 then "str" else if Mu.kdO w.ah d = 2 then "list" else "dict") ∧ ∀ a, v = .ref a → ∃ ob, s.heap.get? a = some ob ∧ ob.dict = none := by
  have hk : Mu.kdO w.ah d = 1 ∨ Mu.kdO w.ah d = 2 ∨ Mu.kdO w.ah d = 3 := by
    unfold Mu.mOk at h
    generalize Mu.kdO w.ah d = k at h
    split at h <;> first | exact .inl rfl | exact .inr (.inl rfl) | exact .inr (.inr rfl) | cases h
  rcases hk with hk | hk | hk
  · obtain ⟨z, rfl⟩ := kd1 hk
    obtain ⟨_, rfl⟩ := rd
    rw [hk]
    exact tyV_is I rv rfl
  · obtain ⟨p, ds, rfl, e⟩ := kd2 hk
    obtain ⟨rfl, xs, t, q⟩ := VR.obj_at hr rd e
    rw [hk]
    exact tyV_is (T := "list") I rv (.inl ⟨rfl, xs, .of t⟩)
  · obtain ⟨p, tk, kvs, rfl, e⟩ := kd3 hk
    obtain ⟨rfl, o⟩ := VR.obj_at hr rd e
    rw [hk]
    cases tk with
    | false =>
      obtain ⟨nd, ks, hd, rel⟩ := o
      exact tyV_is (T := "dict") I rv (.inr (.inr (.inl ⟨rfl, .inl ⟨ks, hd⟩⟩)))
    | true =>
      obtain ⟨nd, xs, hd, rel⟩ := o
      cases rv
      obtain ⟨⟨_, _, o, es, ep, h1, h2, _⟩, _⟩ := I.hok _ _ hd
      refine ⟨⟨o, h1, h2.1⟩, fun a e => ?_⟩
      cases e
      exact ⟨o, h1, h2.2.1⟩
theorem few_of {args : List Expr} {env : Env} {pos : Pos} (hp : plainArgs args = true) (hl : args.length < 30) : ((backTo pos (starEach args env)).all (fun x => !x.1) && (backToKw pos (keywordEach [] env)).all (fun x => x.1.isSome)
      && decide (args.length + ([] : List Keyword).length + (if ([] : List Keyword).isEmpty then 0 else 1) < 30)) = true := by
  have h1 := star_any hp env pos
  have h2 : (backTo pos (starEach args env)).all (fun x => !x.1) = true := by
    rw [List.all_eq_true]
    rw [List.any_eq_false] at h1
    intro x hx
    have := h1 x hx
    simpa using this
  rw [h2]
  simp [keywordEach, backToKw, hl]
theorem e_bm {m : Mu.Bm} {o : XS} {x e : Expr} {es : List Expr} {ds : Mu.Es} {apos pos : Pos} (G : Good g X W) (hb : attributeBase x (nm (bmN m)) X.env (eval x X.env) = eval x X.env) (hp : plainArgs (e :: es) = true) (hl : (e :: es).length < 30)
    (hpos : (apos.endLine == pos.line) = true) (ho : PE X x (tE g W c o)) (ha : PA X (e :: es) (tA g W c ds)) : PE X (.Call (.Attribute x (nm (bmN m)) apos) (e :: es) [] pos) (tE g W c (.bm o m ds)) := by
  refine ⟨fun pins s σ H Q I h => ?_⟩
  obtain ⟨w, fr, rfl, hr, hfr, h⟩ := h
  rw [Mu.ev] at h
  obtain ⟨w1, fr1, e1, hr1, hf1, q1⟩ := one (rel := VR g.K) hr hfr h
  refine wpAny_Call_method_late hb (few_of hp hl) hpos rfl (thn (ho.run pins s σ w.H _ I ⟨w1, fr1, e1, hr1, hf1, q1⟩) fun v s1 hh => ?_)
  obtain ⟨xv, H1, I1, rx, d, w2, e2, l2, hr2, hf2, r2, _, q2⟩ := hh
  subst e2
  split at q2
  · exact q2.elim
  · rename_i hok
    have hok : Mu.mOk m (Mu.kdO w2.ah d) = true := by simpa using hok
    obtain ⟨T, id, pa, sl, ty, hT, M⟩ := (mm_of G hok).ex
    obtain ⟨t1, t2⟩ := kd_is G I1 hr2 r2 rx hok
    subst hT
    refine ⟨_, id, pa, sl, ty, t1, t2, ?_⟩
    obtain ⟨w3, fr3, e3, hr3, hf3, q3⟩ := oneA (rel := VR g.K) hr2 hf2 q2
    have hA := ha.run pos pins s1 σ w2.H _ I1 ⟨w3, fr3, e3, hr3, hf3, q3⟩
    have hs := (star_cons hp X.env).1
    have hpl := star_any (star_cons hp X.env).2 X.env pos
    rw [hs] at hA ⊢
    refine Calls.callWith_builtin (by show (false || (backTo pos (starEach es X.env)).any (·.1)) = false; rw [hpl] <;> rfl) (Calls.evalArgs_plain ?_)
    refine thn hA fun us s2 hh => ?_
    obtain ⟨vs, H2, I2, rv, dvs, w4, e4, l4, hr4, hf4, r4, _, q4⟩ := hh
    subst e4
    split at q4
    · rename_i hk
      exact M pins s2 σ w4 d dvs xv vs v us Q _ I2 hr4 (VR.mono l4 _ _ r2) r4 rx rv hk q4
    · exact q4.elim
theorem e_bm0 {m : Mu.Bm} {o : XS} {x : Expr} {apos pos : Pos} (G : Good g X W) (hb : attributeBase x (nm (bmN m)) X.env (eval x X.env) = eval x X.env)
    (hpos : (apos.endLine == pos.line) = true) (ho : PE X x (tE g W c o)) : PE X (.Call (.Attribute x (nm (bmN m)) apos) [] [] pos) (tE g W c (.bm o m .nil)) := by
  refine ⟨fun pins s σ H Q I h => ?_⟩
  obtain ⟨w, fr, rfl, hr, hfr, h⟩ := h
  rw [Mu.ev] at h
  obtain ⟨w1, fr1, e1, hr1, hf1, q1⟩ := one (rel := VR g.K) hr hfr h
  refine wpAny_Call_method0_late hb hpos (thn (ho.run pins s σ w.H _ I ⟨w1, fr1, e1, hr1, hf1, q1⟩) fun v s1 hh => ?_)
  obtain ⟨xv, H1, I1, rx, d, w2, e2, l2, hr2, hf2, r2, _, q2⟩ := hh
  subst e2
  split at q2
  · exact q2.elim
  · rename_i hok
    have hok : Mu.mOk m (Mu.kdO w2.ah d) = true := by simpa using hok
    obtain ⟨T, id, pa, sl, ty, hT, M⟩ := (mm_of G hok).ex
    obtain ⟨t1, t2⟩ := kd_is G I1 hr2 r2 rx hok
    subst hT
    refine ⟨_, id, pa, sl, ty, t1, t2, ?_⟩
    rw [Mu.evs, Mu.R.bind_ok] at q2
    rw [if_pos rfl] at q2
    exact Calls.callWith_builtin rfl (PySem.evalArgs_none (M pins s1 σ w2 d [] xv [] v [] Q _ I1 hr2 r2 rfl rx .nil rfl q2))

/-! ### isinstance -/
def tyN : Mu.Ty → String
  | .int => "int" | .bool => "bool" | .str => "str" | .tuple => "tuple" | .list => "list" | .dict => "dict"
theorem kit_tab (t : Mu.Ty) : kitB "NoneType" (tyN t) = some false ∧ kitB "bool" (tyN t) = some (decide (t = .int) || decide (t = .bool)) ∧ kitB "int" (tyN t) = some (decide (t = .int)) ∧ kitB "str" (tyN t) = some (decide (t = .str)) ∧ kitB "tuple" (tyN t) = some (decide (t = .tuple)) ∧ kitB "list" (tyN t) = some (decide (t = .list)) ∧ kitB "dict" (tyN t) = some (decide (t = .dict)) := by
  cases t <;> refine ⟨?_, ?_, ?_, ?_, ?_, ?_, ?_⟩ <;> kernel_rfl
theorem isa_ty (G : GoodH g X W) {w : Wd} (hr : HR g w) {d : MD} {x : V} {t : Mu.Ty} {b : Bool} (h : Mu.isaR w.ah d t = some b) (r : VR g.K w d x) : ∃ n, TyX X.K w.H x (.type n) ∧ kitB n (tyN t) = some b := by
  obtain ⟨k1, k2, k3, k4, k5, k6, k7⟩ := kit_tab t
  cases d with
  | non => obtain rfl : x = .non := r; cases h; exact ⟨_, .base .non, k1⟩
  | bl z => obtain rfl : x = .bl z := r; cases h; exact ⟨_, .base (.bl z), k2⟩
  | int z => obtain rfl : x = .int z := r; cases h; exact ⟨_, .base (.int z), k3⟩
  | str z => obtain ⟨_, rfl⟩ := r; cases h; exact ⟨_, .base (.str _), k4⟩
  | tup ds =>
    obtain ⟨a, vs, rfl, t2, _⟩ := r
    cases h
    rw [G.K]
    rcases t2 with (t2 | ⟨o, t2⟩) | ⟨o, its, n, h1, h2, h3⟩
    · exact ⟨_, .base (.tup t2), k5⟩
    · exact ⟨_, .fTuple t2, k5⟩
    · exact ⟨_, .kTuple h1 h2, k5⟩
  | lst ds =>
    obtain ⟨a, vs, rfl, t2, _⟩ := r
    cases h
    rw [G.K]
    rcases t2 with ⟨o, t2⟩ | ⟨o, its, n, h1, h2, h3⟩
    · exact ⟨_, .base (.frz t2), k6⟩
    · exact ⟨_, .kList h1 h2, k6⟩
  | obj p =>
    simp only [Mu.isaR] at h
    split at h
    · rename_i e0
      cases h
      obtain ⟨rfl, vs, t2, _⟩ := VR.obj_at hr r e0
      exact ⟨_, .base (.lst t2), k6⟩
    · rename_i e0
      cases h
      obtain ⟨rfl, nd, ks, hd, _⟩ := VR.obj_at hr r e0
      exact ⟨_, .base (.dK hd), k7⟩
    · cases h
def rIsa (g : Gc) (t : Mu.Ty) : List V → Hp → VK → Prop := fun vs H Q => ∃ d x b w, w.H = H ∧ HR g w ∧ VR g.K w d x ∧ vs = [x, .ty (tyN t)] ∧ Mu.isaR w.ah d t = some b ∧ Q (.bl b) H
theorem cr_isa (G : GoodH g X W) (t : Mu.Ty) : CallR X (.builtin "isinstance") (rIsa g t) := by
  intro pins s σ H vs us Q I rv h
  obtain ⟨d, x, b, w, rfl, hr, r, rfl, e, q⟩ := h
  obtain ⟨n, h1, h2⟩ := isa_ty G hr e r
  exact call_isi pins s σ w.H _ us Q I rv ⟨x, _, _, _, b, rfl, .ty (tyN t), h1, kit_ty h2, q⟩
theorem e_isa {t : Mu.Ty} {a : XS} {x : Expr} {p1 p2 pos : Pos} (G : GoodH g X W) (hg : Gl X (nm "isinstance")) (hm : g.mg (nm "isinstance") = none) (hg2 : Gl X (nm (tyN t))) (hm2 : g.mg (nm (tyN t)) = none) (hp : plainArgs [x] = true) (ha : PE X x (tE g W c a)) :
    PE X (.Call (.Name (nm "isinstance") p1) [x, .Name (nm (tyN t)) p2] [] pos) (tE g W c (.isa a t)) := by
  have he := (star_cons hp X.env).1
  rw [← G.mg] at hm hm2
  have hT : PE X (.Name (nm (tyN t)) p2) (tC (.ty (tyN t))) := by
    cases t <;> exact pe_bltn hg2 hm2 (by kernel_rfl) rfl (by decide +kernel) (by decide +kernel)
  have he2 : starEach [x, .Name (nm (tyN t)) p2] X.env = (false, eval x X.env) :: starEach [.Name (nm (tyN t)) p2] X.env := by
    cases x <;> first | rfl | cases hp
  have hargs : PA X [x, .Name (nm (tyN t)) p2] (tCons (tE g W c a) (tCons (tC (.ty (tyN t))) tNil)) := pa_cons ha (pa_cons hT pa_nil rfl) he2
  refine PE_weak (pe_callB (cr_isa G t) hg hm (by kernel_rfl) hargs (by decide +kernel) (by decide +kernel) he2 rfl) ?_
  rintro σ H Q ⟨w, fr, rfl, hr, hf, h⟩
  rw [Mu.ev] at h
  obtain ⟨w1, fr1, e1, hr1, hf1, q1⟩ := one (rel := VR g.K) hr hf h
  refine ⟨w1, fr1, e1, hr1, hf1, q1.imp fun x H1 ⟨dx, w2, e2, l2, hr2, hf2, r2, _, q2⟩ => ?_⟩
  subst e2
  cases e : Mu.isaR w2.ah dx t with
  | none => rw [e] at q2; exact q2.elim
  | some b =>
    rw [e] at q2
    exact ⟨dx, x, b, w2, rfl, hr2, r2, rfl, e, Aft.bl q2 rfl hr2⟩
end
end Ad
end

section
set_option Elab.async false
set_option linter.all false
set_option maxRecDepth 100000
set_option maxHeartbeats 4000000
namespace Ad
open PySem PySem.Spec PyProof.Rows L2
section
variable {g : Gc} {X : Cx} {W : WX} {c : Mu.Cx} {mP : Mu.Prog} {gf ml : List String} {n k : Nat} {hx : Option Mu.Exn}
/-! ### C(..) -/
theorem e_make {kc : String} {e : Expr} {es : List Expr} {ds : Mu.Es} {p pos : Pos} (G : Good g X W) (C : Calls g mP gf ml n k X) (hg : Gl X (nm kc)) (hc : kc ∈ g.cs) (hd : (nm kc == ("__debug__" : Str)) = false) (hp : plainArgs (e :: es) = true)
    (ha : PA X (e :: es) (tA g W (cx mP n hx) ds)) : PE X (.Call (.Name (nm kc) p) (e :: es) [] pos) (tE g W (cx mP n hx) (.make kc ds)) := by
  refine ⟨fun pins s σ H Q I h => ?_⟩
  obtain ⟨w, fr, rfl, hr, hfr, h⟩ := h
  rw [Mu.ev] at h
  obtain ⟨w1, fr1, e1, hr1, hf1, q1⟩ := oneA (rel := VR g.K) hr hfr h
  refine wpAny_Call_Name_kw (ld_glob I hg (by rw [G.mg]; exact (C.fx.made kc hc).1) ?_ hd)
  have hk : PySem.W.keepIn X.K (.ref (g.cA kc)) = true := by rw [G.K]; exact (C.fx.made kc hc).2.kp
  refine PySem.W.callWith_K (h₀ := X.base) I.ok.mod.kin hk (thn (ha.run pos pins s σ w.H _ I ⟨w1, fr1, e1, hr1, hf1, q1⟩) fun us s1 hh => ?_) (star_cons hp X.env).1 (star_any (star_cons hp X.env).2 X.env pos)
  obtain ⟨vs, H1, I1, r, dvs, w2, e2, l2, hr2, hf2, rv, _, q2⟩ := hh
  subst e2
  exact ⟨I1.kIn, run_made G C hc I1 r hr2 rv q2⟩
theorem e_make0 {kc : String} {p pos : Pos} (G : Good g X W) (C : Calls g mP gf ml n k X) (hg : Gl X (nm kc)) (hc : kc ∈ g.cs) (hd : (nm kc == ("__debug__" : Str)) = false) :
    PE X (.Call (.Name (nm kc) p) [] [] pos) (tE g W (cx mP n hx) (.make kc .nil)) := by
  refine ⟨fun pins s σ H Q I h => ?_⟩
  obtain ⟨w, fr, rfl, hr, hfr, h⟩ := h
  rw [Mu.ev, Mu.evs, Mu.R.bind_ok] at h
  refine wpAny_Call_Name_kw (ld_glob I hg (by rw [G.mg]; exact (C.fx.made kc hc).1) ?_ hd)
  have hk : PySem.W.keepIn X.K (.ref (g.cA kc)) = true := by rw [G.K]; exact (C.fx.made kc hc).2.kp
  exact PySem.W.callWith_K0 I.kIn hk (run_made (us := []) (vs := []) (dvs := []) G C hc I .nil hr rfl h)
theorem e_call0 {f : String} {p pos : Pos} (G : Good g X W) (C : Calls g mP gf ml n k X) (hg : Gl X (nm f)) (hf : f ∈ gf) (hd : (nm f == ("__debug__" : Str)) = false) : PE X (.Call (.Name (nm f) p) [] [] pos) (tE g W (cx mP n hx) (.call f .nil)) := by
  refine ⟨fun pins s σ H Q I h => ?_⟩
  obtain ⟨w, fr, rfl, hr, hfr, h⟩ := h
  rw [Mu.ev, Mu.evs, Mu.R.bind_ok] at h
  have q2 : Aft g (VR g.K) w (Mu.callN mP n f [] w.ah) Q (fun cl d H' => W cl d σ H') := h
  refine wpAny_Call_Name_kw (ld_glob I hg (by rw [G.mg]; exact (C.fx.glo f hf).1) ?_ hd)
  have hk : PySem.W.keepIn X.K (.ref (g.fA f)) = true := by rw [G.K]; exact (C.fx.glo f hf).2
  obtain ⟨fn, ef, hl⟩ := call_there q2
  obtain ⟨fd, ps, FO, bo⟩ := fn_at G.toGoodH C ef
  exact PySem.W.callWith_K0 I.kIn hk (run_fnS (us := []) (vs := []) (E := WE W) FO (C.room.mono (Nat.le_succ _)) bo (passAt G.takes σ) I .nil ⟨w, [], fn, rfl, hr, rfl, ef, hl, q2⟩)

/-! ### constant dicts -/
/-- the entries of a constant dict: texts as keys -/
inductive GdR (g : Gc) : List (MD × MD) → List DictEntry → Prop where
  | nil : GdR g [] []
  | cons {k : String} {d : MD} {e : DictEntry} {r : List (MD × MD)} {es : List DictEntry} (hk : ∃ t, e.key = .str (nm k) t) (hv : ∃ v, RelV v e.val ∧ ∀ w, VR g.K w d v) (h : GdR g r es) : GdR g ((.str (Mu.cp k), d) :: r) (e :: es)
theorem GdR.find {z : List Nat} : ∀ {kvs : List (MD × MD)} {es : List DictEntry}, GdR g kvs es → (Mu.dlook (.str z) kvs = none ∧ es.find? (·.key.isStr (toS z)) = none ∧ es.any (·.refKey) = false) ∨ ∃ d e v, Mu.dlook (.str z) kvs = some d ∧ es.find? (·.key.isStr (toS z)) = some e ∧ RelV v e.val ∧ ∀ w, VR g.K w d v := by
  intro kvs es h
  induction h with
  | nil => exact .inl ⟨rfl, rfl, rfl⟩
  | @cons k d e r es hk hv h ih =>
    obtain ⟨t, hk⟩ := hk
    by_cases q : Mu.cp k = z
    · subst q
      obtain ⟨v, r1, r2⟩ := hv
      refine .inr ⟨d, e, v, by simp [Mu.dlook], ?_, r1, r2⟩
      rw [List.find?_cons]
      have : e.key.isStr (toS (Mu.cp k)) = true := by rw [hk, nm_cp]; simp [Value.isStr]
      rw [this]
    · have e1 : e.key.isStr (toS z) = false := by
        rw [hk, nm_cp]
        have : toS (Mu.cp k) ≠ toS z := fun w => q (toS_inj w)
        simp [Value.isStr, this]
      have e3 : Mu.dlook (.str z) ((.str (Mu.cp k), d) :: r) = Mu.dlook (.str z) r := by simp [Mu.dlook, q]
      rw [e3, List.find?_cons, e1, List.any_cons]
      have e4 : e.refKey = false := by simp [DictEntry.refKey, hk]
      rw [e4]
      simpa using ih
/-- a module's dict of constants -/
def GdOk (g : Gc) (x : String) (kvs : List (MD × MD)) : Prop := ∃ d es m, L2.KDict g.K g.w d es m ∧ g.mg (nm x) = some (.ref d) ∧ GdR g kvs es.toList
theorem ns_of {kvs : List (MD × MD)} {d : Addr} {es : Array DictEntry} {m : Nat} (D : L2.KDict g.K g.w d es m) (r : GdR g kvs es.toList) (z : List Nat) :
    (Mu.dlook (.str z) kvs = none ∧ PySem.W.nsIn g.K d (toS z) = some none) ∨ ∃ dd u v, Mu.dlook (.str z) kvs = some dd ∧ PySem.W.nsIn g.K d (toS z) = some (some u) ∧ RelV v u ∧ ∀ w, VR g.K w dd v := by
  unfold PySem.W.nsIn
  rw [D.at_]
  rcases r.find (z := z) with ⟨e1, e2, e3⟩ | ⟨dd, e, v, e1, e2, r1, r2⟩
  · left; simp [e1, e2, e3]
  · right; exact ⟨dd, e.val, v, e1, by simp [e2], r1, r2⟩
theorem gin_key {d : Addr} {es : Array DictEntry} {m : Nat} {a : XS} {z : String} (G : Good g X W) (D : L2.KDict g.K g.w d es m) (r : GdR g (c.gd z) es.toList) (b : Bool) {σ : L2.St} {Q : VK} {w : Wd} {fr : Mu.Fr} (hr : HR g w) (hf : FR g.K w fr σ) (h : Aft g (VR g.K) w (Mu.ev c fr w.ah (.gin b a z)) Q (fun cl d H' => W cl d σ H')) :
    tE g W c a σ w.H fun x H1 => ∃ (s : List Nat) (o : Option Value), x = .str (toS s) ∧ PySem.W.nsIn X.K d (toS s) = some o ∧ Q (.bl (b ^^ o.isSome)) H1 := by
  rw [Mu.ev] at h
  obtain ⟨w1, fr1, e1, hr1, hf1, q1⟩ := one (rel := VR g.K) hr hf h
  refine ⟨w1, fr1, e1, hr1, hf1, q1.imp fun x H1 ⟨dx, w2, e2, l2, hr2, hf2, r2, _, q2⟩ => ?_⟩
  subst e2
  cases dx with
  | str s =>
    obtain ⟨_, rfl⟩ := r2
    have q3 := Aft.bl q2 rfl hr2
    rcases ns_of D r s with ⟨e1, e2⟩ | ⟨dd, u, v, e1, e2, _, _⟩
    · rw [e1] at q3; exact ⟨s, none, rfl, by rw [G.K]; exact e2, q3⟩
    · rw [e1] at q3; exact ⟨s, some u, rfl, by rw [G.K]; exact e2, q3⟩
  | _ => exact q2.elim
theorem e_gin {neg : Bool} {a : XS} {x : Expr} {z : String} {p pos : Pos} (G : Good g X W) (ok : GdOk g z (c.gd z)) (hg : Gl X (nm z)) (hd : (nm z == ("__debug__" : Str)) = false) (ha : PE X x (tE g W c a)) :
    PE X (.Compare x [if neg then .NotIn else .In] [.Name (nm z) p] pos) (tE g W c (.gin neg a z)) := by
  obtain ⟨d, es, m, D, hm, r⟩ := ok
  have D' : L2.KDict X.K X.w d es m := by rw [G.K, G.w]; exact D
  have hN : PE X (.Name (nm z) p) (tC (.ref d)) := pe_glob hg (by rw [G.mg]; exact hm) rfl hd
  cases neg with
  | false =>
    refine PE_weak (pe_cmpR (op_in_kd D') ha hN rfl) ?_
    rintro σ H Q ⟨w, fr, rfl, hr, hf, h⟩
    obtain ⟨w1, fr1, e1, hr1, hf1, q1⟩ := gin_key G D r false hr hf h
    exact ⟨w1, fr1, e1, hr1, hf1, q1.imp fun x H1 ⟨s, o, e1, e2, q⟩ => ⟨toS s, o, e1, rfl, e2, by simpa using q⟩⟩
  | true =>
    refine PE_weak (pe_cmpR (op_notIn_kd D') ha hN rfl) ?_
    rintro σ H Q ⟨w, fr, rfl, hr, hf, h⟩
    obtain ⟨w1, fr1, e1, hr1, hf1, q1⟩ := gin_key G D r true hr hf h
    exact ⟨w1, fr1, e1, hr1, hf1, q1.imp fun x H1 ⟨s, o, e1, e2, q⟩ => ⟨toS s, o, e1, rfl, e2, by simpa using q⟩⟩
theorem bl_gin {neg : Bool} {a : XS} {z : String} : BlE c (.gin neg a z) := by
  intro fr h d h' e
  rw [Mu.ev] at e
  cases e1 : Mu.ev c fr h a with
  | ok x h1 =>
    rw [e1, Mu.R.bind_ok] at e
    cases x with
    | str s => cases e; exact ⟨_, rfl⟩
    | _ => cases e
  | ex x h2 => rw [e1] at e; cases e
  | bad => rw [e1] at e; cases e
theorem t_gin {neg : Bool} {a : XS} {x : Expr} {z : String} {p pos : Pos} (G : Good g X W) (ok : GdOk g z (c.gd z)) (hg : Gl X (nm z)) (hd : (nm z == ("__debug__" : Str)) = false) (ha : PE X x (tE g W c a)) :
    PT X (.Compare x [if neg then .NotIn else .In] [.Name (nm z) p] pos) (tT g W c (.gin neg a z)) := by
  obtain ⟨d, es, m, D, hm, r⟩ := ok
  have D' : L2.KDict X.K X.w d es m := by rw [G.K, G.w]; exact D
  have hN : PE X (.Name (nm z) p) (tC (.ref d)) := pe_glob hg (by rw [G.mg]; exact hm) rfl hd
  cases neg with
  | false =>
    refine PT_weak (pt_cmpR (op_in_kd D') ha hN rfl) ?_
    rintro σ H Q ⟨w, fr, rfl, hr, hf, h⟩
    obtain ⟨w1, fr1, e1, hr1, hf1, q1⟩ := gin_key G D r false hr hf (t_bl bl_gin h)
    exact ⟨w1, fr1, e1, hr1, hf1, q1.imp fun x H1 ⟨s, o, e1, e2, q⟩ => ⟨toS s, o, e1, rfl, e2, by simpa using q⟩⟩
  | true =>
    refine PT_weak (pt_cmpR (op_notIn_kd D') ha hN rfl) ?_
    rintro σ H Q ⟨w, fr, rfl, hr, hf, h⟩
    obtain ⟨w1, fr1, e1, hr1, hf1, q1⟩ := gin_key G D r true hr hf (t_bl bl_gin h)
    exact ⟨w1, fr1, e1, hr1, hf1, q1.imp fun x H1 ⟨s, o, e1, e2, q⟩ => ⟨toS s, o, e1, rfl, e2, by simpa using q⟩⟩
theorem e_gat {a : XS} {x : Expr} {z : String} {p pos : Pos} (G : Good g X W) (ok : GdOk g z (c.gd z)) (hg : Gl X (nm z)) (hd : (nm z == ("__debug__" : Str)) = false) (hs : PlainIx x) (ha : PE X x (tE g W c a)) :
    PE X (.Subscript (.Name (nm z) p) x pos) (tE g W c (.gat z a)) := by
  obtain ⟨d, es, m, D, hm, r⟩ := ok
  have D' : L2.KDict X.K X.w d es m := by rw [G.K, G.w]; exact D
  have hN : PE X (.Name (nm z) p) (tC (.ref d)) := pe_glob hg (by rw [G.mg]; exact hm) rfl hd
  have ixr : IxR X (fun x y H Q => ∃ (z : Str) (u0 : Value) (v0 : V), x = .ref d ∧ y = .str z ∧ PySem.W.nsIn X.K d z = some (some u0) ∧ RelV v0 u0 ∧ Q v0 H) := by
    intro value slice pins s σ H x y v u Q I rx ry h hs
    obtain ⟨z, u0, v0, e1, e2, e3, e4, q⟩ := id h
    subst e1
    obtain rfl : v = .ref d := rx
    exact tail_any (kd_type D' I) PySem.F.slot_dict_getitem.lookup (op_item_kd D' pins s σ H (.ref d) y _ u Q I rfl ry h) hs
  refine PE_weak (pe_ix ixr hN ha hs) ?_
  rintro σ H Q ⟨w, fr, rfl, hr, hf, h⟩
  rw [Mu.ev] at h
  obtain ⟨w1, fr1, e1, hr1, hf1, q1⟩ := one (rel := VR g.K) hr hf h
  refine ⟨w1, fr1, e1, hr1, hf1, q1.imp fun x H1 ⟨dx, w2, e2, l2, hr2, hf2, r2, _, q2⟩ => ?_⟩
  subst e2
  cases dx with
  | str s =>
    obtain ⟨_, rfl⟩ := r2
    obtain ⟨dd, ed, q3⟩ := q2.opt
    rcases ns_of D r s with ⟨e1, e2⟩ | ⟨dd', u, v, e1, e2, r3, r4⟩
    · rw [e1] at ed; cases ed
    · rw [e1] at ed; cases ed
      exact ⟨toS s, u, v, rfl, rfl, by rw [G.K]; exact e2, r3, q3 _ w2 rfl .refl hr2 (r4 w2)⟩
  | _ => exact q2.elim

/-! ### {} -/
theorem e_dct0 {tk : Bool} {pos : Pos} (G : Good g X W) : PE X (.Dict [] [] pos) (tE g W c (.dct tk [] .nil)) := by
  refine ⟨fun pins s σ H Q I h => ?_⟩
  obtain ⟨w, fr, rfl, hr, hf, h⟩ := h
  rw [Mu.ev, Mu.evs, Mu.R.bind_ok] at h
  have h : Aft g (VR g.K) w (.ok (.obj w.ah.length) (w.ah ++ [.dct tk []])) Q (fun cl d H' => W cl d σ H') := h
  cases tk with
  | false => exact pe_dnewK.run pins s σ w.H Q I (Aft.made hr h fun p hp => ⟨.nil, [], upd_same, rfl⟩)
  | true =>
    refine wpAny_Dict_empty ?_
    have hp : w.H s.heap.objs.size = none := I.hok.fresh (Nat.le_refl _)
    have hb : (s.heap.objs.size == sysModules) = false := beq_eq_false_iff_ne.mpr (Nat.ne_of_gt I.big)
    refine ⟨.ref s.heap.objs.size, _, I.laid (a := s.heap.objs.size) (o := hoX g.P g.w s.heap.objs.size []) (t' := s.toks) (fun _ _ q => Heap.get?_push_of_some _ q) (Nat.le_refl _) ?_, rfl, h (.ref s.heap.objs.size) (w.new s.heap.objs.size (.dct true []) (upd w.H s.heap.objs.size (hoX g.P g.w s.heap.objs.size []))) rfl (Le.newU hp) (hr.new hp (fun a u e => by rw [upd_ne (ne_of_none e hp)]; exact e) ⟨.nil, [], upd_same, rfl⟩) ⟨by simp [Wd.new], by simp [Wd.new]⟩⟩
    have hg := Heap.get?_push_size s.heap (o := { cls := .type "dict", data := .dict #[] }) rfl
    refine ⟨⟨hb, Nat.zero_le _, _, #[], _, hg, ⟨rfl, rfl, rfl⟩, rfl, rfl, .nil⟩, ⟨_, hg⟩, fun h1 h2 z k => ?_⟩
    obtain ⟨b1, b2, o, es, ep, b3, b4⟩ := z
    exact ⟨b1, b2, o, es, ep, k _ b3, b4⟩
end
/-! ### {"..": e, ..} -/
def trsOf (g : Gc) (W : WX) (c : Mu.Cx) : List String → Mu.Es → List (TE × TE)
  | k :: ks, .cons e es => (fun _ H Q => Q (.str (nm k)) H, tE g W c e) :: trsOf g W c ks es
  | _, _ => []
inductive DisOk (g : Gc) (X : Cx) (W : WX) (c : Mu.Cx) : List String → Mu.Es → List (Option Expr) → List Expr → Prop
  | nil : DisOk g X W c [] .nil [] []
  | cons {k : String} {ks : List String} {e : XS} {es : Mu.Es} {j : Nat} {p : Pos} {keys : List (Option Expr)} {x : Expr} {xs : List Expr} (h : PE X x (tE g W c e)) (r : DisOk g X W c ks es keys xs) :
      DisOk g X W c (k :: ks) (.cons e es) (some (.Constant (.str (nm k)) j p) :: keys) (x :: xs)
section
variable {g : Gc} {X : Cx} {W : WX} {c : Mu.Cx}
theorem DisOk.pps {pos : Pos} {ks : List String} {es : Mu.Es} {keys : List (Option Expr)} {xs : List Expr} (h : DisOk g X W c ks es keys xs) : PPs X pos keys xs (trsOf g W c ks es) ∧ keys.all (·.isSome) = true ∧ keys.length = xs.length ∧ keys.length = ks.length ∧ lenEs es = ks.length := by
  induction h with
  | nil => exact ⟨pps_nil, rfl, rfl, rfl, rfl⟩
  | cons h r ih => exact ⟨pps_cons pe_str h ih.1, by simp [ih.2.1], by simp [ih.2.2.1], by simp [ih.2.2.2.1], by simp [lenEs, ih.2.2.2.2]⟩
theorem tp_of {fr : Mu.Fr} {σ : L2.St} : ∀ (ks : List String) (es : Mu.Es) (w : Wd) (Q1 : List V → Hp → Prop) (Q0 : List (V × V) → Hp → Prop), lenEs es = ks.length → HR g w → FR g.K w fr σ →
    Aft g (VRs g.K) w (Mu.evs c fr w.ah es) Q1 (fun cl d H' => W cl d σ H') → (∀ vs H1, Q1 vs H1 → Q0 ((ks.map fun k => V.str (nm k)).zip vs) H1) → tPairs (trsOf g W c ks es) σ w.H Q0
  | [], .nil, w, Q1, Q0, _, hr, hf, h, k => by
    rw [Mu.evs] at h
    exact k [] w.H (h [] w rfl .refl hr rfl)
  | [], .cons _ _, w, Q1, Q0, hl, hr, hf, h, k => by simp [lenEs] at hl
  | _ :: _, .nil, w, Q1, Q0, hl, hr, hf, h, k => by simp [lenEs] at hl
  | kk :: ks, .cons e es, w, Q1, Q0, hl, hr, hf, h, k => by
    rw [Mu.evs] at h
    obtain ⟨w1, fr1, e1, hr1, hf1, q1⟩ := one (rel := VRs g.K) hr hf h
    refine ⟨w1, fr1, e1, hr1, hf1, q1.imp fun x H1 ⟨dx, w2, e2, l2, hr2, hf2, r2, _, q2⟩ => ?_⟩
    subst e2
    refine tp_of ks es w2 (fun vs H1 => Q1 (x :: vs) H1) _ (by simpa [lenEs] using hl) hr2 hf2 ((Aft.cut q2).imp fun vs H1 ⟨ds, w3, e3, l3, hr3, r3, _, q3⟩ => ?_) (fun vs H1 q => k (x :: vs) H1 q)
    subst e3
    exact q3 _ w3 rfl .refl hr3 ⟨x, vs, rfl, VR.mono l3 _ _ r2, r3⟩
theorem putK_new {kvs : List (Key × V)} {k : Key} {v : V} (h : k ∉ kvs.map (·.1)) : putK kvs k v = kvs ++ [(k, v)] := by
  unfold putK
  rw [if_neg]
  intro z
  obtain ⟨p, hp, e⟩ := List.any_eq_true.mp z
  exact h (List.mem_map.mpr ⟨p, hp, of_decide_eq_true e⟩)
theorem mergeK_new : ∀ (more kvs : List (Key × V)), ((kvs ++ more).map (·.1)).Nodup → mergeK kvs more = kvs ++ more
  | [], kvs, _ => by simp [mergeK]
  | p :: r, kvs, h => by
    show mergeK (putK kvs p.1 p.2) r = _
    have hp : p.1 ∉ kvs.map (·.1) := fun hm => by
      rw [List.map_append, List.nodup_append] at h
      exact h.2.2 _ hm _ (by simp) rfl
    rw [putK_new hp, mergeK_new r (kvs ++ [p]) (by simpa using h)]
    simp
def kvsOf : List String → List MD → List (MD × MD)
  | k :: ks, d :: ds => (.str (Mu.cp k), d) :: kvsOf ks ds
  | _, _ => []
def kvvOf : List String → List V → List (Key × V)
  | k :: ks, v :: vs => (.inr (nm k), v) :: kvvOf ks vs
  | _, _ => []
theorem kvsOf_eq : ∀ (ks : List String) (ds : List MD), (ks.map fun k => Mu.D.str (Mu.cp k)).zip ds = kvsOf ks ds
  | [], _ => by simp [kvsOf]
  | k :: ks, [] => by simp [kvsOf]
  | k :: ks, d :: ds => by simp [kvsOf, kvsOf_eq ks ds]
theorem kvv_rel {w : Wd} : ∀ {ks : List String} {ds : List MD} {vs : List V}, (∀ k ∈ ks, (Mu.cp k).length ≤ sizeLine) → VRs g.K w ds vs → KvR g.K w (kvsOf ks ds) (kvvOf ks vs)
  | [], ds, vs, _, h => by simp [kvsOf, kvvOf, KvR]
  | k :: ks, [], vs, _, h => by obtain rfl : vs = [] := h; simp [kvsOf, kvvOf, KvR]
  | k :: ks, d :: ds, vs, hk, h => by
    obtain ⟨v, r, rfl, h1, h2⟩ := h
    exact ⟨_, v, _, rfl, ⟨⟨hk k (by simp), cp_ok k⟩, by rw [nm_cp]⟩, h1, kvv_rel (fun z hz => hk z (List.mem_cons_of_mem _ hz)) h2⟩
theorem kvv_map : ∀ (ks : List String) (vs : List V), (ks.map fun k => V.str (nm k)).zip vs = (kvvOf ks vs).map fun kv => (kV kv.1, kv.2)
  | [], _ => by simp [kvvOf]
  | k :: ks, [] => by simp [kvvOf]
  | k :: ks, v :: vs => by simp [kvvOf, kvv_map ks vs, kV]
theorem kvv_keys : ∀ (ks : List String) (vs : List V), ∃ l : List String, (kvvOf ks vs).map (·.1) = l.map (fun k => Sum.inr (nm k)) ∧ l.Sublist ks
  | [], _ => ⟨[], by simp [kvvOf], .slnil⟩
  | k :: ks, [] => ⟨[], by simp [kvvOf], List.nil_sublist _⟩
  | k :: ks, v :: vs => by
    obtain ⟨l, e, s⟩ := kvv_keys ks vs
    exact ⟨k :: l, by simp [kvvOf, e], s.cons_cons k⟩
theorem kvs_keys : ∀ (ks : List String) (ds : List MD), ∃ l : List String, (kvsOf ks ds).map (·.1) = l.map (fun k => Mu.D.str (Mu.cp k)) ∧ l.Sublist ks
  | [], _ => ⟨[], by simp [kvsOf], .slnil⟩
  | k :: ks, [] => ⟨[], by simp [kvsOf], List.nil_sublist _⟩
  | k :: ks, v :: vs => by
    obtain ⟨l, e, s⟩ := kvs_keys ks vs
    exact ⟨k :: l, by simp [kvsOf, e], s.cons_cons k⟩
theorem nodup_map {α β : Type} {f : α → β} (hf : ∀ a b, f a = f b → a = b) : ∀ {l : List α}, l.Nodup → (l.map f).Nodup
  | [], _ => by simp
  | a :: l, h => by
    obtain ⟨h1, h2⟩ := List.nodup_cons.mp h
    rw [List.map_cons, List.nodup_cons]
    refine ⟨fun hm => ?_, nodup_map hf h2⟩
    obtain ⟨b, hb, e⟩ := List.mem_map.mp hm
    rw [← hf _ _ e.symm] at hb
    exact h1 hb
theorem e_dctD {ks : List String} {es : Mu.Es} {keys : List (Option Expr)} {xs : List Expr} {pos : Pos} (h : DisOk g X W c ks es keys xs) (hk : ks.Nodup) (h0 : ks ≠ []) (h15 : ks.length ≤ 15) (hs : ∀ k ∈ ks, (Mu.cp k).length ≤ sizeLine) :
    PE X (.Dict keys xs pos) (tE g W c (.dct false ks es)) := by
  obtain ⟨p1, p2, p3, p4, p5⟩ := h.pps (pos := pos)
  refine PE_weak (pe_disp p1 p2 p3 (fun z => h0 (List.length_eq_zero_iff.mp (by rw [← p4, z]; rfl))) (by omega)) ?_
  rintro σ H Q ⟨w, fr, rfl, hr, hf, h⟩ p np
  rw [Mu.ev] at h
  have l0 : Le w ⟨w.mu, w.ah, upd w.H p (.dK [])⟩ := Le.grow rfl rfl fun a u e => (upd_ne (ne_of_none e np)).trans e
  have hr0 : HR g ⟨w.mu, w.ah, upd w.H p (.dK [])⟩ := ⟨hr.inj, fun i o e => by
    have q := hr.ob i o e
    obtain ⟨uu, hu⟩ := q.some
    exact q.mono l0 (by show upd w.H p _ (w.mu i) = _; rw [upd_ne (ne_of_none hu np)])⟩
  have h1 : Aft g (VRs g.K) (⟨w.mu, w.ah, upd w.H p (.dK [])⟩ : Wd) (Mu.evs c fr w.ah es) (fun vs H1 => ∃ ds w1, w1.H = H1 ∧ Le ⟨w.mu, w.ah, upd w.H p (.dK [])⟩ w1 ∧ HR g w1 ∧ VRs g.K w1 ds vs ∧ Mu.evs c fr w.ah es = .ok ds w1.ah) (fun cl d H' => W cl d σ H') := by
    cases er : Mu.evs c fr w.ah es with
    | ok ds ah' => exact fun vs w1 e l hr1 rv => ⟨ds, w1, rfl, l, hr1, rv, by rw [e]⟩
    | ex x ah' => rw [er] at h; exact fun cl d w1 e l hr1 xr => h cl d w1 e (l0.trans l) hr1 xr
    | bad => rw [er] at h; exact h
  refine tp_of ks es ⟨w.mu, w.ah, upd w.H p (.dK [])⟩ _ _ p5 hr0 (hf.mono l0) h1 (fun vs H1 ⟨ds, w1, e1, l1, hr1, rv, er⟩ => ?_)
  subst e1
  have hp1 : w1.H p = some (.dK []) := l1.o p _ upd_same fun i hi e => by
    have hi' : i < w.ah.length := hi
    obtain ⟨u, hu⟩ := (hr.ob i _ (List.getElem?_eq_getElem hi')).some
    rw [show w.mu i = p from e, np] at hu; cases hu
  have hno : ∀ i, i < w1.ah.length → w1.mu i ≠ p := fun i hi e => by
    by_cases hi' : i < w.ah.length
    · have := l1.m i hi'
      rw [e] at this
      obtain ⟨u, hu⟩ := (hr.ob i _ (List.getElem?_eq_getElem hi')).some
      rw [← show p = w.mu i from this, np] at hu; cases hu
    · have := l1.fr i (Nat.not_lt.mp hi') hi
      rw [e] at this
      have this2 : upd w.H p (.dK []) p = none := this
      rw [upd_same] at this2; cases this2
  refine ⟨hp1, kvvOf ks vs, kvv_map ks vs, ?_, ?_⟩
  · have : ∀ (ks : List String) (vs : List V), (kvvOf ks vs).length ≤ ks.length := by
      intro ks
      induction ks with
      | nil => intro vs; simp [kvvOf]
      | cons k ks ih => intro vs; cases vs with
        | nil => simp [kvvOf]
        | cons v vs => simp [kvvOf, ih vs]
    exact Nat.le_trans (this ks vs) h15
  · have nd1 : ((kvvOf ks vs).map (·.1)).Nodup := by
      obtain ⟨l, e, s⟩ := kvv_keys ks vs
      rw [e]
      exact nodup_map (fun a b e => by simpa [nm_eq] using e) (hk.sublist s)
    rw [mergeK_new (kvvOf ks vs) [] (by simpa using nd1), List.nil_append]
    rw [er] at h
    simp only [Mu.R.bind_ok, kvsOf_eq] at h
    have lv : Lv w1 ⟨fun i => if i = w1.ah.length then p else w1.mu i, w1.ah ++ [.dct false (kvsOf ks ds)], upd w1.H p (.dK (kvvOf ks vs))⟩ :=
      ⟨by simp, fun i hi => by simp [Nat.ne_of_lt hi], Keep.put (by rw [hp1]; exact trivial)⟩
    refine h (.ref p) ⟨fun i => if i = w1.ah.length then p else w1.mu i, w1.ah ++ [.dct false (kvsOf ks ds)], upd w1.H p (.dK (kvvOf ks vs))⟩ rfl ?_ ?_ ⟨by simp, by simp⟩
    · have l01 := l0.trans l1
      refine ⟨⟨by have := l01.n; simp; omega, fun i hi => ?_, l01.k.trans lv.k⟩, fun a ha => ?_, fun i h1 h2 => ?_, fun a u ha hn => ?_⟩
      · have : i < w1.ah.length := Nat.lt_of_lt_of_le hi l01.n
        show (if i = w1.ah.length then p else w1.mu i) = w.mu i
        rw [if_neg (Nat.ne_of_lt this)]; exact l01.m i hi
      · by_cases e : a = p
        · rw [e]; exact np
        · exact l01.d a (by rw [← ha]; exact (upd_ne e).symm)
      · show w.H (if i = w1.ah.length then p else w1.mu i) = none
        by_cases e : i = w1.ah.length
        · rw [if_pos e]; exact np
        · rw [if_neg e]
          exact l01.fr i h1 (by simp at h2; omega)
      · have na : a ≠ p := fun e => by rw [e, np] at ha; cases ha
        show upd w1.H p _ a = some u
        rw [upd_ne na]
        exact l01.o a u ha hn
    · refine ⟨fun i j hi hj e => ?_, fun i o e => ?_⟩
      · simp only [List.length_append, List.length_cons, List.length_nil] at hi hj
        dsimp only at e
        by_cases ei : i = w1.ah.length <;> by_cases ej : j = w1.ah.length
        · omega
        · rw [if_pos ei, if_neg ej] at e
          exact absurd e.symm (hno j (by omega))
        · rw [if_neg ei, if_pos ej] at e
          exact absurd e (hno i (by omega))
        · rw [if_neg ei, if_neg ej] at e
          exact hr1.inj i j (by omega) (by omega) e
      · by_cases ei : i < w1.ah.length
        · have e' : w1.ah[i]? = some o := by rw [← e]; exact (List.getElem?_append_left ei).symm
          show OR g _ (if i = w1.ah.length then p else w1.mu i) o
          rw [if_neg (Nat.ne_of_lt ei)]
          exact (hr1.ob i o e').monoV lv (by show upd w1.H p _ (w1.mu i) = _; rw [upd_ne (hno i ei)])
        · have hi2 := (List.getElem?_eq_some_iff.mp e).1
          have ei2 : i = w1.ah.length := by simp at hi2; omega
          subst ei2
          have : o = .dct false (kvsOf ks ds) := by simpa using e.symm
          subst this
          show OR g _ (if w1.ah.length = w1.ah.length then p else _) _
          rw [if_pos rfl]
          refine ⟨?_, kvvOf ks vs, upd_same, KvR.monoV lv (kvv_rel hs rv)⟩
          obtain ⟨l, e2, s⟩ := kvs_keys ks ds
          rw [e2]
          exact nodup_map (fun a b e => by simpa using cp_inj (by simpa using e)) (hk.sublist s)
end
end Ad
set_option maxHeartbeats 4000000
namespace ZM
open PySem PySem.Spec PyProof.Rows L2 RZ
/-! ### zip of a tuple and a list -/
section
variable {prog : Program} {w : World} {A : Around} {E : Value → Shared → Prop} {s : Shared}
theorem fresh_item {zz tt uu ia ib la lb : Addr} {m n : Nat} {xs ys : Array Value} {x y p q : Value} {Q : Value → Shared → Prop} (D : ZipApart zz tt uu ia ib la lb)
    (zo : IsZip s.heap zz tt uu .none) (to : IsPair s.heap tt (.ref ia) (.ref ib)) (uo : IsPair s.heap uu p q)
    (ta : s.heap.IsTupleIter ia la m) (tb : s.heap.IsListIter ib lb n) (oa : s.heap.IsTuple la xs) (ob : s.heap.IsList lb ys) (ex : xs[m]? = some x) (ey : ys[n]? = some y)
    (K : ∀ h', IsZip h' zz tt uu (rawInt s.heap.objs.size) → IsPair h' uu x y → h'.IsTupleIter ia la (m + 1) → h'.IsListIter ib lb (n + 1) → IsPair h' s.heap.objs.size x y → h'.objs.size = s.heap.objs.size + 1 →
      (∀ c o, c ≠ zz → c ≠ uu → c ≠ ia → c ≠ ib → s.heap.get? c = some o → h'.get? c = some o) → Q (.ref s.heap.objs.size) { s with heap := h' }) :
    wpAny (model prog w) A (Builtin.«zip.__next__» ⟨[.ref zz], []⟩) (fun fin s' => ∃ v, fin = .done (.ret v) ∧ Q v s') E s := by
  show wpAny _ _ (field (.ref zz) 2 >>= _) _ _ _
  refine wpAny_bind (wpAny_field zo rfl (x := .bool false) rfl ?_)
  show wpAny _ _ (field (.ref zz) 3 >>= _) _ _ _
  refine wpAny_bind (wpAny_field zo rfl (x := .ref tt) rfl (wpAny_bind (wpAny_seqItems to rfl ?_)))
  show wpAny _ _ (Builtin.SmallTypes.ownedTupleIsFree (.ref zz) >>= _) _ _ _
  refine wpAny_bind ?_; unfold Builtin.SmallTypes.ownedTupleIsFree
  refine wpAny_bind (wpAny_field zo rfl (x := .none) rfl (wpAny_pure ?_)); simp only [if_true]
  refine wpAny_bind (wpAny_rule (wpAny_bind (wpAny_field zo rfl (x := .ref uu) rfl ?_)))
  refine wpAny_bind (wpAny_setField_rec zo (by simp) fun g1 z1 e1 => ?_)
  replace z1 : IsZip g1 zz tt uu .ellipsis := z1
  refine wpAny_bind ?_
  simp only [List.zipIdx_nil, List.zipIdx_cons, List.forIn_nil, List.forIn_cons]
  refine wpAny_bind (wpAny_bind (wpAny_onRaise ?_))
  show wpAny _ _ (Builtin.SmallTypes.nextOf (.ref ia) >>= _) _ _ _
  refine wpAny_bind (nextOf_tuple_item (ta.extBut e1.extBut D.i1z) (oa.extBut e1.extBut D.l1z) ex fun g2 a2 e2 => wpAny_pure ?_)
  have u2 : IsPair g2 uu p q := e2.extBut _ _ D.TOi1 (e1.extBut _ _ D.TOz uo)
  refine wpAny_bind (wpAny_seqItems u2 rfl (wpAny_bind (wpAny_updateSeq_pair u2 fun g3 u3 e3 => ?_)))
  replace u3 : IsPair g3 uu x q := u3
  refine wpAny_bind (wpAny_letGo (wpAny_pure (wpAny_bind (wpAny_bind (wpAny_onRaise ?_)))))
  show wpAny _ _ (Builtin.SmallTypes.nextOf (.ref ib) >>= _) _ _ _
  have b3 := ((tb.extBut e1.extBut D.i2z).extBut e2.extBut D.i12.symm).extBut e3.extBut D.TOi2.symm
  have l3 := ((ob.extBut e1.extBut D.l2z).extBut e2.extBut D.l2i1).extBut e3.extBut D.l2TO
  refine wpAny_bind (wpAny_nextOf_list_item b3 l3 ey fun g4 b4 e4 => wpAny_pure ?_)
  have u4 : IsPair g4 uu x q := e4.extBut _ _ D.TOi2 u3
  refine wpAny_bind (wpAny_seqItems u4 rfl (wpAny_bind (wpAny_updateSeq_pair u4 fun g5 u5 e5 => ?_)))
  replace u5 : IsPair g5 uu x y := u5
  refine wpAny_bind (wpAny_letGo (wpAny_pure (wpAny_pure (wpAny_bind (wpAny_seqItems u5 rfl (wpAny_bind (wpAny_newTuple ?_)))))))
  have sz : g5.objs.size = s.heap.objs.size := by rw [e5.1, e4.1, e3.1, e2.1, e1.1]
  have z5 : IsZip g5 zz tt uu .ellipsis := e5.extBut _ _ D.TOz.symm (e4.extBut _ _ D.i2z.symm (e3.extBut _ _ D.TOz.symm (e2.extBut _ _ D.i1z.symm z1)))
  have keep : ∀ c o, c ≠ zz → c ≠ uu → c ≠ ia → c ≠ ib → s.heap.get? c = some o → g5.get? c = some o := fun c o d1 d2 d3 d4 e =>
    e5.extBut _ _ d2 (e4.extBut _ _ d4 (e3.extBut _ _ d2 (e2.extBut _ _ d3 (e1.extBut _ _ d1 e))))
  have a5 : g5.IsTupleIter ia la (m + 1) := ((a2.extBut e3.extBut D.TOi1.symm).extBut e4.extBut D.i12).extBut e5.extBut D.TOi1.symm
  have b5 : g5.IsListIter ib lb (n + 1) := b4.extBut e5.extBut D.TOi2.symm
  have zlt : zz < g5.objs.size := Heap.lt_size z5
  show wpAny _ _ (Builtin.SmallTypes.ownedTupleHandOut (.ref zz) (.ref g5.objs.size) >>= _) _ _ _
  refine wpAny_bind ?_; unfold Builtin.SmallTypes.ownedTupleHandOut
  have z6 : IsZip (g5.push { cls := .type "tuple", data := .seq #[x, y] }) zz tt uu .ellipsis := Heap.get?_push_of_some _ z5
  refine wpAny_bind (wpAny_setField_rec z6 (by simp) fun g7 z7 e7 => ?_)
  replace z7 : IsZip g7 zz tt uu (rawInt g5.objs.size) := z7
  refine wpAny_setField_rec z7 (by simp) fun g8 z8 e8 => ?_
  replace z8 : IsZip g8 zz tt uu (rawInt g5.objs.size) := z8
  have up : ∀ c o, c ≠ zz → g5.get? c = some o → g8.get? c = some o := fun c o d1 e => e8.extBut _ _ d1 (e7.extBut _ _ d1 (Heap.get?_push_of_some _ e))
  have t8 : IsPair g8 g5.objs.size x y := e8.extBut _ _ (Nat.ne_of_gt zlt) (e7.extBut _ _ (Nat.ne_of_gt zlt) (Heap.get?_push_size _ rfl))
  have sz8 : g8.objs.size = g5.objs.size + 1 := by rw [e8.1, e7.1, Heap.size_push]
  rw [sz] at z8 t8 sz8
  refine wpAny_pure ⟨_, rfl, ?_⟩
  show Q (.ref g5.objs.size) _
  rw [sz]
  exact K g8 z8 (up _ _ D.TOz u5) (a5.at fun o e => up _ o D.i1z e) (b5.at fun o e => up _ o D.i2z e) t8 sz8 fun c o d1 d2 d3 d4 e => up c o d1 (keep c o d1 d2 d3 d4 e)
theorem fresh_end {zz tt uu ia ib la lb : Addr} {m n : Nat} {xs ys : Array Value} {p q : Value} {Q : Fin → Shared → Prop} (nh : A.handled = none) (D : ZipApart zz tt uu ia ib la lb)
    (zo : IsZip s.heap zz tt uu .none) (to : IsPair s.heap tt (.ref ia) (.ref ib)) (uo : IsPair s.heap uu p q)
    (ta : s.heap.IsTupleIter ia la m) (tb : s.heap.IsListIter ib lb n) (oa : s.heap.IsTuple la xs) (ob : s.heap.IsList lb ys) (over : xs[m]? = none ∨ ys[n]? = none)
    (K : ∀ h' e, (∀ c o, c ≠ zz → c ≠ uu → c ≠ ia → c ≠ ib → s.heap.get? c = some o → h'.get? c = some o) → (∃ o, h'.get? e = some o ∧ o.cls = .type "StopIteration") → E (.ref e) { s with heap := h' }) :
    wpAny (model prog w) A (Builtin.«zip.__next__» ⟨[.ref zz], []⟩) Q E s := by
  show wpAny _ _ (field (.ref zz) 2 >>= _) _ _ _
  refine wpAny_bind (wpAny_field zo rfl (x := .bool false) rfl ?_)
  show wpAny _ _ (field (.ref zz) 3 >>= _) _ _ _
  refine wpAny_bind (wpAny_field zo rfl (x := .ref tt) rfl (wpAny_bind (wpAny_seqItems to rfl ?_)))
  show wpAny _ _ (Builtin.SmallTypes.ownedTupleIsFree (.ref zz) >>= _) _ _ _
  refine wpAny_bind ?_; unfold Builtin.SmallTypes.ownedTupleIsFree
  refine wpAny_bind (wpAny_field zo rfl (x := .none) rfl (wpAny_pure ?_)); simp only [if_true]
  refine wpAny_bind (wpAny_rule (wpAny_bind (wpAny_field zo rfl (x := .ref uu) rfl ?_)))
  refine wpAny_bind (wpAny_setField_rec zo (by simp) fun g1 z1 e1 => ?_)
  replace z1 : IsZip g1 zz tt uu .ellipsis := z1
  refine wpAny_bind ?_
  simp only [List.zipIdx_nil, List.zipIdx_cons, List.forIn_nil, List.forIn_cons]
  refine wpAny_bind (wpAny_bind (wpAny_onRaise ?_))
  show wpAny _ _ (Builtin.SmallTypes.nextOf (.ref ia) >>= _) _ _ _
  cases ex : xs[m]? with
  | none =>
    refine wpAny_bind (nextOf_tuple_end nh (ta.extBut e1.extBut D.i1z) (oa.extBut e1.extBut D.l1z) ex fun g2 e e2 st => ?_)
    obtain ⟨oe, ge, ce⟩ := st
    have z2 : IsZip g2 zz tt uu .ellipsis := e2 _ _ D.i1z.symm z1
    have ne : e ≠ zz := fun w => by subst w; rw [z2] at ge; cases ge; simp at ce
    exact wpAny_setField_rec z2 (by simp) fun g3 _ e3 => K g3 e (fun c o d1 _ d3 _ v => e3.extBut _ _ d1 (e2 _ _ d3 (e1.extBut _ _ d1 v))) ⟨oe, e3.extBut _ _ ne ge, ce⟩
  | some x =>
    have ey : ys[n]? = none := over.resolve_left (by rw [ex]; exact fun w => nomatch w)
    refine wpAny_bind (nextOf_tuple_item (ta.extBut e1.extBut D.i1z) (oa.extBut e1.extBut D.l1z) ex fun g2 a2 e2 => wpAny_pure ?_)
    have u2 : IsPair g2 uu p q := e2.extBut _ _ D.TOi1 (e1.extBut _ _ D.TOz uo)
    refine wpAny_bind (wpAny_seqItems u2 rfl (wpAny_bind (wpAny_updateSeq_pair u2 fun g3 u3 e3 => ?_)))
    refine wpAny_bind (wpAny_letGo (wpAny_pure (wpAny_bind (wpAny_bind (wpAny_onRaise ?_)))))
    show wpAny _ _ (Builtin.SmallTypes.nextOf (.ref ib) >>= _) _ _ _
    have b3 := ((tb.extBut e1.extBut D.i2z).extBut e2.extBut D.i12.symm).extBut e3.extBut D.TOi2.symm
    have l3 := ((ob.extBut e1.extBut D.l2z).extBut e2.extBut D.l2i1).extBut e3.extBut D.l2TO
    refine wpAny_bind (wpAny_nextOf_list_end nh b3 l3 ey fun g4 e e4 st => ?_)
    obtain ⟨oe, ge, ce⟩ := st
    have z4 : IsZip g4 zz tt uu .ellipsis := e4 _ _ D.i2z.symm (e3.extBut _ _ D.TOz.symm (e2.extBut _ _ D.i1z.symm z1))
    have ne : e ≠ zz := fun w => by subst w; rw [z4] at ge; cases ge; simp at ce
    exact wpAny_setField_rec z4 (by simp) fun g5 _ e5 => K g5 e (fun c o d1 d2 d3 d4 v => e5.extBut _ _ d1 (e4 _ _ d4 (e3.extBut _ _ d2 (e2.extBut _ _ d3 (e1.extBut _ _ d1 v))))) ⟨oe, e5.extBut _ _ ne ge, ce⟩
theorem next_item {zz tt uu ia ib la lb : Addr} {m n : Nat} {xs ys : Array Value} {x y p q : Value} {Q : Option Value → Shared → Prop} (D : ZipApart zz tt uu ia ib la lb)
    (zo : IsZip s.heap zz tt uu .none) (to : IsPair s.heap tt (.ref ia) (.ref ib)) (uo : IsPair s.heap uu p q)
    (ta : s.heap.IsTupleIter ia la m) (tb : s.heap.IsListIter ib lb n) (oa : s.heap.IsTuple la xs) (ob : s.heap.IsList lb ys) (ex : xs[m]? = some x) (ey : ys[n]? = some y)
    (K : ∀ h', IsZip h' zz tt uu (rawInt s.heap.objs.size) → IsPair h' uu x y → h'.IsTupleIter ia la (m + 1) → h'.IsListIter ib lb (n + 1) → IsPair h' s.heap.objs.size x y → h'.objs.size = s.heap.objs.size + 1 →
      (∀ c o, c ≠ zz → c ≠ uu → c ≠ ia → c ≠ ib → s.heap.get? c = some o → h'.get? c = some o) → Q (some (.ref s.heap.objs.size)) { s with heap := h' }) :
    wpAny (model prog w) A (pyNext (.ref zz)) Q E s := by
  have ty : s.TypeIs (.ref zz) "zip" := ⟨_, zo, rfl⟩
  have key := fresh_item (A := A) (prog := prog) (w := w) (E := E) (Q := fun v s' => Q (some v) s') D zo to uo ta tb oa ob ex ey K
  unfold pyNext
  refine wpAny_bind (wpAny_attempt (wpAny_callSpecial?_slot (name := Str.ofString "__next__") ty F.slot_zip_next (wpAny_call_entry F.slot_zip_next ty F.entry_zip_next ?_ (F.args_zip_next_1 _))))
  exact fresh_item D zo to uo ta tb oa ob ex ey fun h' a1 a2 a3 a4 a5 a6 a7 => wpAny_pure (K h' a1 a2 a3 a4 a5 a6 a7)
theorem next_end {zz tt uu ia ib la lb : Addr} {m n : Nat} {xs ys : Array Value} {p q : Value} {Q : Option Value → Shared → Prop} (nh : A.handled = none) (D : ZipApart zz tt uu ia ib la lb)
    (zo : IsZip s.heap zz tt uu .none) (to : IsPair s.heap tt (.ref ia) (.ref ib)) (uo : IsPair s.heap uu p q)
    (ta : s.heap.IsTupleIter ia la m) (tb : s.heap.IsListIter ib lb n) (oa : s.heap.IsTuple la xs) (ob : s.heap.IsList lb ys) (over : xs[m]? = none ∨ ys[n]? = none)
    (K : ∀ h', (∀ c o, c ≠ zz → c ≠ uu → c ≠ ia → c ≠ ib → s.heap.get? c = some o → h'.get? c = some o) → Q none { s with heap := h' }) : wpAny (model prog w) A (pyNext (.ref zz)) Q E s := by
  have ty : s.TypeIs (.ref zz) "zip" := ⟨_, zo, rfl⟩
  unfold pyNext
  refine wpAny_bind (wpAny_attempt (wpAny_callSpecial?_slot (name := Str.ofString "__next__") ty F.slot_zip_next (wpAny_call_entry F.slot_zip_next ty F.entry_zip_next ?_ (F.args_zip_next_1 _))))
  refine fresh_end nh D zo to uo ta tb oa ob over fun h' e kp st => ?_
  obtain ⟨o, go, co⟩ := st
  exact wpAny_bind (wpAny_isInstance (T := "StopIteration") (b := true) ⟨o, go, co⟩ isSubtype_stop (wpAny_pure (K _ kp)))
end
/-! ### making one -/
abbrev mk1 (h : Heap) (a : Addr) : Heap := h.push { cls := .type "tuple_iterator", data := .fields #[.ref a, .int 0 0] }
abbrev mk2 (h : Heap) (a b : Addr) : Heap := (mk1 h a).push { cls := .type "list_iterator", data := .fields #[.ref b, .int 0 0] }
abbrev mk3 (h : Heap) (a b : Addr) : Heap := (mk2 h a b).push { cls := .type "tuple", data := .seq #[.ref h.objs.size, .ref (mk1 h a).objs.size] }
abbrev mk4 (h : Heap) (a b : Addr) : Heap := (mk3 h a b).push { cls := .type "tuple", data := .seq #[.none, .none] }
abbrev mk5 (h : Heap) (a b : Addr) : Heap := (mk4 h a b).push { cls := .type "zip", data := .fields #[.none, .bool false, .bool false, .ref (mk2 h a b).objs.size, .ref (mk3 h a b).objs.size] }
theorem meets_new (a b : Addr) (xs ys : Array Value) :
    Meets (Builtin.«zip.__new__» ⟨[.type "zip", .ref a, .ref b], []⟩) (fun _ R s => s.heap.IsTuple a xs ∧ s.heap.IsList b ys ∧ R (.ok (.ret (.ref (mk4 s.heap a b).objs.size))) { s with heap := mk5 s.heap a b }) :=
  .of_wp fun prog w A R s h => by
    obtain ⟨hp, gg, dd, tk, os⟩ := s; obtain ⟨oa, ob, h⟩ := h
    have hsub := sub_zip
    have LA : Heap.IsTuple (Shared.heap ⟨hp, gg, dd, tk, os⟩) a xs := oa
    have LB : Heap.IsList (Shared.heap ⟨hp.push { cls := .type "tuple_iterator", data := .fields #[.ref a, .int 0 0] }, gg, dd, tk, os⟩) b ys := Heap.IsList.push ob _
    wp_walk using wpAny_pyIter_tuple LA, wpAny_pyIter_list LB
    exact ⟨_, rfl, h⟩
section
variable {prog : Program} {w : World} {A : Around} {E : Value → Shared → Prop} {s : Shared}
theorem call_mix {a b : Addr} {xs ys : Array Value} {Q : Value → Shared → Prop} (oa : s.heap.IsTuple a xs) (ob : s.heap.IsList b ys)
    (K : ∀ h', IsZip h' (s.heap.objs.size + 4) (s.heap.objs.size + 2) (s.heap.objs.size + 3) .none → IsPair h' (s.heap.objs.size + 2) (.ref s.heap.objs.size) (.ref (s.heap.objs.size + 1)) → IsPair h' (s.heap.objs.size + 3) .none .none →
      h'.IsTupleIter s.heap.objs.size a 0 → h'.IsListIter (s.heap.objs.size + 1) b 0 → (∀ c o, s.heap.get? c = some o → h'.get? c = some o) → Q (.ref (s.heap.objs.size + 4)) { s with heap := h' }) :
    wpAny (model prog w) A (call (.type "zip") [.ref a, .ref b]) Q E s := by
  refine callType_new F.called_zip (by decide) (F.typeCall_zip_2 _ _) (F.newCall_zip_2 _ _) (fun obj => F.args_object_init_3 obj _ _) F.entry_zip_new (meets_new a b xs ys) ⟨oa, ob, ?_⟩
  have n1 : (mk1 s.heap a).objs.size = s.heap.objs.size + 1 := Heap.size_push ..
  have n2 : (mk2 s.heap a b).objs.size = s.heap.objs.size + 2 := by rw [Heap.size_push, n1]
  have n3 : (mk3 s.heap a b).objs.size = s.heap.objs.size + 3 := by rw [Heap.size_push, n2]
  have n4 : (mk4 s.heap a b).objs.size = s.heap.objs.size + 4 := by rw [Heap.size_push, n3]
  have p5 : (mk5 s.heap a b).get? (mk4 s.heap a b).objs.size = some _ := Heap.get?_push_size _ rfl
  have p4 : (mk5 s.heap a b).get? (mk3 s.heap a b).objs.size = some _ := Heap.get?_push_of_some _ (Heap.get?_push_size _ rfl)
  have p3 : (mk5 s.heap a b).get? (mk2 s.heap a b).objs.size = some _ := Heap.get?_push_of_some _ (Heap.get?_push_of_some _ (Heap.get?_push_size _ rfl))
  have p2 : (mk5 s.heap a b).get? (mk1 s.heap a).objs.size = some _ := Heap.get?_push_of_some _ (Heap.get?_push_of_some _ (Heap.get?_push_of_some _ (Heap.get?_push_size _ rfl)))
  have p1 : (mk5 s.heap a b).get? s.heap.objs.size = some _ := Heap.get?_push_of_some _ (Heap.get?_push_of_some _ (Heap.get?_push_of_some _ (Heap.get?_push_of_some _ (Heap.get?_push_size _ rfl))))
  show _ ∧ _
  rw [n2, n3, n4] at p5
  rw [n1, n2] at p3
  rw [n3] at p4
  rw [n1] at p2
  rw [n4]
  exact ⟨⟨_, p5, rfl⟩, K _ p5 p3 p4 ⟨_, p1, rfl, rfl⟩ ⟨_, p2, rfl, rfl⟩ fun c o v => Heap.get?_push_of_some _ (Heap.get?_push_of_some _ (Heap.get?_push_of_some _ (Heap.get?_push_of_some _ (Heap.get?_push_of_some _ v))))⟩
end
/-! ### the walk -/
def Itm (K : PySem.W.Frag) (a b : Addr) : It :=
  ⟨fun i H => ∃ (xs ys : List V) (x y : V), SqT K H a xs ∧ SqL K H b ys ∧ xs[i]? = some x ∧ ys[i]? = some y,
    fun i H v H' => ∃ T x y, v = .ref T ∧ H T = none ∧ H' = upd H T (.tup [x, y]) ∧ (∀ xs, SqT K H a xs → xs[i]? = some x) ∧ ∀ ys, SqL K H b ys → ys[i]? = some y,
    fun i H => ∃ xs ys : List V, SqT K H a xs ∧ SqL K H b ys ∧ (xs.length ≤ i ∨ ys.length ≤ i)⟩
theorem turn_mix {P : Program} {w : World} {K : PySem.W.Frag} {elts : List Expr} {kk : Nat} {tpos : Pos} {a b zz tt uu ia ib : Addr} (D : ZipApart zz tt uu ia ib a b) :
    Turn P w K (.Tuple elts kk tpos) (Itm K a b) [zz, tt, uu, ia, ib] zz (fun i h => IsZip h zz tt uu .none ∧ IsPair h tt (.ref ia) (.ref ib) ∧ (∃ x y, IsPair h uu x y) ∧ h.IsTupleIter ia a i ∧ h.IsListIter ib b i) where
  mem := by simp
  obj := fun i h st c hc => by
    obtain ⟨zo, to, ⟨x, y, uo⟩, ⟨oa, ea, _, da⟩, ⟨ob, eb, _, db⟩⟩ := st
    have e' : c = zz ∨ c = tt ∨ c = uu ∨ c = ia ∨ c = ib := by simpa using hc
    rcases e' with w | w | w | w | w <;> rw [w]
    · exact ⟨_, zo, fun v q => nomatch q⟩
    · exact ⟨_, to, fun v q => nomatch q⟩
    · exact ⟨_, uo, fun v q => nomatch q⟩
    · exact ⟨oa, ea, fun v q => by rw [da] at q; cases q⟩
    · exact ⟨ob, eb, fun v q => by rw [db] at q; cases q⟩
  keep := fun i h h' st k => by
    obtain ⟨zo, to, ⟨x, y, uo⟩, ta, tb⟩ := st
    exact ⟨k zz (by simp) _ zo, k tt (by simp) _ to, ⟨x, y, k uu (by simp) _ uo⟩, ta.at fun o q => k ia (by simp) o q, tb.at fun o q => k ib (by simp) o q⟩
  item := by
    intro X hP hw hK hc i pins s σ H E I hf st hg
    subst hP hw hK
    obtain ⟨zo, to, ⟨x0, y0, uo⟩, ta, tb⟩ := st
    obtain ⟨xs, ys, x, y, qa, qb, ex, ey⟩ := hg
    obtain ⟨is, rv, pa, _⟩ := I.tuple qa
    obtain ⟨js, rw', pb, _⟩ := I.list qb
    obtain ⟨u, hu, ru⟩ := rv.get ex
    obtain ⟨u2, hu2, ru2⟩ := rw'.get ey
    have zl : zz < s.heap.objs.size := Heap.lt_size zo
    refine next_item D zo to uo ta tb pa pb.isList (x := u) (y := u2) (by simpa using hu) (by simpa using hu2) fun h' z' u' a' b' t' sz kp => ?_
    refine ⟨_, rfl, wpAny_letOwnedTupleGo_zip (s := { s with heap := h' }) z' fun h'' z'' sb => ?_⟩
    have t2 : h''.get? s.heap.objs.size = some { cls := .type "tuple", data := .seq #[u, u2] } := (sb.2 _ (Nat.ne_of_gt zl)).trans t'
    have new : ObjOk X.prog X.w (upd H s.heap.objs.size (.tup [x, y])) h'' s.heap.objs.size (.tup [x, y]) := ⟨by show 2 ≤ sizeLine; decide, [u, u2], .cons ru (.cons ru2 .nil), ⟨_, t2, rfl, _, rfl⟩⟩
    have I1 : Inv X pins σ (upd H s.heap.objs.size (.tup [x, y])) { s with heap := h'' } :=
      I.turnedNew (t' := s.toks) (ch := [zz, tt, uu, ia, ib]) (fun c o hb q => (sb.2 c (fun w => hb (by simp [w]))).trans (kp c o (fun w => hb (by simp [w])) (fun w => hb (by simp [w])) (fun w => hb (by simp [w])) (fun w => hb (by simp [w])) q)) hf (Nat.le_refl _) new
    refine ⟨.ref s.heap.objs.size, _, I1, rfl, ⟨_, x, y, rfl, I.hok.fresh (Nat.le_refl _), rfl, fun l hl => by rw [I.tuple_inj hl qa]; exact ex, fun l hl => by rw [I.list_inj hl qb]; exact ey⟩,
      ⟨z'', (sb.2 _ D.TIz).trans (kp _ _ D.TIz D.TITO D.TIi1 D.TIi2 to), ⟨u, u2, (sb.2 _ D.TOz).trans u'⟩, a'.at fun o q => (sb.2 _ D.i1z).trans q, b'.at fun o q => (sb.2 _ D.i2z).trans q⟩, fun c hcm => ?_⟩
    have lt : c < s.heap.objs.size := by
      have e' : c = zz ∨ c = tt ∨ c = uu ∨ c = ia ∨ c = ib := by simpa using hcm
      rcases e' with w | w | w | w | w <;> rw [w]
      · exact zl
      · exact Heap.lt_size to
      · exact Heap.lt_size uo
      · obtain ⟨_, e1, _⟩ := ta; exact Heap.lt_size e1
      · obtain ⟨_, e2, _⟩ := tb; exact Heap.lt_size e2
    rw [upd_ne (Nat.ne_of_lt lt)]; exact (hf c hcm).1
  done := by
    intro X hP hw hK hc i pins s σ H E I hf st hg
    subst hP hw hK
    obtain ⟨zo, to, ⟨x0, y0, uo⟩, ta, tb⟩ := st
    obtain ⟨xs, ys, qa, qb, stop⟩ := hg
    obtain ⟨is, rv, pa, _⟩ := I.tuple qa
    obtain ⟨js, rw', pb, _⟩ := I.list qb
    have la := rv.length
    have lb := rw'.length
    have over : is.toArray[i]? = none ∨ js.toArray[i]? = none := stop.imp (fun w => by simp; omega) (fun w => by simp; omega)
    exact next_end (I.ok.hd hc) D zo to uo ta tb pa pb.isList over fun h' kp => ⟨rfl, I.turnedL (t' := s.toks) (ch := [zz, tt, uu, ia, ib]) (fun c o hb q => kp c o (fun w => hb (by simp [w])) (fun w => hb (by simp [w])) (fun w => hb (by simp [w])) (fun w => hb (by simp [w])) q) hf⟩
  self := fun A i s Q E st h => wpAny_pyIter_zip st.1 h
/-- zip of two tuples, or of a tuple and a list -/
def iMix (K : PySem.W.Frag) (ta : TA) : TI := fun σ H R => ta σ H fun vs H1 => ∃ a b xs ys, vs = [.ref a, .ref b] ∧ ((SqT K H1 a xs ∧ SqT K H1 b ys ∧ R (ItzT K a b) H1) ∨ (SqT K H1 a xs ∧ SqL K H1 b ys ∧ R (Itm K a b) H1))
theorem pi_mix {X : Cx} {e e2 : Expr} {ta : TA} {p pos tpos : Pos} {elts : List Expr} {kk : Nat} (hg : Gl X "zip") (hm : X.mg "zip" = none) (ha : PA X [e, e2] ta)
    (hs : starEach [e, e2] X.env = (false, eval e X.env) :: starEach [e2] X.env) (hpl : (backTo pos (starEach [e2] X.env)).any (·.1) = false) :
    PI X (.Tuple elts kk tpos) (.Call (.Name "zip" p) [e, e2] [] pos) (iMix X.K ta) := by
  refine ⟨fun pins s σ H R I h => Call_ (ld_blt I hg hm PyProof.Rows.boot_zip (PyProof.Rows.callWith_type1 (thn (ha.run pos pins s σ H _ I h) fun us s1 ⟨vs, H1, I1, r1, q1⟩ => ?_) hs hpl))⟩
  obtain ⟨a, b, xs, ys, ev, q1⟩ := q1
  subst ev
  cases r1 with
  | cons r rr =>
    cases rr with
    | cons r' rr =>
      cases rr; cases r; cases r'
      have five : ∀ c, c ∈ [s1.heap.objs.size + 4, s1.heap.objs.size + 2, s1.heap.objs.size + 3, s1.heap.objs.size, s1.heap.objs.size + 1] → FpOk X pins H1 c := fun c hcm => by
        have le : s1.heap.objs.size ≤ c := by
          simp only [List.mem_cons, List.not_mem_nil, or_false] at hcm
          omega
        exact I1.fpOk le (I1.hok.fresh le)
      rcases q1 with ⟨qa, qb, q⟩ | ⟨qa, qb, q⟩
      · obtain ⟨is, rv, pa, _⟩ := I1.tuple qa
        obtain ⟨js, rw', pb, _⟩ := I1.tuple qb
        obtain ⟨oa, ga, _⟩ := id pa
        obtain ⟨ob, gb, _⟩ := id pb
        exact call_zipT (show s1.heap.IsTuple a is.toArray from pa) (show s1.heap.IsTuple b js.toArray from pb) fun h' z t u t1 t2 sz kp => wpAny_pyIter_zip z ⟨s1.heap.objs.size + 4, [s1.heap.objs.size + 4, s1.heap.objs.size + 2, s1.heap.objs.size + 3, s1.heap.objs.size, s1.heap.objs.size + 1], _, _, H1, rfl, I1.kept (t' := s1.toks) kp,
          turn_zipT (PySem.W.ktu_apart s1.heap.objs.size a b (Heap.lt_size ga) (Heap.lt_size gb)), ⟨z, t, ⟨_, _, u⟩, t1, t2⟩, five, q⟩
      · obtain ⟨is, rv, pa, _⟩ := I1.tuple qa
        obtain ⟨js, rw', pb, _⟩ := I1.list qb
        obtain ⟨oa, ga, _⟩ := id pa
        exact call_mix (show s1.heap.IsTuple a is.toArray from pa) pb.isList fun h' z t u t1 t2 kp => wpAny_pyIter_zip z ⟨s1.heap.objs.size + 4, [s1.heap.objs.size + 4, s1.heap.objs.size + 2, s1.heap.objs.size + 3, s1.heap.objs.size, s1.heap.objs.size + 1], _, _, H1, rfl, I1.kept (t' := s1.toks) kp,
          turn_mix (PySem.W.ktu_apart s1.heap.objs.size a b (Heap.lt_size ga) pb.lt), ⟨z, t, ⟨_, _, u⟩, t1, t2⟩, five, q⟩
end ZM
end

section
set_option Elab.async false
set_option linter.all false
set_option maxRecDepth 100000
set_option maxHeartbeats 4000000
namespace Ad
open PySem PySem.Spec PyProof.Rows L2 RZ
open PySem.Sem (wp)
open PySem.AutoSeq1 (wpAny_loadPart')
section
variable {prog : Program} {w : World} {A : Around} {E : Value → Shared → Prop} {s : Shared}
theorem drawsT (hh : A.handled = none) (it t : Addr) (hne : t ≠ it) (items : Array Value) : Draws prog w A it [it, t] items.size (fun i v => items[i]? = some v) (fun i h => h.IsTupleIter it t i ∧ h.IsTuple t items) where
  live := fun _ _ st => let ⟨o, ho, _⟩ := st.1; ⟨o, ho⟩
  frame := fun _ _ _ st hk => ⟨st.1.at fun o e => hk it (by simp) o e, let ⟨o, ho, r⟩ := st.2; ⟨o, hk t (by simp) _ ho, r⟩⟩
  item := fun i s Q E hi st hQ => by
    refine RZ.nextOf_tuple_item st.1 st.2 (x := items[i]) (by simp [hi]) fun h' hit' hs' => ?_
    exact hQ _ h' s.toks (by simp [hi]) ⟨hit', let ⟨o, ho, r⟩ := st.2; ⟨o, hs'.extBut t o hne ho, r⟩⟩ hs'
  done := fun s Q E st hE => RZ.nextOf_tuple_end hh st.1 st.2 (by simp) hE
set_option maxHeartbeats 4000000 in
theorem meets_enumT (l : Addr) (items : Array Value) :
    Meets (Builtin.«enumerate.__new__» ⟨[.type "enumerate", .ref l], []⟩) (fun _ R s => s.heap.IsTuple l items ∧
      R (.ok (.ret (.ref (s.heap.push { cls := .type "tuple_iterator", data := .fields #[.ref l, .int 0 0] }).objs.size)))
        { s with heap := (s.heap.push { cls := .type "tuple_iterator", data := .fields #[.ref l, .int 0 0] }).push { cls := .type "enumerate", data := .fields #[.none, .bool false, .ref s.heap.objs.size, rawInt 0, .none, .none] } }) :=
  .of_wp fun prog w A R s h => by
    obtain ⟨hp, g, d, tk, os⟩ := s; obtain ⟨hl, h⟩ := h
    have hsub := sub_enumerate
    obtain ⟨ob, hol, _⟩ := id hl
    have q1 : ∀ {A' : Around} {E : Value → Shared → Prop} {Q : Value → Shared → Prop}, Q (.ref hp.objs.size) ⟨hp.push { cls := .type "tuple_iterator", data := .fields #[.ref l, .int 0 0] }, g, d, tk, os⟩ → wpAny (model prog w) A' (pyIter (.ref l)) Q E ⟨hp, g, d, tk, os⟩ :=
      fun q => wpAny_pyIter_tuple (s := ⟨hp, g, d, tk, os⟩) hl q
    wp_walk using wpAny_loadPart' hol
    refine wpAny_stack_any fun st => wpAny_pure ?_
    split
    · rename_i c _ _ _ _ _
      cases (c == Value.type "enumerate")
      · wp_walk using wpAny_loadPart' hol, q1
        exact ⟨_, rfl, h⟩
      · wp_walk using wpAny_loadPart' hol, q1
        exact ⟨_, rfl, h⟩
    · wp_walk using wpAny_loadPart' hol, q1
      exact ⟨_, rfl, h⟩
theorem call_enumT {l : Addr} {items : Array Value} {Q : Value → Shared → Prop} (hL : s.heap.IsTuple l items)
    (h : ∀ h', IsEnum h' (s.heap.objs.size + 1) s.heap.objs.size 0 .none → h'.IsTupleIter s.heap.objs.size l 0 → h'.objs.size = s.heap.objs.size + 2 →
      (∀ b o, s.heap.get? b = some o → h'.get? b = some o) → Q (.ref (s.heap.objs.size + 1)) { s with heap := h' }) :
    wpAny (model prog w) A (call (.type "enumerate") [.ref l]) Q E s := by
  refine callType_new F.called_enumerate (by decide) (F.typeCall_enumerate_1 _) (F.newCall_enumerate_1 _) (fun obj => F.args_object_init_2 obj _) F.entry_enumerate_new
    (meets_enumT l items) ⟨hL, ?_⟩
  have hz : (s.heap.push { cls := .type "tuple_iterator", data := .fields #[.ref l, .int 0 0] }).objs.size = s.heap.objs.size + 1 := Heap.size_push ..
  show _ ∧ _
  rw [hz]
  have he : IsEnum ((s.heap.push { cls := .type "tuple_iterator", data := .fields #[.ref l, .int 0 0] }).push
      { cls := .type "enumerate", data := .fields #[.none, .bool false, .ref s.heap.objs.size, rawInt 0, .none, .none] }) (s.heap.objs.size + 1) s.heap.objs.size 0 .none := by
    have := Heap.get?_push_size (s.heap.push { cls := .type "tuple_iterator", data := .fields #[.ref l, .int 0 0] })
      (o := { cls := .type "enumerate", data := .fields #[.none, .bool false, .ref s.heap.objs.size, rawInt 0, .none, .none] }) rfl
    rw [hz] at this; exact this
  refine ⟨⟨_, he, rfl⟩, h _ he ⟨_, Heap.get?_push_of_some _ (Heap.get?_push_size _ rfl), rfl, rfl⟩ (by rw [Heap.size_push, hz]) fun b o x => Heap.get?_push_of_some _ (Heap.get?_push_of_some _ x)⟩
theorem enum_endT {e it l : Addr} {i : Nat} {items : Array Value} {old : Value} {Q : Option Value → Shared → Prop} (hh : A.handled = none)
    (he : IsEnum s.heap e it i old) (hit : s.heap.IsTupleIter it l i) (hl : s.heap.IsTuple l items) (hx : items[i]? = none)
    (hQ : ∀ h', Heap.ExtBut it s.heap h' → Q none { s with heap := h' }) : wpAny (model prog w) A (pyNext (.ref e)) Q E s := by
  have hT : s.TypeIs (.ref e) "enumerate" := ⟨_, he, rfl⟩
  unfold pyNext
  refine wpAny_bind (wpAny_attempt (wpAny_callSpecial?_slot (name := Str.ofString "__next__") hT F.slot_enumerate_next
    (wpAny_call_entry F.slot_enumerate_next hT F.entry_enumerate_next ?_ (F.args_enumerate_next_1 _))))
  show wpAny _ _ (field (.ref e) 2 >>= _) _ _ _
  refine wpAny_bind (wpAny_field he rfl (x := .ref it) rfl ?_)
  refine wpAny_bind (RZ.nextOf_tuple_end (show A.in1.handled = none from hh) hit hl hx fun h' x he' hx' => ?_)
  obtain ⟨o, ho, hc⟩ := hx'
  refine wpAny_bind (wpAny_isInstance (T := "StopIteration") (b := true) ⟨o, ho, hc⟩ isSubtype_stop ?_)
  exact wpAny_pure (hQ _ he')
end
/-- the tuple at a as it stands at each turn, each item in a new pair -/
def IteT (K : PySem.W.Frag) (a : Addr) : It :=
  ⟨fun i H => ∃ (xs : List V) (x : V), SqT K H a xs ∧ xs[i]? = some x, fun i H v H' => ∃ T x, v = .ref T ∧ H T = none ∧ H' = upd H T (.tup [.int (i : Nat), x]) ∧ ∀ xs, SqT K H a xs → xs[i]? = some x, fun i H => ∃ xs : List V, SqT K H a xs ∧ xs.length ≤ i⟩
theorem turn_enumT {P : Program} {w : World} {K : PySem.W.Frag} {elts : List Expr} {kk : Nat} {tpos : Pos} (a e it : Addr) :
    Turn P w K (.Tuple elts kk tpos) (IteT K a) [e, it] e (fun i h => (∃ old, IsEnum h e it ((i : Nat) : Int) old) ∧ h.IsTupleIter it a i ∧ e ≠ it) where
  mem := by simp
  obj := fun i h st b hb => by
    obtain ⟨⟨old, he⟩, ⟨o, ho, hc, hd⟩, _⟩ := st
    have e' : b = e ∨ b = it := by simpa using hb
    rcases e' with z | z
    · rw [z]; exact ⟨_, he, fun v q => nomatch q⟩
    · rw [z]; exact ⟨o, ho, fun v q => by rw [hd] at q; cases q⟩
  keep := fun i h h' st k => let ⟨⟨old, he⟩, hi, hne⟩ := st; ⟨⟨old, k e (by simp) _ he⟩, hi.at fun o q => k it (by simp) o q, hne⟩
  item := by
    intro X hP hw hK hc i pins s σ H E I hf st hg
    subst hP hw hK
    obtain ⟨⟨old, he⟩, hit, hne⟩ := st
    obtain ⟨xs, x, hq, hx⟩ := hg
    obtain ⟨its, rv, p, hz⟩ := I.tuple hq
    obtain ⟨u, hu, ru⟩ := rv.get hx
    have hel : e < s.heap.objs.size := Heap.lt_size he
    have hil : it < s.heap.objs.size := by obtain ⟨_, q, _⟩ := hit; exact Heap.lt_size q
    have pt : s.heap.IsTuple a its.toArray := p
    obtain ⟨oa, ha, hca, _⟩ := id pt
    have hea : e ≠ a := fun z => by
      rw [z] at he
      rw [show s.heap.get? a = _ from he] at ha
      injection ha with ha
      rw [← ha] at hca
      exact absurd hca (by simp)
    have hai : a ≠ it := fun z => by
      obtain ⟨o, q, qc, _⟩ := id hit
      rw [← z, ha] at q
      injection q with q
      rw [← q, hca] at qc
      exact absurd qc (by simp)
    have hlt : i < its.toArray.size := by
      have := (List.getElem?_eq_some_iff.mp hu).1
      simpa using this
    have D : Draws X.prog X.w X.A.in1 it [it, a] its.toArray.size (fun i v => its.toArray[i]? = some v) (fun i h => h.IsTupleIter it a i ∧ h.IsTuple a its.toArray) := drawsT (show X.A.in1.handled = none from I.ok.hd hc) it a hai its.toArray
    refine wpAny_pyNext_enum_itemD D he ⟨hit, pt⟩ hlt hne (by simp; exact ⟨hne, hea⟩) fun u' h' tk hP ho hst hT hsz hk => ?_
    have hu' : u' = u := by
      have : its.toArray[i]? = some u := by simpa using hu
      rw [this] at hP; injection hP with hP; exact hP.symm
    subst hu'
    obtain ⟨hit', _⟩ := hst
    refine ⟨_, rfl, wpAny_letOwnedTupleGo_enum (s := { s with heap := h', toks := tk + 1 }) ho fun h'' he' sb => ?_⟩
    have hT2 : h''.get? s.heap.objs.size = some { cls := .type "tuple", data := .seq #[.int i tk, u'] } := (sb.2 _ (Nat.ne_of_gt hel)).trans hT
    have new : ObjOk X.prog X.w (upd H s.heap.objs.size (.tup [.int (i : Nat), x])) h'' s.heap.objs.size (.tup [.int (i : Nat), x]) :=
      ⟨by show 2 ≤ sizeLine; decide, [.int i tk, u'], .cons ⟨_, rfl⟩ (.cons ru .nil), ⟨_, hT2, rfl, _, rfl⟩⟩
    have I1 : Inv X pins σ (upd H s.heap.objs.size (.tup [.int (i : Nat), x])) { s with heap := h'', toks := tk + 1 } :=
      I.turnedNew (ch := [e, it]) (fun b ob hb q => (sb.2 b (fun z => hb (by simp [z]))).trans (hk b ob (fun z => hb (by simp [z])) (fun z => hb (by simp [z])) q)) hf (Nat.le_refl _) new
    refine ⟨.ref s.heap.objs.size, _, I1, rfl, ⟨_, x, rfl, I.hok.fresh (Nat.le_refl _), rfl, fun ys hy => by rw [I.tuple_inj hy hq]; exact hx⟩, ⟨⟨u', ?_⟩, hit'.at fun o q => (sb.2 it (Ne.symm hne)).trans q, hne⟩, fun b hb => ?_⟩
    · have e1 : ((i + 1 : Nat) : Int) = (i : Int) + 1 := by omega
      rw [e1]; exact he'
    · have hb' : b < s.heap.objs.size := by
        have e' : b = e ∨ b = it := by simpa using hb
        rcases e' with z | z
        · rw [z]; exact hel
        · rw [z]; exact hil
      rw [upd_ne (Nat.ne_of_lt hb')]
      exact (hf b hb).1
  done := by
    intro X hP hw hK hc i pins s σ H E I hf st hg
    subst hP hw hK
    obtain ⟨⟨old, he⟩, hit, hne⟩ := st
    obtain ⟨xs, hq, hx⟩ := hg
    obtain ⟨its, rv, p, hz⟩ := I.tuple hq
    obtain ⟨f0, f1, f2, f3, f4, f5⟩ := hf it (by simp)
    have hl := rv.length
    have pt : s.heap.IsTuple a its.toArray := p
    exact enum_endT (I.ok.hd hc) he hit pt (by simp; omega) fun h' eb => ⟨rfl, I.turned (t' := s.toks) (fun b o hb q => eb b o hb q) f0 f1 f3 f4 f5⟩
  self := fun A i s Q E st h => let ⟨⟨_, he⟩, _⟩ := st; wpAny_pyIter_enum he h
def iEnumT (K : PySem.W.Frag) (ta : TA) : TI := fun σ H R => ta σ H fun vs H1 => ∃ a xs, vs = [.ref a] ∧ (SqL K H1 a xs ∧ R (Ite K a) H1 ∨ SqT K H1 a xs ∧ R (IteT K a) H1)
/-- enumerate of a list or of a tuple -/
theorem pi_enumA {X : Cx} {e : Expr} {ta : TA} {p pos tpos : Pos} {elts : List Expr} {kk : Nat} (hg : Gl X "enumerate") (hm : X.mg "enumerate" = none) (ha : PA X [e] ta) (hs : starEach [e] X.env = [(false, eval e X.env)] := by rfl) :
    PI X (.Tuple elts kk tpos) (.Call (.Name "enumerate" p) [e] [] pos) (iEnumT X.K ta) := by
  refine ⟨fun pins s σ H R I h => ?_⟩
  refine Call_ (ld_blt I hg hm boot_enumerate (PyProof.Rows.callWith_type1 (thn (ha.run pos pins s σ H _ I h) fun us s1 ⟨vs, H1, I1, r1, q1⟩ => ?_) hs rfl))
  obtain ⟨a, xs, ex, hor⟩ := q1
  subst ex
  cases r1 with
  | cons r rr =>
    cases rr
    cases r
    have fp : ∀ b, (b = s1.heap.objs.size + 1 ∨ b = s1.heap.objs.size) → s1.heap.objs.size ≤ b := fun b e' => by
      rcases e' with z | z
      · rw [z]; exact Nat.le_add_right _ _
      · rw [z]; exact Nat.le_refl _
    rcases hor with ⟨hq, q⟩ | ⟨hq, q⟩
    · obtain ⟨its, rv, p', hz⟩ := I1.list hq
      refine call_enumerate_list p'.isList fun h' he hit hsz hk => wpAny_pyIter_enum he ?_
      have I2 : Inv X pins σ H1 { s1 with heap := h' } := I1.kept (t' := s1.toks) hk
      refine ⟨s1.heap.objs.size + 1, [s1.heap.objs.size + 1, s1.heap.objs.size], _, _, H1, rfl, I2, turn_enum a (s1.heap.objs.size + 1) s1.heap.objs.size, ⟨⟨.none, he⟩, hit, Nat.succ_ne_self _⟩, fun b hb => ?_, q⟩
      have e' : b = s1.heap.objs.size + 1 ∨ b = s1.heap.objs.size := by simpa using hb
      exact I1.fpOk (fp b e') (I1.hok.fresh (fp b e'))
    · obtain ⟨its, rv, p', hz⟩ := I1.tuple hq
      refine call_enumT (show s1.heap.IsTuple a its.toArray from p') fun h' he hit hsz hk => wpAny_pyIter_enum he ?_
      have I2 : Inv X pins σ H1 { s1 with heap := h' } := I1.kept (t' := s1.toks) hk
      refine ⟨s1.heap.objs.size + 1, [s1.heap.objs.size + 1, s1.heap.objs.size], _, _, H1, rfl, I2, turn_enumT a (s1.heap.objs.size + 1) s1.heap.objs.size, ⟨⟨.none, he⟩, hit, Nat.succ_ne_self _⟩, fun b hb => ?_, q⟩
      have e' : b = s1.heap.objs.size + 1 ∨ b = s1.heap.objs.size := by simpa using hb
      exact I1.fpOk (fp b e') (I1.hok.fresh (fp b e'))
/-! ### a dict that is locked while it is walked over -/
structure Lw (K : PySem.W.Frag) (w w' : Wd) : Prop where
  n : w.ah.length ≤ w'.ah.length
  m : ∀ i, i < w.ah.length → w'.mu i = w.mu i
  t : ∀ a xs, SqT K w.H a xs → SqT K w'.H a xs
  r : ∀ a xs, Ro K w.H a xs → Ro K w'.H a xs
mutual
theorem VR.monoW {K : PySem.W.Frag} {w w' : Wd} (l : Lw K w w') : ∀ (d : MD) (v : V), VR K w d v → VR K w' d v
  | .non, v, h => h
  | .bl b, v, h => h
  | .int i, v, h => h
  | .str s, v, h => h
  | .tup ds, v, h => by
    obtain ⟨a, vs, e, t, r⟩ := h
    exact ⟨a, vs, e, l.t _ _ t, VRs.monoW l ds vs r⟩
  | .obj i, v, h => by
    obtain ⟨hi, e⟩ := h
    exact ⟨Nat.lt_of_lt_of_le hi l.n, by rw [e, l.m i hi]⟩
  | .lst ds, v, h => by
    obtain ⟨a, vs, e, t, r⟩ := h
    exact ⟨a, vs, e, l.r _ _ t, VRs.monoW l ds vs r⟩
theorem VRs.monoW {K : PySem.W.Frag} {w w' : Wd} (l : Lw K w w') : ∀ (ds : List MD) (vs : List V), VRs K w ds vs → VRs K w' ds vs
  | [], vs, h => h
  | d :: ds, vs, h => by
    obtain ⟨v, r, e, h1, h2⟩ := h
    exact ⟨v, r, e, VR.monoW l d v h1, VRs.monoW l ds r h2⟩
end
theorem FsR.monoW {K : PySem.W.Frag} {w w' : Wd} (l : Lw K w w') : ∀ {fs : List (String × MD)} {gs : List (Str × V)}, FsR K w fs gs → FsR K w' fs gs
  | [], _, h => h
  | (f, d) :: fs, _, h => by
    obtain ⟨v, r, e, h1, h2⟩ := h
    exact ⟨v, r, e, VR.monoW l d v h1, FsR.monoW l h2⟩
theorem KvR.monoW {K : PySem.W.Frag} {w w' : Wd} (l : Lw K w w') : ∀ {fs : List (MD × MD)} {gs : List (Key × V)}, KvR K w fs gs → KvR K w' fs gs
  | [], _, h => h
  | (a, d) :: fs, _, h => by
    obtain ⟨k, v, r, e, h0, h1, h2⟩ := h
    exact ⟨k, v, r, e, h0, VR.monoW l d v h1, KvR.monoW l h2⟩
theorem XsR.monoW {K : PySem.W.Frag} {w w' : Wd} (l : Lw K w w') : ∀ {fs : List (MD × MD)} {gs : List (NestedKey × Addr × Value)}, XsR K w fs gs → XsR K w' fs gs
  | [], _, h => h
  | (a, d) :: fs, _, h => by
    obtain ⟨p, u, r, v, e, h0, h1, h2, h3, h4⟩ := h
    exact ⟨p, u, r, v, e, h0, VR.monoW l a _ h1, h2, VR.monoW l d v h3, XsR.monoW l h4⟩
theorem OR.monoW {g : Gc} {w w' : Wd} (l : Lw g.K w w') {a : Addr} (e : w'.H a = w.H a) : ∀ {o : Mu.AO}, OR g w a o → OR g w' a o
  | .lst ds, ⟨vs, h, r⟩ => ⟨vs, e.trans h, VRs.monoW l ds vs r⟩
  | .dct false kvs, ⟨n, ks, h, r⟩ => ⟨n, ks, e.trans h, KvR.monoW l r⟩
  | .dct true kvs, ⟨n, xs, h, r⟩ => ⟨n, xs, e.trans h, XsR.monoW l r⟩
  | .ins c fs, ⟨m, dx, gs, h, r⟩ => ⟨m, dx, gs, e.trans h, FsR.monoW l r⟩
  | .lck kvs, ⟨n, o, ks, h, r⟩ => ⟨n, o, ks, e.trans h, KvR.monoW l r⟩
theorem FR.monoW {K : PySem.W.Frag} {w w' : Wd} (l : Lw K w w') : ∀ {fr : Mu.Fr} {σ : L2.St}, FR K w fr σ → FR K w' fr σ
  | [], _, h => h
  | none :: fr, _, h => by
    obtain ⟨x, r, e, h⟩ := h
    exact ⟨x, r, e, FR.monoW l h⟩
  | some d :: fr, _, h => by
    obtain ⟨v, r, e, h1, h⟩ := h
    exact ⟨v, r, e, VR.monoW l d v h1, FR.monoW l h⟩
/-- the world while the dict at p is locked -/
def Wd.lock (w : Wd) (p : Nat) (kvs : List (MD × MD)) (od : Obj) (ks : List (Key × V)) : Wd := ⟨w.mu, w.ah.set p (.lck kvs), upd w.H (w.mu p) (.frz od (.dK ks))⟩
/-- .. and behind it -/
def Wd.unlock (w : Wd) (p : Nat) (kvs : List (MD × MD)) (ks : List (Key × V)) : Wd := ⟨w.mu, w.ah.set p (.dct false kvs), upd w.H (w.mu p) (.dK ks)⟩
section
variable {g : Gc} {w w' : Wd} {p : Nat} {kvs : List (MD × MD)} {od : Obj} {ks : List (Key × V)}
theorem Lv.lock (hd : w.H (w.mu p) = some (.dK ks)) : Lv w (w.lock p kvs od ks) :=
  ⟨by simp [Wd.lock], fun _ _ => rfl, Keep.put (by rw [hd]; exact True.intro)⟩
theorem HR.lock (hr : HR g w) (e : w.ah[p]? = some (.dct false kvs)) (hd : w.H (w.mu p) = some (.dK ks)) (rel : KvR g.K w kvs ks) : HR g (w.lock p kvs od ks) := by
  have l : Lv w (w.lock p kvs od ks) := Lv.lock hd
  have hp : p < w.ah.length := (List.getElem?_eq_some_iff.mp e).1
  refine ⟨fun i j hi hj q => hr.inj i j (by simpa [Wd.lock] using hi) (by simpa [Wd.lock] using hj) q, fun i o ho => ?_⟩
  by_cases q : p = i
  · subst q
    have : o = .lck kvs := by
      have z : (w.ah.set p (.lck kvs))[p]? = some o := ho
      rw [List.getElem?_set_self hp] at z
      injection z with z; exact z.symm
    subst this
    exact ⟨(hr.ob p _ e).1, od, ks, upd_same, KvR.monoV l rel⟩
  · have ho' : w.ah[i]? = some o := by
      have z : (w.ah.set p (.lck kvs))[i]? = some o := ho
      rwa [List.getElem?_set_ne q] at z
    have hi : i < w.ah.length := (List.getElem?_eq_some_iff.mp ho').1
    refine OR.monoV l ?_ (hr.ob i o ho')
    exact upd_ne fun z => q (hr.inj i p hi hp z).symm
theorem Lw.unlock (hd : w.H (w.mu p) = some (.frz od (.dK ks))) : Lw g.K w (w.unlock p kvs ks) := by
  have ne : ∀ a u, w.H a = some u → (∀ o k, u ≠ .frz o (.dK k)) → (w.unlock p kvs ks).H a = some u := fun a u h k => by
    rw [show (w.unlock p kvs ks).H = upd w.H (w.mu p) (.dK ks) from rfl, upd_ne (fun z => by subst z; rw [hd] at h; injection h with h; exact k _ _ h.symm)]
    exact h
  refine ⟨by simp [Wd.unlock], fun _ _ => rfl, fun a xs h => ?_, fun a xs h => ?_⟩
  · rcases h with (h | ⟨o, h⟩) | h
    · exact .inl (.inl (ne _ _ h fun _ _ z => nomatch z))
    · exact .inl (.inr ⟨o, ne _ _ h fun _ _ z => nomatch z⟩)
    · exact .inr h
  · rcases h with ⟨o, h⟩ | h
    · exact .inl ⟨o, ne _ _ h fun _ _ z => nomatch z⟩
    · exact .inr h
theorem HR.unlock (hr : HR g w) (e : w.ah[p]? = some (.lck kvs)) (hd : w.H (w.mu p) = some (.frz od (.dK ks))) (rel : KvR g.K w kvs ks) : HR g (w.unlock p kvs ks) := by
  have l : Lw g.K w (w.unlock p kvs ks) := Lw.unlock hd
  have hp : p < w.ah.length := (List.getElem?_eq_some_iff.mp e).1
  refine ⟨fun i j hi hj q => hr.inj i j (by simpa [Wd.unlock] using hi) (by simpa [Wd.unlock] using hj) q, fun i o ho => ?_⟩
  by_cases q : p = i
  · subst q
    have : o = .dct false kvs := by
      have z : (w.ah.set p (.dct false kvs))[p]? = some o := ho
      rw [List.getElem?_set_self hp] at z
      injection z with z; exact z.symm
    subst this
    exact ⟨(hr.ob p _ e).1, ks, upd_same, KvR.monoW l rel⟩
  · have ho' : w.ah[i]? = some o := by
      have z : (w.ah.set p (.dct false kvs))[i]? = some o := ho
      rwa [List.getElem?_set_ne q] at z
    have hi : i < w.ah.length := (List.getElem?_eq_some_iff.mp ho').1
    refine OR.monoW l ?_ (hr.ob i o ho')
    exact upd_ne fun z => q (hr.inj i p hi hp z).symm
/-- the walk as a whole -/
theorem Le.locked (hr : HR g w) (e : w.ah[p]? = some (.dct false kvs)) (hd : w.H (w.mu p) = some (.dK ks)) (l : Le (w.lock p kvs od ks) w') : Le w (w'.unlock p kvs ks) := by
  have hp : p < w.ah.length := (List.getElem?_eq_some_iff.mp e).1
  have hm : w'.mu p = w.mu p := l.m p (by simpa [Wd.lock] using hp)
  have hL : (w.lock p kvs od ks).ah.length = w.ah.length := by simp [Wd.lock]
  have old : ∀ a u, a ≠ w.mu p → w.H a = some u → (w.lock p kvs od ks).H a = some u := fun a u z h => by
    show upd w.H (w.mu p) _ a = _
    rw [upd_ne z]; exact h
  have new : ∀ a, a ≠ w.mu p → (w'.unlock p kvs ks).H a = w'.H a := fun a z => by
    show upd w'.H (w'.mu p) _ a = _
    rw [hm, upd_ne z]
  have at_ : (w'.unlock p kvs ks).H (w.mu p) = some (.dK ks) := by
    show upd w'.H (w'.mu p) _ _ = _
    rw [hm, upd_same]
  refine ⟨⟨?_, fun i hi => l.m i (by omega), ⟨fun a xs h => ?_, fun a o u h => ?_, fun a fs h => ?_⟩⟩, fun a h => ?_, fun i h1 h2 => ?_, fun a u h k => ?_⟩
  · have := l.n
    show w.ah.length ≤ (w'.ah.set p _).length
    rw [List.length_set]; omega
  · have z : a ≠ w.mu p := fun z => by subst z; rw [hd] at h; cases h
    rw [new a z]; exact l.k.t _ _ (old _ _ z h)
  · have z : a ≠ w.mu p := fun z => by subst z; rw [hd] at h; cases h
    rw [new a z]; exact l.k.f _ _ _ (old _ _ z h)
  · have z : a ≠ w.mu p := fun z => by subst z; rw [hd] at h; cases h
    rw [new a z]; exact l.k.x _ _ (old _ _ z h)
  · by_cases z : a = w.mu p
    · subst z; rw [at_] at h; cases h
    · rw [new a z] at h
      have := l.d a h
      rw [show (w.lock p kvs od ks).H a = upd w.H (w.mu p) _ a from rfl, upd_ne z] at this
      exact this
  · have h2' : i < w'.ah.length := by
      have : (w'.unlock p kvs ks).ah.length = w'.ah.length := by simp [Wd.unlock]
      omega
    have := l.fr i (by omega) h2'
    have z : w'.mu i ≠ w.mu p := fun z => by
      rw [z] at this
      rw [show (w.lock p kvs od ks).H (w.mu p) = some (.frz od (.dK ks)) from upd_same] at this
      cases this
    rw [show (w.lock p kvs od ks).H (w'.mu i) = upd w.H (w.mu p) _ (w'.mu i) from rfl, upd_ne z] at this
    exact this
  · have z : a ≠ w.mu p := fun z => k p hp z.symm
    rw [new a z]
    exact l.o a u (old a u z h) fun i hi => k i (by omega)
end
/-! ### targets -/
def setsV : L2.St → List Nat → List V → L2.St
  | σ, i :: is, x :: xs => setsV (σ.set i (some x)) is xs
  | σ, _, _ => σ
def gSets (is : List Nat) : TGs := fun vs σ H Q => vs.length = is.length ∧ Q (setsV σ is vs) H
/-- names with their slots, locals or cells -/
def NmOk (X : Cx) (e : Expr) (i : Nat) : Prop := ∃ x pos, e = .Name x pos ∧ X.N[i]? = some x ∧ Loc X.env.scope x ∧ (X.fn x = true ∨ X.env.scope.names.lookup x = some .local)
inductive NmsOk (X : Cx) : List Expr → List Nat → Prop where
  | nil : NmsOk X [] []
  | cons {e : Expr} {i : Nat} {es : List Expr} {is : List Nat} (h : NmOk X e i) (r : NmsOk X es is) : NmsOk X (e :: es) (i :: is)
section
variable {g : Gc} {X : Cx} {W : WX} {c : Mu.Cx}
theorem PG_weak {e : Expr} {t t' : TG} (h : PG X e t) (k : ∀ v σ H Q, t' v σ H Q → t v σ H Q) : PG X e t' := ⟨fun pins s σ H v u Q I r q => h.run pins s σ H v u Q I r (k v σ H Q q)⟩
theorem PGs_weak {e : List Expr} {t t' : TGs} (h : PGs X e t) (k : ∀ v σ H Q, t' v σ H Q → t v σ H Q) : PGs X e t' := ⟨fun pins s σ H v u Q I r q => h.run pins s σ H v u Q I r (k v σ H Q q)⟩
theorem pg_one (hN : X.N.Nodup) {e : Expr} {i : Nat} (h : NmOk X e i) : PG X e (gName i) := by
  obtain ⟨x, pos, rfl, h1, h2, h3⟩ := h
  exact pg_name hN h1 h2 h3
theorem pgs_names (hN : X.N.Nodup) {es : List Expr} {is : List Nat} (h : NmsOk X es is) : PGs X es (gSets is) := by
  induction h with
  | nil =>
    refine PGs_weak pgs_nil ?_
    rintro vs σ H Q ⟨hl, q⟩
    obtain rfl : vs = [] := List.length_eq_zero_iff.mp hl
    exact ⟨rfl, q⟩
  | @cons e i es is h r ih =>
    have hn := h
    obtain ⟨x, pos, rfl, _⟩ := hn
    refine PGs_weak (pgs_cons (pg_one hN h) ih) ?_
    rintro vs σ H Q ⟨hl, q⟩
    cases vs with
    | nil => simp at hl
    | cons v vs => exact ⟨v, vs, rfl, by simpa using hl, q⟩
theorem names_each {es : List Expr} {is : List Nat} (h : NmsOk X es is) : (assignEach es X.env).length = is.length ∧ (assignEach es X.env).findIdx? (·.1) = none := by
  induction h with
  | nil => exact ⟨rfl, rfl⟩
  | @cons e i es is h r ih =>
    obtain ⟨x, pos, rfl, _⟩ := h
    have e0 : assignEach (.Name x pos :: es) X.env = (false, assign (.Name x pos) X.env) :: assignEach es X.env := by first | rfl | simp [assignEach]
    rw [e0]
    exact ⟨by simp [ih.1], by rw [List.findIdx?_cons, ih.2]; rfl⟩
/-- a target of Mu's -/
inductive TgOk (X : Cx) : Expr → Mu.Tg → Prop where
  | one {e : Expr} {i : Nat} (h : NmOk X e i) : TgOk X e (.one i)
  | tup {es : List Expr} {k : Nat} {pos : Pos} {is : List Nat} (h : NmsOk X es is) : TgOk X (.Tuple es k pos) (.tup is)
def gT (K : PySem.W.Frag) : Mu.Tg → TG
  | .one i => gName i
  | .tup is => fun v σ H Q => ∃ a xs, v = .ref a ∧ (SqT K H a xs ∨ SqL K H a xs) ∧ xs.length = is.length ∧ Q (setsV σ is xs) H
theorem pg_T (hN : X.N.Nodup) (hc : X.calm = true) {e : Expr} {t : Mu.Tg} (h : TgOk X e t) : PG X e (gT X.K t) := by
  cases h with
  | one h => exact pg_one hN h
  | @tup es k pos is h =>
    obtain ⟨e1, e2⟩ := names_each h
    have hp := pgs_names hN h
    refine ⟨fun pins s σ H v u Q I r q => ?_⟩
    obtain ⟨a, xs, rfl, hs, hl, q⟩ := q
    rcases hs with hs | hs
    · exact (pg_tup (n := is.length) (pos := pos) (k := k) hc hp e1 e2).run pins s σ H _ u Q I r ⟨a, xs, rfl, hs, hl, hl, q⟩
    · exact (pg_lst (n := is.length) (pos := pos) (k := k) hc hp e1 e2).run pins s σ H _ u Q I r ⟨a, xs, rfl, hs, hl, hl, q⟩
theorem sets_FR {K : PySem.W.Frag} {w : Wd} : ∀ {is : List Nat} {ds : List MD} {xs : List V} {fr fr' : Mu.Fr} {σ : L2.St}, Mu.vsets fr is ds = some fr' → FR K w fr σ → VRs K w ds xs → FR K w fr' (setsV σ is xs) ∧ xs.length = is.length
  | [], [], xs, fr, fr', σ, h, f, r => by
    cases h
    obtain rfl : xs = [] := r
    exact ⟨f, rfl⟩
  | [], _ :: _, _, _, _, _, h, _, _ => by cases h
  | _ :: _, [], _, _, _, _, h, _, _ => by cases h
  | i :: is, d :: ds, xs, fr, fr', σ, h, f, r => by
    obtain ⟨x, r', rfl, r1, r2⟩ := r
    obtain ⟨a, b⟩ := sets_FR (is := is) (σ := σ.set i (some x)) h (f.set i r1) r2
    exact ⟨a, by simp [b]⟩
/-- what is stored where -/
theorem gT_of (G : Good g X W) {w : Wd} {fr fr' : Mu.Fr} {σ : L2.St} {t : Mu.Tg} {d : MD} {x : V} (hr : HR g w) (hf : FR g.K w fr σ) (r : VR g.K w d x) (h : Mu.tgS w.ah fr t d = some fr') {Q : L2.St → Hp → Prop}
    (q : ∀ σ', FR g.K w fr' σ' → (∃ xs, σ' = setsV σ (Mu.tgIs t) xs) → Q σ' w.H) : gT X.K t x σ w.H Q := by
  cases t with
  | one i =>
    cases h
    exact q _ (hf.set i r) ⟨[x], rfl⟩
  | tup is =>
    simp only [Mu.tgS] at h
    obtain ⟨ds, e1, e2⟩ := Option.bind_eq_some_iff.mp h
    cases d with
    | tup ds' =>
      obtain ⟨a, xs, rfl, t2, rs⟩ := r
      cases e1
      obtain ⟨f1, f2⟩ := sets_FR e2 hf rs
      exact ⟨a, xs, rfl, .inl (by rw [G.K]; exact t2), f2, q _ f1 ⟨xs, rfl⟩⟩
    | obj p =>
      simp only [Mu.seqOf] at e1
      split at e1
      · rename_i ds' e0
        cases e1
        obtain ⟨rfl, xs, t2, rs⟩ := VR.obj_at hr r e0
        obtain ⟨f1, f2⟩ := sets_FR e2 hf rs
        exact ⟨_, xs, rfl, .inr (.of t2), f2, q _ f1 ⟨xs, rfl⟩⟩
      · cases e1
    | _ => cases e1

/-! ### iterators -/
structure ItR (g : Gc) (J : It) (w0 : Wd) (ds : List MD) (gd : Option Nat) : Prop where
  self : Mu.gdOk w0.ah w0.ah gd = true
  stop : ∀ w, Lv w0 w → HR g w → Mu.gdOk w0.ah w.ah gd = true → ∀ i, ds.length ≤ i → J.stop i w.H
  go : ∀ w, Lv w0 w → HR g w → Mu.gdOk w0.ah w.ah gd = true → ∀ i d, ds[i]? = some d → J.go i w.H ∧ ∀ x H', J.yld i w.H x H' → ∃ w', w'.H = H' ∧ w'.ah = w.ah ∧ Le w w' ∧ HR g w' ∧ VR g.K w' d x
def relI (g : Gc) (w : Wd) (p : List MD × Option Nat) (J : It) : Prop := ItR g J w p.1 p.2
def tI (g : Gc) (W : WX) (c : Mu.Cx) (it : Mu.It) : TI := fun σ H R => ∃ w fr, w.H = H ∧ HR g w ∧ FR g.K w fr σ ∧ Aft g (relI g) w (Mu.evI c fr w.ah it) R (fun cl d H' => W cl d σ H')
theorem PI_weak {tg e : Expr} {t t' : TI} (h : PI X tg e t) (k : ∀ σ H R, t' σ H R → t σ H R) : PI X tg e t' := ⟨fun pins s σ H R I q => h.run pins s σ H R I (k σ H R q)⟩
theorem gd_lst {h h' : Mu.Hp} {p : Nat} {ds : List MD} (e : h[p]? = some (.lst ds)) (g : Mu.gdOk h h' (some p) = true) : h'[p]? = some (.lst ds) := by
  unfold Mu.gdOk at g
  simp only [e] at g
  split at g
  · rename_i a b e1 e2
    cases e1
    have : ds = _ := of_decide_eq_true g
    rw [e2, this]
  · cases g
theorem gd_self {h : Mu.Hp} {p : Nat} {ds : List MD} (e : h[p]? = some (.lst ds)) : Mu.gdOk h h (some p) = true := by simp [Mu.gdOk, e]
theorem itR_lst {w0 : Wd} {p : Nat} {ds : List MD} (hr0 : HR g w0) (e : w0.ah[p]? = some (.lst ds)) : ItR g (Itl g.K (w0.mu p)) w0 ds (some p) := by
  have at_ : ∀ w, Lv w0 w → HR g w → Mu.gdOk w0.ah w.ah (some p) = true → ∃ vs, SqL g.K w.H (w0.mu p) vs ∧ VRs g.K w ds vs := fun w l hr gd => by
    have e' := gd_lst e gd
    obtain ⟨vs, h, r⟩ := hr.ob p _ e'
    rw [l.m p (List.getElem?_eq_some_iff.mp e).1] at h
    exact ⟨vs, .of h, r⟩
  refine ⟨gd_self e, fun w l hr gd i hi => ?_, fun w l hr gd i d hd => ?_⟩
  · obtain ⟨vs, h, r⟩ := at_ w l hr gd
    exact ⟨vs, h, by rw [← r.length]; exact hi⟩
  · obtain ⟨vs, h, r⟩ := at_ w l hr gd
    obtain ⟨x, ex, rx⟩ := r.get hd
    refine ⟨⟨vs, x, h, ex⟩, fun y H' hy => ?_⟩
    obtain ⟨rfl, hy⟩ := hy
    have := hy vs h
    rw [ex] at this; cases this
    exact ⟨w, rfl, rfl, .refl, hr, rx⟩
theorem itR_ro {w0 : Wd} {a : Addr} {ds : List MD} {vs : List V} (h0 : Ro g.K w0.H a vs) (r0 : VRs g.K w0 ds vs) : ItR g (Itl g.K a) w0 ds none := by
  refine ⟨rfl, fun w l hr gd i hi => ?_, fun w l hr gd i d hd => ?_⟩
  · exact ⟨vs, (ro_keep h0 l.k).sq, by rw [← r0.length]; exact hi⟩
  · obtain ⟨x, ex, rx⟩ := (VRs.monoV l _ _ r0).get hd
    refine ⟨⟨vs, x, (ro_keep h0 l.k).sq, ex⟩, fun y H' hy => ?_⟩
    obtain ⟨rfl, hy⟩ := hy
    have := hy vs (ro_keep h0 l.k).sq
    rw [ex] at this; cases this
    exact ⟨w, rfl, rfl, .refl, hr, rx⟩
theorem itR_keys {w0 : Wd} {a : Addr} {kvs : List (MD × MD)} {od : Obj} {ks : List (Key × V)} (e : w0.H a = some (.frz od (.dK ks))) (r : KvR g.K w0 kvs ks) : ItR g (Itk a od ks) w0 (kvs.map (·.1)) none := by
  have hl := r.length
  refine ⟨rfl, fun w l hr gd i hi => ⟨l.k.f _ _ _ e, by rw [List.length_map] at hi; omega⟩, fun w l hr gd i d hd => ?_⟩
  obtain ⟨x, ex, rx⟩ := (VRs.monoV l _ _ r.keyVals).get hd
  have hi : i < ks.length := by
    have := (List.getElem?_eq_some_iff.mp ex).1
    simpa using this
  refine ⟨⟨l.k.f _ _ _ e, hi⟩, fun y H' hy => ?_⟩
  obtain ⟨rfl, k, v, hk, rfl⟩ := hy
  rw [List.getElem?_map, hk] at ex
  injection ex with ex
  exact ⟨w, rfl, rfl, .refl, hr, by rw [show kV k = x from ex]; exact rx⟩
theorem itR_vals {w0 : Wd} {a : Addr} {kvs : List (MD × MD)} {od : Obj} {ks : List (Key × V)} (e : w0.H a = some (.frz od (.dK ks))) (r : KvR g.K w0 kvs ks) : ItR g (Itd a od ks) w0 (kvs.map (·.2)) none := by
  have hl := r.length
  refine ⟨rfl, fun w l hr gd i hi => ⟨l.k.f _ _ _ e, by rw [List.length_map] at hi; omega⟩, fun w l hr gd i d hd => ?_⟩
  obtain ⟨x, ex, rx⟩ := (VRs.monoV l _ _ r.vals).get hd
  have hi : i < ks.length := by
    have := (List.getElem?_eq_some_iff.mp ex).1
    simpa using this
  refine ⟨⟨l.k.f _ _ _ e, hi⟩, fun y H' hy => ?_⟩
  obtain ⟨rfl, k, hk⟩ := hy
  rw [List.getElem?_map, hk] at ex
  injection ex with ex
  exact ⟨w, rfl, rfl, .refl, hr, by rw [show y = x from ex]; exact rx⟩
theorem itR_tup {w0 : Wd} {a : Addr} {ds : List MD} {vs : List V} (h0 : SqT g.K w0.H a vs) (r0 : VRs g.K w0 ds vs) : ItR g (Itt g.K a) w0 ds none := by
  refine ⟨rfl, fun w l hr gd i hi => ?_, fun w l hr gd i d hd => ?_⟩
  · exact ⟨vs, sqt_keep h0 l.k, by rw [← r0.length]; exact hi⟩
  · obtain ⟨x, ex, rx⟩ := (VRs.monoV l _ _ r0).get hd
    refine ⟨⟨vs, x, sqt_keep h0 l.k, ex⟩, fun y H' hy => ?_⟩
    obtain ⟨rfl, hy⟩ := hy
    have := hy vs (sqt_keep h0 l.k)
    rw [ex] at this; cases this
    exact ⟨w, rfl, rfl, .refl, hr, rx⟩
theorem itR_str {w0 : Wd} {s : List Nat} (o : StrOk s) : ItR g (Its (toS s)) w0 (s.map fun ch => .str [ch]) none := by
  have hsz : (toS s).cps.size = s.length := by simp [toS]
  refine ⟨rfl, fun w l hr gd i hi => ?_, fun w l hr gd i d hd => ?_⟩
  · show (toS s).cps.size ≤ i
    rw [hsz]; simpa using hi
  · rw [List.getElem?_map] at hd
    obtain ⟨ch, e1, rfl⟩ := Option.map_eq_some_iff.mp hd
    refine ⟨?_, fun y H' hy => ?_⟩
    · show i < (toS s).cps.size
      rw [hsz]; exact (List.getElem?_eq_some_iff.mp e1).1
    · obtain ⟨rfl, c', e2, rfl⟩ := hy
      have e3 : s[i]? = some c' := by simpa [toS] using e2
      rw [e1] at e3; cases e3
      refine ⟨w, rfl, rfl, .refl, hr, ⟨by rw [sl_num]; simp, fun z hz => ?_⟩, rfl⟩
      obtain rfl : z = ch := by simpa using hz
      exact o.2 _ (List.mem_of_getElem? e1)
theorem itR_rng {w0 : Wd} {lo : Int} {n : Nat} : ItR g (Itr lo n) w0 ((List.range n).map fun (k : Nat) => Mu.D.int (lo + (k : Int))) none := by
  refine ⟨rfl, fun w l hr gd i hi => ?_, fun w l hr gd i d hd => ?_⟩
  · show n ≤ i
    simpa using hi
  · rw [List.getElem?_map] at hd
    obtain ⟨k, e1, rfl⟩ := Option.map_eq_some_iff.mp hd
    have hk : i < n ∧ k = i := by
      obtain ⟨h1, h2⟩ := List.getElem?_eq_some_iff.mp e1
      exact ⟨by simpa using h1, by simpa using h2.symm⟩
    refine ⟨hk.1, fun y H' hy => ?_⟩
    obtain ⟨rfl, rfl⟩ := hy
    exact ⟨w, rfl, rfl, .refl, hr, by rw [hk.2]; rfl⟩
theorem enum_get : ∀ (n : Nat) (ds : List MD) (i : Nat), (Mu.enumD n ds)[i]? = (ds[i]?).map fun d => .tup [.int ((n + i : Nat) : Int), d]
  | n, [], i => by simp [Mu.enumD]
  | n, d :: ds, 0 => by simp [Mu.enumD]
  | n, d :: ds, i + 1 => by
    have := enum_get (n + 1) ds i
    simp only [Mu.enumD, List.getElem?_cons_succ, this]
    rw [show n + 1 + i = n + (i + 1) from by omega]
theorem enum_len (n : Nat) (ds : List MD) : (Mu.enumD n ds).length = ds.length := by
  induction ds generalizing n with
  | nil => rfl
  | cons d ds ih => simp [Mu.enumD, ih]
theorem itR_enum {w0 : Wd} {a : Addr} {ds : List MD} {gd : Option Nat} (h : ItR g (Itl g.K a) w0 ds gd) : ItR g (Ite g.K a) w0 (Mu.enumD 0 ds) gd := by
  refine ⟨h.self, fun w l hr gd i hi => ?_, fun w l hr gd i d hd => ?_⟩
  · exact h.stop w l hr gd i (by rw [enum_len] at hi; exact hi)
  · rw [enum_get] at hd
    obtain ⟨d', e1, rfl⟩ := Option.map_eq_some_iff.mp hd
    obtain ⟨⟨vs, x, hs, ex⟩, h2⟩ := h.go w l hr gd i d' e1
    refine ⟨⟨vs, x, hs, ex⟩, fun y H' hy => ?_⟩
    obtain ⟨T, x', rfl, hT, rfl, hx'⟩ := hy
    obtain ⟨w', e2, e3, l2, hr2, r2⟩ := h2 x' w.H ⟨rfl, hx'⟩
    have r3 : VR g.K w d' x' := by
      have : Lv w' w := ⟨by rw [e3]; exact Nat.le_refl _, fun i hi => (l2.m i (by rw [e3] at hi; exact hi)).symm, by rw [e2]; exact .refl⟩
      exact VR.monoV this _ _ r2
    refine ⟨w.tup T [.int (i : Nat), x'], rfl, rfl, Le.tup hT, hr.tup hT, ⟨T, _, rfl, .of upd_same, ⟨_, _, rfl, by simp [VR], ⟨_, _, rfl, VR.mono (Le.tup hT) _ _ r3, rfl⟩⟩⟩⟩
theorem itR_enumT {w0 : Wd} {a : Addr} {ds : List MD} {gd : Option Nat} (h : ItR g (Itt g.K a) w0 ds gd) : ItR g (IteT g.K a) w0 (Mu.enumD 0 ds) gd := by
  refine ⟨h.self, fun w l hr gd i hi => ?_, fun w l hr gd i d hd => ?_⟩
  · exact h.stop w l hr gd i (by rw [enum_len] at hi; exact hi)
  · rw [enum_get] at hd
    obtain ⟨d', e1, rfl⟩ := Option.map_eq_some_iff.mp hd
    obtain ⟨⟨vs, x, hs, ex⟩, h2⟩ := h.go w l hr gd i d' e1
    refine ⟨⟨vs, x, hs, ex⟩, fun y H' hy => ?_⟩
    obtain ⟨T, x', rfl, hT, rfl, hx'⟩ := hy
    obtain ⟨w', e2, e3, l2, hr2, r2⟩ := h2 x' w.H ⟨rfl, hx'⟩
    have r3 : VR g.K w d' x' := by
      have : Lv w' w := ⟨by rw [e3]; exact Nat.le_refl _, fun i hi => (l2.m i (by rw [e3] at hi; exact hi)).symm, by rw [e2]; exact .refl⟩
      exact VR.monoV this _ _ r2
    refine ⟨w.tup T [.int (i : Nat), x'], rfl, rfl, Le.tup hT, hr.tup hT, ⟨T, _, rfl, .of upd_same, ⟨_, _, rfl, by simp [VR], ⟨_, _, rfl, VR.mono (Le.tup hT) _ _ r3, rfl⟩⟩⟩⟩
theorem zip_get : ∀ (as bs : List MD) (i : Nat) (d : MD), (Mu.zipD as bs)[i]? = some d → ∃ a b, as[i]? = some a ∧ bs[i]? = some b ∧ d = .tup [a, b]
  | [], _, i, d, h => by simp [Mu.zipD] at h
  | _ :: _, [], i, d, h => by simp [Mu.zipD] at h
  | a :: as, b :: bs, 0, d, h => by
    simp [Mu.zipD] at h
    exact ⟨a, b, rfl, rfl, h.symm⟩
  | a :: as, b :: bs, i + 1, d, h => zip_get as bs i d (by simpa [Mu.zipD] using h)
theorem zip_len : ∀ (as bs : List MD), (Mu.zipD as bs).length = min as.length bs.length
  | [], _ => by simp [Mu.zipD]
  | _ :: _, [] => by simp [Mu.zipD]
  | a :: as, b :: bs => by simp only [Mu.zipD, List.length_cons, zip_len as bs]; omega
theorem itR_zip {w0 : Wd} {a b : Addr} {as bs : List MD} {xs ys : List V} (h1 : SqT g.K w0.H a xs) (r1 : VRs g.K w0 as xs) (h2 : SqT g.K w0.H b ys) (r2 : VRs g.K w0 bs ys) : ItR g (ItzT g.K a b) w0 (Mu.zipD as bs) none := by
  refine ⟨rfl, fun w l hr gd i hi => ?_, fun w l hr gd i d hd => ?_⟩
  · refine ⟨xs, ys, sqt_keep h1 l.k, sqt_keep h2 l.k, ?_⟩
    rw [zip_len] at hi
    rw [← r1.length, ← r2.length]; omega
  · obtain ⟨d1, d2, e1, e2, rfl⟩ := zip_get _ _ _ _ hd
    obtain ⟨x, ex, rx⟩ := (VRs.monoV l _ _ r1).get e1
    obtain ⟨y, ey, ry⟩ := (VRs.monoV l _ _ r2).get e2
    refine ⟨⟨xs, ys, x, y, sqt_keep h1 l.k, sqt_keep h2 l.k, ex, ey⟩, fun z H' hz => ?_⟩
    obtain ⟨T, x', y', rfl, hT, rfl, q1, q2⟩ := hz
    have z1 := q1 xs (sqt_keep h1 l.k)
    have z2 := q2 ys (sqt_keep h2 l.k)
    rw [ex] at z1; cases z1
    rw [ey] at z2; cases z2
    exact ⟨w.tup T [x, y], rfl, rfl, Le.tup hT, hr.tup hT, ⟨T, _, rfl, .of upd_same, ⟨_, _, rfl, VR.mono (Le.tup hT) _ _ rx, ⟨_, _, rfl, VR.mono (Le.tup hT) _ _ ry, rfl⟩⟩⟩⟩
theorem itR_mix {w0 : Wd} {a : Addr} {p : Nat} {as bs : List MD} {xs : List V} (hr0 : HR g w0) (h1 : SqT g.K w0.H a xs) (r1 : VRs g.K w0 as xs) (e : w0.ah[p]? = some (.lst bs)) : ItR g (ZM.Itm g.K a (w0.mu p)) w0 (Mu.zipD as bs) (some p) := by
  have at_ : ∀ w, Lv w0 w → HR g w → Mu.gdOk w0.ah w.ah (some p) = true → ∃ vs, SqL g.K w.H (w0.mu p) vs ∧ VRs g.K w bs vs := fun w l hr gd => by
    obtain ⟨vs, h, r⟩ := hr.ob p _ (gd_lst e gd)
    rw [l.m p (List.getElem?_eq_some_iff.mp e).1] at h
    exact ⟨vs, .of h, r⟩
  refine ⟨gd_self e, fun w l hr gd i hi => ?_, fun w l hr gd i d hd => ?_⟩
  · obtain ⟨ys, h2, r2⟩ := at_ w l hr gd
    refine ⟨xs, ys, sqt_keep h1 l.k, h2, ?_⟩
    rw [zip_len] at hi
    have := r1.length
    have := r2.length
    omega
  · obtain ⟨ys, h2, r2⟩ := at_ w l hr gd
    obtain ⟨d1, d2, e1, e2, rfl⟩ := zip_get _ _ _ _ hd
    obtain ⟨x, ex, rx⟩ := (VRs.monoV l _ _ r1).get e1
    obtain ⟨y, ey, ry⟩ := r2.get e2
    refine ⟨⟨xs, ys, x, y, sqt_keep h1 l.k, h2, ex, ey⟩, fun z H' hz => ?_⟩
    obtain ⟨T, x', y', rfl, hT, rfl, q1, q2⟩ := hz
    have z1 := q1 xs (sqt_keep h1 l.k)
    have z2 := q2 ys h2
    rw [ex] at z1; cases z1
    rw [ey] at z2; cases z2
    exact ⟨w.tup T [x, y], rfl, rfl, Le.tup hT, hr.tup hT, ⟨T, _, rfl, .of upd_same, ⟨_, _, rfl, VR.mono (Le.tup hT) _ _ rx, ⟨_, _, rfl, VR.mono (Le.tup hT) _ _ ry, rfl⟩⟩⟩⟩
/-- the value that is walked, known ahead -/
theorem i_seq {tg e : Expr} {a : XS} (G : Good g X W) (he : PE X e (tE g W c a)) : PI X tg e (tI g W c (.seq a)) := by
  refine ⟨fun pins s σ H R I h => ?_⟩
  obtain ⟨w, fr, rfl, hr, hf, h⟩ := h
  rw [Mu.evI] at h
  have K0 := G.K
  cases e0 : Mu.ev c fr w.ah a with
  | bad => rw [e0] at h; exact h.elim
  | ex x ah =>
    rw [e0] at h
    refine (pi_tup he).run pins s σ w.H R I ⟨w, fr, rfl, hr, hf, ?_⟩
    rw [e0]; exact h
  | ok d ah =>
    rw [e0] at h
    have h : Aft g (relI g) w ((Mu.opt (Mu.iterR ah d) ah).bind fun p h => .ok p h) R (fun cl d H' => W cl d σ H') := by
      cases e1 : Mu.iterR ah d with
      | none => rw [show (Mu.R.ok d ah).bind (fun d h => Mu.opt (Mu.iterR h d) h) = Mu.opt (Mu.iterR ah d) ah from rfl, e1] at h; exact h.elim
      | some p => rw [show (Mu.R.ok d ah).bind (fun d h => Mu.opt (Mu.iterR h d) h) = Mu.opt (Mu.iterR ah d) ah from rfl, e1] at h; exact h
    cases d with
    | tup ds =>
      refine (pi_tup he).run pins s σ w.H R I ⟨w, fr, rfl, hr, hf, ?_⟩
      rw [e0]
      intro x w1 e1 l1 hr1 r1
      obtain ⟨p, vs, rfl, t, rs⟩ := r1
      refine ⟨p, rfl, ⟨vs, by rw [K0]; exact t⟩, ?_⟩
      rw [K0]
      exact h (Itt g.K p) w1 e1 l1 hr1 (itR_tup t rs)
    | lst ds =>
      refine (pi_list he).run pins s σ w.H R I ⟨w, fr, rfl, hr, hf, ?_⟩
      rw [e0]
      intro x w1 e1 l1 hr1 r1
      obtain ⟨p, vs, rfl, t, rs⟩ := r1
      refine ⟨p, rfl, ⟨vs, by rw [K0]; exact t.sq⟩, ?_⟩
      rw [K0]
      exact h (Itl g.K p) w1 e1 l1 hr1 (itR_ro t rs)
    | str z =>
      refine (pi_str he).run pins s σ w.H R I ⟨w, fr, rfl, hr, hf, ?_⟩
      rw [e0]
      intro x w1 e1 l1 hr1 r1
      obtain ⟨o, rfl⟩ := r1
      exact ⟨toS z, rfl, h (Its (toS z)) w1 e1 l1 hr1 (itR_str o)⟩
    | obj p =>
      simp only [Mu.iterR] at h
      split at h
      · rename_i ds e2
        refine (pi_list he).run pins s σ w.H R I ⟨w, fr, rfl, hr, hf, ?_⟩
        rw [e0]
        intro x w1 e1 l1 hr1 r1
        subst e1
        obtain ⟨rfl, vs, t, rs⟩ := VR.obj_at hr1 r1 e2
        refine ⟨_, rfl, ⟨vs, .of t⟩, ?_⟩
        rw [K0]
        exact h (Itl g.K (w1.mu p)) w1 rfl l1 hr1 (itR_lst hr1 e2)
      · rename_i kvs e2
        refine (pi_keys he).run pins s σ w.H R I ⟨w, fr, rfl, hr, hf, ?_⟩
        rw [e0]
        intro x w1 e1 l1 hr1 r1
        subst e1
        obtain ⟨rfl, nd, od, ks, hd, rel⟩ := VR.obj_at hr1 r1 e2
        exact ⟨_, od, rfl, .inl ⟨ks, hd, h (Itk (w1.mu p) od ks) w1 rfl l1 hr1 (itR_keys hd rel)⟩⟩
      · exact h.elim
    | _ => exact h.elim
theorem i_vals {tg e : Expr} {a : XS} {apos cpos : Pos} (G : Good g X W) (he : PE X e (tE g W c a)) (hb : attributeBase e (nm "values") X.env (eval e X.env) = eval e X.env) (hl : (apos.endLine == cpos.line) = true) :
    PI X tg (.Call (.Attribute e (nm "values") apos) [] [] cpos) (tI g W c (.vals a)) := by
  refine PI_weak (pi_values he hb hl) ?_
  rintro σ H R ⟨w, fr, rfl, hr, hf, h⟩
  rw [Mu.evI] at h
  obtain ⟨w1, fr1, e1, hr1, hf1, q1⟩ := one (rel := relI g) hr hf h
  refine ⟨w1, fr1, e1, hr1, hf1, q1.imp fun x H1 ⟨dx, w2, e2, l2, hr2, hf2, r2, _, q2⟩ => ?_⟩
  subst e2
  cases dx with
  | obj p =>
    simp only at q2
    split at q2
    · rename_i kvs e3
      obtain ⟨rfl, nd, od, ks, hd, rel⟩ := VR.obj_at hr2 r2 e3
      exact ⟨_, od, ks, rfl, hd, q2 (Itd (w2.mu p) od ks) w2 rfl .refl hr2 (itR_vals hd rel)⟩
    · exact q2.elim
  | _ => exact q2.elim
theorem i_rng1 {tg e : Expr} {a : XS} {p pos : Pos} (G : Good g X W) (hg : Gl X (nm "range")) (hm : g.mg (nm "range") = none) (hp : plainArgs [e] = true) (he : PE X e (tE g W c a)) : PI X tg (.Call (.Name (nm "range") p) [e] [] pos) (tI g W c (.rng1 a)) := by
  have h1 := (star_cons hp X.env).1
  refine PI_weak (pi_range1 hg (by rw [G.mg]; exact hm) (pa_cons he pa_nil h1) h1) ?_
  rintro σ H R ⟨w, fr, rfl, hr, hf, h⟩
  rw [Mu.evI] at h
  obtain ⟨w1, fr1, e1, hr1, hf1, q1⟩ := one (rel := relI g) hr hf h
  refine ⟨w1, fr1, e1, hr1, hf1, q1.imp fun x H1 ⟨dx, w2, e2, l2, hr2, hf2, r2, _, q2⟩ => ?_⟩
  subst e2
  cases dx with
  | int j =>
    obtain rfl : x = .int j := r2
    simp only at q2
    split at q2
    · rename_i hj
      refine ⟨j, rfl, by omega, by omega, q2 (Itr 0 j.toNat) w2 rfl .refl hr2 ?_⟩
      have := itR_rng (g := g) (w0 := w2) (lo := 0) (n := (j - 0).toNat)
      have e3 : (j - 0).toNat = j.toNat := by rw [Int.sub_zero]
      rw [e3] at this
      show ItR g (Itr 0 j.toNat) w2 (Mu.rangeD 0 j) none
      unfold Mu.rangeD
      rw [e3]; exact this
    · exact q2.elim
  | _ => exact q2.elim
theorem i_rng2 {tg e f : Expr} {a b : XS} {p pos : Pos} (G : Good g X W) (hg : Gl X (nm "range")) (hm : g.mg (nm "range") = none) (hp : plainArgs [e, f] = true) (he : PE X e (tE g W c a)) (hb : PE X f (tE g W c b)) : PI X tg (.Call (.Name (nm "range") p) [e, f] [] pos) (tI g W c (.rng2 a b)) := by
  have h1 := star_cons hp X.env
  have h2 := star_cons h1.2 X.env
  refine PI_weak (pi_range2 hg (by rw [G.mg]; exact hm) (pa_cons he (pa_cons hb pa_nil h2.1) h1.1) (h1.1.trans (by rw [h2.1]; rfl)) (h2.1.trans rfl)) ?_
  rintro σ H R ⟨w, fr, rfl, hr, hf, h⟩
  rw [Mu.evI] at h
  obtain ⟨w1, fr1, e1, hr1, hf1, q1⟩ := twoE (rel := relI g) hr hf h
  refine ⟨w1, fr1, e1, hr1, hf1, q1.imp fun x H1 ⟨w2, fr2, e2, hr2, hf2, q2⟩ => ⟨w2, fr2, e2, hr2, hf2, q2.imp fun y H2 ⟨d1, d2, w3, e3, hr3, _, r1, r2, q3⟩ => ?_⟩⟩
  subst e3
  cases d1 with
  | int i =>
    cases d2 with
    | int j =>
      obtain rfl : x = .int i := r1
      obtain rfl : y = .int j := r2
      simp only at q3
      split at q3
      · rename_i hj
        exact ⟨i, j, rfl, ⟨by omega, by omega, by omega, by omega⟩, q3 (Itr i (j - i).toNat) w3 rfl .refl hr3 itR_rng⟩
      · exact q3.elim
    | _ => exact q3.elim
  | _ => exact q3.elim
theorem i_enm {elts : List Expr} {kk : Nat} {tpos : Pos} {e : Expr} {a : XS} {p pos : Pos} (G : Good g X W) (hg : Gl X (nm "enumerate")) (hm : g.mg (nm "enumerate") = none) (hp : plainArgs [e] = true) (he : PE X e (tE g W c a)) : PI X (.Tuple elts kk tpos) (.Call (.Name (nm "enumerate") p) [e] [] pos) (tI g W c (.enm a)) := by
  have h1 := (star_cons hp X.env).1
  refine PI_weak (pi_enumA hg (by rw [G.mg]; exact hm) (pa_cons he pa_nil h1) h1) ?_
  rintro σ H R ⟨w, fr, rfl, hr, hf, h⟩
  rw [Mu.evI] at h
  obtain ⟨w1, fr1, e1, hr1, hf1, q1⟩ := one (rel := relI g) hr hf h
  refine ⟨w1, fr1, e1, hr1, hf1, q1.imp fun x H1 ⟨dx, w2, e2, l2, hr2, hf2, r2, _, q2⟩ => ?_⟩
  subst e2
  have K0 := G.K
  cases dx with
  | tup ds =>
    obtain ⟨a', vs, rfl, t, rs⟩ := r2
    refine ⟨a', vs, rfl, .inr ⟨by rw [K0]; exact t, ?_⟩⟩
    rw [K0]
    exact q2 (IteT g.K a') w2 rfl .refl hr2 (itR_enumT (itR_tup t rs))
  | lst ds =>
    obtain ⟨a', vs, rfl, t, rs⟩ := r2
    refine ⟨a', vs, rfl, .inl ⟨by rw [K0]; exact t.sq, ?_⟩⟩
    rw [K0]
    exact q2 (Ite g.K a') w2 rfl .refl hr2 (itR_enum (itR_ro t rs))
  | obj i =>
    simp only at q2
    split at q2
    · rename_i ds e3
      obtain ⟨rfl, vs, t, rs⟩ := VR.obj_at hr2 r2 e3
      refine ⟨_, vs, rfl, .inl ⟨.of t, ?_⟩⟩
      rw [K0]
      exact q2 (Ite g.K _) w2 rfl .refl hr2 (itR_enum (itR_lst hr2 e3))
    · exact q2.elim
  | _ => exact q2.elim
theorem i_zip {elts : List Expr} {kk : Nat} {tpos : Pos} {e f : Expr} {a b : XS} {p pos : Pos} (G : Good g X W) (hg : Gl X (nm "zip")) (hm : g.mg (nm "zip") = none) (hp : plainArgs [e, f] = true) (he : PE X e (tE g W c a)) (hb : PE X f (tE g W c b)) : PI X (.Tuple elts kk tpos) (.Call (.Name (nm "zip") p) [e, f] [] pos) (tI g W c (.zip a b)) := by
  have h1 := star_cons hp X.env
  have h2 := star_cons h1.2 X.env
  refine PI_weak (ZM.pi_mix hg (by rw [G.mg]; exact hm) (pa_cons he (pa_cons hb pa_nil h2.1) h1.1) h1.1 (star_any h1.2 X.env pos)) ?_
  rintro σ H R ⟨w, fr, rfl, hr, hf, h⟩
  rw [Mu.evI] at h
  obtain ⟨w1, fr1, e1, hr1, hf1, q1⟩ := twoE (rel := relI g) hr hf h
  refine ⟨w1, fr1, e1, hr1, hf1, q1.imp fun x H1 ⟨w2, fr2, e2, hr2, hf2, q2⟩ => ⟨w2, fr2, e2, hr2, hf2, q2.imp fun y H2 ⟨d1, d2, w3, e3, hr3, _, r1, r2, q3⟩ => ?_⟩⟩
  subst e3
  have K0 := G.K
  cases d1 with
  | tup as =>
    cases d2 with
    | tup bs =>
      obtain ⟨a', xs, rfl, t1, s1⟩ := r1
      obtain ⟨b', ys, rfl, t2, s2⟩ := r2
      refine ⟨a', b', xs, ys, rfl, .inl ⟨by rw [K0]; exact t1, by rw [K0]; exact t2, ?_⟩⟩
      rw [K0]
      exact q3 (ItzT g.K a' b') w3 rfl .refl hr3 (itR_zip t1 s1 t2 s2)
    | obj q =>
      obtain ⟨a', xs, rfl, t1, s1⟩ := r1
      simp only at q3
      split at q3
      · rename_i ys0 e0
        obtain ⟨rfl, vs, t2, s2⟩ := VR.obj_at hr3 r2 e0
        refine ⟨a', _, xs, vs, rfl, .inr ⟨by rw [K0]; exact t1, by rw [K0]; exact .of t2, ?_⟩⟩
        rw [K0]
        exact q3 (ZM.Itm g.K a' _) w3 rfl .refl hr3 (itR_mix hr3 t1 s1 e0)
      · exact q3.elim
    | _ => exact q3.elim
  | _ => exact q3.elim
end
end Ad
end

section
set_option Elab.async false
set_option linter.all false
set_option maxRecDepth 100000
set_option maxHeartbeats 4000000
namespace Ad
open PySem PySem.Spec PyProof.Rows L2
/-! ### a list beside Mu's heap -/
section
variable {g : Gc} {w w' : Wd}
def Wd.side (w : Wd) (p : Addr) (ho : HO) : Wd := ⟨w.mu, w.ah, upd w.H p ho⟩
theorem Le.side (l : Le w w') {p : Addr} {ho : HO} (hp : w.H p = none) : Le w (w'.side p ho) := by
  have ne : ∀ a u, w.H a = some u → a ≠ p := fun a u h e => by rw [e, hp] at h; cases h
  refine ⟨⟨l.n, l.m, ⟨fun a xs h => ?_, fun a o u h => ?_, fun a fs h => ?_⟩⟩, fun a h => ?_, l.fr, fun a u h q => ?_⟩
  · exact (upd_ne (ne _ _ h)).trans (l.k.t a xs h)
  · exact (upd_ne (ne _ _ h)).trans (l.k.f a o u h)
  · exact (upd_ne (ne _ _ h)).trans (l.k.x a fs h)
  · by_cases e : a = p
    · subst e; exact hp
    · exact l.d a (by rw [← h]; exact (upd_ne e).symm)
  · exact (upd_ne (ne _ _ h)).trans (l.o a u h q)
theorem Lv.side {p : Addr} {ho : HO} (m : Mut (w.H p)) : Lv w (w.side p ho) := ⟨Nat.le_refl _, fun _ _ => rfl, Keep.put m⟩
theorem HR.side (hr : HR g w) {p : Addr} {ho : HO} (m : Mut (w.H p)) (ne : ∀ j, j < w.ah.length → w.mu j ≠ p) : HR g (w.side p ho) :=
  ⟨hr.inj, fun i o e => OR.monoV (Lv.side m) (upd_ne (ne i (List.getElem?_eq_some_iff.mp e).1)) (hr.ob i o e)⟩
theorem Lv.adopt {p : Addr} {o : Mu.AO} : Lv w (w.new p o w.H) := ⟨by simp [Wd.new], fun i h => by simp [Wd.new, Nat.ne_of_lt h], .refl⟩
theorem Le.adopt {w0 : Wd} (l : Le w0 w) {p : Addr} {o : Mu.AO} (hp : w0.H p = none) : Le w0 (w.new p o w.H) := by
  refine ⟨⟨Nat.le_trans l.n (by simp [Wd.new]), fun i h => ?_, l.k⟩, l.d, fun i h1 h2 => ?_, l.o⟩
  · have : i < w.ah.length := Nat.lt_of_lt_of_le h l.n
    rw [← l.m i h]
    simp [Wd.new, Nat.ne_of_lt this]
  · by_cases e : i = w.ah.length
    · subst e
      have : (w.new p o w.H).mu w.ah.length = p := by simp [Wd.new]
      rw [this]; exact hp
    · have e2 : (w.new p o w.H).mu i = w.mu i := by simp [Wd.new, e]
      rw [e2]
      exact l.fr i h1 (by simp [Wd.new] at h2; omega)
theorem HR.adopt (hr : HR g w) {p : Addr} {o : Mu.AO} (ne : ∀ j, j < w.ah.length → w.mu j ≠ p) (new : OR g (w.new p o w.H) p o) : HR g (w.new p o w.H) := by
  refine ⟨fun i j hi hj e => ?_, fun i u e => ?_⟩
  · have hi' : i < w.ah.length + 1 := by simpa [Wd.new] using hi
    have hj' : j < w.ah.length + 1 := by simpa [Wd.new] using hj
    by_cases ei : i = w.ah.length <;> by_cases ej : j = w.ah.length
    · omega
    · have : w.mu j = p := by simpa [Wd.new, ei, ej] using e.symm
      exact absurd this (ne j (by omega))
    · have : w.mu i = p := by simpa [Wd.new, ei, ej] using e
      exact absurd this (ne i (by omega))
    · exact hr.inj i j (by omega) (by omega) (by simpa [Wd.new, ei, ej] using e)
  · by_cases ei : i = w.ah.length
    · subst ei
      have : o = u := by simpa [Wd.new] using e
      subst this
      have em : (w.new p o w.H).mu w.ah.length = p := by simp [Wd.new]
      rw [em]; exact new
    · have e' : (w.ah ++ [o])[i]? = some u := e
      have hi : i < w.ah.length := by
        have := (List.getElem?_eq_some_iff.mp e').1
        rw [List.length_append, List.length_singleton] at this; omega
      rw [List.getElem?_append_left hi] at e'
      have em : (w.new p o w.H).mu i = w.mu i := by simp [Wd.new, ei]
      rw [em]
      exact OR.monoV Lv.adopt rfl (hr.ob i u e')
/-- what is none of Mu's stays none of Mu's -/
theorem Le.off (l : Le w w') {p : Addr} {u : HO} (h : w.H p = some u) (ne : ∀ j, j < w.ah.length → w.mu j ≠ p) : w'.H p = some u ∧ ∀ j, j < w'.ah.length → w'.mu j ≠ p := by
  refine ⟨l.o p u h ne, fun j hj e => ?_⟩
  by_cases hl : j < w.ah.length
  · rw [l.m j hl] at e; exact ne j hl e
  · have := l.fr j (Nat.not_lt.mp hl) hj
    rw [e, h] at this; cases this
end
/-! ### frames by places -/
section
variable {K : PySem.W.Frag} {w : Wd}
theorem FR.len : ∀ {fr : Mu.Fr} {σ : L2.St}, FR K w fr σ → fr.length = σ.length
  | [], _, h => by obtain rfl : _ = [] := h; rfl
  | none :: fr, _, h => by
    obtain ⟨x, r, rfl, h⟩ := h
    simp [FR.len h]
  | some d :: fr, _, h => by
    obtain ⟨v, r, rfl, _, h⟩ := h
    simp [FR.len h]
theorem FR.by_ : ∀ {fr : Mu.Fr} {σ : L2.St}, fr.length = σ.length → (∀ (i : Nat) (d : MD), fr[i]? = some (some d) → ∃ v, σ[i]? = some (some v) ∧ VR K w d v) → FR K w fr σ
  | [], σ, hl, _ => List.length_eq_zero_iff.mp hl.symm
  | none :: fr, σ, hl, h => by
    cases σ with
    | nil => simp at hl
    | cons x r => exact ⟨x, r, rfl, FR.by_ (by simpa using hl) fun i d e => by simpa using h (i + 1) d (by simpa using e)⟩
  | some d :: fr, σ, hl, h => by
    cases σ with
    | nil => simp at hl
    | cons x r =>
      obtain ⟨v, e, q⟩ := h 0 d rfl
      have e' : x = some v := by simpa using e
      subst e'
      exact ⟨v, r, rfl, q, FR.by_ (by simpa using hl) fun i d e => by simpa using h (i + 1) d (by simpa using e)⟩
theorem muWipe_len : ∀ (is : List Nat) (fr : Mu.Fr), (Mu.wipe fr is).length = fr.length
  | [], _ => rfl
  | i :: is, fr => by rw [Mu.wipe, muWipe_len is]; simp
theorem muWipe_some {d : MD} {i : Nat} : ∀ {is : List Nat} {fr : Mu.Fr}, (Mu.wipe fr is)[i]? = some (some d) → fr[i]? = some (some d) ∧ i ∉ is
  | [], _, h => ⟨h, by simp⟩
  | j :: is, fr, h => by
    rw [Mu.wipe] at h
    obtain ⟨h1, h2⟩ := muWipe_some h
    by_cases e : j = i
    · subst e
      rw [List.getElem?_set_self'] at h1
      cases q : fr[j]? <;> rw [q] at h1 <;> cases h1
    · rw [List.getElem?_set_ne e] at h1
      exact ⟨h1, by simp [h2, Ne.symm e]⟩
theorem FR.wipe {fr : Mu.Fr} {σ : L2.St} {is vs : List Nat} (h : FR K w fr σ) (hs : ∀ i ∈ vs, i ∈ is) : FR K w (Mu.wipe fr is) (L2.wipe σ vs) := by
  refine FR.by_ (by rw [muWipe_len, wipe_length]; exact h.len) fun i d e => ?_
  obtain ⟨e1, ni⟩ := muWipe_some e
  obtain ⟨v, e2, r⟩ := h.get (i := i) (d := d) (by simp [Mu.vget, e1])
  exact ⟨v, by rw [wipe_out (fun m => ni (hs i m))]; exact e2, r⟩
end
theorem wipe_get {σ : L2.St} {i : Nat} : ∀ {vs : List Nat}, i ∈ vs → (L2.wipe σ vs)[i]? = (σ[i]?).map fun _ => none
  | [], h => nomatch h
  | v :: vs, h => by
    unfold L2.wipe
    by_cases e : v = i
    · subst e
      rw [List.getElem?_set_self']
      have hl : v < (L2.wipe σ vs).length ↔ v < σ.length := by rw [wipe_length]
      by_cases q : v < σ.length
      · rw [List.getElem?_eq_getElem (hl.mpr q), List.getElem?_eq_getElem q]; rfl
      · rw [List.getElem?_eq_none (by rw [wipe_length]; omega), List.getElem?_eq_none (by omega)]; rfl
    · rw [List.getElem?_set_ne e]
      exact wipe_get (by rcases List.mem_cons.mp h with r | r; exact absurd r.symm e; exact r)
theorem wipe_sets {vs : List Nat} : ∀ {is : List Nat} {xs : List V} {σ : L2.St}, (∀ i ∈ is, i ∈ vs) → L2.wipe (setsV σ is xs) vs = L2.wipe σ vs
  | [], xs, σ, _ => by cases xs <;> rfl
  | i :: is, [], σ, _ => rfl
  | i :: is, x :: xs, σ, h => by
    rw [setsV, wipe_sets fun j m => h j (by simp [m])]
    apply List.ext_getElem?
    intro j
    by_cases m : j ∈ vs
    · rw [wipe_get m, wipe_get m]
      by_cases e : i = j
      · subst e
        rw [List.getElem?_set_self']
        cases σ[i]? <;> rfl
      · rw [List.getElem?_set_ne e]
    · have e : i ≠ j := fun e => m (e ▸ h i (by simp))
      rw [wipe_out m, wipe_out m, List.getElem?_set_ne e]
theorem wipe_wipe (σ : L2.St) (vs : List Nat) : L2.wipe (L2.wipe σ vs) vs = L2.wipe σ vs := by
  apply List.ext_getElem?
  intro j
  by_cases m : j ∈ vs
  · rw [wipe_get m, wipe_get m]
    cases σ[j]? <;> rfl
  · rw [wipe_out m]
/-- nothing is let out -/
def W0 : WX := fun _ _ _ _ => False
section
variable {g : Gc} {X : Cx} {W : WX} {c : Mu.Cx}
theorem Good.blk (G : Good g X W) (s : Shared) (H : Hp) (scope : Scope) (env : Env) (fp : List Addr) : Good g (X.blk s H scope env fp) W0 :=
  ⟨⟨G.P, G.w, G.K, G.mg, G.base, G.nd, takes0, G.un⟩, G.calm⟩
/-- a quiet part, then what follows -/
theorem Aft.hush {α β γ δ : Type} {rel : Wd → α → β → Prop} {rel' : Wd → γ → δ → Prop} {w w1 : Wd} {r : Mu.R α} {f : α → Mu.Hp → Mu.R (Option MD)} {k : Option MD → Mu.Hp → Mu.R γ} {Q : δ → Hp → Prop} {E E' : XK} (h : Aft g rel' w1 ((r.bind f).quiet.bind k) Q E) :
    Aft g rel w r (fun b H1 => ∃ a w2, w2.H = H1 ∧ Le w w2 ∧ HR g w2 ∧ rel w2 a b ∧ Aft g rel' w1 ((f a w2.ah).quiet.bind k) Q E) E' := by
  cases r with
  | ok a ah' =>
    intro b w2 e l hr q
    subst e
    exact ⟨a, w2, rfl, l, hr, q, h⟩
  | ex x ah' => exact h.elim
  | bad => exact h.elim
/-- a comprehension's test -/
inductive IfsOk (g : Gc) (X : Cx) (c : Mu.Cx) (cond : XS) : Option Unit → List Expr → Prop where
  | nil : IfsOk g X c cond none []
  | one {e : Expr} (h : PT X e (tT g W0 c cond)) : IfsOk g X c cond (some ()) [e]
def tIf' (g : Gc) (c : Mu.Cx) (cond : XS) : Option Unit → TT
  | none => tYes
  | some _ => tT g W0 c cond
theorem pts_ifs {cond : XS} {o : Option Unit} {ifs : List Expr} (h : IfsOk g X c cond o ifs) : PTs X ifs (tIf' g c cond o) := by
  cases h with
  | nil => exact pts_nil
  | one h => exact pts_one h
def lcStep (c : Mu.Cx) (fr : Mu.Fr) (t : Mu.Tg) (o : Option Unit) (cond elt : XS) : MD → Mu.Hp → Mu.R (Option MD) := fun d h => match Mu.tgS h (Mu.wipe fr (Mu.tgIs t)) t d with
  | some σ' => (match o with
    | some _ => (Mu.ev c σ' h cond).bind fun x h => (Mu.opt (Mu.truth h x) h).bind fun b h => if b then (Mu.ev c σ' h elt).bind fun y h => .ok (some y) h else .ok none h
    | none => (Mu.ev c σ' h elt).bind fun y h => .ok (some y) h)
  | none => .bad
theorem R_assoc {α β γ : Type} {r : Mu.R α} {f : α → Mu.Hp → Mu.R β} {k : β → Mu.Hp → Mu.R γ} : (r.bind f).bind k = r.bind fun a h => (f a h).bind k := by cases r <;> rfl
theorem lc_ev {fr : Mu.Fr} {h : Mu.Hp} {t : Mu.Tg} {it : Mu.It} {o : Option Unit} {cond elt : XS} : Mu.ev c fr h (.lc t it o cond elt) = (Mu.evI c fr h it).bind fun p h =>
    (Mu.lcL (fun h' => Mu.gdOk h h' p.2) (lcStep c fr t o cond elt) p.1 [] h).bind fun ds h => .ok (.obj h.length) (h ++ [.lst ds]) := by
  rw [Mu.ev]; rfl
theorem lc_cond {σ' : Mu.Fr} {h : Mu.Hp} {cond elt : XS} : ((Mu.ev c σ' h cond).bind fun x h => (Mu.opt (Mu.truth h x) h).bind fun b h => if b then (Mu.ev c σ' h elt).bind fun y h => .ok (some y) h else .ok none h : Mu.R (Option MD)) =
    (Mu.evT c σ' h cond).bind fun b h => if b then (Mu.ev c σ' h elt).bind fun y h => .ok (some y) h else .ok none h := by
  unfold Mu.evT
  cases Mu.ev c σ' h cond <;> rfl
theorem lc_reads {t : Mu.Tg} {it : Mu.It} {o : Option Unit} {cond elt : XS} {own : List (Str × Nat)} (G : Good g X W) (hs1 : ∀ i ∈ own.map (·.2), i ∈ Mu.tgIs t) (hs2 : ∀ i ∈ Mu.tgIs t, i ∈ own.map (·.2)) :
    ∀ σ H Q, tE g W c (.lc t it o cond elt) σ H Q → tLc (tI g W c it) (gT X.K t) (tIf' g c cond o) (tE g W0 c elt) (own.map (·.2)) σ H Q := by
  rintro σ H Q ⟨w, fr, rfl, hr, hf, h⟩
  rw [lc_ev] at h
  refine ⟨w, fr, rfl, hr, hf, (Aft.cut (rel := relI g) h).imp fun J H1 hh => ?_⟩
  obtain ⟨p, w1, rfl, l1, hr1, itr, _, q1⟩ := hh
  obtain ⟨ds, gd⟩ := p
  have hf1 := hf.mono l1
  intro D hD
  let vs := own.map (·.2)
  refine ⟨fun i m H => m = ds.length - i ∧ i ≤ ds.length ∧ ∃ w acc accV, w.H = H ∧ Le w1 w ∧ HR g w ∧ Mu.gdOk w1.ah w.ah gd = true ∧ H D = some (.lst accV) ∧ (∀ j, j < w.ah.length → w.mu j ≠ D) ∧ VRs g.K w acc accV ∧
    Aft g (VR g.K) w1 ((Mu.lcL (fun h' => Mu.gdOk w1.ah h' gd) (lcStep c fr t o cond elt) (ds.drop i) acc w.ah).bind fun ds h => .ok (.obj h.length) (h ++ [.lst ds])) Q (fun cl d H' => W cl d σ H'), ⟨ds.length, by simp, Nat.zero_le _, ?_⟩, ?_⟩
  · have neD : ∀ j, j < w1.ah.length → w1.mu j ≠ D := fun j hj e => by
      obtain ⟨u, hu⟩ := (hr1.ob j _ (List.getElem?_eq_getElem hj)).some
      rw [e, hD] at hu; cases hu
    have old : ∀ a u, w1.H a = some u → upd w1.H D (.lst []) a = some u := fun a u e => by rw [upd_ne (ne_of_none e hD)]; exact e
    have l2 : Le w1 (w1.side D (.lst [])) := Le.grow rfl rfl old
    have hr2 : HR g (w1.side D (.lst [])) := ⟨hr1.inj, fun i o e => (hr1.ob i o e).mono l2 (upd_ne (neD i (List.getElem?_eq_some_iff.mp e).1))⟩
    exact ⟨w1.side D (.lst []), [], [], rfl, l2, hr2, itr.self, upd_same, neD, rfl, q1⟩
  · rintro i m H ⟨rfl, hi, w2, acc, accV, rfl, l2, hr2, gd2, hD2, ne2, rv2, q2⟩
    by_cases hlt : i < ds.length
    · right
      have ei : ds[i]? = some ds[i] := List.getElem?_eq_getElem hlt
      have edrop : ds.drop i = ds[i] :: ds.drop (i + 1) := List.drop_eq_getElem_cons hlt
      obtain ⟨go, yl⟩ := itr.go w2 l2.toLv hr2 gd2 i _ ei
      refine ⟨go, fun H' => ∃ m', m' < ds.length - i ∧ (m' = ds.length - (i + 1) ∧ i + 1 ≤ ds.length ∧ ∃ w acc accV, w.H = H' ∧ Le w1 w ∧ HR g w ∧ Mu.gdOk w1.ah w.ah gd = true ∧ H' D = some (.lst accV) ∧ (∀ j, j < w.ah.length → w.mu j ≠ D) ∧ VRs g.K w acc accV ∧
        Aft g (VR g.K) w1 ((Mu.lcL (fun h' => Mu.gdOk w1.ah h' gd) (lcStep c fr t o cond elt) (ds.drop (i + 1)) acc w.ah).bind fun ds h => .ok (.obj h.length) (h ++ [.lst ds])) Q (fun cl d H' => W cl d σ H')), fun H' hh => hh, fun x H' hy => ?_⟩
      obtain ⟨w3, rfl, e3, l3, hr3, r3⟩ := yl x H' hy
      rw [edrop, Mu.lcL] at q2
      obtain ⟨hD3, ne3⟩ := l3.off hD2 ne2
      have rv3 := VRs.mono l3 _ _ rv2
      have hf3 : FR g.K w3 (Mu.wipe fr (Mu.tgIs t)) (L2.wipe σ vs) := ((hf1.mono l2).mono l3).wipe hs1
      rw [← e3] at q2
      -- the target
      have hst : ∃ fr', Mu.tgS w3.ah (Mu.wipe fr (Mu.tgIs t)) t ds[i] = some fr' := by
        cases e : Mu.tgS w3.ah (Mu.wipe fr (Mu.tgIs t)) t ds[i] with
        | some fr' => exact ⟨fr', rfl⟩
        | none =>
          have : lcStep c fr t o cond elt ds[i] w3.ah = .bad := by unfold lcStep; rw [e]
          rw [this] at q2; exact q2.elim
      obtain ⟨fr', efr⟩ := hst
      refine gT_of G hr3 hf3 r3 efr fun σ2 hf4 ⟨xs, eσ⟩ => ⟨?_, ?_⟩
      · rw [eσ, wipe_sets hs2, wipe_wipe]
      · -- what follows a value
        rw [R_assoc] at q2
        let K3 : Option MD → Mu.Hp → Mu.R MD := fun o' h' => (if Mu.gdOk w1.ah h' gd = true then (match o' with
              | some y => if acc.length < Mu.LIM then Mu.lcL (fun h' => Mu.gdOk w1.ah h' gd) (lcStep c fr t o cond elt) (ds.drop (i + 1)) (acc ++ [y]) h' else .bad
              | none => Mu.lcL (fun h' => Mu.gdOk w1.ah h' gd) (lcStep c fr t o cond elt) (ds.drop (i + 1)) acc h') else .bad : Mu.R (List MD)).bind fun ds h => .ok (.obj h.length) (h ++ [.lst ds])
        have q2 : Aft g (VR g.K) w1 ((lcStep c fr t o cond elt ds[i] w3.ah).quiet.bind K3) Q (fun cl d H' => W cl d σ H') := q2
        have yes : ∀ (w4 : Wd) (d' : MD) (y : V), Le w3 w4 → HR g w4 → VR g.K w4 d' y → Aft g (VR g.K) w1 ((Mu.R.ok (some d') w4.ah).quiet.bind K3) Q (fun cl d H' => W cl d σ H') →
            ∃ acc', w4.H D = some (.lst acc') ∧ acc'.length < sizeLine ∧ ∃ m', m' < ds.length - i ∧ (m' = ds.length - (i + 1) ∧ i + 1 ≤ ds.length ∧ ∃ w acc accV, w.H = upd w4.H D (.lst (acc' ++ [y])) ∧ Le w1 w ∧ HR g w ∧ Mu.gdOk w1.ah w.ah gd = true ∧ upd w4.H D (.lst (acc' ++ [y])) D = some (.lst accV) ∧ (∀ j, j < w.ah.length → w.mu j ≠ D) ∧ VRs g.K w acc accV ∧
              Aft g (VR g.K) w1 ((Mu.lcL (fun h' => Mu.gdOk w1.ah h' gd) (lcStep c fr t o cond elt) (ds.drop (i + 1)) acc w.ah).bind fun ds h => .ok (.obj h.length) (h ++ [.lst ds])) Q (fun cl d H' => W cl d σ H')) := by
          intro w4 d' y l4 hr4 ry qf
          obtain ⟨hD4, ne4⟩ := l4.off hD3 ne3
          have rv4 := VRs.mono l4 _ _ rv3
          have qf : Aft g (VR g.K) w1 (K3 (some d') w4.ah) Q (fun cl d H' => W cl d σ H') := qf
          by_cases hg4 : Mu.gdOk w1.ah w4.ah gd = true
          · by_cases hl4 : acc.length < Mu.LIM
            · have ek : K3 (some d') w4.ah = (Mu.lcL (fun h' => Mu.gdOk w1.ah h' gd) (lcStep c fr t o cond elt) (ds.drop (i + 1)) (acc ++ [d']) w4.ah).bind fun ds h => .ok (.obj h.length) (h ++ [.lst ds]) := by
                show (if Mu.gdOk w1.ah w4.ah gd = true then _ else _ : Mu.R (List MD)).bind _ = _
                rw [if_pos hg4]
                show (if acc.length < Mu.LIM then _ else _ : Mu.R (List MD)).bind _ = _
                rw [if_pos hl4]
              rw [ek] at qf
              have m4 : Mut (w4.H D) := by rw [hD4]; exact True.intro
              have lv : Lv w4 (w4.side D (.lst (accV ++ [y]))) := Lv.side m4
              refine ⟨accV, hD4, by rw [← rv4.length, ← lim_eq]; exact hl4, ds.length - (i + 1), by omega, rfl, hlt, w4.side D (.lst (accV ++ [y])), acc ++ [d'], accV ++ [y], rfl, ((l2.trans l3).trans l4).side hD, hr4.side m4 ne4, hg4, upd_same, ne4, ?_, qf⟩
              exact VRs.monoV lv _ _ (VRs.append rv4 ⟨y, [], rfl, ry, rfl⟩)
            · have ek : K3 (some d') w4.ah = .bad := by
                show (if Mu.gdOk w1.ah w4.ah gd = true then _ else _ : Mu.R (List MD)).bind _ = _
                rw [if_pos hg4]
                show (if acc.length < Mu.LIM then _ else _ : Mu.R (List MD)).bind _ = _
                rw [if_neg hl4]; rfl
              rw [ek] at qf; exact qf.elim
          · have ek : K3 (some d') w4.ah = .bad := by
              show (if Mu.gdOk w1.ah w4.ah gd = true then _ else _ : Mu.R (List MD)).bind _ = _
              rw [if_neg hg4]; rfl
            rw [ek] at qf; exact qf.elim
        have no : ∀ (w4 : Wd), Le w3 w4 → HR g w4 → Aft g (VR g.K) w1 ((Mu.R.ok none w4.ah : Mu.R (Option MD)).quiet.bind K3) Q (fun cl d H' => W cl d σ H') →
            ∃ m', m' < ds.length - i ∧ (m' = ds.length - (i + 1) ∧ i + 1 ≤ ds.length ∧ ∃ w acc accV, w.H = w4.H ∧ Le w1 w ∧ HR g w ∧ Mu.gdOk w1.ah w.ah gd = true ∧ w4.H D = some (.lst accV) ∧ (∀ j, j < w.ah.length → w.mu j ≠ D) ∧ VRs g.K w acc accV ∧
              Aft g (VR g.K) w1 ((Mu.lcL (fun h' => Mu.gdOk w1.ah h' gd) (lcStep c fr t o cond elt) (ds.drop (i + 1)) acc w.ah).bind fun ds h => .ok (.obj h.length) (h ++ [.lst ds])) Q (fun cl d H' => W cl d σ H')) := by
          intro w4 l4 hr4 qf
          obtain ⟨hD4, ne4⟩ := l4.off hD3 ne3
          have rv4 := VRs.mono l4 _ _ rv3
          have qf : Aft g (VR g.K) w1 (K3 none w4.ah) Q (fun cl d H' => W cl d σ H') := qf
          by_cases hg4 : Mu.gdOk w1.ah w4.ah gd = true
          · have ek : K3 none w4.ah = (Mu.lcL (fun h' => Mu.gdOk w1.ah h' gd) (lcStep c fr t o cond elt) (ds.drop (i + 1)) acc w4.ah).bind fun ds h => .ok (.obj h.length) (h ++ [.lst ds]) := by
              show (if Mu.gdOk w1.ah w4.ah gd = true then _ else _ : Mu.R (List MD)).bind _ = _
              rw [if_pos hg4]
            rw [ek] at qf
            exact ⟨ds.length - (i + 1), by omega, rfl, hlt, w4, acc, accV, rfl, (l2.trans l3).trans l4, hr4, hg4, hD4, ne4, rv4, qf⟩
          · have ek : K3 none w4.ah = .bad := by
              show (if Mu.gdOk w1.ah w4.ah gd = true then _ else _ : Mu.R (List MD)).bind _ = _
              rw [if_neg hg4]; rfl
            rw [ek] at qf; exact qf.elim
        unfold lcStep at q2
        rw [efr] at q2
        cases o with
        | none =>
          simp only at q2
          refine ⟨w3, fr', rfl, hr3, hf4, (Aft.hush (rel := VR g.K) (w := w3) (E' := fun _ _ _ => False) q2).imp fun y H4 hh => ?_⟩
          obtain ⟨d', w4, rfl, l4, hr4, ry, qf⟩ := hh
          exact yes w4 d' y l4 hr4 ry qf
        | some u =>
          simp only [lc_cond] at q2
          refine ⟨w3, fr', rfl, hr3, hf4, (Aft.hush (rel := relB) (w := w3) (E' := fun _ _ _ => False) q2).imp fun b H4 hh => ?_⟩
          obtain ⟨b', w4, rfl, l4, hr4, rb, qf⟩ := hh
          cases (show b = b' from rb)
          cases b with
          | true =>
            simp only [if_true] at qf ⊢
            refine ⟨w4, fr', rfl, hr4, hf4.mono l4, (Aft.hush (rel := VR g.K) (w := w4) (E' := fun _ _ _ => False) qf).imp fun y H5 hh => ?_⟩
            obtain ⟨d', w5, rfl, l5, hr5, ry, qg⟩ := hh
            exact yes w5 d' y (l4.trans l5) hr5 ry qg
          | false =>
            simp only [Bool.false_eq_true, if_false] at qf ⊢
            exact no w4 l4 hr4 qf
    · left
      have ei : i = ds.length := by omega
      subst ei
      refine ⟨itr.stop w2 l2.toLv hr2 gd2 _ (Nat.le_refl _), ?_⟩
      rw [List.drop_length, Mu.lcL, Mu.R.bind_ok] at q2
      exact q2 (.ref D) (w2.new D (.lst acc) w2.H) rfl (Le.adopt l2 hD) (hr2.adopt ne2 ⟨accV, hD2, VRs.monoV Lv.adopt _ _ rv2⟩) ⟨by simp [Wd.new], by simp [Wd.new]⟩
theorem e_lc {t : Mu.Tg} {it : Mu.It} {o : Option Unit} {cond elt : XS} {tg iter eltE : Expr} {ifs : List Expr} {scope : Scope} {own : List (Str × Nat)} {pos : Pos} (G : Good g X W) (hi : PI X tg iter (tI g W c it)) (ok : BlkOk X.N X.env.scope scope own)
    (hs1 : ∀ i ∈ own.map (·.2), i ∈ Mu.tgIs t) (hs2 : ∀ i ∈ Mu.tgIs t, i ∈ own.map (·.2))
    (htg : ∀ (s : Shared) (H : Hp) (C : Addr) (cl : List (Str × Addr)) (fp : List Addr), TgOk (X.blk s H scope (compEnvC scope cl C X.env) fp) tg t)
    (hif : ∀ (s : Shared) (H : Hp) (C : Addr) (cl : List (Str × Addr)) (fp : List Addr), IfsOk g (X.blk s H scope (compEnvC scope cl C X.env) fp) c cond o ifs)
    (he : ∀ (s : Shared) (H : Hp) (C : Addr) (cl : List (Str × Addr)) (fp : List Addr), PE (X.blk s H scope (compEnvC scope cl C X.env) fp) eltE (tE g W0 c elt)) (hs : ∀ x, foldedSetIterable iter X.env x = pure x) :
    PE X (.ListComp eltE [⟨tg, iter, ifs, 0⟩] scope pos) (tE g W c (.lc t it o cond elt)) := by
  refine PE_weak (pe_lc (g := gT X.K t) (tt := tIf' g c cond o) (te := tE g W0 c elt) G.calm G.nd hi ok
    (fun s H C cl fp => pg_T (X := X.blk s H scope (compEnvC scope cl C X.env) fp) G.nd G.calm (htg s H C cl fp))
    (fun s H C cl fp => pts_ifs (hif s H C cl fp)) he hs) (lc_reads G hs1 hs2)
/-- an expression while a dict is walked over -/
theorem e_lk {x : Expr} {e a : XS} (ha : PE X x (tE g W c a)) : PE X x (tE g W c (.lkE e a)) := by
  refine PE_weak (pe_lock ha) ?_
  rintro σ H Q ⟨w, fr, rfl, hr, hf, h⟩
  rw [Mu.ev] at h
  split at h
  · rename_i p ah0 e0
    split at h
    · rename_i kvs e1
      obtain ⟨nd, ks, hd, rel⟩ := hr.ob p _ e1
      have hp : p < w.ah.length := (List.getElem?_eq_some_iff.mp e1).1
      refine ⟨w.mu p, .dK ks, hd, True.intro, fun od => ⟨w.lock p kvs od ks, fr, rfl, hr.lock e1 hd rel, FR.monoV (Lv.lock hd) hf, ?_⟩⟩
      change Aft g (VR g.K) (w.lock p kvs od ks) (Mu.ev c fr (w.ah.set p (.lck kvs)) a) _ _
      cases hE : Mu.ev c fr (w.ah.set p (.lck kvs)) a with
      | bad => rw [hE] at h; exact h.elim
      | ex x ah => rw [hE] at h; exact h.elim
      | ok d ah =>
        rw [hE] at h
        simp only [Mu.unlE] at h
        split at h
        · rename_i ks' e2
          split at h
          · rename_i eq
            subst eq
            intro v w' e3 l2 hr2 r2
            subst e3
            have hm : w'.mu p = w.mu p := l2.m p (by simpa [Wd.lock] using hp)
            have hd' : w'.H (w'.mu p) = some (.frz od (.dK ks)) := by rw [hm]; exact l2.k.f _ _ _ upd_same
            have rel' : KvR g.K w' ks' ks := KvR.monoV l2.toLv (KvR.monoV (Lv.lock hd) rel)
            refine ⟨by rw [← hm]; exact hd', ?_⟩
            have q := h v (w'.unlock p ks' ks) rfl (Le.locked hr e1 hd l2) (hr2.unlock e2 hd' rel') (VR.monoW (Lw.unlock hd') _ _ r2)
            have eH : (w'.unlock p ks' ks).H = upd w'.H (w.mu p) (.dK ks) := by rw [← hm]; rfl
            rw [eH] at q
            exact q
          · exact h.elim
        · exact h.elim
    · exact h.elim
  · exact h.elim
end
end Ad
end

section
set_option Elab.async false
set_option linter.all false
set_option maxRecDepth 100000
set_option maxHeartbeats 4000000
namespace Ad
open PySem PySem.Spec PyProof.Rows L2
/-- a def's body: what statements want besides -/
structure GoodS (g : Gc) (X : Cx) (W : WX) : Prop extends Good g X W where
  po : PassesOwn (model X.prog X.w) X.A X.env X.xe
section
variable {g : Gc} {X : Cx} {W : WX} {c : Mu.Cx}
theorem AftS.cut {α β : Type} {rel : Wd → α → β → Prop} {w : Wd} {r : Mu.R α} {fr : Mu.Fr} {σ : L2.St} {f : α → Mu.Hp → Mu.RS} {D : Ends} (hr : HR g w) (hf : FR g.K w fr σ) (h : AftS g w (r.st fr f) D W) :
    Aft g rel w r (fun b H1 => ∃ a w1, w1.H = H1 ∧ Le w w1 ∧ HR g w1 ∧ FR g.K w1 fr σ ∧ rel w1 a b ∧ r = .ok a w1.ah ∧ AftS g w1 (f a w1.ah) D W) (fun cl d H' => W cl d σ H') := by
  cases r with
  | ok a ah' =>
    intro b w1 e l hr1 q
    subst e
    exact ⟨a, w1, rfl, l, hr1, hf.mono l, q, rfl, AftS.later h l⟩
  | ex x ah' => exact fun cl d w1 e l hr1 q => h cl d σ w1 e l hr1 (hf.mono l) q
  | bad => exact h
theorem sOne {a : XS} {f : MD → Mu.Hp → Mu.RS} {fr : Mu.Fr} {σ : L2.St} {w : Wd} {D : Ends} (hr : HR g w) (hf : FR g.K w fr σ) (h : AftS g w ((Mu.ev c fr w.ah a).st fr f) D W) :
    tE g W c a σ w.H (fun x H1 => ∃ d w1, w1.H = H1 ∧ Le w w1 ∧ HR g w1 ∧ FR g.K w1 fr σ ∧ VR g.K w1 d x ∧ Mu.ev c fr w.ah a = .ok d w1.ah ∧ AftS g w1 (f d w1.ah) D W) := ⟨w, fr, rfl, hr, hf, AftS.cut hr hf h⟩
theorem sOneT {a : XS} {f : Bool → Mu.Hp → Mu.RS} {fr : Mu.Fr} {σ : L2.St} {w : Wd} {D : Ends} (hr : HR g w) (hf : FR g.K w fr σ) (h : AftS g w ((Mu.evT c fr w.ah a).st fr f) D W) :
    tT g W c a σ w.H (fun x H1 => ∃ w1, w1.H = H1 ∧ Le w w1 ∧ HR g w1 ∧ FR g.K w1 fr σ ∧ AftS g w1 (f x w1.ah) D W) :=
  ⟨w, fr, rfl, hr, hf, (AftS.cut hr hf h).imp fun x H1 ⟨d, w1, e, l, hr1, hf1, q, z, k⟩ => by cases (show x = d from q); exact ⟨w1, e, l, hr1, hf1, k⟩⟩

/-! ### simple statements -/
theorem s_pass {pos : Pos} : PS X (.Pass pos) (tSt g W c .pass) := PS_weak ps_pass (by rintro D σ H ⟨w, fr, rfl, hr, hf, h⟩; rw [Mu.exec] at h; exact h σ w rfl .refl hr hf)
theorem s_brk {pos : Pos} : PS X (.Break pos) (tSt g W c .brk) := PS_weak ps_break (by rintro D σ H ⟨w, fr, rfl, hr, hf, h⟩; rw [Mu.exec] at h; exact h σ w rfl .refl hr hf)
theorem s_cont {pos : Pos} : PS X (.Continue pos) (tSt g W c .cont) := PS_weak ps_continue (by rintro D σ H ⟨w, fr, rfl, hr, hf, h⟩; rw [Mu.exec] at h; exact h σ w rfl .refl hr hf)
theorem s_ret0 {pos : Pos} : PS X (.Return none pos) (tSt g W c .ret0) := PS_weak ps_retN (by rintro D σ H ⟨w, fr, rfl, hr, hf, h⟩; rw [Mu.exec] at h; exact h .non w rfl .refl hr rfl)
theorem s_ret {e : Expr} {a : XS} {pos : Pos} (he : PE X e (tE g W c a)) : PS X (.Return (some e) pos) (tSt g W c (.ret a)) := PS_weak (ps_ret he) (by
  rintro D σ H ⟨w, fr, rfl, hr, hf, h⟩
  rw [Mu.exec] at h
  obtain ⟨w1, fr1, e1, hr1, hf1, q1⟩ := sOne hr hf h
  refine ⟨w1, fr1, e1, hr1, hf1, q1.imp fun x H1 ⟨d, w2, e2, l2, hr2, hf2, r2, _, q2⟩ => ?_⟩
  subst e2
  exact q2 x w2 rfl .refl hr2 r2)
def isLc : Expr → Bool
  | .ListComp .. => true
  | .SetComp .. => true
  | .DictComp .. => true
  | _ => false
theorem sw_no {e : Expr} (h : isLc e = false) (t : Option Expr) (l : Nat) (env : Env) : swapsWith e t l env = pure false := by
  cases e <;> first | rfl | cases h
theorem s_ex {e : Expr} {a : XS} {pos : Pos} (hl : isLc e = false) (he : PE X e (tE g W c a)) : PS X (.Expr e pos) (tSt g W c (.ex a)) := PS_weak (ps_expr he (sw_no hl _ _ _)) (by
  rintro D σ H ⟨w, fr, rfl, hr, hf, h⟩
  rw [Mu.exec] at h
  obtain ⟨w1, fr1, e1, hr1, hf1, q1⟩ := sOne hr hf h
  refine ⟨w1, fr1, e1, hr1, hf1, q1.imp fun x H1 ⟨d, w2, e2, l2, hr2, hf2, r2, _, q2⟩ => ?_⟩
  subst e2
  exact q2 σ w2 rfl .refl hr2 hf2)
/-! ### name = .., (a, b) = .. -/
theorem tgt_reads {a : XS} {t : Mu.Tg} (G : Good g X W) : ∀ D σ H, tSt g W c (.asg t a) D σ H → tAsg (tE g W c a) (gT X.K t) D σ H := by
  rintro D σ H ⟨w, fr, rfl, hr, hf, h⟩
  rw [Mu.exec] at h
  obtain ⟨w1, fr1, e1, hr1, hf1, q1⟩ := sOne hr hf h
  refine ⟨w1, fr1, e1, hr1, hf1, q1.imp fun x H1 ⟨d, w2, e2, l2, hr2, hf2, r2, _, q2⟩ => ?_⟩
  subst e2
  cases e : Mu.tgS w2.ah fr t d with
  | none => rw [e] at q2; exact q2.elim
  | some fr' =>
    rw [e] at q2
    exact gT_of G hr2 hf2 r2 e fun σ' hf' _ => q2 σ' w2 rfl .refl hr2 hf'
theorem asg1 {tg : Expr} {t : Mu.Tg} (h : TgOk X tg t) : (assignEach [tg] X.env).map (·.2) = [assign tg X.env] := by
  cases h with
  | one h => obtain ⟨x, pos, rfl, _⟩ := h; first | rfl | simp [assignEach]
  | tup h => first | rfl | simp [assignEach]
theorem s_asg {tg e : Expr} {a : XS} {t : Mu.Tg} {pos : Pos} (G : Good g X W) (ht : TgOk X tg t) (he : PE X e (tE g W c a)) (hs : swapsWithSole [tg] e pos.line X.env = pure false) (hw : swappedStores [tg] e X.env = pure none) : PS X (.Assign [tg] e pos) (tSt g W c (.asg t a)) :=
  PS_weak (ps_asg he (pg_T G.nd G.calm ht) hs hw (asg1 ht)) (tgt_reads G)
/-- name = [..], on one line -/
theorem s_asgLc {i : Nat} {y : Str} {py : Pos} {t : Mu.Tg} {it : Mu.It} {o : Option Unit} {cond elt : XS} {tg iter eltE : Expr} {ifs : List Expr} {scope : Scope} {own : List (Str × Nat)} {pos spos : Pos} (G : Good g X W) (hy : X.N[i]? = some y) (hyl : X.env.scope.names.lookup y = some .local)
    (hsw : swapsWith (.ListComp eltE [⟨tg, iter, ifs, 0⟩] scope pos) (some (.Name y py)) spos.line X.env = pure true)
    (hi : PI X tg iter (tI g W c it)) (ok : BlkOk X.N X.env.scope scope own)
    (hs1 : ∀ i ∈ own.map (·.2), i ∈ Mu.tgIs t) (hs2 : ∀ i ∈ Mu.tgIs t, i ∈ own.map (·.2))
    (htg : ∀ (s : Shared) (H : Hp) (C : Addr) (cl : List (Str × Addr)) (fp : List Addr), TgOk (X.blk s H scope (compEnvC scope cl C X.env) fp) tg t)
    (hif : ∀ (s : Shared) (H : Hp) (C : Addr) (cl : List (Str × Addr)) (fp : List Addr), IfsOk g (X.blk s H scope (compEnvC scope cl C X.env) fp) c cond o ifs)
    (he : ∀ (s : Shared) (H : Hp) (C : Addr) (cl : List (Str × Addr)) (fp : List Addr), PE (X.blk s H scope (compEnvC scope cl C X.env) fp) eltE (tE g W0 c elt)) (hs : ∀ x, foldedSetIterable iter X.env x = pure x) :
    PS X (.Assign [.Name y py] (.ListComp eltE [⟨tg, iter, ifs, 0⟩] scope pos) spos) (tSt g W c (.asg (.one i) (.lc t it o cond elt))) := by
  refine PS_weak (ps_setLc (g := gT X.K t) (tt := tIf' g c cond o) (te := tE g W0 c elt) G.calm G.nd hy hyl hsw hi ok
    (fun s H C cl fp => pg_T (X := X.blk s H scope (compEnvC scope cl C X.env) fp) G.nd G.calm (htg s H C cl fp))
    (fun s H C cl fp => pts_ifs (hif s H C cl fp)) he hs) ?_
  intro D σ H h
  exact lc_reads G hs1 hs2 σ H _ (tgt_reads (t := .one i) G D σ H h)
/-- a pair, a triple stored from the right -/
theorem evs_tup {fr : Mu.Fr} {h : Mu.Hp} {es : Mu.Es} {f : MD → Mu.Hp → Mu.RS} : ((Mu.ev c fr h (.tup es)).st fr f) = ((Mu.evs c fr h es).st fr fun ds h => f (.tup ds) h) := by
  rw [Mu.ev]; cases Mu.evs c fr h es <;> rfl
theorem s_par {i j : Nat} {x y : Str} {a b : Expr} {da db : XS} {px py pt pos : Pos} {kt k2 : Nat} {pt2 : Pos} (G : Good g X W) (hi : X.N[i]? = some x) (hj : X.N[j]? = some y) (hij : i ≠ j)
    (hx : X.env.scope.names.lookup x = some .local) (hy : X.env.scope.names.lookup y = some .local) (ha : PA X [a, b] (tA g W c (.cons da (.cons db .nil))))
    (hw : swappedStores [.Tuple [.Name x px, .Name y py] kt pt] (.Tuple [a, b] k2 pt2) X.env = pure (some [x, y])) :
    PS X (.Assign [.Tuple [.Name x px, .Name y py] kt pt] (.Tuple [a, b] k2 pt2) pos) (tSt g W c (.asg (.tup [i, j]) (.tup (.cons da (.cons db .nil))))) := by
  refine PS_weak (ps_par G.calm G.nd hi hj hij hx hy ha hw rfl) ?_
  rintro D σ H ⟨w, fr, rfl, hr, hf, h⟩
  rw [Mu.exec, evs_tup] at h
  refine ⟨w, fr, rfl, hr, hf, (AftS.cut (rel := VRs g.K) hr hf h).imp fun vs H1 ⟨ds, w1, e1, l1, hr1, hf1, r1, z, q1⟩ => ?_⟩
  subst e1
  have hl := evs_len z
  match ds, hl, r1, q1 with
  | [d1, d2], _, r1, q1 =>
    obtain ⟨v, u, rfl, s1, s2⟩ := r1.two
    exact ⟨v, u, rfl, q1 _ w1 rfl .refl hr1 ((hf1.set i s1).set j s2)⟩
theorem s_par3 {i j l : Nat} {x y z : Str} {a b d : Expr} {da db dd : XS} {px py pz pt pos : Pos} {kt k2 : Nat} {pt2 : Pos} (G : Good g X W) (hi : X.N[i]? = some x) (hj : X.N[j]? = some y) (hl : X.N[l]? = some z) (hij : i ≠ j) (hil : i ≠ l) (hjl : j ≠ l)
    (hx : X.env.scope.names.lookup x = some .local) (hy : X.env.scope.names.lookup y = some .local) (hz : X.env.scope.names.lookup z = some .local) (ha : PA X [a, b, d] (tA g W c (.cons da (.cons db (.cons dd .nil)))))
    (hw : swappedStores [.Tuple [.Name x px, .Name y py, .Name z pz] kt pt] (.Tuple [a, b, d] k2 pt2) X.env = pure (some [x, y, z])) :
    PS X (.Assign [.Tuple [.Name x px, .Name y py, .Name z pz] kt pt] (.Tuple [a, b, d] k2 pt2) pos) (tSt g W c (.asg (.tup [i, j, l]) (.tup (.cons da (.cons db (.cons dd .nil)))))) := by
  refine PS_weak (ps_par3 G.calm G.nd hi hj hl hij hil hjl hx hy hz ha hw rfl) ?_
  rintro D σ H ⟨w, fr, rfl, hr, hf, h⟩
  rw [Mu.exec, evs_tup] at h
  refine ⟨w, fr, rfl, hr, hf, (AftS.cut (rel := VRs g.K) hr hf h).imp fun vs H1 ⟨ds, w1, e1, l1, hr1, hf1, r1, z, q1⟩ => ?_⟩
  subst e1
  have hl := evs_len z
  match ds, hl, r1, q1 with
  | [d1, d2, d3], _, r1, q1 =>
    obtain ⟨v, t, rfl, s1, s2⟩ := r1
    obtain ⟨u, u', rfl, s3, s4⟩ := s2.two
    exact ⟨v, u, u', rfl, q1 _ w1 rfl .refl hr1 (((hf1.set i s1).set j s3).set l s4)⟩
/-! ### o.f = .. -/
theorem putF_of {w : Wd} {x : V} {d d' : MD} {y : V} {f : String} {h' : Mu.Hp} (hr : HR g w) (h : Mu.putF w.ah d f d' = some h') (r : VR g.K w d x) (ry : VR g.K w d' y) :
    ∃ kc dx gs, (kc ∈ g.cs ∧ Mu.insC w.ah d = some kc) ∧ (∃ p, x = .ref p ∧ w.H p = some (.ins (g.cA kc) dx gs) ∧ gs.length < 900 ∧ ∃ w', w'.ah = h' ∧ w'.H = upd w.H p (.ins (g.cA kc) dx (L2.putF (nm f) y gs)) ∧ Le w w' ∧ HR g w') := by
  unfold Mu.putF at h
  cases d with
  | obj i =>
    simp only at h
    split at h
    · rename_i kc fs e0
      split at h
      · rename_i hz
        cases h
        obtain ⟨rfl, hc, dx, gs, hh, rs⟩ := VR.obj_at hr r e0
        have l := Le.put w i (.ins kc (Mu.fput f d' fs)) (.ins (g.cA kc) dx (L2.putF (nm f) y gs)) (List.getElem?_eq_some_iff.mp e0).1 (hr.ob i _ e0).mut
        exact ⟨kc, dx, gs, ⟨hc, by simp [Mu.insC, e0]⟩, _, rfl, hh, by rw [← rs.length]; exact hz, w.put i (.ins kc (Mu.fput f d' fs)) (.ins (g.cA kc) dx (L2.putF (nm f) y gs)), rfl, rfl, l, hr.put e0 ⟨hc, dx, _, upd_same, (rs.put ry).mono l⟩⟩
      · cases h
    · cases h
  | _ => cases h
variable {mP : Mu.Prog} {gf ml : List String}
theorem s_asgF {o value : Expr} {a b : XS} {f : String} {pos pos' : Pos} (G : Good g X W) (F : Fx g mP gf ml) (hf : f ∈ g.fl) (ho : PE X o (tE g W c a)) (hv : PE X value (tE g W c b)) (hs : swapsWith value (some (.Attribute o (nm f) pos')) pos.line X.env = pure false) :
    PS X (.Assign [.Attribute o (nm f) pos'] value pos) (tSt g W c (.asgF a f b)) := by
  refine PS_weak (ps_fld ho hv hs) ?_
  rintro D σ H ⟨w, fr, rfl, hr, hfr, h⟩
  rw [Mu.exec] at h
  obtain ⟨w1, fr1, e1, hr1, hf1, q1⟩ := sOne hr hfr h
  refine ⟨w1, fr1, e1, hr1, hf1, q1.imp fun y H1 ⟨d, w2, e2, l2, hr2, hf2, r2, _, q2⟩ => ?_⟩
  subst e2
  obtain ⟨w3, fr3, e3, hr3, hf3, q3⟩ := sOne hr2 hf2 q2
  refine ⟨w3, fr3, e3, hr3, hf3, q3.imp fun x H2 ⟨d2, w4, e4, l4, hr4, hf4, r4, _, q4⟩ => ?_⟩
  subst e4
  cases e : Mu.putF w4.ah d2 f d with
  | none => rw [e] at q4; exact q4.elim
  | some h' =>
    rw [e] at q4
    obtain ⟨kc, dx, gs, ⟨hc, _⟩, p, rfl, hp, hl, w5, e5, e6, l5, hr5⟩ := putF_of hr4 e r4 (VR.mono l4 _ _ r2)
    refine ⟨p, _, dx, gs, rfl, hp, by rw [G.K]; exact F.cls _ hc, by rw [G.K]; exact F.noat _ hc _ hf, by omega, ?_⟩
    rw [← e6]
    exact q4 σ w5 e5 l5 hr5 (hf4.mono l5)
/-! ### o[i] = .. -/
def rPut (g : Gc) : TSet := fun o i v H Q => ∃ d1 d2 d3 w h', w.H = H ∧ HR g w ∧ VR g.K w d1 o ∧ VR g.K w d2 i ∧ VR g.K w d3 v ∧ Mu.putI w.ah d1 d2 d3 = some h' ∧ ∀ w', w'.ah = h' → Le w w' → HR g w' → Q w'.H
theorem put_ok (G : Good g X W) : PSet X (rPut g) := by
  intro pins s σ H o i v ov iv u Q I ro ri rv h
  obtain ⟨d1, d2, d3, w, h', rfl, hr, r1, r2, r3, e, q⟩ := h
  have hu : X.A.units + 1 < cLine := by have := G.un; omega
  unfold Mu.putI at e
  cases d1 with
  | obj p =>
    simp only at e
    split at e
    · rename_i ds e0
      cases d2 with
      | int k =>
        obtain ⟨j, ej, rfl⟩ := Option.map_eq_some_iff.mp e
        obtain ⟨rfl, vs, t, rs⟩ := VR.obj_at hr r1 e0
        obtain rfl : i = .int k := r2
        have l := Le.put w p (.lst (ds.set j d3)) (.lst (vs.set j v)) (List.getElem?_eq_some_iff.mp e0).1 (hr.ob p _ e0).mut
        refine set_list pins s σ w.H _ _ v ov iv u Q I ro ri rv ⟨_, vs, k, j, rfl, rfl, t, by rw [ixN_eq, ← rs.length]; exact ej, ?_⟩
        exact q (w.put p (.lst (ds.set j d3)) (.lst (vs.set j v))) rfl l (hr.put e0 ⟨_, upd_same, VRs.mono l _ _ (VRs.set j rs r3)⟩)
      | _ => cases e
    · rename_i tk kvs e0
      split at e
      · rename_i hk0
        obtain ⟨hk, hz⟩ := hk0
        rw [lim_eq] at hz
        cases e
        obtain ⟨rfl, ob⟩ := VR.obj_at hr r1 e0
        obtain rfl : ov = .ref (w.mu p) := ro
        cases tk with
        | false =>
          obtain ⟨nd, ks, hd, rel⟩ := ob
          obtain ⟨k, kr, rfl⟩ := keyR_of hk r2
          obtain ⟨l, hr'⟩ := put_dk hr e0 (nd_dput (a := d2) (d := d3) nd) (rel.put kr r3 nd)
          exact d_setItem hu I (DPut.k hd (by rw [← rel.length]; exact hz)) ri rv fun s' I' => ⟨_, I', q _ rfl l hr'⟩
        | true =>
          obtain ⟨nd, xs, hd, rel⟩ := ob
          obtain ⟨ts, hts, _⟩ := keyIn_of hk
          subst hts
          obtain ⟨p', vs', rfl, t2, rs2⟩ := id r2
          obtain rfl : iv = .ref p' := ri
          obtain ⟨hsm, hl, dd⟩ := dict_of G.toGoodH I hd rel
          have hkey := nested_key (P := X.prog) (wo := X.w) G.K I hk r2
          refine wpAny_setItem_heap (nroom G.toGoodH) hkey dd (fun h' dd' hs => ?_) hl
          obtain ⟨l, hr'⟩ := put_dx hr e0 (nd_dput (a := .tup ts) (d := d3) nd) (rel.put hk r2 rv r3 nd)
          have hl2 : (storedH xs (nkOf (.tup ts)) p' u).length ≤ sizeLine := by have := storedH_length xs (nkOf (.tup ts)) p' u; have := rel.length; omega
          exact ⟨_, inv_dx G I hd hsm hl2 dd' hs, q _ rfl l hr'⟩
      · cases e
    · cases e
  | _ => cases e
/-- an index that is no slice -/
def plainI : Expr → Bool
  | .Slice .. => false
  | _ => true
theorem asg_sub {o i : Expr} {env : Env} {pos : Pos} (h : plainI i = true) : ∀ v, assign (.Subscript o i pos) env v = (do
      let ov ← holding [v] (eval o env)
      let iv ← holding [v, ov] (eval i env)
      standAt pos
      holding [v, ov, iv] (setItem ov iv v)
      release [v, ov, iv] []) := by
  intro v
  cases i <;> first | rfl | cases h
theorem s_asgI {o i value : Expr} {a k b : XS} {pos pos' : Pos} (G : Good g X W) (hi : plainI i = true) (ho : PE X o (tE g W c a)) (hk : PE X i (tE g W c k)) (hv : PE X value (tE g W c b)) (hs : swapsWithSole [.Subscript o i pos'] value pos.line X.env = pure false) (hw : swappedStores [.Subscript o i pos'] value X.env = pure none) :
    PS X (.Assign [.Subscript o i pos'] value pos) (tSt g W c (.asgI a k b)) := by
  refine PS_weak (ps_asg hv (pg_sub ho hk (put_ok G) (asg_sub hi)) hs hw (by first | rfl | simp [assignEach])) ?_
  rintro D σ H ⟨w, fr, rfl, hr, hfr, h⟩
  rw [Mu.exec] at h
  obtain ⟨w1, fr1, e1, hr1, hf1, q1⟩ := sOne hr hfr h
  refine ⟨w1, fr1, e1, hr1, hf1, q1.imp fun v H1 ⟨d, w2, e2, l2, hr2, hf2, r2, _, q2⟩ => ?_⟩
  subst e2
  obtain ⟨w3, fr3, e3, hr3, hf3, q3⟩ := sOne hr2 hf2 q2
  refine ⟨w3, fr3, e3, hr3, hf3, q3.imp fun x H2 ⟨d2, w4, e4, l4, hr4, hf4, r4, _, q4⟩ => ?_⟩
  subst e4
  obtain ⟨w5, fr5, e5, hr5, hf5, q5⟩ := sOne hr4 hf4 q4
  refine ⟨w5, fr5, e5, hr5, hf5, q5.imp fun y H3 ⟨d3, w6, e6, l6, hr6, hf6, r6, _, q6⟩ => ?_⟩
  subst e6
  cases e : Mu.putI w6.ah d2 d3 d with
  | none => rw [e] at q6; exact q6.elim
  | some h' =>
    rw [e] at q6
    exact ⟨d2, d3, d, w6, h', rfl, hr6, VR.mono l6 _ _ r4, r6, VR.mono l6 _ _ (VR.mono l4 _ _ r2), e, fun w' ew l hr' => q6 σ w' ew l hr' (hf6.mono l)⟩
/-! ### op= -/
def rAug (g : Gc) (op : Mu.BOp) : V → V → Hp → VK → Prop := fun x y H Q => ∃ d1 d2 w E, w.H = H ∧ HR g w ∧ VR g.K w d1 x ∧ VR g.K w d2 y ∧ Aft g (VR g.K) w (Mu.augR op w.ah d1 d2) Q E
theorem aug_ok (G : Good g X W) (op : Mu.BOp) : PIp X (opA op) (rAug g op) := by
  intro pins s σ H x y v u Q I rx ry h
  obtain ⟨d1, d2, w, E, rfl, hr, r1, r2, h⟩ := h
  unfold Mu.augR at h
  split at h
  · obtain rfl : x = .int _ := r1
    obtain rfl : y = .int _ := r2
    exact iop_add pins s σ w.H _ _ v u Q I rx ry ⟨_, _, rfl, rfl, h _ w rfl .refl hr rfl⟩
  · obtain rfl : x = .int _ := r1
    obtain rfl : y = .int _ := r2
    exact iop_sub pins s σ w.H _ _ v u Q I rx ry ⟨_, _, rfl, rfl, h _ w rfl .refl hr rfl⟩
  · obtain ⟨o1, rfl⟩ := r1
    obtain ⟨o2, rfl⟩ := r2
    split at h
    · rename_i hz
      rw [lim_eq] at hz
      refine iop_add_str pins s σ w.H _ _ v u Q I rx ry ⟨_, _, rfl, rfl, by rw [toS_len, toS_len]; exact hz, ?_⟩
      rw [toS_app]
      exact h _ w rfl .refl hr ⟨o1.app o2 hz, rfl⟩
    · exact h.elim
  · exact h.elim
theorem s_aug {e : Expr} {x : Str} {i : Nat} {op : Mu.BOp} {a : XS} {pos pos' : Pos} (G : Good g X W) (hi : X.N[i]? = some x) (hx : Loc X.env.scope x) (hfn : X.fn x = true ∨ X.env.scope.names.lookup x = some .local) (he : PE X e (tE g W c a)) : PS X (.AugAssign (.Name x pos') (opA op) e pos) (tSt g W c (.aug i op a)) := by
  refine PS_weak (ps_aug G.nd hi hx he (aug_ok G op) hfn) ?_
  rintro D σ H ⟨w, fr, rfl, hr, hf, h⟩
  rw [Mu.exec] at h
  cases ev : Mu.vget fr i with
  | none => rw [ev] at h; exact h.elim
  | some d =>
    rw [ev, Mu.opt_some, Mu.R.st_ok] at h
    obtain ⟨v, e1, r⟩ := hf.get ev
    refine ⟨v, e1, ?_⟩
    obtain ⟨w1, fr1, e1, hr1, hf1, q1⟩ := sOne hr hf h
    refine ⟨w1, fr1, e1, hr1, hf1, q1.imp fun y H1 ⟨d2, w2, e2, l2, hr2, hf2, r2, _, q2⟩ => ?_⟩
    subst e2
    refine ⟨d, d2, w2, _, rfl, hr2, VR.mono l2 _ _ r, r2, (AftS.cut (rel := VR g.K) hr2 hf2 q2).imp fun z H2 ⟨d3, w3, e3, l3, hr3, hf3, r3, _, q3⟩ => ?_⟩
    subst e3
    exact q3 _ w3 rfl .refl hr3 (hf3.set i r3)
theorem s_augF {o e : Expr} {f : String} {op : Mu.BOp} {a b : XS} {pos pos' : Pos} (G : Good g X W) (F : Fx g mP gf ml) (hfl : f ∈ g.fl) (ho : PE X o (tE g W c a)) (he : PE X e (tE g W c b)) : PS X (.AugAssign (.Attribute o (nm f) pos') (opA op) e pos) (tSt g W c (.augF a f op b)) := by
  refine PS_weak (ps_fldaug ho he (aug_ok G op)) ?_
  rintro D σ H ⟨w, fr, rfl, hr, hf, h⟩
  rw [Mu.exec] at h
  obtain ⟨w1, fr1, e1, hr1, hf1, q1⟩ := sOne hr hf h
  refine ⟨w1, fr1, e1, hr1, hf1, q1.imp fun x H1 ⟨d, w2, e2, l2, hr2, hf2, r2, _, q2⟩ => ?_⟩
  subst e2
  cases d with
  | obj p =>
    simp only [Mu.fldR] at q2
    split at q2
    · rename_i kc fs e0
      cases ef : Mu.fget f fs with
      | none => rw [ef] at q2; exact q2.elim
      | some d0 =>
        rw [ef, Mu.opt_some, Mu.R.st_ok] at q2
        obtain ⟨rfl, hc, dx, gs, hh, rs⟩ := VR.obj_at hr2 r2 e0
        rcases rs.get (f := f) with ⟨z, _⟩ | ⟨d', v, z1, z2, rv⟩
        · rw [z] at ef; cases ef
        · rw [z1] at ef; cases ef
          refine ⟨_, _, dx, gs, v, rfl, hh, by rw [G.K]; exact F.cls _ hc, by rw [G.K]; exact F.noat _ hc _ hfl, z2, ?_⟩
          obtain ⟨w3, fr3, e3, hr3, hf3, q3⟩ := sOne hr2 hf2 q2
          refine ⟨w3, fr3, e3, hr3, hf3, q3.imp fun y H2 ⟨d2, w4, e4, l4, hr4, hf4, r4, _, q4⟩ => ?_⟩
          subst e4
          refine ⟨_, d2, w4, _, rfl, hr4, VR.mono l4 _ _ rv, r4, (AftS.cut (rel := VR g.K) hr4 hf4 q4).imp fun z H3 ⟨d3, w5, e5, l5, hr5, hf5, r5, _, q5⟩ => ?_⟩
          subst e5
          split at q5
          · rename_i hsame
            cases e : Mu.putF w5.ah (.obj p) f d3 with
            | none => rw [e] at q5; exact q5.elim
            | some h' =>
              rw [e] at q5
              have rp : VR g.K w5 (.obj p) (.ref (w5.mu p)) := by
                have := VR.mono l5 _ _ (VR.mono l4 _ _ r2)
                exact ⟨this.1, rfl⟩
              have emu : w5.mu p = w2.mu p := by rw [l5.m p (VR.mono l4 _ _ r2).1, l4.m p r2.1]
              obtain ⟨kc', dx', gs', ⟨hc', hi'⟩, p', ep, hp, hl, w6, e6, e7, l6, hr6⟩ := putF_of hr5 e rp r5
              cases ep
              have hck : kc' = kc := by
                have h8 : Mu.insC w2.ah (.obj p) = some kc := by simp [Mu.insC, e0]
                rw [hi', h8] at hsame
                exact Option.some.inj hsame
              subst hck
              rw [emu] at hp e7
              exact ⟨dx', gs', hp, by omega, by rw [← e7]; exact q5 σ w6 e6 l6 hr6 (hf5.mono l6)⟩
          · exact q5.elim
    · exact q2.elim
  | _ => exact q2.elim
end
end Ad
end

section
set_option Elab.async false
set_option linter.all false
set_option maxRecDepth 100000
set_option maxHeartbeats 4000000
namespace Ad
open PySem PySem.Spec PyProof.Rows L2
section
variable {g : Gc} {X : Cx} {W : WX} {c : Mu.Cx}
/-! ### d[k] op= e -/
def rDix (g : Gc) : V → V → Hp → VK → Prop := fun x y H Q => ∃ d1 d2 w E, w.H = H ∧ HR g w ∧ VR g.K w d1 x ∧ VR g.K w d2 y ∧ Aft g (VR g.K) w (Mu.dixR w.ah d1 d2) Q E
theorem dix_ok (G : Good g X W) : PGet X (rDix g) := by
  intro pins s σ H o i ov iv Q I ro ri h
  obtain ⟨d1, d2, w, E, rfl, hr, r1, r2, h⟩ := h
  have hu : X.A.units + 1 < cLine := by have := G.un; omega
  cases d1 with
  | obj p =>
    simp only [Mu.dixR] at h
    split at h
    · rename_i tk kvs e0
      split at h
      · rename_i hk
        obtain ⟨d, ed, h'⟩ := h.opt
        clear h
        obtain ⟨rfl, ob⟩ := VR.obj_at hr r1 e0
        obtain rfl : ov = .ref (w.mu p) := ro
        cases tk with
        | false =>
          obtain ⟨nd, ks, hd, rel⟩ := ob
          obtain ⟨k, kr, rfl⟩ := keyR_of hk r2
          rcases rel.look kr with ⟨e1, e2⟩ | ⟨d', v', e1, e2, rv⟩
          · rw [e1] at ed; cases ed
          · rw [e1] at ed; cases ed
            have g1 : DGet w.H (w.mu p) (kV k) (some v') := by rw [← e2]; exact DGet.k hd
            exact d_getItem hu I g1 ri fun w' s' I' q => ⟨_, _, I', q, h' _ w rfl .refl hr rv⟩
        | true =>
          obtain ⟨nd, xs, hd, rel⟩ := ob
          obtain ⟨z, hz, _⟩ := keyIn_of hk
          subst hz
          obtain ⟨p', vs, rfl, t2, rs⟩ := id r2
          obtain rfl : iv = .ref p' := ri
          obtain ⟨hsm, hl, dd⟩ := dict_of G.toGoodH I hd rel
          have hkey := nested_key (P := X.prog) (wo := X.w) G.K I hk r2
          rcases rel.look hk with ⟨e1, e2⟩ | ⟨d', v', p2, u2, e1, e2, ru, rv⟩
          · rw [e1] at ed; cases ed
          · rw [e1] at ed; cases ed
            exact wpAny_getItem_heap (nroom G.toGoodH) hkey dd e2 ⟨_, _, I.tok _, ru, h' _ w rfl .refl hr rv⟩
      · exact h.elim
    · exact h.elim
  | _ => exact h.elim
theorem aug_sub {i : Expr} (h : plainI i = true) : ∀ ov iv new, augStore i ov iv new = (do holding [new, ov, iv] (setItem ov iv new); release [new, ov, iv] []; pure .next) := by
  intro ov iv new
  cases i <;> first | rfl | cases h
theorem s_augI {o i e : Expr} {a k b : XS} {op : Mu.BOp} {pos pos' : Pos} (G : Good g X W) (hi : plainI i = true) (ho : PE X o (tE g W c a)) (hk : PE X i (tE g W c k)) (he : PE X e (tE g W c b)) : PS X (.AugAssign (.Subscript o i pos') (opA op) e pos) (tSt g W c (.augI a k op b)) := by
  refine PS_weak (ps_augS ho hk (dix_ok G) he (aug_ok G op) (put_ok G) (aug_sub hi)) ?_
  rintro D σ H ⟨w, fr, rfl, hr, hf, h⟩
  rw [Mu.exec] at h
  obtain ⟨w1, fr1, e1, hr1, hf1, q1⟩ := sOne hr hf h
  refine ⟨w1, fr1, e1, hr1, hf1, q1.imp fun x H1 ⟨d1, w2, e2, l2, hr2, hf2, r2, _, q2⟩ => ?_⟩
  subst e2
  obtain ⟨w3, fr3, e3, hr3, hf3, q3⟩ := sOne hr2 hf2 q2
  refine ⟨w3, fr3, e3, hr3, hf3, q3.imp fun y H2 ⟨d2, w4, e4, l4, hr4, hf4, r4, _, q4⟩ => ?_⟩
  subst e4
  refine ⟨d1, d2, w4, _, rfl, hr4, VR.mono l4 _ _ r2, r4, (AftS.cut (rel := VR g.K) hr4 hf4 q4).imp fun z H3 ⟨d3, w5, e5, l5, hr5, hf5, r5, _, q5⟩ => ?_⟩
  subst e5
  obtain ⟨w6, fr6, e6, hr6, hf6, q6⟩ := sOne hr5 hf5 q5
  refine ⟨w6, fr6, e6, hr6, hf6, q6.imp fun u H4 ⟨d4, w7, e7, l7, hr7, hf7, r7, _, q7⟩ => ?_⟩
  subst e7
  refine ⟨d3, d4, w7, _, rfl, hr7, VR.mono l7 _ _ r5, r7, (AftS.cut (rel := VR g.K) hr7 hf7 q7).imp fun t H5 ⟨d5, w8, e8, l8, hr8, hf8, r8, _, q8⟩ => ?_⟩
  subst e8
  cases e : Mu.putI w8.ah d1 d2 d5 with
  | none => rw [e] at q8; exact q8.elim
  | some h' =>
    rw [e] at q8
    have l48 := (l5.trans l7).trans l8
    exact ⟨d1, d2, d5, w8, h', rfl, hr8, VR.mono l48 _ _ (VR.mono l4 _ _ r2), VR.mono l48 _ _ r4, r8, e, fun w' ew l hr' => q8 σ w' ew l hr' (hf8.mono l)⟩
/-! ### one behind another -/
theorem ss_nil : PSs X [] (tSs g W c .nil) := ⟨fun pins s σ H D I h => by
  obtain ⟨w, fr, rfl, hr, hf, h⟩ := h
  rw [Mu.execs] at h
  exact pss_nil.run pins s σ w.H D I (h σ w rfl .refl hr hf)⟩
theorem AftS.seq {w : Wd} {r : Mu.RS} {ss : Mu.Ss} {D : Ends} (h : AftS g w (r.seq fun σ h => Mu.execs c σ h ss) D W) : AftS g w r { D with nx := tSs g W c ss D } W := by
  cases r with
  | nx fr ah' => exact fun σ w' e l hr hf => ⟨w', fr, rfl, hr, hf, by subst e; exact AftS.later h l⟩
  | rt d ah' => exact h
  | bk fr ah' => exact h
  | ct fr ah' => exact h
  | ex x fr ah' => exact h
  | bad => exact h
theorem ss_cons {st : Stmt} {sts : List Stmt} {s : Mu.S} {ss : Mu.Ss} (h1 : PS X st (tSt g W c s)) (h2 : PSs X sts (tSs g W c ss)) : PSs X (st :: sts) (tSs g W c (.cons s ss)) := by
  refine PSs_weak (pss_cons h1 h2) ?_
  rintro D σ H ⟨w, fr, rfl, hr, hf, h⟩
  rw [Mu.execs] at h
  exact ⟨w, fr, rfl, hr, hf, AftS.seq h⟩
theorem s_iff {k : Expr} {a b : List Stmt} {kk : XS} {sa sb : Mu.Ss} {pos : Pos} (hk : PT X k (tT g W c kk)) (ha : PSs X a (tSs g W c sa)) (hb : PSs X b (tSs g W c sb)) : PS X (.If k a b pos) (tSt g W c (.iff kk sa sb)) := by
  refine PS_weak (ps_if hk ha hb) ?_
  rintro D σ H ⟨w, fr, rfl, hr, hf, h⟩
  rw [Mu.exec] at h
  obtain ⟨w1, fr1, e1, hr1, hf1, q1⟩ := sOneT hr hf h
  refine ⟨w1, fr1, e1, hr1, hf1, q1.imp fun t H1 ⟨w2, e2, l2, hr2, hf2, q2⟩ => ?_⟩
  subst e2
  cases t with
  | true => exact ⟨w2, fr, rfl, hr2, hf2, q2⟩
  | false => exact ⟨w2, fr, rfl, hr2, hf2, q2⟩
/-! ### loops -/
theorem s_whl {k : Expr} {b : List Stmt} {kk : XS} {sb : Mu.Ss} {pos : Pos} (G : GoodS g X W) (hk : PT X k (tT g W c kk)) (hb : PSs X b (tSs g W c sb)) : PS X (.While k b [] pos) (tSt g W c (.whl kk sb)) := by
  refine PS_weak (ps_while G.po hk hb) ?_
  rintro D σ H ⟨w, fr, rfl, hr, hf, h⟩
  rw [Mu.exec] at h
  refine ⟨fun m σ H => ∃ w fr, w.H = H ∧ HR g w ∧ FR g.K w fr σ ∧ AftS g w (Mu.whlL (fun σ h => Mu.evT c σ h kk) (fun σ h => Mu.execs c σ h sb) m fr w.ah) D W, ⟨_, w, fr, rfl, hr, hf, h⟩, ?_⟩
  rintro m σ H ⟨w, fr, rfl, hr, hf, h⟩
  cases m with
  | zero => exact h.elim
  | succ m =>
    rw [Mu.whlL] at h
    obtain ⟨w1, fr1, e1, hr1, hf1, q1⟩ := sOneT hr hf h
    refine ⟨w1, fr1, e1, hr1, hf1, q1.imp fun t H1 ⟨w2, e2, l2, hr2, hf2, q2⟩ => ?_⟩
    subst e2
    cases t with
    | false =>
      simp only [Bool.false_eq_true, if_false] at q2 ⊢
      exact q2 σ w2 rfl .refl hr2 hf2
    | true =>
      simp only [if_true] at q2 ⊢
      refine ⟨fun σ' H' => ∃ w fr, w.H = H' ∧ HR g w ∧ FR g.K w fr σ' ∧ AftS g w (Mu.whlL (fun σ h => Mu.evT c σ h kk) (fun σ h => Mu.execs c σ h sb) m fr w.ah) D W, fun σ' H' hh => ⟨m, Nat.lt_succ_self m, hh⟩, w2, fr, rfl, hr2, hf2, ?_⟩
      cases e : Mu.execs c fr w2.ah sb with
      | nx fr' ah' => rw [e] at q2; exact fun σ' w' e' l' hr' hf' => ⟨w', fr', rfl, hr', hf', by subst e'; exact AftS.later q2 l'⟩
      | ct fr' ah' => rw [e] at q2; exact fun σ' w' e' l' hr' hf' => ⟨w', fr', rfl, hr', hf', by subst e'; exact AftS.later q2 l'⟩
      | bk fr' ah' => rw [e] at q2; exact q2
      | rt d ah' => rw [e] at q2; exact q2
      | ex x fr' ah' => rw [e] at q2; exact q2
      | bad => rw [e] at q2; exact q2
theorem fr_ev {fr : Mu.Fr} {h : Mu.Hp} {t : Mu.Tg} {it : Mu.It} {b : Mu.Ss} : Mu.exec c fr h (.fr t it b) = (Mu.evI c fr h it).st fr fun p h => Mu.forL (fun h' => Mu.gdOk h h' p.2) (fun d σ h => match Mu.tgS h σ t d with
    | some σ' => Mu.execs c σ' h b
    | none => .bad) p.1 fr h := by first | (rw [Mu.exec]; done) | (rw [Mu.exec]; rfl)
theorem s_fr {tg iter : Expr} {b : List Stmt} {t : Mu.Tg} {it : Mu.It} {sb : Mu.Ss} {pos : Pos} (G : GoodS g X W) (ht : TgOk X tg t) (hi : PI X tg iter (tI g W c it)) (hb : PSs X b (tSs g W c sb)) (hs : ∀ x, foldedSetIterable iter X.env x = pure x) : PS X (.For tg iter b [] pos) (tSt g W c (.fr t it sb)) := by
  refine PS_weak (ps_for G.po G.calm hi (pg_T G.nd G.calm ht) hb hs) ?_
  rintro D σ H ⟨w, fr, rfl, hr, hf, h⟩
  rw [fr_ev] at h
  refine ⟨w, fr, rfl, hr, hf, (AftS.cut (rel := relI g) hr hf h).imp fun J H1 hh => ?_⟩
  obtain ⟨p, w1, rfl, l1, hr1, hf1, itr, _, q1⟩ := hh
  obtain ⟨ds, gd⟩ := p
  let step : MD → Mu.Fr → Mu.Hp → Mu.RS := fun d σ h => match Mu.tgS h σ t d with
    | some σ' => Mu.execs c σ' h sb
    | none => .bad
  refine ⟨fun i m σ H => m = ds.length - i ∧ i ≤ ds.length ∧ ∃ w fr, w.H = H ∧ Le w1 w ∧ HR g w ∧ FR g.K w fr σ ∧ Mu.gdOk w1.ah w.ah gd = true ∧ AftS g w (Mu.forL (fun h' => Mu.gdOk w1.ah h' gd) step (ds.drop i) fr w.ah) D W,
    ⟨ds.length, by simp, Nat.zero_le _, w1, fr, rfl, .refl, hr1, hf1, itr.self, q1⟩, ?_⟩
  rintro i m σ H ⟨rfl, hi, w2, fr2, rfl, l2, hr2, hf2, gd2, q2⟩
  by_cases hlt : i < ds.length
  · right
    have ei : ds[i]? = some ds[i] := List.getElem?_eq_getElem hlt
    have edrop : ds.drop i = ds[i] :: ds.drop (i + 1) := List.drop_eq_getElem_cons hlt
    obtain ⟨go, yl⟩ := itr.go w2 l2.toLv hr2 gd2 i _ ei
    refine ⟨go, fun σ' H' => ∃ m', m' < ds.length - i ∧ (m' = ds.length - (i + 1) ∧ i + 1 ≤ ds.length ∧ ∃ w fr, w.H = H' ∧ Le w1 w ∧ HR g w ∧ FR g.K w fr σ' ∧ Mu.gdOk w1.ah w.ah gd = true ∧ AftS g w (Mu.forL (fun h' => Mu.gdOk w1.ah h' gd) step (ds.drop (i + 1)) fr w.ah) D W), fun σ' H' hh => hh, fun x H' hy => ?_⟩
    obtain ⟨w3, rfl, e3, l3, hr3, r3⟩ := yl x H' hy
    rw [edrop, Mu.forL] at q2
    rw [← e3] at q2
    have hf3 := hf2.mono l3
    have q2 := AftS.later q2 l3
    cases et : Mu.tgS w3.ah fr2 t ds[i] with
    | none =>
      have : step ds[i] fr2 w3.ah = .bad := by show (match Mu.tgS w3.ah fr2 t ds[i] with | some σ' => _ | none => _) = _; rw [et]
      rw [this] at q2; exact q2.elim
    | some fr' =>
      have es : step ds[i] fr2 w3.ah = Mu.execs c fr' w3.ah sb := by show (match Mu.tgS w3.ah fr2 t ds[i] with | some σ' => _ | none => _) = _; rw [et]
      rw [es] at q2
      refine gT_of G.toGood hr3 hf3 r3 et fun σ2 hf4 _ => ⟨w3, fr', rfl, hr3, hf4, ?_⟩
      have nxt : ∀ (fr5 : Mu.Fr) (ah5 : Mu.Hp), AftS g w3 (if Mu.gdOk w1.ah ah5 gd = true then Mu.forL (fun h' => Mu.gdOk w1.ah h' gd) step (ds.drop (i + 1)) fr5 ah5 else .bad) D W → ∀ σ' w', w'.ah = ah5 → Le w3 w' → HR g w' → FR g.K w' fr5 σ' →
          ∃ m', m' < ds.length - i ∧ (m' = ds.length - (i + 1) ∧ i + 1 ≤ ds.length ∧ ∃ w fr, w.H = w'.H ∧ Le w1 w ∧ HR g w ∧ FR g.K w fr σ' ∧ Mu.gdOk w1.ah w.ah gd = true ∧ AftS g w (Mu.forL (fun h' => Mu.gdOk w1.ah h' gd) step (ds.drop (i + 1)) fr w.ah) D W) := by
        intro fr5 ah5 q5 σ' w' e' l' hr' hf'
        subst e'
        by_cases hg5 : Mu.gdOk w1.ah w'.ah gd = true
        · rw [if_pos hg5] at q5
          exact ⟨ds.length - (i + 1), by omega, rfl, hlt, w', fr5, rfl, (l2.trans l3).trans l', hr', hf', hg5, AftS.later q5 l'⟩
        · rw [if_neg hg5] at q5; exact q5.elim
      cases e : Mu.execs c fr' w3.ah sb with
      | nx fr5 ah5 => rw [e] at q2; exact nxt fr5 ah5 q2
      | ct fr5 ah5 => rw [e] at q2; exact nxt fr5 ah5 q2
      | bk fr5 ah5 => rw [e] at q2; exact q2
      | rt d ah5 => rw [e] at q2; exact q2
      | ex x fr5 ah5 => rw [e] at q2; exact q2
      | bad => rw [e] at q2; exact q2
  · left
    have ei : i = ds.length := by omega
    subst ei
    rw [List.drop_length, Mu.forL] at q2
    exact ⟨itr.stop w2 l2.toLv hr2 gd2 _ (Nat.le_refl _), q2 σ w2 rfl .refl hr2 hf2⟩
/-- a statement while a dict is walked over -/
theorem s_lk {st : Stmt} {e : XS} {sa : Mu.S} (ha : PS X st (tSt g W c sa)) : PS X st (tSt g W c (.lkS e sa)) := by
  refine PS_weak (ps_lock ha) ?_
  rintro D σ H ⟨w, fr, rfl, hr, hf, h⟩
  rw [Mu.exec] at h
  split at h
  · rename_i p ah0 e0
    split at h
    · rename_i kvs e1
      obtain ⟨nd, ks, hd, rel⟩ := hr.ob p _ e1
      have hp : p < w.ah.length := (List.getElem?_eq_some_iff.mp e1).1
      refine ⟨w.mu p, .dK ks, hd, True.intro, fun od => ⟨w.lock p kvs od ks, fr, rfl, hr.lock e1 hd rel, FR.monoV (Lv.lock hd) hf, ?_⟩⟩
      change AftS g (w.lock p kvs od ks) (Mu.exec c fr (w.ah.set p (.lck kvs)) sa) _ _
      cases hE : Mu.exec c fr (w.ah.set p (.lck kvs)) sa with
      | nx fr' ah =>
        rw [hE] at h
        simp only [Mu.unlS] at h
        split at h
        · rename_i ks' e2
          split at h
          · rename_i eq
            subst eq
            intro σ' w' e3 l2 hr2 r2
            subst e3
            have hm : w'.mu p = w.mu p := l2.m p (by simpa [Wd.lock] using hp)
            have hd' : w'.H (w'.mu p) = some (.frz od (.dK ks)) := by rw [hm]; exact l2.k.f _ _ _ upd_same
            have rel' : KvR g.K w' ks' ks := KvR.monoV l2.toLv (KvR.monoV (Lv.lock hd) rel)
            refine ⟨by rw [← hm]; exact hd', ?_⟩
            have q := h σ' (w'.unlock p ks' ks) rfl (Le.locked hr e1 hd l2) (hr2.unlock e2 hd' rel') (FR.monoW (Lw.unlock hd') r2)
            have eH : (w'.unlock p ks' ks).H = upd w'.H (w.mu p) (.dK ks) := by rw [← hm]; rfl
            rw [eH] at q
            exact q
          · exact h.elim
        · exact h.elim
      | rt d ah =>
        rw [hE] at h
        simp only [Mu.unlS] at h
        split at h
        · rename_i ks' e2
          split at h
          · rename_i eq
            subst eq
            intro v w' e3 l2 hr2 r2
            subst e3
            have hm : w'.mu p = w.mu p := l2.m p (by simpa [Wd.lock] using hp)
            have hd' : w'.H (w'.mu p) = some (.frz od (.dK ks)) := by rw [hm]; exact l2.k.f _ _ _ upd_same
            have rel' : KvR g.K w' ks' ks := KvR.monoV l2.toLv (KvR.monoV (Lv.lock hd) rel)
            refine ⟨by rw [← hm]; exact hd', ?_⟩
            have q := h v (w'.unlock p ks' ks) rfl (Le.locked hr e1 hd l2) (hr2.unlock e2 hd' rel') (VR.monoW (Lw.unlock hd') _ _ r2)
            have eH : (w'.unlock p ks' ks).H = upd w'.H (w.mu p) (.dK ks) := by rw [← hm]; rfl
            rw [eH] at q
            exact q
          · exact h.elim
        · exact h.elim
      | _ => rw [hE] at h; exact h.elim
    · exact h.elim
  · exact h.elim
end
end Ad
end

section
set_option Elab.async false
set_option linter.all false
set_option maxRecDepth 100000
set_option maxHeartbeats 4000000
namespace Ad
open PySem PySem.Spec PyProof.Rows L2
section
variable {g : Gc} {X : Cx} {W : WX} {c : Mu.Cx}
/-! ### f'..' -/
inductive FpOk (g : Gc) (X : Cx) (W : WX) (c : Mu.Cx) : Mu.Es → List Expr → List TE → Prop where
  | nil : FpOk g X W c .nil [] []
  | fmt {a : XS} {e : Expr} {pos : Pos} {es : Mu.Es} {xs : List Expr} {ts : List TE} (he : PE X e (tE g W c a)) (r : FpOk g X W c es xs ts) : FpOk g X W c (.cons (.fmt a) es) (.FormattedValue e (-1) none pos :: xs) (tFmt (tE g W c a) :: ts)
  | str {s : String} {j : Nat} {pos : Pos} {es : Mu.Es} {xs : List Expr} {ts : List TE} (hl : (Mu.cp s).length ≤ 100000) (r : FpOk g X W c es xs ts) : FpOk g X W c (.cons (.str s) es) (.Constant (.str (nm s)) j pos :: xs) (tE g W c (.str s) :: ts)
theorem fp_pj {es : Mu.Es} {xs : List Expr} {ts : List TE} (h : FpOk g X W c es xs ts) : PJ X xs ts := by
  induction h with
  | nil => exact .nil
  | fmt he r ih => exact .cons (pe_fmt he) ih
  | str hl r ih => exact .cons (e_str (Nat.le_trans hl (by rw [sl_num]; decide))) ih
def fpF (acc : List Nat) : List MD → Mu.Hp → Mu.R MD := fun ds h => match Mu.allStr ds with
  | some ss => .ok (.str (acc ++ ss.flatten)) h
  | none => .bad
theorem fpF_cons {acc s : List Nat} {ds : List MD} {h : Mu.Hp} : fpF acc (.str s :: ds) h = fpF (acc ++ s) ds h := by
  unfold fpF
  simp only [Mu.allStr]
  cases Mu.allStr ds <;> simp
theorem fp_reads {es : Mu.Es} {xs : List Expr} {ts : List TE} (h : FpOk g X W c es xs ts) : ∀ (acc : List Nat) (w : Wd) (fr : Mu.Fr) (σ : L2.St) (Q : VK), HR g w → FR g.K w fr σ → StrOk acc → acc.length + 100000 * lenEs es ≤ 16777216 →
    Aft g (VR g.K) w ((Mu.evs c fr w.ah es).bind (fpF acc)) Q (fun cl d H' => W cl d σ H') → tJs ts (toS acc) σ w.H (fun out H1 => Q (.str out) H1) := by
  induction h with
  | nil =>
    intro acc w fr σ Q hr hf oa hl h
    rw [Mu.evs, Mu.R.bind_ok] at h
    have e : fpF acc [] w.ah = .ok (.str acc) w.ah := by simp [fpF, Mu.allStr]
    rw [e] at h
    exact h _ w rfl .refl hr ⟨oa, rfl⟩
  | @fmt a e pos es xs ts he r ih =>
    intro acc w fr σ Q hr hf oa hl h
    rw [Mu.evs, R_assoc, Mu.ev, R_assoc] at h
    simp only [lenEs] at hl
    obtain ⟨w1, fr1, e1, hr1, hf1, q1⟩ := one (rel := VR g.K) hr hf h
    refine ⟨w1, fr1, e1, hr1, hf1, q1.imp fun x H1 ⟨d, w2, e2, l2, hr2, hf2, r2, _, q2⟩ => ?_⟩
    subst e2
    have go : ∀ s : List Nat, StrOk s → s.length ≤ 100000 → Aft g (VR g.K) w2 ((Mu.R.ok (.str s) w2.ah : Mu.R MD).bind fun d h => ((Mu.evs c fr h es).bind fun ds h => .ok (d :: ds) h).bind (fpF acc)) Q (fun cl d H' => W cl d σ H') →
        (toS acc ++ toS s).length ≤ sizeLine ∧ tJs ts (toS acc ++ toS s) σ w2.H (fun out H1 => Q (.str out) H1) := by
      intro s os hs q
      rw [Mu.R.bind_ok, R_assoc] at q
      have e3 : ((Mu.evs c fr w2.ah es).bind fun ds h => (Mu.R.ok (Mu.D.str s :: ds) h : Mu.R (List MD)).bind (fpF acc)) = (Mu.evs c fr w2.ah es).bind (fpF (acc ++ s)) := by
        cases Mu.evs c fr w2.ah es with
        | ok ds h => exact fpF_cons
        | ex x h => rfl
        | bad => rfl
      rw [e3] at q
      have hl2 : (acc ++ s).length ≤ 16777216 := by rw [List.length_append]; omega
      rw [toS_app]
      refine ⟨by rw [toS_len, sl_num]; exact hl2, ih (acc ++ s) w2 fr σ Q hr2 hf2 (oa.app os (by rw [sl_num]; rw [List.length_append] at hl2; exact hl2)) (by rw [List.length_append]; omega) q⟩
    cases d with
    | str s =>
      obtain ⟨os, rfl⟩ := r2
      simp only [Mu.fmtR] at q2
      split at q2
      · rename_i hs
        obtain ⟨g1, g2⟩ := go s os hs q2
        exact .inl ⟨toS s, rfl, by rw [toS_len]; exact os.1, toS s, rfl, g1, g2⟩
      · exact q2.elim
    | int i =>
      obtain rfl : x = .int i := r2
      simp only [Mu.fmtR] at q2
      by_cases hi : i.natAbs < 10 ^ 100
      · rw [if_pos hi] at q2
        simp only at q2
        split at q2
        · rename_i hs
          obtain ⟨e4, os⟩ := str_int hi
          obtain ⟨g1, g2⟩ := go _ os hs q2
          exact .inr ⟨i, rfl, log_small hi, toS (Mu.intText i), by rw [← e4], g1, g2⟩
        · exact q2.elim
      · rw [if_neg hi] at q2; exact q2.elim
    | _ => exact q2.elim
  | @str s j pos es xs ts hs r ih =>
    intro acc w fr σ Q hr hf oa hl h
    rw [Mu.evs, R_assoc] at h
    simp only [lenEs] at hl
    obtain ⟨w1, fr1, e1, hr1, hf1, q1⟩ := one (rel := VR g.K) hr hf h
    refine ⟨w1, fr1, e1, hr1, hf1, q1.imp fun x H1 ⟨d, w2, e2, l2, hr2, hf2, r2, z, q2⟩ => ?_⟩
    subst e2
    rw [Mu.ev] at z
    injection z with z1 z2
    subst z1
    obtain ⟨os, rfl⟩ := r2
    rw [R_assoc] at q2
    have e3 : ((Mu.evs c fr w2.ah es).bind fun ds h => (Mu.R.ok (Mu.D.str (Mu.cp s) :: ds) h : Mu.R (List MD)).bind (fpF acc)) = (Mu.evs c fr w2.ah es).bind (fpF (acc ++ Mu.cp s)) := by
      cases Mu.evs c fr w2.ah es with
      | ok ds h => exact fpF_cons
      | ex x h => rfl
      | bad => rfl
    rw [e3] at q2
    have hl2 : (acc ++ Mu.cp s).length ≤ 16777216 := by rw [List.length_append]; omega
    refine ⟨toS (Mu.cp s), rfl, ?_, ?_⟩
    · rw [toS_app, toS_len, sl_num]; exact hl2
    · rw [toS_app]
      exact ih (acc ++ Mu.cp s) w2 fr σ Q hr2 hf2 (oa.app os (by rw [sl_num]; rw [List.length_append] at hl2; exact hl2)) (by rw [List.length_append]; omega) q2
theorem e_fstr {es : Mu.Es} {x y : Expr} {xs : List Expr} {ts : List TE} {pos : Pos} (h : FpOk g X W c es (x :: y :: xs) ts) (hl : lenEs es ≤ 100) : PE X (.JoinedStr (x :: y :: xs) pos) (tE g W c (.fstr es)) := by
  refine PE_weak (pe_joined (fp_pj h)) ?_
  rintro σ H Q ⟨w, fr, rfl, hr, hf, hh⟩
  rw [Mu.ev] at hh
  exact fp_reads h [] w fr σ Q hr hf ⟨Nat.zero_le _, fun _ m => nomatch m⟩ (by simp; omega) hh
end
end Ad
end

section
set_option Elab.async false
set_option linter.all false
set_option maxRecDepth 100000
set_option maxHeartbeats 4000000
namespace Ad
open PySem PySem.Spec PyProof.Rows L2
/-- the names that a text uses -/
structure Sg where
  gf : List String
  cs : List String
  fl : List String
  ml : List String
  bl : List String
  gl : List String
  gds : List String
  xs : List String
def isVis (sc : Scope) (y : Str) : Bool := match sc.names.lookup y with
  | some .local => true
  | some .cell => true
  | some .free => true
  | _ => false
def isLcl (sc : Scope) (y : Str) : Bool := match sc.names.lookup y with
  | some .local => true
  | _ => false
def isCel (sc : Scope) (y : Str) : Bool := match sc.names.lookup y with
  | some .cell => true
  | _ => false
def isGl (sc : Scope) (y : Str) : Bool := match sc.names.lookup y with
  | some .globalImplicit => true
  | _ => false
def dbgOk (y : Str) : Bool := !(y == ("__debug__" : Str))
def eqN (y : Str) (x : String) : Bool := decide (y = nm x)
def inL (x : String) (l : List String) : Bool := decide (x ∈ l)
def baseOk : Expr → Bool
  | .Call (.Name _ _) [] [] _ => false
  | _ => true
def notSet : Expr → Bool
  | .Set .. => false
  | _ => true
def valT : Expr → Bool
  | .UnaryOp .Not _ _ => false
  | .BoolOp .. => false
  | .IfExp .. => false
  | .Compare .. => false
  | _ => true
def slotC (N : List Str) (i : Nat) (y : Str) : Bool := decide (N[i]? = some y)
def nmsC (N : List Str) (sc : Scope) (fa : Bool) : List Expr → List Nat → Bool
  | [], [] => true
  | .Name y _ :: es, i :: is => slotC N i y && (isLcl sc y || (fa && isCel sc y)) && nmsC N sc fa es is
  | _, _ => false
def tgC (N : List Str) (sc : Scope) (fa : Bool) : Expr → Mu.Tg → Bool
  | .Name y _, .one i => slotC N i y && (isLcl sc y || (fa && isCel sc y))
  | .Tuple es _ _, .tup is => nmsC N sc fa es is
  | _, _ => false
def ownOf (N : List Str) (scope : Scope) : List (Str × Nat) := scope.names.filterMap fun (y, k) => match k with
  | .local => (N.findIdx? fun z => decide (z = y)).map fun i => (y, i)
  | .cell => (N.findIdx? fun z => decide (z = y)).map fun i => (y, i)
  | _ => none
def subL (a b : List Nat) : Bool := a.all fun i => decide (i ∈ b)
def isOk (neg : Bool) : CmpOp → Bool
  | .Is => !neg
  | .IsNot => neg
  | _ => false
def inOk (neg : Bool) : CmpOp → Bool
  | .In => !neg
  | .NotIn => neg
  | _ => false
def disC (p : XS → Expr → Bool) : List String → Mu.Es → List (Option Expr) → List Expr → Bool
  | [], .nil, [], [] => true
  | k :: ks, .cons e es, some (.Constant (.str z) _ _) :: keys, x :: xs => eqN z k && decide ((Mu.cp k).length ≤ 100000) && p e x && disC p ks es keys xs
  | _, _, _, _ => false
mutual
def chkE (S : Sg) (N : List Str) : Nat → Scope → XS → Expr → Bool
  | 0, _, _, _ => false
  | n + 1, sc, e, x => match e with
    | .v i => (match x with
      | .Name y _ => slotC N i y && isVis sc y && dbgOk y && !(y == ("__classdict__" : Str))
      | _ => false)
    | .int i => (match x with
      | .Constant (.int j) _ _ => decide (i = j)
      | _ => false)
    | .bl b => (match x with
      | .Constant (.bool j) _ _ => b == j
      | _ => false)
    | .non => (match x with
      | .Constant .none _ _ => true
      | _ => false)
    | .str s => (match x with
      | .Constant (.str z) _ _ => eqN z s && decide ((Mu.cp s).length ≤ 100000)
      | _ => false)
    | .glob z => (match x with
      | .Name y _ => eqN y z && isGl sc y && dbgOk y && inL z S.gl
      | _ => false)
    | .gin neg a z => (match x with
      | .Compare xa [op] [.Name y _] _ => inOk neg op && eqN y z && isGl sc y && dbgOk y && inL z S.gds && chkE S N n sc a xa
      | _ => false)
    | .gat z a => (match x with
      | .Subscript (.Name y _) xa _ => eqN y z && isGl sc y && dbgOk y && inL z S.gds && plainI xa && chkE S N n sc a xa
      | _ => false)
    | .tup es => (match x with
      | .Tuple xs _ _ => chkEs S N n sc es xs && decide (lenEs es ≤ 1000)
      | _ => false)
    | .lst es => (match x with
      | .List xs _ => chkEs S N n sc es xs && decide (lenEs es ≤ 1000)
      | _ => false)
    | .dct tk ks es => (match ks, es, x with
      | [], .nil, .Dict [] [] _ => true
      | k :: ks, es, .Dict keys xs _ => !tk && decide (k :: ks).Nodup && decide ((k :: ks).length ≤ 15) && disC (fun e x => chkE S N n sc e x) (k :: ks) es keys xs
      | _, _, _ => false)
    | .bin op a b => (match x with
      | .BinOp xa o xb _ => decide (o = opA op) && chkE S N n sc a xa && chkE S N n sc b xb
      | _ => false)
    | .cmp op a b => (match x with
      | .Compare xa [o] [xb] _ => decide (o = cA op) && chkE S N n sc a xa && chkE S N n sc b xb && !behindInMarks (cA op) xb
      | _ => false)
    | .isc neg k a => (match x with
      | .Compare xa [o] [.Constant z _ _] _ => isOk neg o && decide (z = cvC k) && chkE S N n sc a xa
      | _ => false)
    | .and a b => (match x with
      | .BoolOp .And (xa :: y :: r) p => chkE S N n sc a xa && (match r with
        | [] => chkE S N n sc b y
        | _ => chkE S N n sc b (.BoolOp .And (y :: r) p))
      | _ => false)
    | .or a b => (match x with
      | .BoolOp .Or (xa :: y :: r) p => chkE S N n sc a xa && (match r with
        | [] => chkE S N n sc b y
        | _ => chkE S N n sc b (.BoolOp .Or (y :: r) p))
      | _ => false)
    | .not a => (match x with
      | .UnaryOp .Not xa _ => chkE S N n sc a xa
      | _ => false)
    | .ife k a b => (match x with
      | .IfExp z xa xb _ => chkT S N n sc k z && chkE S N n sc a xa && chkE S N n sc b xb
      | _ => false)
    | .neg a => (match x with
      | .UnaryOp .USub xa _ => chkE S N n sc a xa
      | _ => false)
    | .ix a i => (match x with
      | .Subscript xa xi _ => plainI xi && chkE S N n sc a xa && chkE S N n sc i xi
      | _ => false)
    | .cut a lo hi u v => (match x with
      | .Subscript xa (.Slice l h none _) _ => chkE S N n sc a xa && (match lo, l with
          | some _, some e => chkE S N n sc u e
          | none, none => true
          | _, _ => false) && (match hi, h with
          | some _, some e => chkE S N n sc v e
          | none, none => true
          | _, _ => false)
      | _ => false)
    | .fld a f => (match x with
      | .Attribute xa y _ => eqN y f && inL f S.fl && baseOk xa && chkE S N n sc a xa
      | _ => false)
    | .call f es => (match x with
      | .Call (.Name y _) xs [] _ => eqN y f && isGl sc y && dbgOk y && inL f S.gf && plainArgs xs && chkEs S N n sc es xs
      | _ => false)
    | .make f es => (match x with
      | .Call (.Name y _) xs [] _ => eqN y f && isGl sc y && dbgOk y && inL f S.cs && plainArgs xs && chkEs S N n sc es xs
      | _ => false)
    | .meth o m es => (match x with
      | .Call (.Attribute xo y ap) xs [] p => eqN y m && inL m S.ml && baseOk xo && plainArgs xs && decide (xs.length < 30) && (ap.endLine == p.line) && chkE S N n sc o xo && chkEs S N n sc es xs
      | _ => false)
    | .bm o m es => (match x with
      | .Call (.Attribute xo y ap) xs [] p => eqN y (bmN m) && baseOk xo && plainArgs xs && decide (xs.length < 30) && (ap.endLine == p.line) && chkE S N n sc o xo && chkEs S N n sc es xs
      | _ => false)
    | .blt f es => (match x with
      | .Call (.Name y _) (x1 :: xs) [] _ => eqN y (bfN f) && isGl sc y && inL (bfN f) S.bl && plainArgs (x1 :: xs) && chkEs S N n sc es (x1 :: xs)
      | _ => false)
    | .isa a t => (match x with
      | .Call (.Name y _) [xa, .Name z _] [] _ => eqN y "isinstance" && isGl sc y && inL "isinstance" S.bl && eqN z (tyN t) && isGl sc z && inL (tyN t) S.bl && plainArgs [xa] && chkE S N n sc a xa
      | _ => false)
    | .fstr es => (match x with
      | .JoinedStr (x1 :: x2 :: xs) _ => decide (lenEs es ≤ 100) && chkF S N n sc es (x1 :: x2 :: xs)
      | _ => false)
    | .lkE _ a => chkE S N n sc a x
    | .lc t it o cond elt => (match x with
      | .ListComp xe [⟨tg, iter, ifs, 0⟩] scope _ => blkC N sc scope (ownOf N scope) && subL ((ownOf N scope).map (·.2)) (Mu.tgIs t) && subL (Mu.tgIs t) ((ownOf N scope).map (·.2)) &&
          tgC N (relS scope sc) false tg t && chkI S N n sc tg it iter && notSet iter && chkE S N n (relS scope sc) elt xe && (match o, ifs with
          | none, [] => true
          | some _, [ce] => chkT S N n (relS scope sc) cond ce
          | _, _ => false)
      | _ => false)
    | _ => false
def chkT (S : Sg) (N : List Str) : Nat → Scope → XS → Expr → Bool
  | 0, _, _, _ => false
  | n + 1, sc, e, x => match e with
    | .cmp op a b => (match x with
      | .Compare xa [o] [xb] _ => decide (o = cA op) && chkE S N n sc a xa && chkE S N n sc b xb && !behindInMarks (cA op) xb
      | _ => false)
    | .isc neg k a => (match x with
      | .Compare xa [o] [.Constant z _ _] _ => isOk neg o && decide (z = cvC k) && chkE S N n sc a xa
      | _ => false)
    | .and a b => (match x with
      | .BoolOp .And (xa :: y :: r) p => chkT S N n sc a xa && (match r with
        | [] => chkT S N n sc b y
        | _ => chkT S N n sc b (.BoolOp .And (y :: r) p))
      | _ => false)
    | .or a b => (match x with
      | .BoolOp .Or (xa :: y :: r) p => chkT S N n sc a xa && (match r with
        | [] => chkT S N n sc b y
        | _ => chkT S N n sc b (.BoolOp .Or (y :: r) p))
      | _ => false)
    | .not a => (match x with
      | .UnaryOp .Not xa _ => chkT S N n sc a xa
      | _ => false)
    | .gin neg a z => (match x with
      | .Compare xa [op] [.Name y _] _ => inOk neg op && eqN y z && isGl sc y && dbgOk y && inL z S.gds && chkE S N n sc a xa
      | _ => false)
    | e => valT x && chkE S N n sc e x
def chkEs (S : Sg) (N : List Str) : Nat → Scope → Mu.Es → List Expr → Bool
  | 0, _, _, _ => false
  | n + 1, sc, es, xs => match es with
    | .nil => (match xs with
      | [] => true
      | _ => false)
    | .cons e es => (match xs with
      | x :: xs => chkE S N n sc e x && chkEs S N n sc es xs && plainArgs (x :: xs)
      | _ => false)
def chkF (S : Sg) (N : List Str) : Nat → Scope → Mu.Es → List Expr → Bool
  | 0, _, _, _ => false
  | n + 1, sc, es, xs => match es with
    | .nil => (match xs with
      | [] => true
      | _ => false)
    | .cons (.fmt a) es => (match xs with
      | .FormattedValue x z none _ :: xs => decide (z = -1) && chkE S N n sc a x && chkF S N n sc es xs
      | _ => false)
    | .cons (.str s) es => (match xs with
      | .Constant (.str z) _ _ :: xs => eqN z s && decide ((Mu.cp s).length ≤ 100000) && chkF S N n sc es xs
      | _ => false)
    | _ => false
def chkI (S : Sg) (N : List Str) : Nat → Scope → Expr → Mu.It → Expr → Bool
  | 0, _, _, _, _ => false
  | n + 1, sc, tg, it, x => match it with
    | .seq a => chkE S N n sc a x
    | .rng1 a => (match x with
      | .Call (.Name y _) [xa] [] _ => eqN y "range" && isGl sc y && inL "range" S.bl && plainArgs [xa] && chkE S N n sc a xa
      | _ => false)
    | .rng2 a b => (match x with
      | .Call (.Name y _) [xa, xb] [] _ => eqN y "range" && isGl sc y && inL "range" S.bl && plainArgs [xa, xb] && chkE S N n sc a xa && chkE S N n sc b xb
      | _ => false)
    | .enm a => (match tg, x with
      | .Tuple _ _ _, .Call (.Name y _) [xa] [] _ => eqN y "enumerate" && isGl sc y && inL "enumerate" S.bl && plainArgs [xa] && chkE S N n sc a xa
      | _, _ => false)
    | .vals a => (match x with
      | .Call (.Attribute xo y ap) [] [] p => eqN y "values" && baseOk xo && (ap.endLine == p.line) && chkE S N n sc a xo
      | _ => false)
    | .zip a b => (match tg, x with
      | .Tuple _ _ _, .Call (.Name y _) [xa, xb] [] _ => eqN y "zip" && isGl sc y && inL "zip" S.bl && plainArgs [xa, xb] && chkE S N n sc a xa && chkE S N n sc b xb
      | _, _ => false)
end
end Ad
end

section
set_option Elab.async false
set_option linter.all false
set_option maxRecDepth 100000
set_option maxHeartbeats 8000000
namespace Ad
open PySem PySem.Spec PyProof.Rows L2
structure CtxE (g : Gc) (mP : Mu.Prog) (S : Sg) (nn k : Nat) (N : List Str) (sc : Scope) (fa : Bool) (X : Cx) : Prop where
  eN : X.N = N
  esc : X.env.scope = sc
  efa : fa = true → ∀ x, X.fn x = true
  calls : Calls g mP S.gf S.ml nn k X
structure Fk (g : Gc) (mP : Mu.Prog) (S : Sg) : Prop where
  cs : g.cs = S.cs
  fl : g.fl = S.fl
  bl : ∀ b ∈ S.bl, g.mg (nm b) = none
  gl : ∀ x ∈ S.gl, ∀ d, mP.glob x = some d → GlobOk g x d
  gds : ∀ x ∈ S.gds, GdOk g x (mP.gd x)
section
variable {g : Gc} {X : Cx} {W : WX} {c : Mu.Cx} {mP : Mu.Prog} {S : Sg} {nn k : Nat} {N : List Str} {sc : Scope} {fa : Bool} {hx : Option Mu.Exn}
theorem isVis_of {y : Str} (h : isVis sc y = true) : Vis sc y := by
  unfold isVis at h
  split at h
  · exact .inl (by assumption)
  · exact .inr (.inl (by assumption))
  · exact .inr (.inr (by assumption))
  · cases h
theorem isLcl_of {y : Str} (h : isLcl sc y = true) : sc.names.lookup y = some .local := by
  unfold isLcl at h
  split at h
  · assumption
  · cases h
theorem isCel_of {y : Str} (h : isCel sc y = true) : sc.names.lookup y = some .cell := by
  unfold isCel at h
  split at h
  · assumption
  · cases h
theorem isGl_of {y : Str} (e : X.env.scope = sc) (h : isGl sc y = true) : Gl X y := by
  subst e
  unfold isGl at h
  split at h
  · assumption
  · cases h
theorem dbg_no {y : Str} (h : dbgOk y = true) : (y == ("__debug__" : Str)) = false := by simpa [dbgOk] using h
theorem eqN_of {y : Str} {x : String} (h : eqN y x = true) : y = nm x := of_decide_eq_true h
theorem inL_of {x : String} {l : List String} (h : inL x l = true) : x ∈ l := of_decide_eq_true h
theorem slot_of {i : Nat} {y : Str} (C : CtxE g mP S nn k N sc fa X) (h : slotC N i y = true) : X.N[i]? = some y := by rw [C.eN]; exact of_decide_eq_true h
theorem base_of {x : Expr} {y : Str} {env : Env} (h : baseOk x = true) : attributeBase x y env (eval x env) = eval x env := by
  unfold attributeBase
  split
  · cases h
  · rfl
theorem notSet_of {x : Expr} {env : Env} (h : notSet x = true) : ∀ v, foldedSetIterable x env v = pure v := by
  intro v
  cases x <;> first | rfl | cases h
theorem plainIx_of {x : Expr} (h : plainI x = true) : PlainIx x := by
  intro o i
  cases x <;> first | rfl | cases h
theorem valT_of {x : Expr} {env : Env} (h : valT x = true) : ∀ whole, isTrue x env whole = (do let v ← whole; standAt x.pos; holding [v] (truthy v)) := by
  intro whole
  cases x with
  | UnaryOp op a p => cases op <;> first | rfl | cases h
  | _ => first | rfl | cases h
theorem nms_of (C : CtxE g mP S nn k N sc fa X) : ∀ {es : List Expr} {is : List Nat}, nmsC N sc fa es is = true → NmsOk X es is
  | [], [], _ => .nil
  | [], _ :: _, h => by simp [nmsC] at h
  | e :: es, [], h => by cases e <;> simp [nmsC] at h
  | e :: es, i :: is, h => by
    cases e with
    | Name y p =>
      simp only [nmsC, Bool.and_eq_true, Bool.or_eq_true] at h
      obtain ⟨⟨h1, h2⟩, h3⟩ := h
      refine .cons ⟨y, p, rfl, slot_of C h1, ?_, ?_⟩ (nms_of C h3)
      · rw [C.esc]
        rcases h2 with h2 | h2
        · exact .inl (isLcl_of h2)
        · exact .inr (isCel_of h2.2)
      · rw [C.esc]
        rcases h2 with h2 | h2
        · exact .inr (isLcl_of h2)
        · exact .inl (C.efa h2.1 _)
    | _ => simp [nmsC] at h
theorem tg_of (C : CtxE g mP S nn k N sc fa X) {e : Expr} {t : Mu.Tg} (h : tgC N sc fa e t = true) : TgOk X e t := by
  unfold tgC at h
  split at h
  · rename_i y p i
    have : nmsC N sc fa [.Name y p] [i] = true := by simp only [nmsC]; rw [h]; rfl
    cases nms_of C this with
    | cons h1 _ => exact .one h1
  · exact .tup (nms_of C h)
  · cases h
theorem sub_of {a b : List Nat} (h : subL a b = true) : ∀ i ∈ a, i ∈ b := fun i hi => of_decide_eq_true (List.all_eq_true.mp h i hi)
theorem isOk_of {neg : Bool} {o : CmpOp} (h : isOk neg o = true) : o = if neg then .IsNot else .Is := by
  cases o <;> cases neg <;> first | rfl | cases h
theorem inOk_of {neg : Bool} {o : CmpOp} (h : inOk neg o = true) : o = if neg then .NotIn else .In := by
  cases o <;> cases neg <;> first | rfl | cases h
theorem CtxE.blk (C : CtxE g mP S nn k N sc fa X) (s : Shared) (H : Hp) (scope : Scope) (Cc : Addr) (cl : List (Str × Addr)) (fp : List Addr) : CtxE g mP S nn k N (relS scope sc) false (X.blk s H scope (compEnvC scope cl Cc X.env) fp) :=
  ⟨C.eN, (by rw [← C.esc]; rfl), (fun h => by cases h), ⟨C.calls.fx, C.calls.fns, C.calls.room⟩⟩
structure Snd (g : Gc) (mP : Mu.Prog) (S : Sg) (nn k : Nat) (N : List Str) (hx : Option Mu.Exn) (n : Nat) : Prop where
  e : ∀ {X : Cx} {W : WX} {sc : Scope} {fa : Bool}, Good g X W → CtxE g mP S nn k N sc fa X → ∀ e x, chkE S N n sc e x = true → PE X x (tE g W (cx mP nn hx) e)
  t : ∀ {X : Cx} {W : WX} {sc : Scope} {fa : Bool}, Good g X W → CtxE g mP S nn k N sc fa X → ∀ e x, chkT S N n sc e x = true → PT X x (tT g W (cx mP nn hx) e) ∧ ∀ op l p, x = .BoolOp op l p → PW X x (tT g W (cx mP nn hx) e)
  es : ∀ {X : Cx} {W : WX} {sc : Scope} {fa : Bool}, Good g X W → CtxE g mP S nn k N sc fa X → ∀ e x, chkEs S N n sc e x = true → PA X x (tA g W (cx mP nn hx) e)
  f : ∀ {X : Cx} {W : WX} {sc : Scope} {fa : Bool}, Good g X W → CtxE g mP S nn k N sc fa X → ∀ e x, chkF S N n sc e x = true → ∃ ts, FpOk g X W (cx mP nn hx) e x ts
  i : ∀ {X : Cx} {W : WX} {sc : Scope} {fa : Bool}, Good g X W → CtxE g mP S nn k N sc fa X → ∀ tg it x, chkI S N n sc tg it x = true → PI X tg x (tI g W (cx mP nn hx) it)
theorem es_nil {n : Nat} {es : Mu.Es} (h : chkEs S N n sc es [] = true) : es = .nil := by
  cases n with
  | zero => simp [chkEs] at h
  | succ n => cases es <;> simp [chkEs] at h ⊢
theorem disOk_of {p : XS → Expr → Bool} (hp : ∀ e x, p e x = true → PE X x (tE g W c e)) : ∀ {ks : List String} {es : Mu.Es} {keys : List (Option Expr)} {xs : List Expr}, disC p ks es keys xs = true → DisOk g X W c ks es keys xs ∧ ∀ k ∈ ks, (Mu.cp k).length ≤ sizeLine := by
  intro ks es keys xs h
  induction ks generalizing es keys xs with
  | nil =>
    unfold disC at h
    split at h
    · exact ⟨.nil, fun k hk => by simp at hk⟩
    · rename_i e; cases e
    · cases h
  | cons k ks ih =>
    unfold disC at h
    split at h
    · rename_i e; cases e
    · rename_i k2 ks2 e es2 z j pz keys2 x xs2 eq
      cases eq
      simp only [Bool.and_eq_true, decide_eq_true_eq] at h
      obtain ⟨⟨⟨h1, h2⟩, h3⟩, h4⟩ := h
      cases eqN_of h1
      obtain ⟨q1, q2⟩ := ih h4
      refine ⟨.cons (hp _ _ h3) q1, fun y hy => ?_⟩
      rcases List.mem_cons.mp hy with rfl | hy
      · exact Nat.le_trans h2 (by rw [sl_num]; decide)
      · exact q2 y hy
    · cases h
theorem snd_e {n : Nat} (F : Fk g mP S) (ih : Snd g mP S nn k N hx n) (G : Good g X W) (C : CtxE g mP S nn k N sc fa X) (e : XS) (x : Expr) (h : chkE S N (n + 1) sc e x = true) : PE X x (tE g W (cx mP nn hx) e) := by
  have ee := ih.e G C
  have ees := ih.es G C
  have esc := C.esc
  cases e with
  | v i =>
    simp only [chkE] at h
    split at h
    · simp only [Bool.and_eq_true] at h
      obtain ⟨⟨⟨h1, h2⟩, h3⟩, h4⟩ := h
      exact e_v (slot_of C h1) (by rw [esc]; exact isVis_of h2) (dbg_no h3) (by simpa using h4)
    · cases h
  | int i =>
    simp only [chkE] at h
    split at h
    · cases of_decide_eq_true h; exact e_int
    · cases h
  | bl b =>
    simp only [chkE] at h
    split at h
    · cases (beq_iff_eq.mp h); exact e_bl
    · cases h
  | non =>
    simp only [chkE] at h
    split at h
    · exact e_non
    · cases h
  | str s =>
    simp only [chkE] at h
    split at h
    · simp only [Bool.and_eq_true] at h
      rw [eqN_of h.1]
      exact e_str (Nat.le_trans (of_decide_eq_true h.2) (by rw [sl_num]; decide))
    · cases h
  | glob z =>
    simp only [chkE] at h
    split at h
    · simp only [Bool.and_eq_true] at h
      obtain ⟨⟨⟨h1, h2⟩, h3⟩, h4⟩ := h
      cases eqN_of h1
      exact e_glob G (isGl_of esc h2) (F.gl z (inL_of h4)) (dbg_no h3)
    · cases h
  | gin neg a z =>
    simp only [chkE] at h
    split at h
    · simp only [Bool.and_eq_true] at h
      obtain ⟨⟨⟨⟨⟨h0, h1⟩, h2⟩, h3⟩, h4⟩, h5⟩ := h
      cases eqN_of h1
      rw [inOk_of h0]
      exact e_gin G (F.gds z (inL_of h4)) (isGl_of esc h2) (dbg_no h3) (ee _ _ h5)
    · cases h
  | gat z a =>
    simp only [chkE] at h
    split at h
    · simp only [Bool.and_eq_true] at h
      obtain ⟨⟨⟨⟨⟨h1, h2⟩, h3⟩, h4⟩, h5⟩, h6⟩ := h
      cases eqN_of h1
      exact e_gat G (F.gds z (inL_of h4)) (isGl_of esc h2) (dbg_no h3) (plainIx_of h5) (ee _ _ h6)
    · cases h
  | tup es =>
    simp only [chkE] at h
    split at h
    · simp only [Bool.and_eq_true] at h
      exact e_tup (ees _ _ h.1) (of_decide_eq_true h.2)
    · cases h
  | lst es =>
    simp only [chkE] at h
    split at h
    · simp only [Bool.and_eq_true] at h
      exact e_lst (ees _ _ h.1) (of_decide_eq_true h.2)
    · cases h
  | dct tk ks es =>
    simp only [chkE] at h
    split at h
    · exact e_dct0 G
    · simp only [Bool.and_eq_true, decide_eq_true_eq] at h
      obtain ⟨⟨⟨h1, h2⟩, h3⟩, h4⟩ := h
      obtain ⟨q1, q2⟩ := disOk_of (fun e x h => ee e x h) h4
      have h1' : tk = false := by simpa using h1
      subst h1'
      exact e_dctD q1 h2 (by simp) h3 q2
    · cases h
  | bin op a b =>
    simp only [chkE] at h
    split at h
    · simp only [Bool.and_eq_true] at h
      obtain ⟨⟨h1, h2⟩, h3⟩ := h
      cases of_decide_eq_true h1
      exact e_bin G (ee _ _ h2) (ee _ _ h3)
    · cases h
  | cmp op a b =>
    simp only [chkE] at h
    split at h
    · simp only [Bool.and_eq_true] at h
      obtain ⟨⟨⟨h1, h2⟩, h3⟩, h4⟩ := h
      cases of_decide_eq_true h1
      exact e_cmp G (ee _ _ h2) (ee _ _ h3) (by simpa using h4)
    · cases h
  | isc neg kk a =>
    simp only [chkE] at h
    split at h
    · simp only [Bool.and_eq_true] at h
      obtain ⟨⟨h1, h2⟩, h3⟩ := h
      rw [isOk_of h1, of_decide_eq_true h2]
      exact e_isc (ee _ _ h3)
    · cases h
  | and a b =>
    simp only [chkE] at h
    split at h
    · simp only [Bool.and_eq_true] at h
      obtain ⟨h1, h2⟩ := h
      refine e_and G (ee _ _ h1) ?_
      split at h2
      · exact e_bone (ee _ _ h2)
      · exact ee _ _ h2
    · cases h
  | or a b =>
    simp only [chkE] at h
    split at h
    · simp only [Bool.and_eq_true] at h
      obtain ⟨h1, h2⟩ := h
      refine e_or G (ee _ _ h1) ?_
      split at h2
      · exact e_bone (ee _ _ h2)
      · exact ee _ _ h2
    · cases h
  | not a =>
    simp only [chkE] at h
    split at h
    · exact e_not G (ee _ _ h)
    · cases h
  | ife kk a b =>
    simp only [chkE] at h
    split at h
    · simp only [Bool.and_eq_true] at h
      obtain ⟨⟨h1, h2⟩, h3⟩ := h
      exact e_ife (ih.t G C _ _ h1).1 (ee _ _ h2) (ee _ _ h3)
    · cases h
  | neg a =>
    simp only [chkE] at h
    split at h
    · exact e_neg (ee _ _ h)
    · cases h
  | ix a i =>
    simp only [chkE] at h
    split at h
    · simp only [Bool.and_eq_true] at h
      obtain ⟨⟨h1, h2⟩, h3⟩ := h
      exact e_ix G (ee _ _ h2) (ee _ _ h3) (plainIx_of h1)
    · cases h
  | cut a lo hi u v =>
    simp only [chkE] at h
    split at h
    · rename_i xa l hh p1 p2
      simp only [Bool.and_eq_true] at h
      obtain ⟨⟨h1, h2⟩, h3⟩ := h
      have e1 : ∃ y, l = partE lo y ∧ (lo.isSome = true → PE X y (tE g W (cx mP nn hx) u)) := by
        split at h2
        · exact ⟨_, rfl, fun _ => ee _ _ h2⟩
        · exact ⟨xa, rfl, fun z => by cases z⟩
        · cases h2
      have e2 : ∃ y, hh = partE hi y ∧ (hi.isSome = true → PE X y (tE g W (cx mP nn hx) v)) := by
        split at h3
        · exact ⟨_, rfl, fun _ => ee _ _ h3⟩
        · exact ⟨xa, rfl, fun z => by cases z⟩
        · cases h3
      obtain ⟨y1, rfl, q1⟩ := e1
      obtain ⟨y2, rfl, q2⟩ := e2
      exact e_cut G (ee _ _ h1) q1 q2
    · cases h
  | fld a f =>
    simp only [chkE] at h
    split at h
    · simp only [Bool.and_eq_true] at h
      obtain ⟨⟨⟨h1, h2⟩, h3⟩, h4⟩ := h
      cases eqN_of h1
      exact e_fld G C.calls.fx (ee _ _ h4) (by rw [F.fl]; exact inL_of h2) (base_of h3)
    · cases h
  | call f es =>
    simp only [chkE] at h
    split at h
    · rename_i y p xs pos
      simp only [Bool.and_eq_true] at h
      obtain ⟨⟨⟨⟨⟨h1, h2⟩, h3⟩, h4⟩, h5⟩, h6⟩ := h
      cases eqN_of h1
      cases xs with
      | nil =>
        cases es_nil h6
        exact e_call0 G C.calls (isGl_of esc h2) (inL_of h4) (dbg_no h3)
      | cons x xs => exact e_call G C.calls (isGl_of esc h2) (inL_of h4) (dbg_no h3) h5 (ees _ _ h6)
    · cases h
  | make f es =>
    simp only [chkE] at h
    split at h
    · rename_i y p xs pos
      simp only [Bool.and_eq_true] at h
      obtain ⟨⟨⟨⟨⟨h1, h2⟩, h3⟩, h4⟩, h5⟩, h6⟩ := h
      cases eqN_of h1
      cases xs with
      | nil =>
        cases es_nil h6
        exact e_make0 G C.calls (isGl_of esc h2) (by rw [F.cs]; exact inL_of h4) (dbg_no h3)
      | cons x xs => exact e_make G C.calls (isGl_of esc h2) (by rw [F.cs]; exact inL_of h4) (dbg_no h3) h5 (ees _ _ h6)
    · cases h
  | meth o m es =>
    simp only [chkE] at h
    split at h
    · rename_i xo y ap xs p
      simp only [Bool.and_eq_true] at h
      obtain ⟨⟨⟨⟨⟨⟨⟨h1, h2⟩, h3⟩, h4⟩, h5⟩, h6⟩, h7⟩, h8⟩ := h
      cases eqN_of h1
      cases xs with
      | nil =>
        cases es_nil h8
        exact e_meth0 G C.calls (inL_of h2) (base_of h3) h6 (ee _ _ h7)
      | cons x xs => exact e_meth G C.calls (inL_of h2) (base_of h3) h4 (of_decide_eq_true h5) h6 (ee _ _ h7) (ees _ _ h8)
    · cases h
  | bm o m es =>
    simp only [chkE] at h
    split at h
    · rename_i xo y ap xs p
      simp only [Bool.and_eq_true] at h
      obtain ⟨⟨⟨⟨⟨⟨h1, h3⟩, h4⟩, h5⟩, h6⟩, h7⟩, h8⟩ := h
      cases eqN_of h1
      cases xs with
      | nil =>
        cases es_nil h8
        exact e_bm0 G (base_of h3) h6 (ee _ _ h7)
      | cons x xs => exact e_bm G (base_of h3) h4 (of_decide_eq_true h5) h6 (ee _ _ h7) (ees _ _ h8)
    · cases h
  | blt f es =>
    simp only [chkE] at h
    split at h
    · simp only [Bool.and_eq_true] at h
      obtain ⟨⟨⟨⟨h1, h2⟩, h3⟩, h4⟩, h5⟩ := h
      cases eqN_of h1
      exact e_blt G (isGl_of esc h2) (F.bl _ (inL_of h3)) h4 (ees _ _ h5)
    · cases h
  | isa a t =>
    simp only [chkE] at h
    split at h
    · simp only [Bool.and_eq_true] at h
      obtain ⟨⟨⟨⟨⟨⟨⟨h1, h2⟩, h3⟩, h4⟩, h5⟩, h6⟩, h7⟩, h8⟩ := h
      cases eqN_of h1
      cases eqN_of h4
      exact e_isa G (isGl_of esc h2) (F.bl _ (inL_of h3)) (isGl_of esc h5) (F.bl _ (inL_of h6)) h7 (ee _ _ h8)
    · cases h
  | fstr es =>
    simp only [chkE] at h
    split at h
    · simp only [Bool.and_eq_true] at h
      obtain ⟨ts, q⟩ := ih.f G C _ _ h.2
      exact e_fstr q (of_decide_eq_true h.1)
    · cases h
  | lkE e a =>
    simp only [chkE] at h
    exact e_lk (ih.e G C _ _ h)
  | lc t it o cond elt =>
    simp only [chkE] at h
    split at h
    · rename_i xe tg iter ifs scope pos
      simp only [Bool.and_eq_true] at h
      obtain ⟨⟨⟨⟨⟨⟨⟨h1, h2⟩, h3⟩, h4⟩, h5⟩, h6⟩, h7⟩, h8⟩ := h
      refine e_lc (own := ownOf N scope) G (ih.i G C _ _ _ h5) (by rw [C.eN, esc]; exact blkOk_by h1) (sub_of h2) (sub_of h3) (fun s H Cc cl fp => tg_of (C.blk s H scope Cc cl fp) h4) (fun s H Cc cl fp => ?_)
        (fun s H Cc cl fp => ih.e (G.blk s H scope _ fp) (C.blk s H scope Cc cl fp) _ _ h7) (notSet_of h6)
      split at h8
      · exact .nil
      · exact .one (ih.t (G.blk s H scope _ fp) (C.blk s H scope Cc cl fp) _ _ h8).1
      · cases h8
    · cases h
  | tupS es e => simp [chkE] at h
  | hfld f => simp [chkE] at h
  | hisa f => simp [chkE] at h
  | fmt a => simp [chkE] at h
end
end Ad
end

section
set_option Elab.async false
set_option linter.all false
set_option maxRecDepth 100000
set_option maxHeartbeats 8000000
namespace Ad
open PySem PySem.Spec PyProof.Rows L2
section
variable {g : Gc} {X : Cx} {W : WX} {mP : Mu.Prog} {S : Sg} {nn k : Nat} {N : List Str} {sc : Scope} {fa : Bool} {hx : Option Mu.Exn}
theorem noBool {x : Expr} {P : Prop} (h : valT x = true) : ∀ op l p, x = .BoolOp op l p → P := by
  rintro op l p rfl
  cases h
theorem snd_t {n : Nat} (F : Fk g mP S) (ih : Snd g mP S nn k N hx n) (G : Good g X W) (C : CtxE g mP S nn k N sc fa X) (e : XS) (x : Expr) (h : chkT S N (n + 1) sc e x = true) : PT X x (tT g W (cx mP nn hx) e) ∧ ∀ op l p, x = .BoolOp op l p → PW X x (tT g W (cx mP nn hx) e) := by
  have ee := ih.e G C
  have tt := ih.t G C
  have esc := C.esc
  have gen : (valT x && chkE S N n sc e x) = true → PT X x (tT g W (cx mP nn hx) e) ∧ ∀ op l p, x = .BoolOp op l p → PW X x (tT g W (cx mP nn hx) e) := by
    intro h
    simp only [Bool.and_eq_true] at h
    exact ⟨t_val G (ee _ _ h.2) (valT_of h.1), noBool h.1⟩
  cases e with
  | cmp op a b =>
    simp only [chkT] at h
    split at h
    · simp only [Bool.and_eq_true] at h
      obtain ⟨⟨⟨h1, h2⟩, h3⟩, h4⟩ := h
      cases of_decide_eq_true h1
      exact ⟨t_cmp G (ee _ _ h2) (ee _ _ h3) (by simpa using h4), fun _ _ _ z => by cases z⟩
    · cases h
  | isc neg kk a =>
    simp only [chkT] at h
    split at h
    · simp only [Bool.and_eq_true] at h
      obtain ⟨⟨h1, h2⟩, h3⟩ := h
      rw [isOk_of h1, of_decide_eq_true h2]
      exact ⟨t_isc (ee _ _ h3), fun _ _ _ z => by cases z⟩
    · cases h
  | gin neg a z =>
    simp only [chkT] at h
    split at h
    · simp only [Bool.and_eq_true] at h
      obtain ⟨⟨⟨⟨⟨h0, h1⟩, h2⟩, h3⟩, h4⟩, h5⟩ := h
      cases eqN_of h1
      rw [inOk_of h0]
      exact ⟨t_gin G (F.gds z (inL_of h4)) (isGl_of esc h2) (dbg_no h3) (ee _ _ h5), fun _ _ _ z => by cases z⟩
    · cases h
  | and a b =>
    simp only [chkT] at h
    split at h
    · rename_i xa y r p
      simp only [Bool.and_eq_true] at h
      obtain ⟨h1, h2⟩ := h
      have w : PW X (.BoolOp .And (xa :: y :: r) p) (tT g W (cx mP nn hx) (.and a b)) := by
        refine w_and (tt _ _ h1).1 ?_
        split at h2
        · exact pw_and1 (tt _ _ h2).1
        · exact (tt _ _ h2).2 _ _ _ rfl
      exact ⟨w.pt, fun _ _ _ z => w⟩
    · cases h
  | or a b =>
    simp only [chkT] at h
    split at h
    · rename_i xa y r p
      simp only [Bool.and_eq_true] at h
      obtain ⟨h1, h2⟩ := h
      have w : PW X (.BoolOp .Or (xa :: y :: r) p) (tT g W (cx mP nn hx) (.or a b)) := by
        refine w_or (tt _ _ h1).1 ?_
        split at h2
        · exact pw_or1 (tt _ _ h2).1
        · exact (tt _ _ h2).2 _ _ _ rfl
      exact ⟨w.pt, fun _ _ _ z => w⟩
    · cases h
  | not a =>
    simp only [chkT] at h
    split at h
    · exact ⟨t_not (tt _ _ h).1, fun _ _ _ z => by cases z⟩
    · cases h
  | _ =>
    simp only [chkT] at h
    exact gen h
theorem snd_es {n : Nat} (ih : Snd g mP S nn k N hx n) (G : Good g X W) (C : CtxE g mP S nn k N sc fa X) (e : Mu.Es) (x : List Expr) (h : chkEs S N (n + 1) sc e x = true) : PA X x (tA g W (cx mP nn hx) e) := by
  cases e with
  | nil =>
    simp only [chkEs] at h
    split at h
    · exact a_nil
    · cases h
  | cons e es =>
    simp only [chkEs] at h
    split at h
    · simp only [Bool.and_eq_true] at h
      exact a_cons (ih.e G C _ _ h.1.1) (ih.es G C _ _ h.1.2) (star_cons h.2 _).1
    · cases h
theorem snd_f {n : Nat} (ih : Snd g mP S nn k N hx n) (G : Good g X W) (C : CtxE g mP S nn k N sc fa X) (e : Mu.Es) (x : List Expr) (h : chkF S N (n + 1) sc e x = true) : ∃ ts, FpOk g X W (cx mP nn hx) e x ts := by
  simp only [chkF] at h
  split at h
  · split at h
    · exact ⟨_, .nil⟩
    · cases h
  · split at h
    · simp only [Bool.and_eq_true] at h
      obtain ⟨⟨h1, h2⟩, h3⟩ := h
      cases of_decide_eq_true h1
      obtain ⟨ts, q⟩ := ih.f G C _ _ h3
      exact ⟨_, .fmt (ih.e G C _ _ h2) q⟩
    · cases h
  · split at h
    · simp only [Bool.and_eq_true] at h
      obtain ⟨⟨h1, h2⟩, h3⟩ := h
      cases eqN_of h1
      obtain ⟨ts, q⟩ := ih.f G C _ _ h3
      exact ⟨_, .str (of_decide_eq_true h2) q⟩
    · cases h
  · cases h
theorem snd_i {n : Nat} (F : Fk g mP S) (ih : Snd g mP S nn k N hx n) (G : Good g X W) (C : CtxE g mP S nn k N sc fa X) (tg : Expr) (it : Mu.It) (x : Expr) (h : chkI S N (n + 1) sc tg it x = true) : PI X tg x (tI g W (cx mP nn hx) it) := by
  have ee := ih.e G C
  have esc := C.esc
  cases it with
  | seq a => simp only [chkI] at h; exact i_seq G (ee _ _ h)
  | vals a =>
    simp only [chkI] at h
    split at h
    · simp only [Bool.and_eq_true] at h
      obtain ⟨⟨⟨h1, h2⟩, h3⟩, h4⟩ := h
      cases eqN_of h1
      exact i_vals G (ee _ _ h4) (base_of h2) h3
    · cases h
  | rng1 a =>
    simp only [chkI] at h
    split at h
    · simp only [Bool.and_eq_true] at h
      obtain ⟨⟨⟨⟨h1, h2⟩, h3⟩, h4⟩, h5⟩ := h
      cases eqN_of h1
      exact i_rng1 G (isGl_of esc h2) (F.bl _ (inL_of h3)) h4 (ee _ _ h5)
    · cases h
  | rng2 a b =>
    simp only [chkI] at h
    split at h
    · simp only [Bool.and_eq_true] at h
      obtain ⟨⟨⟨⟨⟨h1, h2⟩, h3⟩, h4⟩, h5⟩, h6⟩ := h
      cases eqN_of h1
      exact i_rng2 G (isGl_of esc h2) (F.bl _ (inL_of h3)) h4 (ee _ _ h5) (ee _ _ h6)
    · cases h
  | enm a =>
    simp only [chkI] at h
    split at h
    · simp only [Bool.and_eq_true] at h
      obtain ⟨⟨⟨⟨h1, h2⟩, h3⟩, h4⟩, h5⟩ := h
      cases eqN_of h1
      exact i_enm G (isGl_of esc h2) (F.bl _ (inL_of h3)) h4 (ee _ _ h5)
    · cases h
  | zip a b =>
    simp only [chkI] at h
    split at h
    · simp only [Bool.and_eq_true] at h
      obtain ⟨⟨⟨⟨⟨h1, h2⟩, h3⟩, h4⟩, h5⟩, h6⟩ := h
      cases eqN_of h1
      exact i_zip G (isGl_of esc h2) (F.bl _ (inL_of h3)) h4 (ee _ _ h5) (ee _ _ h6)
    · cases h
theorem snd (F : Fk g mP S) : ∀ n, Snd g mP S nn k N hx n
  | 0 => ⟨fun _ _ e x h => by simp [chkE] at h, fun _ _ e x h => by simp [chkT] at h, fun _ _ e x h => by simp [chkEs] at h, fun _ _ e x h => by simp [chkF] at h, fun _ _ tg it x h => by simp [chkI] at h⟩
  | n + 1 => ⟨fun G C => snd_e F (snd F n) G C, fun G C => snd_t F (snd F n) G C, fun G C => snd_es (snd F n) G C, fun G C => snd_f (snd F n) G C, fun G C => snd_i F (snd F n) G C⟩
end
end Ad
end

section
set_option Elab.async false
set_option linter.all false
set_option maxRecDepth 100000
set_option maxHeartbeats 4000000
namespace Ad
open PySem PySem.Spec PyProof.Rows L2
/-- what is known of the exceptions' classes -/
structure Exs (g : Gc) : Prop where
  mg : ∀ x ∈ g.xs, g.mg (nm x) = some (.ref (g.xA x))
  ni : ∀ x ∈ g.xs, x ≠ "BadSchedule" → PySem.W.excIn g.K (g.xA x) He.veBase "ValueError.__new__" = true
  kp : ∀ x ∈ g.xs, PySem.W.keepIn g.K (.ref (g.xA x)) = true
  sb : ∀ x ∈ g.xs, PySem.W.subIn g.K (.ref (g.xA x)) (.type "BaseException") = some true
  ty : ∀ x ∈ g.xs, PySem.W.typeIn g.K (.ref (g.xA x)) = some (.type "type")
  em : ∀ x ∈ g.xs, ∀ y ∈ g.xs, PySem.W.exmOne g.K (.ref (g.xA x)) (.ref (g.xA y)) = some (Mu.excSub x y)
section
variable {g : Gc} {X : Cx} {W : WX} {c : Mu.Cx}
theorem mk_bare {C : Addr} {bB : List Value} {B nI iI : String} {x : Str} {p pos : Pos} (F : ExcBaseFacts B nI iI bB) (hq : PySem.W.excIn X.K C bB nI = true) (gC : X.mg x = some (.ref C)) (kC : PySem.W.keepIn X.K (.ref C) = true) (r : Raises X (.ref C)) (hg : Gl X x)
    (hd : (x == ("__debug__" : Str)) = false) : PMk X (.Call (.Name x p) [] [] pos) (fun _ H Q => Q (.ref C) none H) := by
  intro pins s σ H Q I q0
  refine wpAny_Call_Name_kw (ld_glob I hg gC ?_ hd)
  refine PySem.W.callWith_K0 I.kIn kC ?_
  show wpAny _ _ (call (.ref C) []) _ _ _
  obtain ⟨mm, nn, nm1, qn1, bs1, hd1, sn1, sb1, ab1, co1, dd1, z0, z1, z2, z3, z5, mN, hC, hN, hni, T⟩ := exc_obj I.kIn hq
  exact wpAny_call_exc_subT F T hC hN hni (fun h' e hm => mk_of I hm r q0 (I.hok.gone hm.new)) (Nat.zero_le _)
theorem s_rse0 {k : String} {b : Bool} {p pos pos' : Pos} (G : Good g X W) (T : Exs g) (hk : k ∈ g.xs) (hb : k ≠ "BadSchedule") (hg : Gl X (nm k)) (hd : (nm k == ("__debug__" : Str)) = false) :
    PS X (.Raise (some (.Call (.Name (nm k) p) [] [] pos)) none pos') (tSt g W c (.rse b k .nil)) := by
  have r : Raises X (.ref (g.xA k)) := raises_own (by rw [G.K]; exact T.sb k hk) (by rw [G.K]; exact T.ty k hk)
  refine PS_weak (ps_raise G.calm G.takes (mk_bare F.excBase_ValueError (by rw [G.K]; exact T.ni k hk hb) (by rw [G.mg]; exact T.mg k hk) (by rw [G.K]; exact T.kp k hk) r hg hd)) ?_
  rintro D σ H ⟨w, fr, rfl, hr, hf, h⟩
  rw [Mu.exec, Mu.evs] at h
  simp only [Mu.R.st_ok] at h
  exact h (.ref (g.xA k)) none σ w rfl .refl hr hf ⟨⟨rfl, hk⟩, .inl ⟨rfl, rfl⟩⟩
/-! ### try -/
/-- what Mu's clauses do, clause by clause, as ps_try_many wants it -/
def Wf : WX := fun _ _ _ _ => False
/-- a suite's reading: some exception is caught -/
def tSu (g : Gc) (c : Mu.Cx) (sb : Mu.Ss) (cls : Value) (d : Option Addr) : TS := fun D σ H => ∃ x w fr, w.H = H ∧ HR g w ∧ FR g.K w fr σ ∧ XR g w x cls d ∧ AftS g w (Mu.execs { c with hx := some x } fr w.ah sb) D Wf
def hsV (g : Gc) (c : Mu.Cx) : List (String × Mu.Ss) → List (Value × (Addr → Value → Option Addr → TS))
  | [] => []
  | (k, sb) :: r => (.ref (g.xA k), fun _ cls d => tSu g c sb cls d) :: hsV g c r
def hsM : List (String × Mu.Ss) → Mu.Hs
  | [] => .nil
  | (k, sb) :: r => .cons [k] none sb (hsM r)
theorem AftS.plain {w : Wd} {r : Mu.RS} {D : Ends} (h : AftS g w (r.suite none) D W) : AftS g w r D Wf := by
  cases r <;> first | exact h | exact h.elim
theorem many_of (T : Exs g) {x : Mu.Exn} {fr : Mu.Fr} {w : Wd} {D : Ends} {σ : L2.St} {cls : Value} {d : Option Addr} (hr : HR g w) (hf : FR g.K w fr σ) (xr : XR g w x cls d) : ∀ (l : List (String × Mu.Ss)), (∀ p ∈ l, p.1 ∈ g.xs) →
    AftS g w (Mu.execH { c with hx := some x } x fr w.ah (hsM l)) D W → wMany g.K W D (hsV g c l) cls d σ w.H
  | [], _, h => by
    rw [hsM, Mu.execH] at h
    exact h cls d σ w rfl .refl hr hf xr
  | (k, sb) :: r, hl, h => by
    rw [hsM, Mu.execH] at h
    have hk := hl _ (List.mem_cons_self ..)
    refine ⟨Mu.excSub x.cls k, by rw [xr.1.1]; exact T.em _ xr.1.2 _ hk, fun e a na => ?_, fun e => ?_⟩
    · rw [if_pos (by simp [e])] at h
      exact ⟨x, w, fr, rfl, hr, hf, xr, h.plain⟩
    · rw [if_neg (by simp [e])] at h
      exact many_of T hr hf xr r (fun p hp => hl p (List.mem_cons_of_mem _ hp)) h
theorem s_try {body : List Stmt} {h₀ : ExceptHandler} {hds : List ExceptHandler} {pos : Pos} {sb : Mu.Ss} {l : List (String × Mu.Ss)} (G : GoodS g X W) (T : Exs g) (hs : X.stack = X.env :: X.outer) (hf : X.env.frame = some X.env.locals)
    (hb : ∀ (V : WX) (pn : List (Addr × Obj)) (xe : Value → Shared → Prop), GoodS g (X.tr pn xe) V → PSs (X.tr pn xe) body (tSs g V c sb)) (hl : ∀ p ∈ l, p.1 ∈ g.xs) (hh : HdsOk X (h₀ :: hds) (hsV g c l)) :
    PS X (.Try body (h₀ :: hds) [] [] pos) (tSt g W c (.try_ sb (hsM l))) := by
  refine PS_weak (ps_try_many (tb := fun V => tSs g V c sb) hs hf G.takes (fun V pn xe tk po => hb V pn xe ⟨⟨⟨G.P, G.w, G.K, G.mg, G.base, G.nd, tk, G.un⟩, G.calm⟩, po⟩) hh) ?_
  rintro D σ H ⟨w, fr, rfl, hr, hf, h⟩
  refine ⟨w, fr, rfl, hr, hf, ?_⟩
  rw [Mu.exec] at h
  cases e : Mu.execs c fr w.ah sb with
  | ex x fr' ah' =>
    rw [e] at h
    intro cls d σ' w' ea le hr' hf' xr
    subst ea
    rw [G.K]
    exact many_of T hr' hf' xr l hl (AftS.later h le)
  | nx _ _ => rw [e] at h; exact h
  | rt _ _ => rw [e] at h; exact h
  | bk _ _ => rw [e] at h; exact h
  | ct _ _ => rw [e] at h; exact h
  | bad => rw [e] at h; exact h.elim
end
end Ad
end

section
set_option Elab.async false
set_option linter.all false
set_option maxRecDepth 100000
set_option maxHeartbeats 4000000
namespace Ad
open PySem PySem.Spec PyProof.Rows L2
/-! except suites: expressions that change nothing -/
/-- what stands while a suite looks -/
abbrev KW := L2.St → Wd → Prop
def tP (g : Gc) (c : Mu.Cx) (Z : KW) (e : XS) : TE := fun σ H Q => ∃ w fr, w.H = H ∧ HR g w ∧ FR g.K w fr σ ∧ Z σ w ∧ ∃ dd, Mu.ev c fr w.ah e = .ok dd w.ah ∧ ∀ v, VR g.K w dd v → Q v w.H
/-- a test -/
def tPT (g : Gc) (c : Mu.Cx) (Z : KW) (e : XS) : TT := fun σ H Q => ∃ w fr, w.H = H ∧ HR g w ∧ FR g.K w fr σ ∧ Z σ w ∧ ∃ t, Mu.evT c fr w.ah e = .ok t w.ah ∧ Q t w.H
/-- the state of a caught exception a: its slot, its fields -/
def Zx (g : Gc) (i : Nat) (a : Addr) (x : Mu.Exn) (cls : Value) (d : Option Addr) : KW := fun σ w => σ[i]? = some (some (.ref a)) ∧ XR g w x cls d
section
variable {g : Gc} {X : Cx} {W : WX} {c : Mu.Cx} {Z : KW}
theorem p_v {i : Nat} {x : Str} {pos : Pos} (hN : X.N[i]? = some x) (hv : Vis X.env.scope x) (hd : (x == ("__debug__" : Str)) = false) (hcd : (x == ("__classdict__" : Str)) = false) : PE X (.Name x pos) (tP g c Z (.v i)) := by
  refine PE_weak (pe_var hN hv hd hcd) ?_
  rintro σ H Q ⟨w, fr, rfl, hr, hf, k0, d, e, h⟩
  rw [Mu.ev] at e
  have e' : Mu.vget fr i = some d := by
    cases q : Mu.vget fr i with
    | none => rw [q] at e; cases e
    | some z => rw [q] at e; cases e; rfl
  obtain ⟨v, e1, r⟩ := hf.get e'
  exact ⟨v, e1, h v r⟩
theorem p_int {i : Int} {j : Nat} {pos : Pos} : PE X (.Constant (.int i) j pos) (tP g c Z (.int i)) :=
  PE_weak pe_int (by rintro σ H Q ⟨w, fr, rfl, hr, hf, k0, d, e, h⟩; rw [Mu.ev] at e; cases e; exact h _ rfl)
theorem p_bl {b : Bool} {j : Nat} {pos : Pos} : PE X (.Constant (.bool b) j pos) (tP g c Z (.bl b)) :=
  PE_weak pe_bl (by rintro σ H Q ⟨w, fr, rfl, hr, hf, k0, d, e, h⟩; rw [Mu.ev] at e; cases e; exact h _ rfl)
theorem p_non {j : Nat} {pos : Pos} : PE X (.Constant .none j pos) (tP g c Z .non) :=
  PE_weak pe_non (by rintro σ H Q ⟨w, fr, rfl, hr, hf, k0, d, e, h⟩; rw [Mu.ev] at e; cases e; exact h _ rfl)
theorem p_str {s : String} {j : Nat} {pos : Pos} (hl : (Mu.cp s).length ≤ sizeLine) : PE X (.Constant (.str (nm s)) j pos) (tP g c Z (.str s)) :=
  PE_weak pe_str (by rintro σ H Q ⟨w, fr, rfl, hr, hf, k0, d, e, h⟩; rw [Mu.ev] at e; cases e; exact h _ ⟨⟨hl, cp_ok s⟩, by rw [nm_cp]⟩)
/-- e.line, e.reason -/
theorem p_hfld {i : Nat} {a : Addr} {x : Mu.Exn} {cls : Value} {d : Option Addr} {oe : Obj} {pn : List (Addr × Obj)} {y : Str} {f : String} {p pos : Pos} (G : GoodH g X W) (T : XfC g.K (g.xA "BadSchedule")) (hno : PySem.W.findIn g.K (.ref (g.xA "BadSchedule")) (nm f) = some none)
    (hz : Zc cls d oe) (hfs : ∃ vs, oe.data = .fields vs) (hN : X.N[i]? = some y) (hv : Vis X.env.scope y) (hd : (y == ("__debug__" : Str)) = false) (hcd : (y == ("__classdict__" : Str)) = false) :
    PE (X.suite a ((a, oe) :: pn)) (.Attribute (.Name y p) (nm f) pos) (tP g { c with hx := some x } (Zx g i a x cls d) (.hfld f)) := by
  rw [← G.K] at T hno
  refine PE_weak (pe_xf T hno hz hfs (pe_var (X := X.suite a ((a, oe) :: pn)) hN hv hd hcd) rfl) ?_
  rintro σ H Q ⟨w, fr, rfl, hr, hf, ⟨k1, k2, k3⟩, dd, e, h⟩
  rw [Mu.ev] at e
  have e' : Mu.fget f x.fs = some dd := by
    cases q : Mu.fget f x.fs with
    | none => simp only [Option.bind_some, q] at e; cases e
    | some z => simp only [Option.bind_some, q] at e; cases e; rfl
  rcases k3 with ⟨k3, _⟩ | ⟨kc, l, r, da, gs, u, v, k4, k5, k6, k7, k8, k9, k10⟩
  · rw [k3] at e'; cases e'
  · refine ⟨_, k1, rfl, by rw [k2.1, kc], da, gs, ?_⟩
    rw [k4] at e'
    by_cases q1 : f = "line"
    · subst q1
      have : dd = l := by simpa [Mu.fget] using e'.symm
      subst this
      exact ⟨u, k5, k6, k7, h u k8⟩
    · by_cases q2 : f = "reason"
      · subst q2
        have : dd = r := by simpa [Mu.fget] using e'.symm
        subst this
        exact ⟨v, k5, k6, k9, h v k10⟩
      · simp [Mu.fget, q1, q2] at e'
theorem p_cmp {op : Mu.COp} {a b : XS} {x y : Expr} {pos : Pos} (G : GoodH g X W) (ha : PE X x (tP g c Z a)) (hb : PE X y (tP g c Z b)) (hm : behindInMarks (cA op) y = false)
    (pa : ∀ fr h d h', Mu.ev c fr h a = .ok d h' → h' = h) (pb : ∀ fr h d h', Mu.ev c fr h b = .ok d h' → h' = h) : PE X (.Compare x [cA op] [y] pos) (tP g c Z (.cmp op a b)) := by
  refine PE_weak (pe_cmpR (op_cmpT G op) ha hb hm) ?_
  rintro σ H Q ⟨w, fr, rfl, hr, hf, k0, dd, e, h⟩
  rw [Mu.ev] at e
  cases ea : Mu.ev c fr w.ah a with
  | ok da ah1 =>
    obtain rfl := pa _ _ _ _ ea
    rw [ea] at e; simp only [Mu.R.bind_ok] at e
    cases eb : Mu.ev c fr w.ah b with
    | ok db ah2 =>
      obtain rfl := pb _ _ _ _ eb
      rw [eb] at e; simp only [Mu.R.bind_ok] at e
      refine ⟨w, fr, rfl, hr, hf, k0, da, ea, fun v1 r1 => ⟨w, fr, rfl, hr, hf, k0, db, eb, fun v2 r2 => ?_⟩⟩
      unfold Mu.cmpR at e
      cases et : Mu.cmpO op w.ah da db with
      | none => rw [et] at e; cases e
      | some t =>
        rw [et] at e; simp only [Mu.opt_some, Mu.R.bind_ok] at e
        cases e
        exact ⟨da, db, w, t, rfl, hr, r1, r2, et, h _ rfl⟩
    | ex x2 h2 => rw [eb] at e; cases e
    | bad => rw [eb] at e; cases e
  | ex x2 h2 => rw [ea] at e; cases e
  | bad => rw [ea] at e; cases e
/-- isinstance(e, C), e without fields -/
theorem p_hisa {i : Nat} {a : Addr} {x : Mu.Exn} {cls : Value} {oe : Obj} {pn : List (Addr × Obj)} {y : Str} {k : String} {p p1 p2 pos : Pos} (G : GoodH g X W) (T : Exs g) (hk : k ∈ g.xs) (TE : ∀ z ∈ g.xs, ExcC g.K (g.xA z)) (TK : ∀ z ∈ g.xs, ∀ z' ∈ g.xs, PySem.W.kitOne g.K (.ref (g.xA z)) (.ref (g.xA z')) = some (Mu.excSub z z'))
    (hz : Zc cls none oe) (hfs : ∃ vs, oe.data = .fields vs) (hN : X.N[i]? = some y) (hv : Vis X.env.scope y) (hd : (y == ("__debug__" : Str)) = false) (hcd : (y == ("__classdict__" : Str)) = false)
    (hg : Gl X (nm "isinstance")) (hm : g.mg (nm "isinstance") = none) (hg2 : Gl X (nm k)) (hd2 : (nm k == ("__debug__" : Str)) = false) (hx : x.cls ∈ g.xs) (ec : cls = .ref (g.xA x.cls)) :
    PE (X.suite a ((a, oe) :: pn)) (.Call (.Name (nm "isinstance") p1) [.Name y p, .Name (nm k) p2] [] pos) (tP g { c with hx := some x } (Zx g i a x cls none) (.hisa k)) := by
  subst ec
  rw [← G.mg] at hm
  have hC : PE (X.suite a ((a, oe) :: pn)) (.Name (nm k) p2) (tC (.ref (g.xA k))) := pe_glob (X := X.suite a ((a, oe) :: pn)) (v := .ref (g.xA k)) hg2 (by show X.mg (nm k) = _; rw [G.mg]; exact T.mg k hk) rfl hd2
  have hargs : PA (X.suite a ((a, oe) :: pn)) [.Name y p, .Name (nm k) p2] (tCons (tVar i) (tCons (tC (.ref (g.xA k))) tNil)) := pa_cons (pe_var (X := X.suite a ((a, oe) :: pn)) hN hv hd hcd) (pa_cons hC pa_nil rfl) rfl
  have hE : ExcC X.K (g.xA x.cls) := by rw [G.K]; exact TE _ hx
  refine PE_weak (pe_callB (call_isE (X := X) (pn := pn) hE hz hfs) hg hm (by kernel_rfl) hargs (by decide +kernel) (by decide +kernel) rfl rfl) ?_
  rintro σ H Q ⟨w, fr, rfl, hr, hf, ⟨k1, k2⟩, dd, e, h⟩
  rw [Mu.ev] at e
  cases e
  refine ⟨_, k1, ?_⟩
  exact ⟨.ref (g.xA k), .ref (g.xA k), Mu.excSub x.cls k, rfl, fun u r => r, by rw [G.K]; exact TK _ hx _ hk, h _ rfl⟩
end
end Ad
end

section
set_option Elab.async false
set_option linter.all false
set_option maxRecDepth 100000
set_option maxHeartbeats 4000000
namespace Ad
open PySem PySem.Spec PyProof.Rows L2
/-! except suites: tests, statements -/
def pureX : XS → Bool
  | .v _ => true
  | .int _ => true
  | .bl _ => true
  | .str _ => true
  | .non => true
  | .hfld _ => true
  | .hisa _ => true
  | .isa a _ => pureX a
  | .cmp _ a b => pureX a && pureX b
  | .or a b => pureX a && pureX b
  | .and a b => pureX a && pureX b
  | _ => false
def Still (c : Mu.Cx) (e : XS) : Prop := ∀ fr h, (∃ d, Mu.ev c fr h e = .ok d h) ∨ Mu.ev c fr h e = .bad
section
variable {g : Gc} {X : Cx} {W : WX} {c : Mu.Cx} {Z : KW}
theorem opt_still {o : Option MD} {h : Mu.Hp} : (∃ d, Mu.opt o h = .ok d h) ∨ Mu.opt o h = .bad := by
  cases o with
  | none => exact .inr rfl
  | some d => exact .inl ⟨d, rfl⟩
theorem still : ∀ e : XS, pureX e = true → Still c e
  | .v i, _, fr, h => by rw [Mu.ev]; exact opt_still
  | .int i, _, fr, h => by rw [Mu.ev]; exact .inl ⟨_, rfl⟩
  | .bl i, _, fr, h => by rw [Mu.ev]; exact .inl ⟨_, rfl⟩
  | .str i, _, fr, h => by rw [Mu.ev]; exact .inl ⟨_, rfl⟩
  | .non, _, fr, h => by rw [Mu.ev]; exact .inl ⟨_, rfl⟩
  | .hfld f, _, fr, h => by rw [Mu.ev]; exact opt_still
  | .hisa f, _, fr, h => by rw [Mu.ev]; exact opt_still
  | .isa a t, p, fr, h => by
    rw [Mu.ev]
    rcases still a p fr h with ⟨d, e⟩ | e
    · rw [e, Mu.R.bind_ok]
      cases Mu.isaR h d t with
      | none => exact .inr rfl
      | some b => exact .inl ⟨_, rfl⟩
    · rw [e]; exact .inr rfl
  | .cmp op a b, p, fr, h => by
    simp only [pureX, Bool.and_eq_true] at p
    rw [Mu.ev]
    rcases still a p.1 fr h with ⟨d, e⟩ | e
    · rw [e, Mu.R.bind_ok]
      rcases still b p.2 fr h with ⟨d2, e⟩ | e
      · rw [e, Mu.R.bind_ok]
        unfold Mu.cmpR
        cases Mu.cmpO op h d d2 with
        | none => exact .inr rfl
        | some t => exact .inl ⟨_, rfl⟩
      · rw [e]; exact .inr rfl
    · rw [e]; exact .inr rfl
  | .or a b, p, fr, h => by
    simp only [pureX, Bool.and_eq_true] at p
    rw [Mu.ev]
    rcases still a p.1 fr h with ⟨d, e⟩ | e
    · rw [e, Mu.R.bind_ok]
      cases Mu.truth h d with
      | none => exact .inr rfl
      | some t =>
        simp only [Mu.opt_some, Mu.R.bind_ok]
        cases t with
        | true => exact .inl ⟨_, rfl⟩
        | false => exact still b p.2 fr h
    · rw [e]; exact .inr rfl
  | .and a b, p, fr, h => by
    simp only [pureX, Bool.and_eq_true] at p
    rw [Mu.ev]
    rcases still a p.1 fr h with ⟨d, e⟩ | e
    · rw [e, Mu.R.bind_ok]
      cases Mu.truth h d with
      | none => exact .inr rfl
      | some t =>
        simp only [Mu.opt_some, Mu.R.bind_ok]
        cases t with
        | false => exact .inl ⟨_, rfl⟩
        | true => exact still b p.2 fr h
    · rw [e]; exact .inr rfl
theorem Still.same {e : XS} (s : Still c e) {fr : Mu.Fr} {h h' : Mu.Hp} {d : MD} (q : Mu.ev c fr h e = .ok d h') : h' = h := by
  rcases s fr h with ⟨d2, e2⟩ | e2
  · rw [e2] at q; cases q; rfl
  · rw [e2] at q; cases q
def tPS (g : Gc) (c : Mu.Cx) (Z : KW) (s : Mu.S) : TS := fun D σ H => ∃ w fr, w.H = H ∧ HR g w ∧ FR g.K w fr σ ∧ Z σ w ∧ AftS g w (Mu.exec c fr w.ah s) D Wf
def tPSs (g : Gc) (c : Mu.Cx) (Z : KW) (s : Mu.Ss) : TS := fun D σ H => ∃ w fr, w.H = H ∧ HR g w ∧ FR g.K w fr σ ∧ Z σ w ∧ AftS g w (Mu.execs c fr w.ah s) D Wf
theorem u_ret {e : Expr} {a : XS} {pos : Pos} (he : PE X e (tP g c Z a)) (st : Still c a) : PS X (.Return (some e) pos) (tPS g c Z (.ret a)) := PS_weak (ps_ret he) (by
  rintro D σ H ⟨w, fr, rfl, hr, hf, k0, h⟩
  rw [Mu.exec] at h
  rcases st fr w.ah with ⟨d, e1⟩ | e1
  · rw [e1] at h
    exact ⟨w, fr, rfl, hr, hf, k0, d, e1, fun v r => h v w rfl .refl hr r⟩
  · rw [e1] at h; exact h.elim)
/-- a statement that needs nothing of the caught exception -/
theorem u_any {x : Stmt} {s : Mu.S} (h : PS X x (tSt g Wf c s)) : PS X x (tPS g c Z s) := PS_weak h (by
  rintro D σ H ⟨w, fr, rfl, hr, hf, k0, h⟩
  exact ⟨w, fr, rfl, hr, hf, h⟩)
theorem u_val {e : XS} {x : Expr} (G : GoodH g X W) (h : PE X x (tP g c Z e)) (st : Still c e) (he : ∀ whole, isTrue x X.env whole = (do let v ← whole; standAt x.pos; holding [v] (truthy v))) : PT X x (tPT g c Z e) := by
  refine PT_weak (pt_truth h he) ?_
  rintro σ H Q ⟨w, fr, rfl, hr, hf, k0, t, e1, q⟩
  unfold Mu.evT at e1
  rcases st fr w.ah with ⟨d, e2⟩ | e2
  · rw [e2, Mu.R.bind_ok] at e1
    cases et : Mu.truth w.ah d with
    | none => rw [et] at e1; cases e1
    | some t' =>
      rw [et] at e1; cases e1
      exact ⟨w, fr, rfl, hr, hf, k0, d, e2, fun v r => ⟨t, by rw [G.K]; exact tru_of hr et r, q⟩⟩
  · rw [e2] at e1; cases e1
theorem u_iff {k : Expr} {a b : List Stmt} {kk : XS} {sa sb : Mu.Ss} {pos : Pos} (hk : PT X k (tPT g c Z kk)) (st : Still c kk) (ha : PSs X a (tPSs g c Z sa)) (hb : PSs X b (tPSs g c Z sb)) : PS X (.If k a b pos) (tPS g c Z (.iff kk sa sb)) := by
  refine PS_weak (ps_if hk ha hb) ?_
  rintro D σ H ⟨w, fr, rfl, hr, hf, k0, h⟩
  rw [Mu.exec] at h
  unfold Mu.evT at h
  rcases st fr w.ah with ⟨d, e2⟩ | e2
  · rw [e2, Mu.R.bind_ok] at h
    cases et : Mu.truth w.ah d with
    | none => rw [et] at h; exact h.elim
    | some t =>
      rw [et] at h
      refine ⟨w, fr, rfl, hr, hf, k0, t, by unfold Mu.evT; rw [e2, Mu.R.bind_ok, et]; rfl, ?_⟩
      cases t with
      | true => exact ⟨w, fr, rfl, hr, hf, k0, h⟩
      | false => exact ⟨w, fr, rfl, hr, hf, k0, h⟩
  · rw [e2] at h; exact h.elim
theorem seq_nil {r : Mu.RS} : (r.seq fun σ h => Mu.execs c σ h .nil) = r := by
  cases r <;> first | rfl | (show Mu.execs c _ _ .nil = _; rw [Mu.execs])
theorem u_one {x : Stmt} {s : Mu.S} (h : PS X x (tPS g c Z s)) : PSs X [x] (tPSs g c Z (.cons s .nil)) := by
  refine PSs_weak (pss_cons h pss_nil) ?_
  rintro D σ H ⟨w, fr, rfl, hr, hf, k0, q⟩
  rw [Mu.execs, seq_nil] at q
  exact ⟨w, fr, rfl, hr, hf, k0, q⟩
/-- if k: return .., and what stands behind it -/
theorem u_ifr {k : Expr} {a b : List Stmt} {kk : XS} {sa ss : Mu.Ss} {pos : Pos} (hk : PT X k (tPT g c Z kk)) (st : Still c kk) (ha : PSs X a (tPSs g c Z sa)) (nr : ∀ fr h σ h', Mu.execs c fr h sa ≠ .nx σ h') (hb : PSs X b (tPSs g c Z ss)) :
    PSs X (.If k a [] pos :: b) (tPSs g c Z (.cons (.iff kk sa .nil) ss)) := by
  refine PSs_weak (pss_cons (ps_if hk ha pss_nil) hb) ?_
  rintro D σ H ⟨w, fr, rfl, hr, hf, k0, h⟩
  rw [Mu.execs, Mu.exec] at h
  unfold Mu.evT at h
  rcases st fr w.ah with ⟨d, e2⟩ | e2
  · rw [e2, Mu.R.bind_ok] at h
    cases et : Mu.truth w.ah d with
    | none => rw [et] at h; exact h.elim
    | some t =>
      rw [et] at h
      refine ⟨w, fr, rfl, hr, hf, k0, t, by unfold Mu.evT; rw [e2, Mu.R.bind_ok, et]; rfl, ?_⟩
      cases t with
      | true =>
        refine ⟨w, fr, rfl, hr, hf, k0, ?_⟩
        have h2 : AftS g w ((Mu.execs c fr w.ah sa).seq fun σ h => Mu.execs c σ h ss) D Wf := h
        cases e3 : Mu.execs c fr w.ah sa with
        | nx σ' h' => exact absurd e3 (nr _ _ _ _)
        | rt d2 h' => rw [e3] at h2; exact h2
        | bk σ' h' => rw [e3] at h2; exact h2
        | ct σ' h' => rw [e3] at h2; exact h2
        | ex x σ' h' => rw [e3] at h2; exact h2
        | bad => rw [e3] at h2; exact h2.elim
      | false =>
        have h2 : AftS g w ((Mu.execs c fr w.ah .nil).seq fun σ h => Mu.execs c σ h ss) D Wf := h
        rw [Mu.execs, Mu.RS.seq_nx] at h2
        exact ⟨w, fr, rfl, hr, hf, k0, h2⟩
  · rw [e2] at h; exact h.elim
end
end Ad
end

section
set_option Elab.async false
set_option linter.all false
set_option maxRecDepth 100000
set_option maxHeartbeats 4000000
namespace Ad
open PySem PySem.Spec PyProof.Rows L2
/-! try: one clause with a name -/
def tSuA (g : Gc) (c : Mu.Cx) (i : Nat) (su : Mu.Ss) (a : Addr) (cls : Value) (d : Option Addr) : TS := fun D σ H => ∃ x w fr, w.H = H ∧ HR g w ∧ FR g.K w fr σ ∧ (∃ σ0 : L2.St, σ = σ0.set i (some (.ref a))) ∧ XR g w x cls d ∧ AftS g w (Mu.execs { c with hx := some x } fr w.ah su) D Wf
section
variable {g : Gc} {X : Cx} {W : WX} {c : Mu.Cx}
theorem FR.anyv {K : PySem.W.Frag} {w : Wd} (v : V) : ∀ {fr : Mu.Fr} {σ : L2.St} (i : Nat), FR K w fr σ → FR K w (fr.set i none) (σ.set i (some v))
  | [], _, _, h => by obtain rfl : _ = [] := h; simp [FR]
  | none :: fr, _, 0, h => by
    obtain ⟨x, s, rfl, h⟩ := h
    exact ⟨_, s, rfl, h⟩
  | none :: fr, _, i + 1, h => by
    obtain ⟨x, s, rfl, h⟩ := h
    exact ⟨x, _, rfl, FR.anyv v i h⟩
  | some a :: fr, _, 0, h => by
    obtain ⟨x, s, rfl, _, h⟩ := h
    exact ⟨_, s, rfl, h⟩
  | some a :: fr, _, i + 1, h => by
    obtain ⟨x, s, rfl, h1, h⟩ := h
    exact ⟨x, _, rfl, h1, FR.anyv v i h⟩
theorem suA_of {Y : Cx} {i : Nat} {su : Mu.Ss} {a : Addr} {cls : Value} {d : Option Addr} {b : List Stmt} (hi : i < Y.N.length) (h : ∀ x, x.cls ∈ g.xs → cls = .ref (g.xA x.cls) → PSs Y b (tPSs g { c with hx := some x } (Zx g i a x cls d) su)) : PSs Y b (tSuA g c i su a cls d) := by
  refine ⟨fun pins s σ H D I q => ?_⟩
  obtain ⟨x, w, fr, e, hr, hf, ⟨σ0, es⟩, xr, k⟩ := q
  refine (h x xr.1.2 xr.1.1).run pins s σ H D I ⟨w, fr, e, hr, hf, ⟨?_, xr⟩, k⟩
  have hl : i < σ.length := by rw [I.len]; exact hi
  rw [es, List.length_set] at hl
  rw [es, List.getElem?_set_self hl]
theorem AftS.named {w : Wd} {r : Mu.RS} {D : Ends} {i : Nat} (h : AftS g w (r.suite (some i)) D W) :
    AftS g w r { nx := fun σ' H' => D.nx (σ'.set i none) H', rt := D.rt, bk := fun σ' H' => D.bk (σ'.set i none) H', ct := fun σ' H' => D.ct (σ'.set i none) H' } Wf := by
  cases r with
  | nx fr ah => exact fun σ w' e l hr hf => h _ w' e l hr (FR.none_ i hf)
  | rt d ah => exact h
  | bk fr ah => exact fun σ w' e l hr hf => h _ w' e l hr (FR.none_ i hf)
  | ct fr ah => exact fun σ w' e l hr hf => h _ w' e l hr (FR.none_ i hf)
  | ex x fr ah => exact h.elim
  | bad => exact h.elim
theorem s_tryAs {body suite : List Stmt} {b₀ : Stmt} {k : String} {n : Str} {i : Nat} {np pos pos' : Pos} {sb su : Mu.Ss} (G : GoodS g X W) (T : Exs g) (hs : X.stack = X.env :: X.outer) (hf : X.env.frame = some X.env.locals)
    (hi : X.N[i]? = some n) (hln : X.env.kindOf n = some .local) (hk : k ∈ g.xs) (hg : Gl X (nm k)) (hd : (nm k == ("__debug__" : Str)) = false)
    (hb : ∀ (V : WX) (pn : List (Addr × Obj)) (xe : Value → Shared → Prop), GoodS g (X.tr pn xe) V → PSs (X.tr pn xe) body (tSs g V c sb))
    (hsu : ∀ (a : Addr) (oe : Obj) (cls : Value) (d : Option Addr) (pn : List (Addr × Obj)), Zc cls d oe → (∃ vs, oe.data = .fields vs) → ∀ x : Mu.Exn, x.cls ∈ g.xs → cls = .ref (g.xA x.cls) → PSs (X.suite a ((a, oe) :: pn)) (b₀ :: suite) (tPSs g { c with hx := some x } (Zx g i a x cls d) su)) :
    PS X (.Try body [.ExceptHandler (some (.Name (nm k) np)) (some n) (b₀ :: suite) pos'] [] [] pos) (tSt g W c (.try_ sb (.cons [k] (some i) su .nil))) := by
  have hN : i < X.N.length := (List.getElem?_eq_some_iff.mp hi).1
  refine PS_weak (ps_try_as (tb := fun V => tSs g V c sb) (ts := fun a cls d => tSuA g c i su a cls d) (c := .ref (g.xA k)) hs hf G.nd hi hln ⟨hg, hd, .inl (by rw [G.mg]; exact T.mg k hk)⟩ G.takes
    (fun V pn xe tk po => hb V pn xe ⟨⟨⟨G.P, G.w, G.K, G.mg, G.base, G.nd, tk, G.un⟩, G.calm⟩, po⟩) (fun a oe cls d pn hz hfs => suA_of hN (hsu a oe cls d pn hz hfs))) ?_
  rintro D σ H ⟨w, fr, rfl, hr, hf, h⟩
  refine ⟨w, fr, rfl, hr, hf, ?_⟩
  rw [Mu.exec] at h
  cases e : Mu.execs c fr w.ah sb with
  | ex x fr' ah' =>
    rw [e] at h
    intro cls d σ' w' ea le hr' hf' xr
    subst ea
    have h := AftS.later h le
    rw [G.K]
    refine ⟨Mu.excSub x.cls k, by rw [xr.1.1]; exact T.em _ xr.1.2 _ hk, fun q a na => ?_, fun q => ?_⟩
    · have h2 : AftS g w' ((Mu.execs { c with hx := some x } (fr'.set i none) w'.ah su).suite (some i)) D W := by
        have h' := h
        simp only [Mu.execH] at h'
        rw [if_pos (by simp [q])] at h'
        exact h'
      exact ⟨x, w', _, rfl, hr', FR.anyv _ i hf', ⟨σ', rfl⟩, xr, h2.named⟩
    · have h2 : AftS g w' (.ex x fr' w'.ah) D W := by
        have h' := h
        simp only [Mu.execH] at h'
        rw [if_neg (by simp [q])] at h'
        exact h'
      exact h2 cls d σ' w' rfl .refl hr' hf' xr
  | nx _ _ => rw [e] at h; exact h
  | rt _ _ => rw [e] at h; exact h
  | bk _ _ => rw [e] at h; exact h
  | ct _ _ => rw [e] at h; exact h
  | bad => rw [e] at h; exact h.elim
end
end Ad
end

section
set_option Elab.async false
set_option linter.all false
set_option maxRecDepth 100000
set_option maxHeartbeats 4000000
namespace Ad
open PySem PySem.Spec PyProof.Rows L2
section
variable {g : Gc} {X : Cx} {W : WX} {c : Mu.Cx} {Z : KW}
theorem p_isa {t : Mu.Ty} {a : XS} {x : Expr} {p1 p2 pos : Pos} (G : GoodH g X W) (hg : Gl X (nm "isinstance")) (hm : g.mg (nm "isinstance") = none) (hg2 : Gl X (nm (tyN t))) (hm2 : g.mg (nm (tyN t)) = none) (hp : plainArgs [x] = true) (ha : PE X x (tP g c Z a)) (st : Still c a) :
    PE X (.Call (.Name (nm "isinstance") p1) [x, .Name (nm (tyN t)) p2] [] pos) (tP g c Z (.isa a t)) := by
  rw [← G.mg] at hm hm2
  have hT : PE X (.Name (nm (tyN t)) p2) (tC (.ty (tyN t))) := by
    cases t <;> exact pe_bltn hg2 hm2 (by kernel_rfl) rfl (by decide +kernel) (by decide +kernel)
  have hst : starEach [x, .Name (nm (tyN t)) p2] X.env = (false, eval x X.env) :: starEach [.Name (nm (tyN t)) p2] X.env := by
    cases x <;> first | rfl | cases hp
  refine PE_weak (pe_callB (cr_isa G t) hg hm (by kernel_rfl) (pa_cons ha (pa_cons hT pa_nil rfl) hst) (by decide +kernel) (by decide +kernel) hst rfl) ?_
  rintro σ H Q ⟨w, fr, rfl, hr, hf, k0, dd, e, h⟩
  rw [Mu.ev] at e
  rcases st fr w.ah with ⟨d, e1⟩ | e1
  · rw [e1, Mu.R.bind_ok] at e
    cases e2 : Mu.isaR w.ah d t with
    | none => rw [e2] at e; cases e
    | some b =>
      rw [e2] at e
      cases e
      exact ⟨w, fr, rfl, hr, hf, k0, d, e1, fun v r => ⟨d, v, b, w, rfl, hr, r, rfl, e2, h _ rfl⟩⟩
  · rw [e1] at e; cases e
theorem u_cmp {op : Mu.COp} {a b : XS} {x y : Expr} {pos : Pos} (G : GoodH g X W) (ha : PE X x (tP g c Z a)) (hb : PE X y (tP g c Z b)) (hm : behindInMarks (cA op) y = false) (sa : Still c a) (sb : Still c b) : PT X (.Compare x [cA op] [y] pos) (tPT g c Z (.cmp op a b)) := by
  refine PT_weak (pt_cmpR (op_cmpT G op) ha hb hm) ?_
  rintro σ H Q ⟨w, fr, rfl, hr, hf, k0, t, e, h⟩
  unfold Mu.evT at e
  rw [Mu.ev] at e
  rcases sa fr w.ah with ⟨da, e1⟩ | e1
  · rw [e1, Mu.R.bind_ok] at e
    rcases sb fr w.ah with ⟨db, e2⟩ | e2
    · rw [e2, Mu.R.bind_ok] at e
      unfold Mu.cmpR at e
      cases et : Mu.cmpO op w.ah da db with
      | none => rw [et] at e; cases e
      | some t2 =>
        rw [et] at e
        cases e
        exact ⟨w, fr, rfl, hr, hf, k0, da, e1, fun v1 r1 => ⟨w, fr, rfl, hr, hf, k0, db, e2, fun v2 r2 => ⟨da, db, w, _, rfl, hr, r1, r2, et, _, rfl, h⟩⟩⟩
    · rw [e2] at e; cases e
  · rw [e1] at e; cases e
theorem u_or {a b : XS} {x y : Expr} {r : List Expr} {pos : Pos} (ha : PT X x (tPT g c Z a)) (sa : Still c a) (hb : PW X (.BoolOp .Or (y :: r) pos) (tPT g c Z b)) : PW X (.BoolOp .Or (x :: y :: r) pos) (tPT g c Z (.or a b)) := by
  refine ⟨fun wh pins s σ H Q I h => (pw_or ha hb).run wh pins s σ H Q I ?_⟩
  obtain ⟨w, fr, rfl, hr, hf, k0, t, e, q⟩ := h
  rw [or_T] at e
  rcases sa fr w.ah with ⟨d, e1⟩ | e1
  · have e2 : Mu.evT c fr w.ah a = Mu.opt (Mu.truth w.ah d) w.ah := evT_ok e1
    rw [e2] at e
    cases et : Mu.truth w.ah d with
    | none => rw [et] at e; cases e
    | some t1 =>
      rw [et] at e e2
      simp only [Mu.opt_some, Mu.R.bind_ok] at e e2
      refine ⟨w, fr, rfl, hr, hf, k0, t1, e2, ?_⟩
      cases t1 with
      | true =>
        rw [if_pos rfl] at e
        cases e
        exact q
      | false =>
        rw [if_neg Bool.false_ne_true] at e
        exact ⟨w, fr, rfl, hr, hf, k0, t, e, q⟩
  · have e2 : Mu.evT c fr w.ah a = .bad := by unfold Mu.evT; rw [e1]; rfl
    rw [e2] at e; cases e
/-- (e, ..) of such parts -/
def tPA (g : Gc) (c : Mu.Cx) (Z : KW) (es : Mu.Es) : TA := fun σ H Q => ∃ w fr, w.H = H ∧ HR g w ∧ FR g.K w fr σ ∧ Z σ w ∧ ∃ ds, Mu.evs c fr w.ah es = .ok ds w.ah ∧ ∀ vs, VRs g.K w ds vs → Q vs w.H
def StillA (c : Mu.Cx) (es : Mu.Es) : Prop := ∀ fr h, (∃ ds, Mu.evs c fr h es = .ok ds h) ∨ Mu.evs c fr h es = .bad
theorem stillA_nil : StillA c .nil := fun fr h => by rw [Mu.evs]; exact .inl ⟨_, rfl⟩
theorem stillA_cons {e : XS} {es : Mu.Es} (h1 : Still c e) (h2 : StillA c es) : StillA c (.cons e es) := fun fr h => by
  rw [Mu.evs]
  rcases h1 fr h with ⟨d, e1⟩ | e1
  · rw [e1, Mu.R.bind_ok]
    rcases h2 fr h with ⟨ds, e2⟩ | e2
    · rw [e2, Mu.R.bind_ok]; exact .inl ⟨_, rfl⟩
    · rw [e2]; exact .inr rfl
  · rw [e1]; exact .inr rfl
theorem pa0 : PA X [] (tPA g c Z .nil) := PA_weak pa_nil (by
  rintro σ H Q ⟨w, fr, rfl, hr, hf, k0, ds, e, h⟩
  rw [Mu.evs] at e; cases e
  exact h _ rfl)
theorem pa1 {e : Expr} {es : List Expr} {d : XS} {ds : Mu.Es} (he : PE X e (tP g c Z d)) (hs : PA X es (tPA g c Z ds)) (sd : Still c d) (ss : StillA c ds) (hst : starEach (e :: es) X.env = (false, eval e X.env) :: starEach es X.env) : PA X (e :: es) (tPA g c Z (.cons d ds)) := by
  refine PA_weak (pa_cons he hs hst) ?_
  rintro σ H Q ⟨w, fr, rfl, hr, hf, k0, xs, e, h⟩
  rw [Mu.evs] at e
  rcases sd fr w.ah with ⟨dx, e1⟩ | e1
  · rw [e1, Mu.R.bind_ok] at e
    rcases ss fr w.ah with ⟨dxs, e2⟩ | e2
    · rw [e2, Mu.R.bind_ok] at e
      cases e
      exact ⟨w, fr, rfl, hr, hf, k0, dx, e1, fun v r => ⟨w, fr, rfl, hr, hf, k0, dxs, e2, fun vs rs => h _ ⟨v, vs, rfl, r, rs⟩⟩⟩
    · rw [e2] at e; cases e
  · rw [e1] at e; cases e
theorem u_retT {es : List Expr} {ds : Mu.Es} {k : Nat} {pt pos : Pos} (hs : PA X es (tPA g c Z ds)) (ss : StillA c ds) (hl : lenEs ds ≤ 1000) : PS X (.Return (some (.Tuple es k pt)) pos) (tPS g c Z (.ret (.tup ds))) := PS_weak (ps_ret (pe_tup hs)) (by
  rintro D σ H ⟨w, fr, rfl, hr, hf, k0, h⟩
  rw [Mu.exec, Mu.ev] at h
  rcases ss fr w.ah with ⟨dxs, e2⟩ | e2
  · rw [e2] at h
    refine ⟨w, fr, rfl, hr, hf, k0, dxs, e2, fun vs rs => ?_⟩
    refine ⟨by rw [← rs.length, evs_len e2, sizeLine_eq]; omega, ?_⟩
    exact Aft.madeT (g := g) (E := fun _ _ _ => False) hr (show Aft g (VR g.K) w (.ok (.tup dxs) w.ah) (fun v H' => D.rt v H') _ from h) rs
  · rw [e2] at h; exact h.elim)
end
end Ad
end

section
set_option Elab.async false
set_option linter.all false
set_option maxRecDepth 100000
set_option maxHeartbeats 4000000
namespace Ad
open PySem PySem.Spec PyProof.Rows L2
/-! the checker of except suites -/
def chkP (S : Sg) (N : List Str) (sc : Scope) (hn : Option (Nat × Str)) : Nat → XS → Expr → Bool
  | 0, _, _ => false
  | n + 1, e, x => match e with
    | .v i => (match x with
      | .Name y _ => slotC N i y && isVis sc y && dbgOk y && !(y == ("__classdict__" : Str))
      | _ => false)
    | .int i => (match x with
      | .Constant (.int j) _ _ => decide (i = j)
      | _ => false)
    | .bl b => (match x with
      | .Constant (.bool j) _ _ => b == j
      | _ => false)
    | .non => (match x with
      | .Constant .none _ _ => true
      | _ => false)
    | .str s => (match x with
      | .Constant (.str z) _ _ => eqN z s && decide ((Mu.cp s).length ≤ 100000)
      | _ => false)
    | .hfld f => (match x, hn with
      | .Attribute (.Name z _) a _, some (i, y) => decide (z = y) && slotC N i y && isVis sc y && dbgOk y && !(y == ("__classdict__" : Str)) && eqN a f && (f == "line" || f == "reason") && inL "BadSchedule" S.xs
      | _, _ => false)
    | .hisa k => (match x, hn with
      | .Call (.Name q _) [.Name z _, .Name kk _] [] _, some (i, y) => eqN q "isinstance" && isGl sc q && inL "isinstance" S.bl && decide (z = y) && slotC N i y && isVis sc y && dbgOk y && !(y == ("__classdict__" : Str)) && eqN kk k && isGl sc kk && dbgOk kk && inL k S.xs && !inL "BadSchedule" S.xs
      | _, _ => false)
    | .isa a t => (match x with
      | .Call (.Name q _) [xa, .Name kk _] [] _ => eqN q "isinstance" && isGl sc q && inL "isinstance" S.bl && eqN kk (tyN t) && isGl sc kk && inL (tyN t) S.bl && plainArgs [xa] && chkP S N sc hn n a xa
      | _ => false)
    | .cmp op a b => (match x with
      | .Compare xa [o] [xb] _ => decide (o = cA op) && chkP S N sc hn n a xa && chkP S N sc hn n b xb && !behindInMarks (cA op) xb
      | _ => false)
    | _ => false
theorem chkP_pure {S : Sg} {N : List Str} {sc : Scope} {hn : Option (Nat × Str)} : ∀ {n : Nat} {e : XS} {x : Expr}, chkP S N sc hn n e x = true → pureX e = true
  | 0, _, _, h => by simp [chkP] at h
  | n + 1, e, x, h => by
    cases e with
    | v i => rfl
    | int i => rfl
    | bl i => rfl
    | str i => rfl
    | non => rfl
    | hfld i => rfl
    | hisa i => rfl
    | isa a t =>
      simp only [chkP] at h
      split at h
      · simp only [Bool.and_eq_true] at h
        show pureX a = true
        exact chkP_pure h.2
      · cases h
    | cmp op a b =>
      simp only [chkP] at h
      split at h
      · simp only [Bool.and_eq_true] at h
        show (pureX a && pureX b) = true
        rw [chkP_pure h.1.1.2, chkP_pure h.1.2]; rfl
      · cases h
    | _ => simp [chkP] at h
/-- what a suite's text rests on -/
structure CtxU (g : Gc) (S : Sg) (N : List Str) (sc : Scope) (X : Cx) : Prop where
  eN : X.N = N
  esc : X.env.scope = sc
  ex : g.xs = S.xs
  T : Exs g
  ec : ∀ z ∈ g.xs, z ≠ "BadSchedule" → ExcC g.K (g.xA z)
  ko : ∀ z ∈ g.xs, ∀ z' ∈ g.xs, PySem.W.kitOne g.K (.ref (g.xA z)) (.ref (g.xA z')) = some (Mu.excSub z z')
  xf : "BadSchedule" ∈ g.xs → XfC g.K (g.xA "BadSchedule") ∧ PySem.W.findIn g.K (.ref (g.xA "BadSchedule")) (nm "line") = some none ∧ PySem.W.findIn g.K (.ref (g.xA "BadSchedule")) (nm "reason") = some none
  bl : ∀ b ∈ S.bl, g.mg (nm b) = none
end Ad
end

section
set_option Elab.async false
set_option linter.all false
set_option maxRecDepth 100000
set_option maxHeartbeats 4000000
namespace Ad
open PySem PySem.Spec PyProof.Rows L2
section
variable {g : Gc} {X : Cx} {c : Mu.Cx} {S : Sg} {N : List Str} {sc : Scope}
theorem PE_void {e : Expr} {t : TE} (h : ∀ σ H Q, ¬ t σ H Q) : PE X e t := ⟨fun pins s σ H Q I q => (h σ H Q q).elim⟩
theorem sndP {W : WX} {hn : Option (Nat × Str)} {a : Addr} {x : Mu.Exn} {cls : Value} {d : Option Addr} {oe : Obj} {pn : List (Addr × Obj)} (G : GoodH g X W) (GS : GoodH g (X.suite a ((a, oe) :: pn)) Wf) (C : CtxU g S N sc X) (hz : Zc cls d oe) (hfs : ∃ vs, oe.data = .fields vs)
    (hx : x.cls ∈ g.xs) (ec : cls = .ref (g.xA x.cls)) (j : Nat) (hj : ∀ p, hn = some p → p.1 = j) : ∀ (n : Nat) (e : XS) (y : Expr), chkP S N sc hn n e y = true → PE (X.suite a ((a, oe) :: pn)) y (tP g { c with hx := some x } (Zx g j a x cls d) e)
  | 0, _, _, h => by simp [chkP] at h
  | n + 1, e, y, h => by
    have ih := sndP G GS C hz hfs hx ec j hj n
    cases e with
    | v i =>
      simp only [chkP] at h
      split at h
      · simp only [Bool.and_eq_true] at h
        obtain ⟨⟨⟨h1, h2⟩, h3⟩, h4⟩ := h
        exact p_v (by show X.N[i]? = _; rw [C.eN]; exact of_decide_eq_true h1) (by show Vis X.env.scope _; rw [C.esc]; exact isVis_of h2) (dbg_no h3) (by simpa using h4)
      · cases h
    | int i =>
      simp only [chkP] at h
      split at h
      · cases of_decide_eq_true h; exact p_int
      · cases h
    | bl b =>
      simp only [chkP] at h
      split at h
      · cases (beq_iff_eq.mp h); exact p_bl
      · cases h
    | non =>
      simp only [chkP] at h
      split at h
      · exact p_non
      · cases h
    | str s =>
      simp only [chkP] at h
      split at h
      · simp only [Bool.and_eq_true] at h
        rw [eqN_of h.1]
        exact p_str (Nat.le_trans (of_decide_eq_true h.2) (by rw [sl_num]; decide))
      · cases h
    | hfld f =>
      simp only [chkP] at h
      split at h
      · rename_i i z _ _
        simp only [Bool.and_eq_true] at h
        obtain ⟨⟨⟨⟨⟨⟨⟨h0, h1⟩, h2⟩, h3⟩, h4⟩, h5⟩, h6⟩, h7⟩ := h
        have hij := hj _ rfl
        cases of_decide_eq_true h0
        cases eqN_of h5
        subst hij
        obtain ⟨t1, t2, t3⟩ := C.xf (by rw [C.ex]; exact inL_of h7)
        have hno : PySem.W.findIn g.K (.ref (g.xA "BadSchedule")) (nm f) = some none := by
          simp only [Bool.or_eq_true, beq_iff_eq] at h6
          rcases h6 with rfl | rfl
          · exact t2
          · exact t3
        exact p_hfld G t1 hno hz hfs (by rw [C.eN]; exact of_decide_eq_true h1) (by rw [C.esc]; exact isVis_of h2) (dbg_no h3) (by simpa using h4)
      · cases h
    | isa a2 t =>
      simp only [chkP] at h
      split at h
      · simp only [Bool.and_eq_true] at h
        obtain ⟨⟨⟨⟨⟨⟨⟨h1, h2⟩, h3⟩, h4⟩, h5⟩, h6⟩, h7⟩, h8⟩ := h
        cases eqN_of h1
        cases eqN_of h4
        exact p_isa GS (isGl_of (X := X.suite a ((a, oe) :: pn)) C.esc h2) (C.bl _ (inL_of h3)) (isGl_of (X := X.suite a ((a, oe) :: pn)) C.esc h5) (C.bl _ (inL_of h6)) h7 (ih _ _ h8) (still _ (chkP_pure h8))
      · cases h
    | cmp op a2 b =>
      simp only [chkP] at h
      split at h
      · simp only [Bool.and_eq_true] at h
        obtain ⟨⟨⟨h1, h2⟩, h3⟩, h4⟩ := h
        cases of_decide_eq_true h1
        exact p_cmp GS (ih _ _ h2) (ih _ _ h3) (by simpa using h4) (fun _ _ _ _ q => (still _ (chkP_pure h2)).same q) (fun _ _ _ _ q => (still _ (chkP_pure h3)).same q)
      · cases h
    | hisa k =>
      simp only [chkP] at h
      split at h
      · rename_i q i z _ _ _ _ _
        simp only [Bool.and_eq_true] at h
        obtain ⟨⟨⟨⟨⟨⟨⟨⟨⟨⟨⟨⟨h1, h2⟩, h3⟩, h4⟩, h5⟩, h6⟩, h7⟩, h8⟩, h9⟩, h10⟩, h11⟩, h12⟩, h13⟩ := h
        have hij := hj _ rfl
        cases eqN_of h1
        cases of_decide_eq_true h4
        cases eqN_of h9
        subst hij
        have nb : ∀ z ∈ g.xs, z ≠ "BadSchedule" := fun z hz e => by
          rw [e, C.ex] at hz
          simp [inL, hz] at h13
        cases d with
        | none => exact p_hisa G C.T (by rw [C.ex]; exact inL_of h12) (fun z hz => C.ec z hz (nb z hz)) C.ko hz hfs (by rw [C.eN]; exact of_decide_eq_true h5) (by rw [C.esc]; exact isVis_of h6) (dbg_no h7) (by simpa using h8) (isGl_of C.esc h2) (C.bl _ (inL_of h3)) (isGl_of C.esc h10) (dbg_no h11) hx ec
        | some dd =>
          refine PE_void fun σ H Q ⟨w, fr, _, _, _, ⟨_, k2, k3⟩, _⟩ => ?_
          rcases k3 with ⟨_, k3⟩ | ⟨k3, _⟩
          · cases k3
          · exact nb _ k2.2 k3
      · cases h
    | _ => simp [chkP] at h
end
end Ad
end

section
set_option Elab.async false
set_option linter.all false
set_option maxRecDepth 100000
set_option maxHeartbeats 4000000
namespace Ad
open PySem PySem.Spec PyProof.Rows L2
/-! suites: tests, then statements -/
def chkPT (S : Sg) (N : List Str) (sc : Scope) (hn : Option (Nat × Str)) : Nat → XS → Expr → Bool
  | 0, _, _ => false
  | n + 1, e, x => match e with
    | .cmp op a b => (match x with
      | .Compare xa [o] [xb] _ => decide (o = cA op) && chkP S N sc hn n a xa && chkP S N sc hn n b xb && !behindInMarks (cA op) xb
      | _ => false)
    | .or a b => (match x with
      | .BoolOp .Or (xa :: y :: r) p => pureX a && pureX b && chkPT S N sc hn n a xa && (match r with
        | [] => chkPT S N sc hn n b y
        | _ => chkPT S N sc hn n b (.BoolOp .Or (y :: r) p))
      | _ => false)
    | _ => valT x && chkP S N sc hn n e x
section
variable {g : Gc} {X : Cx} {c : Mu.Cx} {S : Sg} {N : List Str} {sc : Scope} {Z : KW} {hn : Option (Nat × Str)}
theorem sndPT {W : WX} (G : GoodH g X W) (P : ∀ n e y, chkP S N sc hn n e y = true → PE X y (tP g c Z e)) : ∀ (n : Nat) (e : XS) (x : Expr), chkPT S N sc hn n e x = true → PT X x (tPT g c Z e) ∧ ∀ op l p, x = .BoolOp op l p → PW X x (tPT g c Z e)
  | 0, _, _, h => by simp [chkPT] at h
  | n + 1, e, x, h => by
    have ih := sndPT G P n
    have gen : (valT x && chkP S N sc hn n e x) = true → PT X x (tPT g c Z e) ∧ ∀ op l p, x = .BoolOp op l p → PW X x (tPT g c Z e) := by
      intro h
      simp only [Bool.and_eq_true] at h
      exact ⟨u_val G (P _ _ _ h.2) (still _ (chkP_pure h.2)) (valT_of h.1), noBool h.1⟩
    cases e with
    | cmp op a b =>
      simp only [chkPT] at h
      split at h
      · simp only [Bool.and_eq_true] at h
        obtain ⟨⟨⟨h1, h2⟩, h3⟩, h4⟩ := h
        cases of_decide_eq_true h1
        exact ⟨u_cmp G (P _ _ _ h2) (P _ _ _ h3) (by simpa using h4) (still _ (chkP_pure h2)) (still _ (chkP_pure h3)), fun _ _ _ z => by cases z⟩
      · cases h
    | or a b =>
      simp only [chkPT] at h
      split at h
      · rename_i xa y r p
        simp only [Bool.and_eq_true] at h
        obtain ⟨⟨⟨p1, p2⟩, h1⟩, h2⟩ := h
        have w : PW X (.BoolOp .Or (xa :: y :: r) p) (tPT g c Z (.or a b)) := by
          refine u_or (ih _ _ h1).1 (still _ p1) ?_
          split at h2
          · exact pw_or1 (ih _ _ h2).1
          · exact (ih _ _ h2).2 _ _ _ rfl
        exact ⟨w.pt, fun _ _ _ z => w⟩
      · cases h
    | _ =>
      simp only [chkPT] at h
      exact gen h
end
end Ad
end

section
set_option Elab.async false
set_option linter.all false
set_option maxRecDepth 100000
set_option maxHeartbeats 4000000
namespace Ad
open PySem PySem.Spec PyProof.Rows L2
/-! several except clauses, with names or without -/
/-- the ends behind a clause whose name stands in slot i -/
def endN (i : Nat) (D : Ends) : Ends := ⟨fun σ1 H1 => D.nx (σ1.set i none) H1, D.rt, fun σ1 H1 => D.bk (σ1.set i none) H1, fun σ1 H1 => D.ct (σ1.set i none) H1⟩
abbrev Cl := Value × Option Nat × (Addr → Value → Option Addr → TS)
/-- one clause's suite is entered -/
def inCl (D : Ends) (q : Cl) (a : Addr) (k : Value) (d : Option Addr) (σ : L2.St) (H : Hp) : Prop := match q.2.1 with
  | none => q.2.2 a k d D σ H
  | some i => q.2.2 a k d (endN i D) (σ.set i (some (.ref a))) H
/-- what the clauses wish of what the body raised -/
def wMix (K : PySem.W.Frag) (Wo : WX) (D : Ends) : List Cl → WX
  | [] => Wo
  | q :: r => fun k d σ H => ∃ t, PySem.W.exmOne K k q.1 = some t ∧ (t = true → ∀ a, H a = none → inCl D q a k d σ H) ∧ (t = false → wMix K Wo D r k d σ H)
def SuOk (X : Cx) (b : List Stmt) (ts : Addr → Value → Option Addr → TS) : Prop := ∀ (a : Addr) (oe : Obj) (k : Value) (d : Option Addr) (pn : List (Addr × Obj)), Zc k d oe → (∃ vs, oe.data = .fields vs) → PSs (X.suite a ((a, oe) :: pn)) b (ts a k d)
inductive ClOk (X : Cx) : List ExceptHandler → List Cl → Prop
  | nil : ClOk X [] []
  | bare {x : Str} {k : Value} {ts : Addr → Value → Option Addr → TS} {b : Stmt} {bs : List Stmt} {p1 p2 : Pos} {es : List ExceptHandler} {l : List Cl} (hn : Names X x k) (hs : SuOk X (b :: bs) ts) (r : ClOk X es l) :
      ClOk X (.ExceptHandler (some (.Name x p1)) none (b :: bs) p2 :: es) ((k, none, ts) :: l)
  | named {x n : Str} {i : Nat} {k : Value} {ts : Addr → Value → Option Addr → TS} {b : Stmt} {bs : List Stmt} {p1 p2 : Pos} {es : List ExceptHandler} {l : List Cl} (hi : X.N[i]? = some n) (hl : X.env.kindOf n = some .local) (hn : Names X x k) (hs : SuOk X (b :: bs) ts) (r : ClOk X es l) :
      ClOk X (.ExceptHandler (some (.Name x p1)) (some n) (b :: bs) p2 :: es) ((k, some i, ts) :: l)
section
variable {X : Cx} {body : List Stmt} {e₀ : ExceptHandler} {es : List ExceptHandler} {l : List Cl} {pos : Pos} {tb : WX → TS} {Wo : WX}
theorem ps_try_mix (hst : X.stack = X.env :: X.outer) (hfr0 : X.env.frame = some X.env.locals) (hN : X.N.Nodup) (tk : Takes X Wo)
    (hbody : ∀ (V : WX) (pn : List (Addr × Obj)) (xe : Value → Shared → Prop), Takes (X.tr pn xe) V → PassesOwn (model X.prog X.w) X.A X.env xe → PSs (X.tr pn xe) body (tb V))
    (hcl : ClOk X (e₀ :: es) l) : PS X (.Try body (e₀ :: es) [] [] pos) (fun D σ H => tb (wMix X.K Wo D l) D σ H) := by
  refine ⟨fun pins s σ H D I0 h0 => ?_⟩
  have okX := I0.ok
  have hframes : X.A.frames = some (X.env :: X.outer) := by rw [okX.frames, hst]
  refine wpAny_Try_except ?_
  have run := (hbody (wMix X.K Wo D l) (X.pn ++ pins)
    (fun ev z1 => wpAny (model X.prog X.w) X.A (noteFrame ev X.env) (fun _ z2 => wpAny (model X.prog X.w) X.A (setFlight ev none) (fun _ z3 => wpAny (model X.prog X.w) X.A (handleBy ev X.env (e₀ :: es)) (SP X pins D) X.xe z3) X.xe z2) X.xe z1)
    (fun u z caught => ?_) PassesOwn.looking).run [] s σ H D (I0.toTry _) h0
  · refine wpAny_mono run (fun f z hz => ?_) (fun ev z hz => hz)
    cases f with
    | next => obtain ⟨σ1, H1, I1, q⟩ := hz; exact wpAny_execs_nil ⟨σ1, H1, I1.ofTry okX, q⟩
    | brk => obtain ⟨σ1, H1, I1, q⟩ := hz; exact ⟨σ1, H1, I1.ofTry okX, q⟩
    | cont => obtain ⟨σ1, H1, I1, q⟩ := hz; exact ⟨σ1, H1, I1.ofTry okX, q⟩
    | ret u => obtain ⟨v, σ1, H1, I1, r, q⟩ := hz; exact ⟨v, σ1, H1, I1.ofTry okX, r, q⟩
  · obtain ⟨a, B, sI, pins1, σ1, H1, cls, d, rfl, I1', nb, up, sky, na, os, ag, w0⟩ := caught
    have I1 : Inv X pins σ1 H1 sI := I1'.ofTry okX
    have sky1 : Sky B (X.env :: X.outer) a (Zc cls d) X.env.locals z.heap := by rw [← hst]; exact sky
    show wpAny (model X.prog X.w) X.A (noteFrame (.ref a) X.env) _ _ _
    refine Sky.land Zc.steady hframes hfr0 sky1 fun hA flA upA => ?_
    have IA : Inv X pins σ1 H1 { z with heap := hA } := I1.landed nb flA.1 (up.trans upA) os ag
    obtain ⟨oA, vsA, geA, zA, dA⟩ := flA.there
    have nfr : a ∉ frs (X.env :: X.outer) := fun hm => by
      obtain ⟨_, o', e', hnf⟩ := flA.2.2.1.mem hm
      rw [geA] at e'; cases e'
      exact hnf _ dA
    have nL : a ≠ X.env.locals := fun q => nfr (List.mem_filterMap.mpr ⟨X.env, .head _, by rw [hfr0, q]⟩)
    have nF : a ∉ X.fs := fun hm => by
      obtain ⟨e, he, q⟩ := List.mem_filterMap.mp hm
      exact nfr (List.mem_filterMap.mpr ⟨e, .tail _ he, q⟩)
    have SA := IA.suite geA dA na nL nF
    have LT : PySem.W.Looks (model X.prog X.w) hA (typeOf (.ref a)) cls := fun A Q E s k q => wpAny_typeOf_ref (k _ _ geA) (by rw [zA.1]; exact q)
    have test : ∀ {x : Str} {k : Value} {p1 : Pos} {Q : Value → Shared → Prop} {E : Value → Shared → Prop}, Names X x k → Q k { z with heap := hA } → wpAny (model X.prog X.w) (X.A.mark (some (.ref a))) (eval (.Name x p1) X.env) Q E { z with heap := hA } := by
      intro x k p1 Q E hn q
      obtain ⟨g1, g2, g3 | ⟨g3, g4, g5⟩⟩ := hn
      · exact ld_glob (X := X.suite a ((a, oA) :: (X.pn ++ pins))) SA g1 g3 q g2
      · exact ld_blt (X := X.suite a ((a, oA) :: (X.pn ++ pins))) SA g1 g3 g4 q g5 g2
    have go : ∀ {hs : List ExceptHandler} {m : List Cl}, ClOk X hs m → wMix X.K Wo D m cls d σ1 H1 → wpAny (model X.prog X.w) X.A (handleBy (.ref a) X.env hs) (SP X pins D) X.xe { z with heap := hA } := by
      intro hs m hk
      induction hk with
      | nil =>
        intro w
        refine wpAny_handleBy_nil ?_
        obtain ⟨_, _, _, oe, vs, T, oT, ts', he, hz, hd, h1, hr⟩ := id flA
        unfold PySem.passOn
        refine wpAny_bind (wpAny_field he hd h1 ?_)
        rw [if_neg (show ¬ ((Value.ref T == Value.none) = true) from by simp)]
        have fin : wpAny (model X.prog X.w) X.A (setFlight (.ref a) X.env.frame) (fun _ s4 => wpAny (model X.prog X.w) X.A (throw (.ref a) : Sem Flow) (SP X pins D) X.xe s4) X.xe { z with heap := hA } := by
          rw [hfr0]
          refine HandSPX.setFlight_upZ flA fun hB hhB upB => wpAny_throw (tk _ _ ?_)
          exact ⟨a, B, sI, pins, σ1, H1, cls, d, rfl, I1, nb, (up.trans upA).trans upB, .inr (.inr (by rw [hst]; exact hhB)), na, os, ag, w⟩
        first | exact wpAny_bind (wpAny_pure (wpAny_bind fin)) | exact wpAny_bind fin
      | @bare x k ts b bs p1 p2 es2 l2 hn hs r ih =>
        rintro ⟨t, ht, yes, no⟩
        refine wpAny_handleBy_cons (codeAny_handlers_test ?_) (by intro q; cases q)
        have LM := PySem.W.exm_one (M := model X.prog X.w) IA.kIn LT ht
        refine test hn (LM.here ?_)
        cases t with
        | false => exact ih (no rfl)
        | true =>
          refine codeAny_handlers_suite ?_
          refine HandSPX.lands_againZ flA fun hB flB upB => ?_
          have IB : Inv X pins σ1 H1 { z with heap := hB } := I1.landed nb flB.1 ((up.trans upA).trans upB) os ag
          obtain ⟨oB, vsB, geB, zB, dB⟩ := flB.there
          have SB := IB.suite geB dB na nL nF
          refine wpAny_mono ((hs a oB cls d (X.pn ++ pins) zB ⟨_, dB⟩).run [] _ _ H1 _ SB (yes rfl a na)) (fun f z6 hsp => ?_) (fun _ _ q => q.elim)
          cases f with
          | next => obtain ⟨σ6, H6, S6, q6⟩ := hsp; exact ⟨_, _, S6.unsuite okX, q6⟩
          | brk => obtain ⟨σ6, H6, S6, q6⟩ := hsp; exact ⟨_, _, S6.unsuite okX, q6⟩
          | cont => obtain ⟨σ6, H6, S6, q6⟩ := hsp; exact ⟨_, _, S6.unsuite okX, q6⟩
          | ret u => obtain ⟨v6, σ6, H6, S6, r6, q6⟩ := hsp; exact ⟨_, _, _, S6.unsuite okX, r6, q6⟩
      | @named x n i k ts b bs p1 p2 es2 l2 hi hl hn hs r ih =>
        rintro ⟨t, ht, yes, no⟩
        refine wpAny_handleBy_cons (codeAny_handlers_test ?_) (by intro q; cases q)
        have LM := PySem.W.exm_one (M := model X.prog X.w) IA.kIn LT ht
        refine test hn (LM.here ?_)
        cases t with
        | false => exact ih (no rfl)
        | true =>
          refine codeAny_handlers_suite_as ?_
          refine HandSPX.lands_againZ flA fun hB flB upB => ?_
          have IB : Inv X pins σ1 H1 { z with heap := hB } := I1.landed nb flB.1 ((up.trans upA).trans upB) os ag
          obtain ⟨oB, vsB, geB, zB, dB⟩ := flB.there
          have SB := IB.suite geB dB na nL nF
          refine store_ok (X := X.suite a ((a, oB) :: (X.pn ++ pins))) (v := .ref a) SB hN hi (.inl hl) rfl (fun z5 S5 => ?_) (.inr hl)
          refine wpAny_mono ((hs a oB cls d (X.pn ++ pins) zB ⟨_, dB⟩).run [] z5 _ H1 _ S5 (yes rfl a na)) (fun f z6 hsp => ?_) (fun _ _ q => q.elim)
          have gone : ∀ {σ6 : L2.St} {H6 : Hp} {Q : Shared → Prop}, Inv (X.suite a ((a, oB) :: (X.pn ++ pins))) [] σ6 H6 z6 → (∀ z7, Inv X pins (σ6.set i none) H6 z7 → Q z7) → wpAny (model X.prog X.w) X.A (do bindName X.env n .none; unbindBehindTheSuite X.env n p2) (fun _ z7 => Q z7) X.xe z6 :=
            fun {σ6 H6 Q} S6 hq => gone_ok (S6.unsuite okX) hN hi hl hq
          cases f with
          | next => obtain ⟨σ6, H6, S6, q6⟩ := hsp; exact gone S6 fun z7 J7 => ⟨_, _, J7, q6⟩
          | brk => obtain ⟨σ6, H6, S6, q6⟩ := hsp; exact gone S6 fun z7 J7 => ⟨_, _, J7, q6⟩
          | cont => obtain ⟨σ6, H6, S6, q6⟩ := hsp; exact gone S6 fun z7 J7 => ⟨_, _, J7, q6⟩
          | ret u => obtain ⟨v6, σ6, H6, S6, r6, q6⟩ := hsp; exact gone S6 fun z7 J7 => ⟨_, _, _, J7, r6, q6⟩
    exact go hcl w0
end
end Ad
end

section
set_option Elab.async false
set_option linter.all false
set_option maxRecDepth 100000
set_option maxHeartbeats 4000000
namespace Ad
open PySem PySem.Spec PyProof.Rows L2
/-! except suites: their statements; try with any clauses -/
def endsRet : Mu.Ss → Bool
  | .cons (.ret _) .nil => true
  | _ => false
theorem endsRet_nx {c : Mu.Cx} : ∀ {ss : Mu.Ss}, endsRet ss = true → ∀ fr h σ h', Mu.execs c fr h ss ≠ .nx σ h' := by
  intro ss e fr h σ h' q
  unfold endsRet at e
  split at e
  · rw [Mu.execs, Mu.exec] at q
    rename_i a
    cases ea : Mu.ev c fr h a with
    | ok d h1 => rw [ea] at q; simp only [Mu.R.st_ok, Mu.RS.seq_rt] at q; cases q
    | ex x h1 => rw [ea] at q; simp only [Mu.R.st_ex, Mu.RS.seq_ex] at q; cases q
    | bad => rw [ea] at q; simp only [Mu.R.st_bad, Mu.RS.seq_bad] at q; cases q
  · cases e
def chkPs (S : Sg) (N : List Str) (sc : Scope) (hn : Option (Nat × Str)) (n : Nat) : Mu.Es → List Expr → Bool
  | .nil, [] => true
  | .cons e es, x :: xs => chkP S N sc hn n e x && plainArgs (x :: xs) && chkPs S N sc hn n es xs
  | _, _ => false
/-- return e -/
def chkUr (S : Sg) (N : List Str) (sc : Scope) (hn : Option (Nat × Str)) (n : Nat) (e : XS) (x : Expr) : Bool :=
  match e with
  | .lst .nil => (match x with
    | .List [] _ => true
    | _ => false)
  | .tup es => (match x with
    | .Tuple xs _ _ => chkPs S N sc hn n es xs && decide (lenEs es ≤ 1000)
    | _ => false)
  | e => chkP S N sc hn n e x
def chkU (S : Sg) (N : List Str) (sc : Scope) (hn : Option (Nat × Str)) : Nat → Mu.Ss → List Stmt → Bool
  | 0, _, _ => false
  | n + 1, ss, xs => match ss with
    | .cons (.ret e) .nil => (match xs with
      | [.Return (some x) _] => chkUr S N sc hn n e x
      | _ => false)
    | .cons (.iff k a .nil) r => (match xs with
      | .If xk xa [] _ :: xr => pureX k && chkPT S N sc hn n k xk && endsRet a && chkU S N sc hn n a xa && chkU S N sc hn n r xr
      | _ => false)
    | _ => false
section
variable {g : Gc} {X : Cx} {W : WX} {c : Mu.Cx} {S : Sg} {N : List Str} {sc : Scope} {Z : KW} {hn : Option (Nat × Str)}
theorem sndPs (P : ∀ n e y, chkP S N sc hn n e y = true → PE X y (tP g c Z e)) {n : Nat} : ∀ {es : Mu.Es} {xs : List Expr}, chkPs S N sc hn n es xs = true → PA X xs (tPA g c Z es) ∧ StillA c es
  | .nil, [], _ => ⟨pa0, stillA_nil⟩
  | .nil, _ :: _, h => by simp [chkPs] at h
  | .cons _ _, [], h => by simp [chkPs] at h
  | .cons e es, x :: xs, h => by
    simp only [chkPs, Bool.and_eq_true] at h
    obtain ⟨⟨h1, h2⟩, h3⟩ := h
    obtain ⟨q1, q2⟩ := sndPs P h3
    exact ⟨pa1 (P _ _ _ h1) q1 (still _ (chkP_pure h1)) q2 (star_cons h2 _).1, stillA_cons (still _ (chkP_pure h1)) q2⟩
theorem sndUr (P : ∀ n e y, chkP S N sc hn n e y = true → PE X y (tP g c Z e)) {n : Nat} {e : XS} {x : Expr} {pos : Pos} (h : chkUr S N sc hn n e x = true) : PS X (.Return (some x) pos) (tPS g c Z (.ret e)) := by
  unfold chkUr at h
  split at h
  · split at h
    · exact u_any (s_ret (e_lst a_nil (by simp [lenEs])))
    · cases h
  · split at h
    · simp only [Bool.and_eq_true, decide_eq_true_eq] at h
      obtain ⟨q1, q2⟩ := sndPs P h.1
      exact u_retT q1 q2 h.2
    · cases h
  · exact u_ret (P _ _ _ h) (still _ (chkP_pure h))
theorem sndU {WW : WX} (G : GoodH g X WW) (P : ∀ n e y, chkP S N sc hn n e y = true → PE X y (tP g c Z e)) : ∀ (n : Nat) (ss : Mu.Ss) (xs : List Stmt), chkU S N sc hn n ss xs = true → PSs X xs (tPSs g c Z ss)
  | 0, _, _, h => by simp [chkU] at h
  | n + 1, ss, xs, h => by
    have ih := sndU G P n
    unfold chkU at h
    split at h
    · split at h
      · exact u_one (sndUr P h)
      · cases h
    · split at h
      · simp only [Bool.and_eq_true] at h
        obtain ⟨⟨⟨⟨h1, h2⟩, h3⟩, h4⟩, h5⟩ := h
        exact u_ifr (sndPT G P _ _ _ h2).1 (still _ h1) (ih _ _ h4) (endsRet_nx h3) (ih _ _ h5)
      · cases h
    · cases h
/-- without a name -/
theorem sndP0 (G : GoodH g X W) (eN : X.N = N) (esc : X.env.scope = sc) (hbl : ∀ b ∈ S.bl, g.mg (nm b) = none) : ∀ (n : Nat) (e : XS) (y : Expr), chkP S N sc none n e y = true → PE X y (tP g c Z e)
  | 0, _, _, h => by simp [chkP] at h
  | n + 1, e, y, h => by
    have ih := sndP0 G eN esc hbl n
    cases e with
    | v i =>
      simp only [chkP] at h
      split at h
      · simp only [Bool.and_eq_true] at h
        obtain ⟨⟨⟨h1, h2⟩, h3⟩, h4⟩ := h
        exact p_v (by rw [eN]; exact of_decide_eq_true h1) (by rw [esc]; exact isVis_of h2) (dbg_no h3) (by simpa using h4)
      · cases h
    | int i =>
      simp only [chkP] at h
      split at h
      · cases of_decide_eq_true h; exact p_int
      · cases h
    | bl b =>
      simp only [chkP] at h
      split at h
      · cases (beq_iff_eq.mp h); exact p_bl
      · cases h
    | non =>
      simp only [chkP] at h
      split at h
      · exact p_non
      · cases h
    | str s =>
      simp only [chkP] at h
      split at h
      · simp only [Bool.and_eq_true] at h
        rw [eqN_of h.1]
        exact p_str (Nat.le_trans (of_decide_eq_true h.2) (by rw [sl_num]; decide))
      · cases h
    | isa a2 t =>
      simp only [chkP] at h
      split at h
      · simp only [Bool.and_eq_true] at h
        obtain ⟨⟨⟨⟨⟨⟨⟨h1, h2⟩, h3⟩, h4⟩, h5⟩, h6⟩, h7⟩, h8⟩ := h
        cases eqN_of h1
        cases eqN_of h4
        exact p_isa G (isGl_of esc h2) (hbl _ (inL_of h3)) (isGl_of esc h5) (hbl _ (inL_of h6)) h7 (ih _ _ h8) (still _ (chkP_pure h8))
      · cases h
    | cmp op a2 b =>
      simp only [chkP] at h
      split at h
      · simp only [Bool.and_eq_true] at h
        obtain ⟨⟨⟨h1, h2⟩, h3⟩, h4⟩ := h
        cases of_decide_eq_true h1
        exact p_cmp G (ih _ _ h2) (ih _ _ h3) (by simpa using h4) (fun _ _ _ _ q => (still _ (chkP_pure h2)).same q) (fun _ _ _ _ q => (still _ (chkP_pure h3)).same q)
      · cases h
    | _ => simp [chkP] at h
/-! ### clauses -/
abbrev Mc := String × Option Nat × Mu.Ss
def clH : List Mc → Mu.Hs
  | [] => .nil
  | q :: r => .cons [q.1] q.2.1 q.2.2 (clH r)
def clV (g : Gc) (c : Mu.Cx) : List Mc → List Cl
  | [] => []
  | q :: r => (.ref (g.xA q.1), q.2.1, match q.2.1 with
    | none => fun _ k d => tSu g c q.2.2 k d
    | some i => fun a k d => tSuA g c i q.2.2 a k d) :: clV g c r
theorem mix_of (T : Exs g) {x : Mu.Exn} {fr : Mu.Fr} {w : Wd} {D : Ends} {σ : L2.St} {k : Value} {d : Option Addr} (hr : HR g w) (hf : FR g.K w fr σ) (xr : XR g w x k d) : ∀ (l : List Mc), (∀ p ∈ l, p.1 ∈ g.xs) →
    AftS g w (Mu.execH { c with hx := some x } x fr w.ah (clH l)) D W → wMix g.K W D (clV g c l) k d σ w.H
  | [], _, h => by
    rw [clH, Mu.execH] at h
    exact h k d σ w rfl .refl hr hf xr
  | (cn, nm?, sb) :: r, hl, h => by
    rw [clH, Mu.execH] at h
    have hk := hl _ (List.mem_cons_self ..)
    refine ⟨Mu.excSub x.cls cn, by rw [xr.1.1]; exact T.em _ xr.1.2 _ hk, fun e a na => ?_, fun e => ?_⟩
    · rw [if_pos (by simp [e])] at h
      cases nm? with
      | none => exact ⟨x, w, fr, rfl, hr, hf, xr, h.plain⟩
      | some i => exact ⟨x, w, _, rfl, hr, FR.anyv _ i hf, ⟨σ, rfl⟩, xr, h.named⟩
    · rw [if_neg (by simp [e])] at h
      exact mix_of T hr hf xr r (fun p hp => hl p (List.mem_cons_of_mem _ hp)) h
theorem s_tryM {body : List Stmt} {h₀ : ExceptHandler} {hds : List ExceptHandler} {pos : Pos} {sb : Mu.Ss} {l : List Mc} (G : GoodS g X W) (T : Exs g) (hs : X.stack = X.env :: X.outer) (hf : X.env.frame = some X.env.locals)
    (hb : ∀ (V : WX) (pn : List (Addr × Obj)) (xe : Value → Shared → Prop), GoodS g (X.tr pn xe) V → PSs (X.tr pn xe) body (tSs g V c sb)) (hl : ∀ p ∈ l, p.1 ∈ g.xs) (hh : ClOk X (h₀ :: hds) (clV g c l)) :
    PS X (.Try body (h₀ :: hds) [] [] pos) (tSt g W c (.try_ sb (clH l))) := by
  refine PS_weak (ps_try_mix (tb := fun V => tSs g V c sb) hs hf G.nd G.takes (fun V pn xe tk po => hb V pn xe ⟨⟨⟨G.P, G.w, G.K, G.mg, G.base, G.nd, tk, G.un⟩, G.calm⟩, po⟩) hh) ?_
  rintro D σ H ⟨w, fr, rfl, hr, hf, h⟩
  refine ⟨w, fr, rfl, hr, hf, ?_⟩
  rw [Mu.exec] at h
  cases e : Mu.execs c fr w.ah sb with
  | ex x fr' ah' =>
    rw [e] at h
    intro cls d σ' w' ea le hr' hf' xr
    subst ea
    rw [G.K]
    exact mix_of T hr' hf' xr l hl (AftS.later h le)
  | nx _ _ => rw [e] at h; exact h
  | rt _ _ => rw [e] at h; exact h
  | bk _ _ => rw [e] at h; exact h
  | ct _ _ => rw [e] at h; exact h
  | bad => rw [e] at h; exact h.elim
/-- a try whose clauses are never run: Mu says bad there -/
def qH : Mu.Hs := .cons ["ValueError"] none (.cons .any .nil) .nil
theorem GoodS.nox (G : GoodS g X W) : GoodS g X.nox Wf := ⟨⟨⟨G.P, G.w, G.K, G.mg, G.base, G.nd, fun _ _ ⟨_, _, _, _, _, _, _, _, _, _, _, _, _, _, _, _, z⟩ => z.elim, G.un⟩, G.calm⟩, PassesOwn.never⟩
theorem exec_qH {x : Mu.Exn} {σ : Mu.Fr} {h : Mu.Hp} : Mu.execH c x σ h qH = .bad := by
  unfold qH
  rw [Mu.execH]
  have : (["ValueError"].any (Mu.excSub x.cls)) = true := by simp [Mu.excSub]
  rw [if_pos this, Mu.execs, Mu.exec]
  rfl
theorem s_tryQ {body : List Stmt} {h₀ : ExceptHandler} {hds : List ExceptHandler} {pos : Pos} {sb : Mu.Ss} (hb : PSs X.nox body (tSs g Wf c sb)) :
    PS X (.Try body (h₀ :: hds) [] [] pos) (tSt g W c (.try_ sb qH)) := by
  refine PS_weak (ps_try_thru0 hb) ?_
  rintro D σ H ⟨w, fr, rfl, hr, hf, h⟩
  refine ⟨w, fr, rfl, hr, hf, ?_⟩
  rw [Mu.exec] at h
  cases e : Mu.execs c fr w.ah sb with
  | ex x fr' ah' =>
    rw [e] at h
    have h : AftS g w (Mu.execH { c with hx := some x } x fr' ah' qH) D W := h
    rw [exec_qH] at h
    exact h.elim
  | nx _ _ => rw [e] at h; exact h
  | rt _ _ => rw [e] at h; exact h
  | bk _ _ => rw [e] at h; exact h
  | ct _ _ => rw [e] at h; exact h
  | bad => rw [e] at h; exact h.elim
def isQ : Mu.Hs → Bool
  | .cons ["ValueError"] none (.cons .any .nil) .nil => true
  | _ => false
theorem isQ_eq : ∀ {hs : Mu.Hs}, isQ hs = true → hs = qH := by
  intro hs h
  unfold isQ at h
  split at h
  · rfl
  · cases h
/-! ### the checker of clauses -/
def chkHs (S : Sg) (N : List Str) (sc : Scope) (n : Nat) : Mu.Hs → List ExceptHandler → Bool
  | .nil, [] => true
  | .cons [k] nm? b hs, .ExceptHandler (some (.Name y _)) en (x :: xs) _ :: hds => eqN y k && isGl sc y && dbgOk y && inL k S.xs && (match nm?, en with
      | none, none => chkU S N sc none n b (x :: xs)
      | some i, some z => slotC N i z && isLcl sc z && chkU S N sc (some (i, z)) n b (x :: xs)
      | _, _ => false) && chkHs S N sc n hs hds
  | _, _ => false
theorem GoodH.suite {a : Addr} {pn : List (Addr × Obj)} (G : GoodH g X W) : GoodH g (X.suite a pn) Wf :=
  ⟨G.P, G.w, G.K, G.mg, G.base, G.nd, fun _ _ ⟨_, _, _, _, _, _, _, _, _, _, _, _, _, _, _, _, z⟩ => z.elim, by
    have := G.un
    show (X.A.mark _).units + 200 < cLine
    exact this⟩
theorem sndHs (G : GoodH g X W) (C : CtxU g S N sc X) {n : Nat} : ∀ {hs : Mu.Hs} {hds : List ExceptHandler}, chkHs S N sc n hs hds = true → ∃ l, hs = clH l ∧ (∀ p ∈ l, p.1 ∈ g.xs) ∧ ClOk X hds (clV g c l)
  | .nil, [], _ => ⟨[], rfl, fun _ h => by simp at h, .nil⟩
  | .nil, _ :: _, h => by simp [chkHs] at h
  | .cons ks nm? b hs, hds, h => by
    unfold chkHs at h
    split at h
    · rename_i e; cases e
    · rename_i k nm2 b2 hs2 y p1 en x xs p2 hds2 e
      cases e
      simp only [Bool.and_eq_true] at h
      obtain ⟨⟨⟨⟨⟨h1, h2⟩, h3⟩, h4⟩, h5⟩, h6⟩ := h
      cases eqN_of h1
      obtain ⟨l, e, hl, q⟩ := sndHs G C h6
      have hk : k ∈ g.xs := by rw [C.ex]; exact inL_of h4
      have hnm : Names X (nm k) (.ref (g.xA k)) := ⟨isGl_of C.esc h2, dbg_no h3, .inl (by rw [G.mg]; exact C.T.mg k hk)⟩
      split at h5
      · refine ⟨(k, none, b) :: l, by rw [clH, e], fun p hp => ?_, ?_⟩
        · rcases List.mem_cons.mp hp with rfl | hp
          · exact hk
          · exact hl p hp
        · refine .bare hnm (fun a oe cv d pn hz hfs => ?_) q
          refine ⟨fun pins s σ H D I ⟨x, w, fr, e1, hr, hf, xr, k1⟩ => ?_⟩
          have GS := GoodH.suite (a := a) (pn := (a, oe) :: pn) G
          exact (sndU GS (sndP0 (Z := fun _ _ => True) (c := { c with hx := some x }) GS C.eN C.esc C.bl) n _ _ h5).run pins s σ H D I ⟨w, fr, e1, hr, hf, trivial, k1⟩
      · rename_i i z
        simp only [Bool.and_eq_true] at h5
        obtain ⟨⟨a1, a2⟩, a3⟩ := h5
        refine ⟨(k, some i, b) :: l, by rw [clH, e], fun p hp => ?_, ?_⟩
        · rcases List.mem_cons.mp hp with rfl | hp
          · exact hk
          · exact hl p hp
        · have hi : X.N[i]? = some z := by rw [C.eN]; exact of_decide_eq_true a1
          refine .named hi (by show X.env.scope.names.lookup z = _; rw [C.esc]; exact isLcl_of a2) hnm (fun a oe cv d pn hz hfs => ?_) q
          have GS := GoodH.suite (a := a) (pn := (a, oe) :: pn) G
          refine suA_of (List.getElem?_eq_some_iff.mp hi).1 fun x hx ec => ?_
          exact sndU GS (sndP G GS C hz hfs hx ec i (fun p e => by cases e; rfl)) n _ _ a3
      · cases h5
    · cases h
end
end Ad
end

section
set_option Elab.async false
set_option linter.all false
set_option maxRecDepth 100000
set_option maxHeartbeats 4000000
namespace Ad
open PySem PySem.Spec PyProof.Rows L2
/-! raise BadSchedule(line, reason) -/
def oexB (K : PySem.W.Frag) (C : Addr) : Bool := (match K.lookup C with
    | some ⟨.type ty, _, .cls cd, sl⟩ => (match cd.mro, sl.toList with
      | .ref C2 :: bm, [_, _, _, _, some (.builtin n), _] => ty == "type" && C2 == C && n == "ValueError.__new__" && !cd.hasDel && cd.hasDict && PySem.HandSPX.refsVE bm
      | _, _ => false)
    | _ => false) && decide (PySem.W.findIn K (.ref C) "__setattr__" = some (some (.builtin "object.__setattr__"))) && decide (PySem.W.subIn K (.ref C) (.type "BaseException") = some true) &&
  decide (PySem.W.typeIn K (.ref C) = some (.type "type")) && PySem.W.keepIn K (.ref C)
theorem oexB_ok {K : PySem.W.Frag} {C : Addr} (h : oexB K C = true) : OexC K C := by
  simp only [oexB, Bool.and_eq_true, decide_eq_true_eq] at h
  obtain ⟨⟨⟨⟨h0, h1⟩, h2⟩, h3⟩, h4⟩ := h
  refine ⟨?_, h1, h2, h3, h4⟩
  split at h0
  · rename_i ty dd cd sl ho
    split at h0
    · rename_i C2 bm k0 k1 k2 k3 n k5 hm hs
      simp only [Bool.and_eq_true, beq_iff_eq, Bool.not_eq_true'] at h0
      obtain ⟨⟨⟨⟨⟨rfl, rfl⟩, rfl⟩, hdel⟩, hd⟩, hr⟩ := h0
      obtain ⟨name, bs, mro, ns, qn, hdc, sn, sub, ab, col, del⟩ := cd
      dsimp only at hm hdel hd
      subst hm hdel hd
      have esl : sl = #[k0, k1, k2, k3, some (.builtin "ValueError.__new__"), k5] := by
        cases sl with
        | mk l => simp only at hs; rw [hs]
      subst esl
      exact ⟨_, _, _, _, _, _, _, _, _, _, _, _, _, _, _, ho, hr⟩
    · cases h0
  · cases h0
theorem sw_attr {e o : Expr} {y : Str} {p : Pos} {l : Nat} {env : Env} : swapsWith e (some (.Attribute o y p)) l env = pure false := by cases e <;> rfl
def bsN : List Str := [nm "self", nm "line", nm "reason"]
/-- its __init__: self.line = line; self.reason = reason -/
def chkBs (d : He.DefD) : Bool := C8.scC bsN bsN d.scope && isVis d.scope (nm "self") && isVis d.scope (nm "line") && isVis d.scope (nm "reason") && d.dfl.isEmpty && d.kwd.isEmpty && (match d.body with
  | [.Assign [.Attribute (.Name a _) f _] (.Name b _) _, .Assign [.Attribute (.Name a2 _) f2 _] (.Name b2 _) _] => eqN a "self" && eqN f "line" && eqN b "line" && eqN a2 "self" && eqN f2 "reason" && eqN b2 "reason"
  | _ => false)
def bsH (C a dx : Addr) (l r : V) (H : Hp) : Hp := upd (upd (upd H dx (exd dx [(nm "line", l)])) a (exo a C (some dx))) dx (exd dx [(nm "reason", r), (nm "line", l)])
def spBs (K : PySem.W.Frag) (C : Addr) : Sp := fun vs H Q _ => ∃ a l r, vs = [.ref a, l, r] ∧ H a = some (exo a C none) ∧ ∀ dx, H dx = none → dx ≠ a → Q .non (bsH C a dx l r H)
structure BsC (g : Gc) : Prop where
  T : OexC g.K (g.xA "BadSchedule")
  n1 : PySem.W.findIn g.K (.ref (g.xA "BadSchedule")) (nm "line") = some none
  n2 : PySem.W.findIn g.K (.ref (g.xA "BadSchedule")) (nm "reason") = some none
  ini : ∃ (fI : Addr) (fd : FuncData), PySem.W.findIn g.K (.ref (g.xA "BadSchedule")) "__init__" = some (some (.ref fI)) ∧ PySem.W.typeIn g.K (.ref fI) = some (.type "function") ∧
    FnOk g.P g.w g.K g.mg g.base (L2.CX g.P g.w) 1 fI fd bsN (spBs g.K (g.xA "BadSchedule")) ∧ Binds g.K fd bsN []
theorem hush {P : Program} {w : World} {K : PySem.W.Frag} {mg : Str → Option Value} {base : Heap} {k : Nat} {f : Addr} {fd : FuncData} {ps : List Str} {sp : Sp} (F : FnOk P w K mg base (L2.CX P w) k f fd ps sp) (hE : ∀ vs H Q E E', sp vs H Q E → sp vs H Q E') : FnOk P w K mg base CX0 k f fd ps sp := by
  refine ⟨F.len, fun A outer s H args us vs Q E hr e0 hb rv hs => codeAny_mono (F.run A outer s H args us vs Q (fun _ _ _ => False) hr e0 hb rv (hE _ _ _ _ _ hs)) fun r s' hq => ?_⟩
  match r, hq with
  | .error e, hq =>
    obtain ⟨_, _, _, _, _, _, _, _, _, _, _, _, z⟩ := hq
    exact z.elim
  | .ok fl, hq => cases fl <;> exact hq
theorem bs_fn {P : Program} {w : World} {K : PySem.W.Frag} {mg : Str → Option Value} {base : Heap} {d : He.DefD} {fI C : Addr} {fd : FuncData} (hc : chkBs d = true) (FD : FunD K d.name d.qual d.params d.body d.scope [] [] fI fd) (T : OexC K C)
    (n1 : PySem.W.findIn K (.ref C) (nm "line") = some none) (n2 : PySem.W.findIn K (.ref C) (nm "reason") = some none) : FnOk P w K mg base (L2.CX P w) 1 fI fd bsN (spBs K C) := by
  simp only [chkBs, Bool.and_eq_true] at hc
  obtain ⟨⟨⟨⟨⟨⟨c1, v0⟩, v1⟩, v2⟩, _⟩, _⟩, hb⟩ := hc
  have SC := C8.fnScope_by c1
  refine FunD.ok (k := 0) FD SC (fun vs H Q E h => ?_) (fun cdv A outer s H vs Q E hr h => ?_)
  · obtain ⟨a, l, r, rfl, _⟩ := h; rfl
  · split at hb
    · rename_i a p1 f p2 b p3 p4 a2 p5 f2 p6 b2 p7 p8 eb
      simp only [Bool.and_eq_true] at hb
      obtain ⟨⟨⟨⟨⟨e1, e2⟩, e3⟩, e4⟩, e5⟩, e6⟩ := hb
      cases eqN_of e1; cases eqN_of e2; cases eqN_of e3; cases eqN_of e4; cases eqN_of e5; cases eqN_of e6
      rw [eb]
      obtain ⟨a, l, r, rfl, ea, q⟩ := h
      have N0 : bsN[0]? = some (nm "self") := rfl
      have N1 : bsN[1]? = some (nm "line") := rfl
      have N2 : bsN[2]? = some (nm "reason") := rfl
      have V0 := isVis_of v0
      have V1 := isVis_of v1
      have V2 := isVis_of v2
      have s1 : ∀ {pos : Pos}, PE (cxOf (L2.CX P w) P w K mg base bsN d.qual d.scope fI cdv A outer s H E) (.Name (nm "self") pos) (tVar 0) := pe_var N0 V0 (by decide +kernel) (by decide +kernel)
      have s2 : ∀ {pos : Pos}, PE (cxOf (L2.CX P w) P w K mg base bsN d.qual d.scope fI cdv A outer s H E) (.Name (nm "line") pos) (tVar 1) := pe_var N1 V1 (by decide +kernel) (by decide +kernel)
      have s3 : ∀ {pos : Pos}, PE (cxOf (L2.CX P w) P w K mg base bsN d.qual d.scope fI cdv A outer s H E) (.Name (nm "reason") pos) (tVar 2) := pe_var N2 V2 (by decide +kernel) (by decide +kernel)
      refine ⟨_, pss_cons (ps_ost s1 s2 sw_attr) (pss_cons (ps_ost s1 s3 sw_attr) pss_nil), ?_⟩
      refine ⟨l, rfl, .ref a, rfl, a, C, rfl, T, n1, .inl ⟨ea, fun dx nd ne => ?_⟩⟩
      refine ⟨r, rfl, .ref a, rfl, a, C, rfl, T, n2, .inr ⟨dx, [(nm "line", l)], upd_same, ?_, by simp, ?_⟩⟩
      · rw [upd_ne ne, upd_same]
      · exact q dx nd ne
    · cases hb
section
variable {g : Gc} {X : Cx} {W : WX} {c : Mu.Cx}
theorem s_rse2 {b : Bool} {p pos pos' : Pos} {e1 e2 : Expr} {a1 a2 : XS} (G : Good g X W) (T : Exs g) (B : BsC g) (hk : "BadSchedule" ∈ g.xs) (room : Room 2 X.A) (hg : Gl X (nm "BadSchedule")) (hp : plainArgs [e1, e2] = true)
    (ha : PA X [e1, e2] (tA g W c (.cons a1 (.cons a2 .nil)))) :
    PS X (.Raise (some (.Call (.Name (nm "BadSchedule") p) [e1, e2] [] pos)) none pos') (tSt g W c (.rse b "BadSchedule" (.cons a1 (.cons a2 .nil)))) := by
  obtain ⟨fI, fd, i1, i2, i3, i4⟩ := B.ini
  have TC : OexC X.K (g.xA "BadSchedule") := by rw [G.K]; exact B.T
  have FO : FnOk X.prog X.w X.K X.mg X.base CX0 1 fI fd bsN (spBs g.K (g.xA "BadSchedule")) := by
    rw [G.P, G.w, G.K, G.mg, G.base]
    exact hush i3 fun _ _ _ _ _ h => h
  have mk := pmk_oex (X := X) (p := p) (pos := pos) (CX := CX0) (dvs := []) (ds := []) TC (by rw [G.K]; exact i1) (by rw [G.K]; exact i2) FO room (by rw [G.K]; exact i4) .nil pass0 hg (by rw [G.mg]; exact T.mg _ hk) ha (by decide +kernel) (star_cons hp X.env).1 (star_any (star_cons hp X.env).2 X.env pos)
  refine PS_weak (ps_raise G.calm G.takes mk) ?_
  rintro D σ H ⟨w, fr, rfl, hr, hf, h⟩
  rw [Mu.exec] at h
  have h2 : AftS g w ((Mu.evs c fr w.ah (.cons a1 (.cons a2 .nil))).st fr fun ds h => match "BadSchedule", ds with
    | "BadSchedule", [l, r] => .ex ⟨"BadSchedule", [("line", l), ("reason", r)]⟩ fr h
    | k, [] => .ex ⟨k, []⟩ fr h
    | _, _ => .bad) D W := h
  refine ⟨w, fr, rfl, hr, hf, ?_⟩
  refine (AftS.cut hr hf h2).imp fun vs H1 ⟨ds, w1, e1', l1, hr1, hf1, rv, z, k⟩ => ?_
  subst e1'
  have hl := evs_len z
  match ds, hl with
  | [l, r], _ =>
    obtain ⟨v, u, rfl, rv1, rv2⟩ := VRs.two rv
    refine ⟨by simp, fun a na => ?_⟩
    rw [List.append_nil]
    refine ⟨a, v, u, rfl, upd_same, fun dx nd ne => ?_⟩
    have nd' : w1.H dx = none := by rw [upd_ne ne] at nd; exact nd
    refine ⟨rfl, dx, [(nm "reason", u), (nm "line", v)], ?_, upd_same, nd', ?_⟩
    · unfold bsH; rw [upd_ne (Ne.symm ne), upd_same]
    · have eH : upd (del (bsH (g.xA "BadSchedule") a dx v u (upd w1.H a (exo a (g.xA "BadSchedule") none))) a) dx (.xd [(nm "reason", u), (nm "line", v)]) = upd w1.H dx (.xd [(nm "reason", u), (nm "line", v)]) := by
        funext q
        by_cases h1 : q = dx
        · rw [h1, upd_same, upd_same]
        · rw [upd_ne h1, upd_ne h1]
          by_cases h2 : q = a
          · rw [h2, del_same, na]
          · rw [del_ne h2]; unfold bsH; rw [upd_ne h1, upd_ne h2, upd_ne h1, upd_ne h2]
      rw [eH]
      have le : Le w1 ⟨w1.mu, w1.ah, upd w1.H dx (.xd [(nm "reason", u), (nm "line", v)])⟩ := Le.grow rfl rfl fun a u e => (upd_ne (ne_of_none e nd')).trans e
      have hr2 : HR g ⟨w1.mu, w1.ah, upd w1.H dx (.xd [(nm "reason", u), (nm "line", v)])⟩ := ⟨hr1.inj, fun i o e => by
        have q := hr1.ob i o e
        obtain ⟨uu, hu⟩ := q.some
        exact q.mono le (by show upd w1.H dx _ (w1.mu i) = _; rw [upd_ne (ne_of_none hu nd')])⟩
      have k2 : AftS g w1 (.ex ⟨"BadSchedule", [("line", l), ("reason", r)]⟩ fr w1.ah) D W := k
      refine k2 _ _ _ ⟨w1.mu, w1.ah, upd w1.H dx (.xd [(nm "reason", u), (nm "line", v)])⟩ rfl le hr2 (hf1.mono le) ⟨⟨rfl, hk⟩, .inr ⟨rfl, l, r, dx, _, v, u, rfl, rfl, upd_same, ?_, VR.mono le _ _ rv1, ?_, VR.mono le _ _ rv2⟩⟩
      · rw [lookup_put, if_neg (by rw [nm_eq]; decide), lookup_put, if_pos rfl]
      · rw [lookup_put, if_pos rfl]
end
end Ad
end

section
set_option Elab.async false
set_option linter.all false
set_option maxRecDepth 100000
set_option maxHeartbeats 8000000
namespace Ad
open PySem PySem.Spec PyProof.Rows L2
def swB (sc : Scope) (y : Str) (py p : Pos) (scope : Scope) : Bool := isLcl sc y && (py.line == p.line) && !(scope.names.any fun (n, k) => n == y && (k == .local || k == .cell))
def noPar : Expr → Expr → Bool
  | .Tuple .., .Tuple .. => false
  | .List .., .Tuple .. => false
  | _, _ => true
def starE : Expr → Bool
  | .Starred .. => true
  | _ => false
mutual
def chkS (S : Sg) (N : List Str) (sc : Scope) : Nat → Mu.S → Stmt → Bool
  | 0, _, _ => false
  | n + 1, s, x => match s with
    | .pass => (match x with
      | .Pass _ => true
      | _ => false)
    | .brk => (match x with
      | .Break _ => true
      | _ => false)
    | .cont => (match x with
      | .Continue _ => true
      | _ => false)
    | .ret0 => (match x with
      | .Return none _ => true
      | _ => false)
    | .ret e => (match x with
      | .Return (some xe) _ => chkE S N n sc e xe
      | _ => false)
    | .ex e => (match x with
      | .Expr xe _ => !isLc xe && chkE S N n sc e xe
      | _ => false)
    | .asg (.one i) e => (match x with
      | .Assign [.Name y py] xe _ => slotC N i y && (isLcl sc y || isCel sc y) && (match e, xe with
          | .lc t it o cond elt, .ListComp xe1 [⟨tg, iter, ifs, 0⟩] scope p => (bif swB sc y py p scope then
              blkC N sc scope (ownOf N scope) && subL ((ownOf N scope).map (·.2)) (Mu.tgIs t) && subL (Mu.tgIs t) ((ownOf N scope).map (·.2)) &&
              tgC N (relS scope sc) false tg t && chkI S N n sc tg it iter && notSet iter && chkE S N n (relS scope sc) elt xe1 && (match o, ifs with
              | none, [] => true
              | some _, [ce] => chkT S N n (relS scope sc) cond ce
              | _, _ => false)
            else chkE S N n sc e xe)
          | _, _ => !isLc xe && chkE S N n sc e xe)
      | _ => false)
    | .asg (.tup is) e => (match x with
      | .Assign [.Tuple es k pt] xe _ => (match is, es, e, xe with
          | [i, j], [.Name y py, .Name z pz], .tup (.cons da (.cons db .nil)), .Tuple [a, b] _ _ => slotC N i y && slotC N j z && decide (i ≠ j) && isLcl sc y && isLcl sc z && (py.line == pz.line) && decide (y ≠ z) && !starE a && !starE b &&
              !([a, b].all (foldedForSure 8)) && !([a, b].all (constantsAlone 8)) && chkE S N n sc da a && chkE S N n sc db b
          | [i, j, l], [.Name y py, .Name z pz, .Name v pv], .tup (.cons da (.cons db (.cons dd .nil))), .Tuple [a, b, d] _ _ => (bif isLcl sc y && isLcl sc z && isLcl sc v then slotC N i y && slotC N j z && slotC N l v && decide (i ≠ j) && decide (i ≠ l) && decide (j ≠ l) && isLcl sc y && isLcl sc z && isLcl sc v && (py.line == pz.line) && (py.line == pv.line) && decide (y ≠ z) && decide (y ≠ v) && decide (z ≠ v) &&
              !starE a && !starE b && !starE d && !([a, b, d].all (foldedForSure 8)) && !([a, b, d].all (constantsAlone 8)) && chkE S N n sc da a && chkE S N n sc db b && chkE S N n sc dd d
            else nmsC N sc true es is && chkE S N n sc e xe)
          | _, _, _, _ => nmsC N sc true es is && noPar (.Tuple es k pt) xe && !isLc xe && chkE S N n sc e xe)
      | _ => false)
    | .asgF o f e => (match x with
      | .Assign [.Attribute xo y _] xe _ => eqN y f && inL f S.fl && chkE S N n sc o xo && chkE S N n sc e xe
      | _ => false)
    | .asgI o i e => (match x with
      | .Assign [.Subscript xo xi _] xe _ => plainI xi && chkE S N n sc o xo && chkE S N n sc i xi && chkE S N n sc e xe
      | _ => false)
    | .aug i op e => (match x with
      | .AugAssign (.Name y _) oo xe _ => slotC N i y && (isLcl sc y || isCel sc y) && decide (oo = opA op) && chkE S N n sc e xe
      | _ => false)
    | .augF o f op e => (match x with
      | .AugAssign (.Attribute xo y _) oo xe _ => eqN y f && inL f S.fl && decide (oo = opA op) && chkE S N n sc o xo && chkE S N n sc e xe
      | _ => false)
    | .augI o i op e => (match x with
      | .AugAssign (.Subscript xo xi _) oo xe _ => plainI xi && decide (oo = opA op) && chkE S N n sc o xo && chkE S N n sc i xi && chkE S N n sc e xe
      | _ => false)
    | .iff k a b => (match x with
      | .If xk xa xb _ => chkT S N n sc k xk && chkSs S N sc n a xa && chkSs S N sc n b xb
      | _ => false)
    | .whl k b => (match x with
      | .While xk xb [] _ => chkT S N n sc k xk && chkSs S N sc n b xb
      | _ => false)
    | .fr t it b => (match x with
      | .For tg iter xb [] _ => tgC N sc true tg t && chkI S N n sc tg it iter && notSet iter && chkSs S N sc n b xb
      | _ => false)
    | .rse _ k es => (match x with
      | .Raise (some (.Call (.Name y _) args [] _)) none _ => eqN y k && isGl sc y && dbgOk y && inL k S.xs && (match es, args with
          | .nil, [] => decide (k ≠ "BadSchedule")
          | .cons a1 (.cons a2 .nil), [e1, e2] => decide (k = "BadSchedule") && plainArgs [e1, e2] && chkEs S N n sc (.cons a1 (.cons a2 .nil)) [e1, e2]
          | _, _ => false)
      | _ => false)
    | .try_ b hs => (match x with
      | .Try xb (h0 :: hds) [] [] _ => chkSs S N sc n b xb && (isQ hs || chkHs S N sc n hs (h0 :: hds))
      | _ => false)
    | .any => true
    | .lkS _ a => chkS S N sc n a x
def chkSs (S : Sg) (N : List Str) (sc : Scope) : Nat → Mu.Ss → List Stmt → Bool
  | 0, _, _ => false
  | n + 1, ss, xs => match ss with
    | .nil => (match xs with
      | [] => true
      | _ => false)
    | .cons s ss => (match xs with
      | x :: xs => chkS S N sc n s x && chkSs S N sc n ss xs
      | _ => false)
end
section
variable {g : Gc} {X : Cx} {W : WX} {mP : Mu.Prog} {S : Sg} {nn k : Nat} {N : List Str} {sc : Scope} {hx : Option Mu.Exn}
theorem not_t {b : Bool} (h : (!b) = true) : b = false := by cases b; rfl; cases h
theorem blockKind_of {env : Env} (h : env.scope.kind = .function) : env.blockKind = .function := by unfold Env.blockKind; rw [h]; rfl
theorem sw_lc {elt : Expr} {gs : List Comprehension} {scope : Scope} {p py : Pos} {y : Str} {l : Nat} {env : Env} (hk : env.scope.kind = .function) (h : swB env.scope y py p scope = false) : swapsWith (.ListComp elt gs scope p) (some (.Name y py)) l env = pure false := by
  have hb := blockKind_of hk
  unfold swapsWith
  simp only [hb, Expr.pos]
  have : (env.kindOf y == some .local && (py.line == p.line) && !(scope.names.any fun (n, k) => n == y && (k == .local || k == .cell))) = false := by
    unfold swB isLcl at h
    have e : env.kindOf y = env.scope.names.lookup y := rfl
    rw [e]
    revert h
    cases env.scope.names.lookup y with
    | none => intro h; simp
    | some kk => cases kk <;> intro h <;> simp_all
  show (pure (_) : Sem Bool) = _
  have e1 : (ScopeKind.function == ScopeKind.function) = true := rfl
  rw [e1, Bool.true_and, this]
theorem par2 {x y : Str} {a b : Expr} {px py pt pt2 : Pos} {kt k2 : Nat} {env : Env} (hk : env.scope.kind = .function) (hx : env.scope.names.lookup x = some .local) (hy : env.scope.names.lookup y = some .local) (hl : (px.line == py.line) = true) (hne : x ≠ y) (sa : starE a = false) (sb : starE b = false)
    (hf : [a, b].all (foldedForSure 8) = false) (hc : [a, b].all (constantsAlone 8) = false) : swappedStores [.Tuple [.Name x px, .Name y py] kt pt] (.Tuple [a, b] k2 pt2) env = pure (some [x, y]) := by
  have hb := blockKind_of hk
  have e1 : env.kindOf x = some .local := hx
  have e2 : env.kindOf y = some .local := hy
  have hl' : py.line = px.line := (beq_iff_eq.mp hl).symm
  have st : ([a, b].any fun | .Starred .. => true | _ => false) = false := by
    have z : (fun (e : Expr) => match e with | .Starred .. => true | _ => false) = starE := by funext e; cases e <;> rfl
    rw [z]; simp [sa, sb]
  have ed : [x, y].eraseDups.length = 2 := by
    have : (y == x) = false := beq_eq_false_iff_ne.mpr (Ne.symm hne)
    simp [List.eraseDups_cons, this]
  unfold swappedStores
  simp only [hb, hf, hc]
  refine (if_neg (by simp)).trans ((if_neg (fun h => ?_)).trans ?_)
  · exact absurd (show ([a, b].any fun | .Starred .. => true | _ => false) = true from h) (by rw [st]; simp)
  · simp only [List.filterMap_cons, List.filterMap_nil, e1, e2, hl', Expr.pos, List.head?_cons, Option.map_some, Option.getD_some, beq_self_eq_true, Bool.and_self, if_true, ed]
    simp
theorem par3 {x y z : Str} {a b c : Expr} {px py pz pt pt2 : Pos} {kt k2 : Nat} {env : Env} (hk : env.scope.kind = .function) (hx : env.scope.names.lookup x = some .local) (hy : env.scope.names.lookup y = some .local) (hz : env.scope.names.lookup z = some .local) (hl : (px.line == py.line) = true) (hl2 : (px.line == pz.line) = true)
    (hxy : x ≠ y) (hxz : x ≠ z) (hyz : y ≠ z) (sa : starE a = false) (sb : starE b = false) (sc : starE c = false)
    (hf : [a, b, c].all (foldedForSure 8) = false) (hc : [a, b, c].all (constantsAlone 8) = false) : swappedStores [.Tuple [.Name x px, .Name y py, .Name z pz] kt pt] (.Tuple [a, b, c] k2 pt2) env = pure (some [x, y, z]) := by
  have hb := blockKind_of hk
  have e1 : env.kindOf x = some .local := hx
  have e2 : env.kindOf y = some .local := hy
  have e3 : env.kindOf z = some .local := hz
  have hl' : py.line = px.line := (beq_iff_eq.mp hl).symm
  have hl2' : pz.line = px.line := (beq_iff_eq.mp hl2).symm
  have st : ([a, b, c].any fun | .Starred .. => true | _ => false) = false := by
    have z : (fun (e : Expr) => match e with | .Starred .. => true | _ => false) = starE := by funext e; cases e <;> rfl
    rw [z]; simp [sa, sb, sc]
  have ed : [x, y, z].eraseDups.length = 3 := by
    have h1 : (y == x) = false := beq_eq_false_iff_ne.mpr (Ne.symm hxy)
    have h2 : (z == x) = false := beq_eq_false_iff_ne.mpr (Ne.symm hxz)
    have h3 : (z == y) = false := beq_eq_false_iff_ne.mpr (Ne.symm hyz)
    simp [List.eraseDups_cons, h1, h2, h3]
  unfold swappedStores
  simp only [hb, hf, hc]
  refine (if_neg (by simp)).trans ((if_neg (fun h => ?_)).trans ?_)
  · exact absurd (show ([a, b, c].any fun | .Starred .. => true | _ => false) = true from h) (by rw [st]; simp)
  · simp only [List.filterMap_cons, List.filterMap_nil, e1, e2, e3, hl', hl2', Expr.pos, List.head?_cons, Option.map_some, Option.getD_some, beq_self_eq_true, Bool.and_self, if_true, ed]
    simp
theorem parC3 {x y z : Str} {a b c : Expr} {px py pz pt pt2 : Pos} {kt k2 : Nat} {env : Env} (h : (isLcl env.scope x && isLcl env.scope y && isLcl env.scope z) = false) : swappedStores [.Tuple [.Name x px, .Name y py, .Name z pz] kt pt] (.Tuple [a, b, c] k2 pt2) env = pure none := by
  have kn : ∀ w, isLcl env.scope w = (env.kindOf w == some .local) := fun w => by
    unfold isLcl
    have e : env.kindOf w = env.scope.names.lookup w := rfl
    rw [e]
    cases env.scope.names.lookup w with
    | none => rfl
    | some kk => cases kk <;> rfl
  rw [kn, kn, kn] at h
  have key : ((List.filterMap (fun (t : Expr) => match t with
    | .Name id pos => if env.kindOf id == some .local && pos.line == px.line then some id else none
    | _ => none) [.Name x px, .Name y py, .Name z pz]).length != 3) = true := by
    simp only [List.filterMap_cons, List.filterMap_nil]
    cases e1 : env.kindOf x == some .local <;> cases e2 : env.kindOf y == some .local <;> cases e3 : env.kindOf z == some .local <;> rw [e1, e2, e3] at h
    all_goals first | (cases h; done) | skip
    all_goals
      cases (px.line == px.line) <;> cases (py.line == px.line) <;> cases (pz.line == px.line) <;> rfl
  unfold swappedStores
  dsimp only
  split
  · rfl
  split
  · rfl
  split
  · rfl
  · rename_i hh
    exfalso
    apply hh
    show (_ || _) = true
    rw [Bool.or_eq_true]
    exact Or.inl key
theorem noPar_of {tg e : Expr} {env : Env} (h : noPar tg e = true) : swappedStores [tg] e env = pure none := by
  cases tg <;> first | rfl | (cases e <;> first | rfl | cases h)
theorem sole_no {tg e : Expr} {l : Nat} {env : Env} (h : isLc e = false) : swapsWithSole [tg] e l env = pure false := sw_no h _ _ _
theorem sole_sub {e o i : Expr} {p : Pos} {l : Nat} {env : Env} : swapsWithSole [.Subscript o i p] e l env = pure false := by cases e <;> rfl
theorem par_sub {e o i : Expr} {p : Pos} {env : Env} : swappedStores [.Subscript o i p] e env = pure none := by cases e <;> rfl
theorem par_name {e : Expr} {y : Str} {p : Pos} {env : Env} : swappedStores [.Name y p] e env = pure none := by cases e <;> rfl
/-- what raising and catching rest on -/
structure FkX (g : Gc) (S : Sg) : Prop where
  ex : g.xs = S.xs
  T : Exs g
  ec : ∀ z ∈ g.xs, z ≠ "BadSchedule" → ExcC g.K (g.xA z)
  ko : ∀ z ∈ g.xs, ∀ z' ∈ g.xs, PySem.W.kitOne g.K (.ref (g.xA z)) (.ref (g.xA z')) = some (Mu.excSub z z')
  xf : "BadSchedule" ∈ g.xs → XfC g.K (g.xA "BadSchedule") ∧ PySem.W.findIn g.K (.ref (g.xA "BadSchedule")) (nm "line") = some none ∧ PySem.W.findIn g.K (.ref (g.xA "BadSchedule")) (nm "reason") = some none
  bs : "BadSchedule" ∈ g.xs → BsC g
structure CtxT (X : Cx) : Prop where
  stk : X.stack = X.env :: X.outer
  frm : X.env.frame = some X.env.locals
theorem PS_void {x : Stmt} {t : TS} (h : ∀ D σ H, ¬ t D σ H) : PS X x t := ⟨fun pins s σ H D I q => (h D σ H q).elim⟩
structure SndS (g : Gc) (mP : Mu.Prog) (S : Sg) (nn k : Nat) (N : List Str) (sc : Scope) (hx : Option Mu.Exn) (n : Nat) : Prop where
  s : ∀ {X : Cx} {W : WX}, GoodS g X W → CtxE g mP S nn k N sc true X → CtxT X → ∀ s x, chkS S N sc n s x = true → PS X x (tSt g W (cx mP nn hx) s)
  ss : ∀ {X : Cx} {W : WX}, GoodS g X W → CtxE g mP S nn k N sc true X → CtxT X → ∀ s x, chkSs S N sc n s x = true → PSs X x (tSs g W (cx mP nn hx) s)
theorem snd_ss {n : Nat} (ih : SndS g mP S nn k N sc hx n) (G : GoodS g X W) (C : CtxE g mP S nn k N sc true X) (CT : CtxT X) (s : Mu.Ss) (x : List Stmt) (h : chkSs S N sc (n + 1) s x = true) : PSs X x (tSs g W (cx mP nn hx) s) := by
  cases s with
  | nil =>
    simp only [chkSs] at h
    split at h
    · exact ss_nil
    · cases h
  | cons s ss =>
    simp only [chkSs] at h
    split at h
    · simp only [Bool.and_eq_true] at h
      exact ss_cons (ih.s G C CT _ _ h.1) (ih.ss G C CT _ _ h.2)
    · cases h
theorem loc_of {y : Str} (C : CtxE g mP S nn k N sc true X) (h : (isLcl sc y || isCel sc y) = true) : Loc X.env.scope y := by
  rw [C.esc]
  rcases Bool.or_eq_true_iff.mp h with h | h
  · exact .inl (isLcl_of h)
  · exact .inr (isCel_of h)
theorem snd_s {n : Nat} (F : Fk g mP S) (FX : FkX g S) (hk1 : 1 ≤ k) (hk : sc.kind = .function) (ih : SndS g mP S nn k N sc hx n) (G : GoodS g X W) (C : CtxE g mP S nn k N sc true X) (CT : CtxT X) (s : Mu.S) (x : Stmt) (h : chkS S N sc (n + 1) s x = true) : PS X x (tSt g W (cx mP nn hx) s) := by
  have E := snd (hx := hx) (nn := nn) (k := k) (N := N) F n
  have ee := E.e G.toGood C
  have tt := fun e x h => (E.t G.toGood C e x h).1
  have esc := C.esc
  have hk' : X.env.scope.kind = .function := by rw [esc]; exact hk
  cases s with
  | pass => simp only [chkS] at h; split at h; exact s_pass; cases h
  | brk => simp only [chkS] at h; split at h; exact s_brk; cases h
  | cont => simp only [chkS] at h; split at h; exact s_cont; cases h
  | ret0 => simp only [chkS] at h; split at h; exact s_ret0; cases h
  | ret e => simp only [chkS] at h; split at h; exact s_ret (ee _ _ h); cases h
  | ex e =>
    simp only [chkS] at h
    split at h
    · simp only [Bool.and_eq_true] at h
      exact s_ex (by simpa using h.1) (ee _ _ h.2)
    · cases h
  | asg t e =>
    cases t with
    | one i =>
      simp only [chkS] at h
      split at h
      · rename_i y py xe pos
        simp only [Bool.and_eq_true] at h
        obtain ⟨⟨h1, h2⟩, h3⟩ := h
        have ht : TgOk X (.Name y py) (.one i) := .one ⟨y, py, rfl, slot_of C h1, loc_of C h2, .inl (C.efa rfl y)⟩
        split at h3
        · rename_i t it o cond elt xe1 tg iter ifs scope p
          cases hsw : swB sc y py p scope with
          | true =>
            rw [hsw, cond_true] at h3
            simp only [Bool.and_eq_true] at h3
            obtain ⟨⟨⟨⟨⟨⟨⟨a1, a2⟩, a3⟩, a4⟩, a5⟩, a6⟩, a7⟩, a8⟩ := h3
            have hsw' := hsw
            simp only [swB, Bool.and_eq_true] at hsw
            obtain ⟨⟨b1, b2⟩, b3⟩ := hsw
            have hyl : X.env.scope.names.lookup y = some .local := by rw [esc]; exact isLcl_of b1
            refine s_asgLc (own := ownOf N scope) G.toGood (slot_of C h1) hyl (sw_true hk' hyl b2 (by simpa using b3)) (E.i G.toGood C _ _ _ a5) (by rw [C.eN, esc]; exact blkOk_by a1) (sub_of a2) (sub_of a3) (fun s H Cc cl fp => tg_of (C.blk s H scope Cc cl fp) a4) (fun s H Cc cl fp => ?_)
              (fun s H Cc cl fp => E.e (G.toGood.blk s H scope _ fp) (C.blk s H scope Cc cl fp) _ _ a7) (notSet_of a6)
            split at a8
            · exact .nil
            · exact .one (E.t (G.toGood.blk s H scope _ fp) (C.blk s H scope Cc cl fp) _ _ a8).1
            · cases a8
          | false =>
            rw [hsw, cond_false] at h3
            exact s_asg G.toGood ht (ee _ _ h3) (sw_lc (l := pos.line) hk' (by rw [esc]; exact hsw)) par_name
        · simp only [Bool.and_eq_true] at h3
          exact s_asg G.toGood ht (ee _ _ h3.2) (sole_no (by simpa using h3.1)) par_name
      · cases h
    | tup is =>
      simp only [chkS] at h
      split at h
      · rename_i es kt pt xe pos
        split at h
        · rename_i i j y py z pz da db a b k2 pt2
          simp only [Bool.and_eq_true, decide_eq_true_eq] at h
          obtain ⟨⟨⟨⟨⟨⟨⟨⟨⟨⟨⟨⟨h1, h2⟩, h3⟩, h4⟩, h5⟩, h6⟩, h7⟩, h8⟩, h9⟩, h10⟩, h11⟩, h12⟩, h13⟩ := h
          have l1 : X.env.scope.names.lookup y = some .local := by rw [esc]; exact isLcl_of h4
          have l2 : X.env.scope.names.lookup z = some .local := by rw [esc]; exact isLcl_of h5
          have sa : starE a = false := by simpa using h8
          have sb : starE b = false := by simpa using h9
          have pb : ∀ e, starE e = false → plainArgs [e] = true := fun e he => by cases e <;> first | rfl | cases he
          have pc : plainArgs (a :: [b]) = true := by
            have := pb b sb
            cases a <;> first | exact this | cases sa
          exact s_par G.toGood (slot_of C h1) (slot_of C h2) h3 l1 l2 (a_cons (ee _ _ h12) (a_cons (ee _ _ h13) a_nil (star_cons (pb b sb) _).1) (star_cons pc _).1) (par2 hk' l1 l2 h6 h7 sa sb (not_t h10) (not_t h11))
        · rename_i i j l y py z pz v pv da db dd a b d k2 pt2
          cases hb : isLcl sc y && isLcl sc z && isLcl sc v with
          | true =>
            rw [hb, cond_true] at h
            simp only [Bool.and_eq_true, decide_eq_true_eq] at h
            obtain ⟨⟨⟨⟨⟨⟨⟨⟨⟨⟨⟨⟨⟨⟨⟨⟨⟨⟨⟨⟨⟨h1, h2⟩, h3⟩, h4⟩, h5⟩, h6⟩, h7⟩, h8⟩, h9⟩, h10⟩, h11⟩, h12⟩, h13⟩, h14⟩, h15⟩, h16⟩, h17⟩, h18⟩, h19⟩, h20⟩, h21⟩, h22⟩ := h
            have l1 : X.env.scope.names.lookup y = some .local := by rw [esc]; exact isLcl_of h7
            have l2 : X.env.scope.names.lookup z = some .local := by rw [esc]; exact isLcl_of h8
            have l3 : X.env.scope.names.lookup v = some .local := by rw [esc]; exact isLcl_of h9
            have sa : starE a = false := by simpa using h15
            have sb : starE b = false := by simpa using h16
            have sd : starE d = false := by simpa using h17
            have pb : ∀ e r, starE e = false → plainArgs r = true → plainArgs (e :: r) = true := fun e r he hr => by cases e <;> first | exact hr | cases he
            have p1 := pb d [] sd rfl
            have p2 := pb b _ sb p1
            have p3 := pb a _ sa p2
            exact s_par3 G.toGood (slot_of C h1) (slot_of C h2) (slot_of C h3) h4 h5 h6 l1 l2 l3 (a_cons (ee _ _ h20) (a_cons (ee _ _ h21) (a_cons (ee _ _ h22) a_nil (star_cons p1 _).1) (star_cons p2 _).1) (star_cons p3 _).1) (par3 hk' l1 l2 l3 h10 h11 h12 h13 h14 sa sb sd (not_t h18) (not_t h19))
          | false =>
            rw [hb, cond_false] at h
            simp only [Bool.and_eq_true] at h
            exact s_asg G.toGood (.tup (nms_of C h.1)) (ee _ _ h.2) rfl (parC3 (by rw [esc]; exact hb))
        · simp only [Bool.and_eq_true] at h
          obtain ⟨⟨⟨h1, h2⟩, h3⟩, h4⟩ := h
          exact s_asg G.toGood (.tup (nms_of C h1)) (ee _ _ h4) (sole_no (by simpa using h3)) (noPar_of h2)
      · cases h
  | asgF o f e =>
    simp only [chkS] at h
    split at h
    · simp only [Bool.and_eq_true] at h
      obtain ⟨⟨⟨h1, h2⟩, h3⟩, h4⟩ := h
      cases eqN_of h1
      exact s_asgF G.toGood C.calls.fx (by rw [F.fl]; exact inL_of h2) (ee _ _ h3) (ee _ _ h4) sw_attr
    · cases h
  | asgI o i e =>
    simp only [chkS] at h
    split at h
    · simp only [Bool.and_eq_true] at h
      obtain ⟨⟨⟨h1, h2⟩, h3⟩, h4⟩ := h
      exact s_asgI G.toGood h1 (ee _ _ h2) (ee _ _ h3) (ee _ _ h4) sole_sub par_sub
    · cases h
  | aug i op e =>
    simp only [chkS] at h
    split at h
    · simp only [Bool.and_eq_true] at h
      obtain ⟨⟨⟨h1, h2⟩, h3⟩, h4⟩ := h
      cases of_decide_eq_true h3
      exact s_aug G.toGood (slot_of C h1) (loc_of C h2) (.inl (C.efa rfl _)) (ee _ _ h4)
    · cases h
  | augF o f op e =>
    simp only [chkS] at h
    split at h
    · simp only [Bool.and_eq_true] at h
      obtain ⟨⟨⟨⟨h1, h2⟩, h3⟩, h4⟩, h5⟩ := h
      cases eqN_of h1
      cases of_decide_eq_true h3
      exact s_augF G.toGood C.calls.fx (by rw [F.fl]; exact inL_of h2) (ee _ _ h4) (ee _ _ h5)
    · cases h
  | augI o i op e =>
    simp only [chkS] at h
    split at h
    · simp only [Bool.and_eq_true] at h
      obtain ⟨⟨⟨⟨h1, h2⟩, h3⟩, h4⟩, h5⟩ := h
      cases of_decide_eq_true h2
      exact s_augI G.toGood h1 (ee _ _ h3) (ee _ _ h4) (ee _ _ h5)
    · cases h
  | iff kk a b =>
    simp only [chkS] at h
    split at h
    · simp only [Bool.and_eq_true] at h
      exact s_iff (tt _ _ h.1.1) (ih.ss G C CT _ _ h.1.2) (ih.ss G C CT _ _ h.2)
    · cases h
  | whl kk b =>
    simp only [chkS] at h
    split at h
    · simp only [Bool.and_eq_true] at h
      exact s_whl G (tt _ _ h.1) (ih.ss G C CT _ _ h.2)
    · cases h
  | fr t it b =>
    simp only [chkS] at h
    split at h
    · simp only [Bool.and_eq_true] at h
      obtain ⟨⟨⟨h1, h2⟩, h3⟩, h4⟩ := h
      exact s_fr G (tg_of C h1) (E.i G.toGood C _ _ _ h2) (ih.ss G C CT _ _ h4) (notSet_of h3)
    · cases h
  | rse b cc es =>
    simp only [chkS] at h
    split at h
    · rename_i y p args pos pos'
      simp only [Bool.and_eq_true] at h
      obtain ⟨⟨⟨⟨h1, h2⟩, h3⟩, h4⟩, h5⟩ := h
      cases eqN_of h1
      have hx : cc ∈ g.xs := by rw [FX.ex]; exact inL_of h4
      split at h5
      · exact s_rse0 G.toGood FX.T hx (of_decide_eq_true h5) (isGl_of esc h2) (dbg_no h3)
      · simp only [Bool.and_eq_true] at h5
        obtain ⟨⟨a1, a2⟩, a3⟩ := h5
        cases of_decide_eq_true a1
        exact s_rse2 G.toGood FX.T (FX.bs hx) hx (C.calls.room.mono (by omega)) (isGl_of esc h2) a2 (E.es G.toGood C _ _ a3)
      · cases h5
    · cases h
  | try_ b hs =>
    simp only [chkS] at h
    split at h
    · simp only [Bool.and_eq_true, Bool.or_eq_true] at h
      obtain ⟨h1, h2⟩ := h
      rcases h2 with h2 | h2
      · have e := isQ_eq h2
        subst e
        exact s_tryQ (ih.ss G.nox ⟨C.eN, C.esc, C.efa, ⟨C.calls.fx, C.calls.fns, C.calls.room⟩⟩ ⟨CT.stk, CT.frm⟩ _ _ h1)
      have h : chkSs S N sc _ b _ = true ∧ chkHs S N sc _ hs _ = true := ⟨h1, h2⟩
      have CU : CtxU g S N sc X := ⟨C.eN, C.esc, FX.ex, FX.T, FX.ec, FX.ko, FX.xf, F.bl⟩
      obtain ⟨l, e, hl, q⟩ := sndHs (c := cx mP nn hx) G.toGoodH CU h.2
      subst e
      exact s_tryM G FX.T CT.stk CT.frm (fun V pn xe GV => ih.ss GV ⟨C.eN, C.esc, C.efa, ⟨C.calls.fx, C.calls.fns, C.calls.room⟩⟩ ⟨CT.stk, CT.frm⟩ _ _ h.1) hl q
    · cases h
  | lkS e a =>
    simp only [chkS] at h
    exact s_lk (ih.s G C CT _ _ h)
  | any =>
    refine PS_void fun D σ H ⟨w, fr, _, _, _, z⟩ => ?_
    rw [Mu.exec] at z
    exact z
theorem sndS (F : Fk g mP S) (FX : FkX g S) (hk1 : 1 ≤ k) (hk : sc.kind = .function) : ∀ n, SndS g mP S nn k N sc hx n
  | 0 => ⟨fun _ _ _ s x h => by simp [chkS] at h, fun _ _ _ s x h => by simp [chkSs] at h⟩
  | n + 1 => ⟨fun G C CT => snd_s F FX hk1 hk (sndS F FX hk1 hk n) G C CT, fun G C CT => snd_ss (sndS F FX hk1 hk n) G C CT⟩
end
end Ad
end

section
set_option Elab.async false
set_option linter.all false
set_option maxRecDepth 100000
set_option maxHeartbeats 8000000
namespace Ad
open PySem PySem.Spec PyProof.Rows L2
/-- a def of the text, and how Mu calls it -/
structure Td where
  f : String
  d : He.DefD
  ps : List Str
  N : List Str
def BindOk (t : Td) : Prop := ∀ (kV doc pm : Value) (an : Option Addr) (cdv ct : Value) (us : List Value), us.length = t.ps.length → bindArgs (PySem.W.fnOf t.d.name t.d.qual t.d.params t.d.body t.d.scope .none kV doc pm an cdv ct) ⟨us, []⟩ = pure (t.ps.zip us)
def FU : Nat := 150
def tdOf (tab : List Td) (f : String) : Option Td := tab.find? fun t => decide (t.f = f)
def chkTd (S : Sg) (t : Td) (fn : Mu.Fn) : Bool := C8.scC t.N t.ps t.d.scope && chkSs S t.N t.d.scope FU fn.body t.d.body && decide (fn.np = t.ps.length) && decide (fn.nl = t.N.length)
def chkTab (S : Sg) (tab : List Td) (fns : List (String × Mu.Fn)) : Bool := fns.all fun p => match tdOf tab p.1 with
  | some t => chkTd S t p.2
  | none => false
theorem look_mem {α : Type} {f : String} {v : α} : ∀ {l : List (String × α)}, Mu.look f l = some v → (f, v) ∈ l
  | [], h => nomatch h
  | (a, w) :: r, h => by
    unfold Mu.look at h
    split at h
    · rename_i e
      cases h; subst e; simp
    · exact List.mem_cons_of_mem _ (look_mem h)
def gcOf (P : Program) (w : World) (K : PySem.W.Frag) (mg : Str → Option Value) (base : Heap) (S : Sg) (tab : List Td) : Gc :=
  ⟨P, w, K, mg, base, fun c => He.ga K (nm c), fun c => He.ga K (nm c), fun f => match tdOf tab f with
    | some t => He.fAd K t.d.at_
    | none => 0, S.cs, S.fl, S.xs⟩
section
variable {g : Gc} {mP : Mu.Prog} {S : Sg}
theorem fin_aft {w : Wd} {r : Mu.RS} {Q : VK} {E : XK} (h : Aft g (VR g.K) w r.fin Q E) : AftS g w r { nx := fun _ H' => Q .non H', rt := Q } (fun cl d _ H' => E cl d H') := by
  cases r with
  | nx fr ah => exact fun σ w' e l hr hf => h .non w' e l hr rfl
  | rt d ah => exact fun v w' e l hr q => h v w' e l hr q
  | bk fr ah => exact h.elim
  | ct fr ah => exact h.elim
  | ex x fr ah => exact fun cl d σ w' e l hr hf xr => h cl d w' e l hr xr
  | bad => exact h.elim
/-- a def keeps Mu's word, if all do one call further in -/
theorem fn_step {tab : List Td} {fns : List (String × Mu.Fn)} {globs : List (String × MD)} {gds : List (String × List (MD × MD))} (F : Fk g (Mu.mkProg fns globs gds) S) (FX : FkX g S) (Fx0 : Fx g (Mu.mkProg fns globs gds) S.gf S.ml) {n : Nat} (ih : Fns g (Mu.mkProg fns globs gds) n (2 * n + 2))
    {f : String} {fn : Mu.Fn} {t : Td} {fd : FuncData} (ef : Mu.look f fns = some fn) (hc : chkTd S t fn = true) (FD : FunD g.K t.d.name t.d.qual t.d.params t.d.body t.d.scope [] [] (He.fAd g.K t.d.at_) fd) :
    FnOk g.P g.w g.K g.mg g.base (L2.CX g.P g.w) (2 * (n + 1) + 2) (He.fAd g.K t.d.at_) fd t.ps (spF g (Mu.mkProg fns globs gds) (n + 1) f) := by
  have ef : (Mu.mkProg fns globs gds).fns f = some fn := ef
  simp only [chkTd, Bool.and_eq_true, decide_eq_true_eq] at hc
  obtain ⟨⟨⟨c1, c2⟩, c3⟩, c4⟩ := hc
  have SC := C8.fnScope_by c1
  refine FunD.ok (k := 2 * n + 3) FD SC (fun vs H Q E h => ?_) (fun cdv A outer s H vs Q E hr h => ?_)
  · obtain ⟨w, ds, fn', rfl, hr, rv, ef', hl, _⟩ := h
    rw [ef] at ef'; cases ef'
    rw [← rv.length, hl, c3]
  · obtain ⟨w, ds, fn', rfl, hr0, rv, ef', hl, h⟩ := h
    rw [ef] at ef'; cases ef'
    let W : WX := fun cl d _ H' => E cl d H'
    have hun := hr.un
    have G : GoodS g (cxOf (L2.CX g.P g.w) g.P g.w g.K g.mg g.base t.N t.d.qual t.d.scope (He.fAd g.K t.d.at_) cdv A outer s w.H E) W :=
      { P := rfl, w := rfl, K := rfl, mg := rfl, base := rfl, calm := rfl, nd := SC.nd, takes := takes_of rfl rfl rfl rfl, un := (by show (A.deeper (envOfC t.d.qual t.d.scope s.heap.objs.size (He.fAd g.K t.d.at_) cdv)).units + 200 < cLine; omega), po := passes_of rfl }
    have C : CtxE g (Mu.mkProg fns globs gds) S n (2 * n + 2) t.N t.d.scope true (cxOf (L2.CX g.P g.w) g.P g.w g.K g.mg g.base t.N t.d.qual t.d.scope (He.fAd g.K t.d.at_) cdv A outer s w.H E) :=
      ⟨rfl, rfl, fun _ _ => rfl, ⟨Fx0, ih, hr⟩⟩
    refine ⟨_, (sndS (hx := none) F FX (by omega) SC.kind FU).ss G C ⟨rfl, rfl⟩ fn.body t.d.body c2, w, Mu.start ds fn.nl, rfl, hr0, ?_, ?_⟩
    · unfold Mu.start L2.start
      rw [c4, ← rv.length]
      exact FR.start _ rv
    · refine fin_aft ?_
      have e : Mu.callN (Mu.mkProg fns globs gds) (n + 1) f ds w.ah = (Mu.execs (cx (Mu.mkProg fns globs gds) n none) (Mu.start ds fn.nl) w.ah fn.body).fin := by
        rw [Mu.callN]
        simp only [ef]
        rw [if_pos hl]; rfl
      rw [e] at h
      exact h
/-- every def keeps Mu's word -/
theorem fns_all {tab : List Td} {fns : List (String × Mu.Fn)} {globs : List (String × MD)} {gds : List (String × List (MD × MD))} (F : Fk g (Mu.mkProg fns globs gds) S) (FX : FkX g S) (Fx0 : Fx g (Mu.mkProg fns globs gds) S.gf S.ml)
    (ok : chkTab S tab fns = true) (hb : ∀ t ∈ tab, BindOk t) (hA : ∀ f t, tdOf tab f = some t → g.fA f = He.fAd g.K t.d.at_)
    (hF : ∀ t ∈ tab, ∃ fd, FunD g.K t.d.name t.d.qual t.d.params t.d.body t.d.scope [] [] (He.fAd g.K t.d.at_) fd) : ∀ n, Fns g (Mu.mkProg fns globs gds) n (2 * n + 2) := by
  intro n
  induction n with
  | zero =>
    intro f fn ef
    have hm := look_mem (show Mu.look f fns = some fn from ef)
    have hc := List.all_eq_true.mp ok _ hm
    simp only at hc
    split at hc
    · rename_i t ht
      have htm : t ∈ tab := List.mem_of_find?_eq_some ht
      obtain ⟨fd, FD⟩ := hF t htm
      simp only [chkTd, Bool.and_eq_true, decide_eq_true_eq] at hc
      refine ⟨fd, t.ps, ⟨fun vs H Q E h => ?_, fun A outer s H args us vs Q E _ _ _ _ h => ?_⟩, FunD.bindsN FD (hb t htm), hc.1.2.symm⟩
      · obtain ⟨w, ds, fn', _, _, _, _, _, h⟩ := h; exact h.elim
      · obtain ⟨w, ds, fn', _, _, _, _, _, h⟩ := h; exact h.elim
    · cases hc
  | succ n ih =>
    intro f fn ef
    have hm := look_mem (show Mu.look f fns = some fn from ef)
    have hc := List.all_eq_true.mp ok _ hm
    simp only at hc
    split at hc
    · rename_i t ht
      have htm : t ∈ tab := List.mem_of_find?_eq_some ht
      obtain ⟨fd, FD⟩ := hF t htm
      have := fn_step (tab := tab) F FX Fx0 ih (show Mu.look f fns = some fn from ef) hc FD
      simp only [chkTd, Bool.and_eq_true, decide_eq_true_eq] at hc
      refine ⟨fd, t.ps, ?_, FunD.bindsN FD (hb t htm), hc.1.2.symm⟩
      rw [hA f t ht]
      exact this
    · cases hc
end
end Ad
end

section
set_option Elab.async false
set_option linter.all false
set_option maxRecDepth 100000
set_option maxHeartbeats 8000000
namespace Ad
open PySem PySem.Spec PyProof.Rows L2
/-! what is looked at behind the head: facts, tables, exceptions -/
def all2 {α β : Type} (f : α → β → Bool) : List α → List β → Bool
  | [], [] => true
  | a :: as, b :: bs => f a b && all2 f as bs
  | _, _ => false
def valB (K : PySem.W.Frag) : Nat → MD → Value → Bool
  | 0, _, _ => false
  | n + 1, d, u => match d, u with
    | .non, .none => true
    | .bl b, .bool c => b == c
    | .int i, .int j _ => decide (i = j)
    | .str s, .str y _ => decide (y = toS s) && decide (s.length ≤ 1000) && s.all fun c => decide (c < 0x110000)
    | .tup ds, .ref a => (match K.lookup a with
      | some ⟨.type c, _, .seq its _, _⟩ => c == "tuple" && decide (its.size ≤ 1000) && all2 (valB K n) ds its.toList
      | _ => false)
    | _, _ => false
theorem valB_ok {K : PySem.W.Frag} : ∀ {n : Nat} {d : MD} {u : Value}, valB K n d u = true → ∃ v, RelV v u ∧ ∀ w, VR K w d v
  | 0, _, _, h => by simp [valB] at h
  | n + 1, d, u, h => by
    unfold valB at h
    split at h
    · exact ⟨.non, rfl, fun _ => rfl⟩
    · rename_i b c
      cases beq_iff_eq.mp h
      exact ⟨.bl b, rfl, fun _ => rfl⟩
    · rename_i i j t
      cases of_decide_eq_true h
      exact ⟨.int i, ⟨t, rfl⟩, fun _ => rfl⟩
    · rename_i s y t
      simp only [Bool.and_eq_true, decide_eq_true_eq] at h
      obtain ⟨⟨rfl, h2⟩, h3⟩ := h
      exact ⟨.str (toS s), ⟨t, rfl⟩, fun _ => ⟨⟨Nat.le_trans h2 (by rw [sl_num]; decide), fun ch hc => of_decide_eq_true (List.all_eq_true.mp h3 ch hc)⟩, rfl⟩⟩
    · rename_i ds a
      split at h
      · rename_i c od its m sl lk
        simp only [Bool.and_eq_true, decide_eq_true_eq, beq_iff_eq] at h
        obtain ⟨⟨rfl, h2⟩, h3⟩ := h
        have key : ∀ (ds : List MD) (us : List Value), all2 (valB K n) ds us = true → ∃ vs, Vals vs us ∧ ∀ w, VRs K w ds vs := by
          intro ds
          induction ds with
          | nil => intro us h; cases us with
            | nil => exact ⟨[], .nil, fun _ => rfl⟩
            | cons _ _ => simp [all2] at h
          | cons d ds ih => intro us h; cases us with
            | nil => simp [all2] at h
            | cons u us =>
              simp only [all2, Bool.and_eq_true] at h
              obtain ⟨v, r1, r2⟩ := valB_ok h.1
              obtain ⟨vs, r3, r4⟩ := ih us h.2
              exact ⟨v :: vs, .cons r1 r3, fun w => ⟨v, vs, rfl, r2 w, r4 w⟩⟩
        obtain ⟨vs, r1, r2⟩ := key _ _ h3
        exact ⟨.ref a, rfl, fun w => ⟨a, vs, rfl, .inr ⟨_, its, m, lk, rfl, rfl, Nat.le_trans h2 (by rw [sl_num]; decide), r1⟩, r2 w⟩⟩
      · cases h
    · cases h
def strOf (s : List Nat) : String := String.ofList (s.map Char.ofNat)
def entB (K : PySem.W.Frag) : List (MD × MD) → List DictEntry → Bool
  | [], [] => true
  | (.str s, d) :: r, e :: es => decide (Mu.cp (strOf s) = s) && (match e.key with
      | .str y _ => decide (y = nm (strOf s))
      | _ => false) && valB K 4 d e.val && entB K r es
  | _, _ => false
theorem entB_ok {g : Gc} : ∀ {kvs : List (MD × MD)} {es : List DictEntry}, entB g.K kvs es = true → GdR g kvs es
  | [], [], _ => .nil
  | [], _ :: _, h => by simp [entB] at h
  | (k, d) :: r, [], h => by cases k <;> simp [entB] at h
  | (k, d) :: r, e :: es, h => by
    cases k with
    | str s =>
      simp only [entB, Bool.and_eq_true, decide_eq_true_eq] at h
      obtain ⟨⟨⟨h1, h2⟩, h3⟩, h4⟩ := h
      have ek : ∃ t, e.key = .str (nm (strOf s)) t := by
        split at h2
        · rename_i y t q
          exact ⟨t, by rw [q, of_decide_eq_true h2]⟩
        · cases h2
      have := GdR.cons (k := strOf s) ek (valB_ok h3) (entB_ok h4)
      rw [h1] at this
      exact this
    | _ => simp [entB] at h
def gdB (K : PySem.W.Frag) (x : String) (kvs : List (MD × MD)) : Bool := match K.lookup (He.ga K (nm x)) with
  | some ⟨_, _, .dict es _, _⟩ => entB K kvs es.toList
  | _ => false
def exccB (K : PySem.W.Frag) (D : Addr) : Bool := decide (PySem.W.findIn K (.ref D) "__getattribute__" = some (some (.builtin "BaseException.__getattribute__"))) && decide (PySem.W.findIn K (.ref D) "__getattr__" = some none) && decide (PySem.W.subIn K (.ref D) (.type "BaseException") = some true) && PySem.W.hasDictIn K D &&
  decide (PySem.W.findIn K (.ref D) "__class__" = some (some (.builtin "object.__class__"))) && decide (PySem.W.specialIn K (.builtin "object.__class__") "__get__" = some (some (.builtin "getset_descriptor.__get__"))) && decide (PySem.W.takesIn K (.builtin "object.__class__") = some true) && decide (PySem.W.mroIn K D (.type "object") = some true)
theorem exccB_ok {K : PySem.W.Frag} {D : Addr} (h : exccB K D = true) : ExcC K D := by
  simp only [exccB, Bool.and_eq_true, decide_eq_true_eq] at h
  obtain ⟨⟨⟨⟨⟨⟨⟨h1, h2⟩, h3⟩, h4⟩, h5⟩, h6⟩, h7⟩, h8⟩ := h
  exact ⟨h1, h2, h3, h4, h5, h6, h7, h8⟩
def xo (K : PySem.W.Frag) (x : String) : Value := .ref (He.ga K (nm x))
def exOne (K : PySem.W.Frag) (x : String) : Bool := PySem.W.keepIn K (xo K x) && decide (PySem.W.subIn K (xo K x) (.type "BaseException") = some true) && decide (PySem.W.typeIn K (xo K x) = some (.type "type")) && (decide (x = "BadSchedule") || (PySem.W.excIn K (He.ga K (nm x)) He.veBase "ValueError.__new__" && exccB K (He.ga K (nm x))))
def exTwo (K : PySem.W.Frag) (x y : String) : Bool := decide (PySem.W.exmOne K (xo K x) (xo K y) = some (Mu.excSub x y)) && decide (PySem.W.kitOne K (xo K x) (xo K y) = some (Mu.excSub x y))
def bsB (K : PySem.W.Frag) : Bool := xfB K (He.ga K (nm "BadSchedule")) && decide (PySem.W.findIn K (xo K "BadSchedule") (nm "line") = some none) && decide (PySem.W.findIn K (xo K "BadSchedule") (nm "reason") = some none) && oexB K (He.ga K (nm "BadSchedule")) &&
  decide (PySem.W.findIn K (xo K "BadSchedule") "__init__" = some (some (.ref (He.ma K (He.ga K (nm "BadSchedule")) (nm "__init__"))))) && decide (PySem.W.typeIn K (.ref (He.ma K (He.ga K (nm "BadSchedule")) (nm "__init__"))) = some (.type "function"))
def exB (S : Sg) (gds : List (String × List (MD × MD))) (K : PySem.W.Frag) : Bool := S.xs.all (exOne K) && (S.xs.all fun x => S.xs.all fun y => exTwo K x y) && (!inL "BadSchedule" S.xs || bsB K) && S.gds.all fun x => gdB K x ((Mu.look x gds).getD [])
abbrev AlE : Type := He.AlT × Bool
def obsE (fa : List He.Fa) (fn : List He.DefD) (ts : List He.Tab) (ex : PySem.W.Frag → Bool) (K : PySem.W.Frag) : AlE := (He.obsT fa fn ts K, ex K)
def valE (fn : List He.DefD) (ts : List He.Tab) (w : World) : AlE := (He.valT fn ts w, true)
structure SaysE (fa : List He.Fa) (fn : List He.DefD) (ts : List He.Tab) (ex : PySem.W.Frag → Bool) (w : World) (K : PySem.W.Frag) : Prop where
  t : He.SaysT fa fn ts w K
  x : ex K = true
/-- a list of objects, reckoned once -/
def frcN {α : Type} (n : Nat) (k : Nat → α) : α := match n with
  | 0 => k 0
  | m + 1 => k (m + 1)
theorem frcN_eq {α : Type} (n : Nat) (k : Nat → α) : frcN n k = k n := by cases n <;> rfl
def frcK {α : Type} : PySem.W.Frag → (PySem.W.Frag → α) → α
  | [], k => k []
  | (a, o) :: r, k => frcN a fun a => frcK r fun r => k ((a, o) :: r)
theorem frcK_eq {α : Type} : ∀ (K : PySem.W.Frag) (k : PySem.W.Frag → α), frcK K k = k K
  | [], _ => rfl
  | (a, o) :: r, k => by unfold frcK; rw [frcN_eq, frcK_eq r]
/-- every object that the top has left -/
def obsEG (n : Nat) (fa : List He.Fa) (fn : List He.DefD) (ts : List He.Tab) (ex : PySem.W.Frag → Bool) (g : Addr → Option Obj) : AlE := frcK (He.frG g (List.range n)) fun K => obsE fa fn ts ex K
def hookE (fa : List He.Fa) (fn : List He.DefD) (ts : List He.Tab) (ex : PySem.W.Frag → Bool) : PySem.W.Hook where
  α := AlE
  obs := fun s => obsEG s.heap.objs.size fa fn ts ex s.heap.get?
  val := fun w => valE fn ts w
  says := fun w h => ∃ K : PySem.W.Frag, K.In h ∧ SaysE fa fn ts ex w K
  of := fun _ s e => by
    have e' := (frcK_eq (He.frG s.heap.get? (List.range s.heap.objs.size)) fun K => obsE fa fn ts ex K).symm.trans e
    exact ⟨_, He.frG_in, ⟨congrArg (fun z : AlE => z.1) e', congrArg (fun z : AlE => z.2) e'⟩⟩
  keeps := fun _ _ _ ⟨K, hK, c⟩ k => ⟨K, PySem.W.Frag.In.keeps hK k, c⟩
theorem obsEG_eq {n : Nat} {fa : List He.Fa} {fn : List He.DefD} {ts : List He.Tab} {ex : PySem.W.Frag → Bool} {g : Addr → Option Obj} {s : Shared} (hn : n = s.heap.objs.size) (h : ∀ a, g a = s.heap.get? a) : obsEG n fa fn ts ex g = (hookE fa fn ts ex).obs s := by
  have e : g = s.heap.get? := funext h
  rw [e, hn] <;> rfl
/-! ### the look in parts -/
def oFa (n : Nat) (fa : List He.Fa) (g : Addr → Option Obj) : Bool := frcK (He.frG g (List.range n)) fun K => fa.all fun f => f.ok K
def oFn (n : Nat) (fn : List He.DefD) (g : Addr → Option Obj) : Bool := frcK (He.frG g (List.range n)) fun K => fn.all fun d => d.ok K
def oRs (n : Nat) (fn : List He.DefD) (ts : List He.Tab) (ex : PySem.W.Frag → Bool) (g : Addr → Option Obj) := frcK (He.frG g (List.range n)) fun K => (fn.map fun d => He.fnW K d.at_, ts.map fun t => He.dicW K (t.1 K), ex K)
theorem obs_parts {σ : Type} {e : Option σ} {n : σ → Nat} {g : σ → Addr → Option Obj} {fa : List He.Fa} {fn : List He.DefD} {ts : List He.Tab} {ex : PySem.W.Frag → Bool} {w : World} (h1 : e.map (fun s => oFa (n s) fa (g s)) = some true) (h2 : e.map (fun s => oFn (n s) fn (g s)) = some true)
    (h3 : e.map (fun s => oRs (n s) fn ts ex (g s)) = some (fn.map He.DefD.val, ts.map fun t => some (He.keysIn w.params t.2), true)) : e.map (fun s => obsEG (n s) fa fn ts ex (g s)) = some (valE fn ts w) := by
  cases e with
  | none => cases h1
  | some s =>
    have a1 := Option.some.inj h1
    have a2 := Option.some.inj h2
    have a3 := Option.some.inj h3
    unfold oFa at a1
    unfold oFn at a2
    unfold oRs at a3
    dsimp only at a1 a2 a3
    rw [frcK_eq] at a1 a2 a3
    show some _ = some _
    unfold obsEG
    dsimp only
    rw [frcK_eq]
    have b1 := congrArg (fun z => z.1) a3
    have b2 := congrArg (fun z => z.2.1) a3
    have b3 := congrArg (fun z => z.2.2) a3
    generalize He.frG (g s) (List.range (n s)) = K at *
    show some (((((fa.all fun f => f.ok K) && (fn.all fun d => d.ok K)), fn.map fun d => He.fnW K d.at_), ts.map fun t => He.dicW K (t.1 K)), ex K) = _
    rw [a1, a2]
    exact congrArg some (Prod.ext (Prod.ext (Prod.ext rfl b1) b2) b3)
theorem map_three {σ α β γ : Type} {e : Option σ} {f : σ → α} {g : σ → β} {k : σ → γ} {a : α} {b : β} {c : γ} (h1 : e.map (fun s => (f s, g s)) = some (a, b)) (h2 : e.map k = some c) : e.map (fun s => (f s, g s, k s)) = some (a, b, c) := by
  cases e with
  | none => cases h1
  | some s => cases h1; cases h2; rfl
def tabsOf (S : Sg) (gds : List (String × List (MD × MD))) : List He.Tab := S.gds.map fun x => (fun K => He.ga K (nm x), ((Mu.look x gds).getD []).map fun p => match p.1 with
  | .str s => toS s
  | _ => nm "")
section
variable {P : Program} {w : World} {K : PySem.W.Frag} {mg : Str → Option Value} {base h : Heap} {S : Sg} {tab : List Td} {fns : List (String × Mu.Fn)} {globs : List (String × MD)} {gds : List (String × List (MD × MD))}
theorem gd_of {fa : List He.Fa} {fn : List He.DefD} {x : String} (KX : K.In h) (Gm : h.Ns mainGlobals mg) (c : SaysE fa fn (tabsOf S gds) (exB S gds) w K) (hf : ∀ x ∈ S.gds, He.Fa.glo (nm x) ∈ fa) (hx : x ∈ S.gds) : GdOk (gcOf P w K mg base S tab) x ((Mu.mkProg fns globs gds).gd x) := by
  have hgl := He.glo_ok KX Gm (List.all_eq_true.mp (He.ba (show ((fa.all fun f => f.ok K) && fn.all fun d => d.ok K) = true from congrArg (fun z : He.AlD => z.1) (He.SaysT.d c.t))).1 _ (hf x hx))
  obtain ⟨i, hi, ei⟩ := List.mem_iff_getElem.mp hx
  obtain ⟨es, n, D⟩ := He.SaysT.tab c.t i (t := (fun K => He.ga K (nm x), ((Mu.look x gds).getD []).map fun p => match p.1 with
    | .str s => toS s
    | _ => nm "")) (by unfold tabsOf; rw [List.getElem?_map, List.getElem?_eq_getElem hi, ei]; rfl)
  have hxg := c.x
  simp only [exB, Bool.and_eq_true] at hxg
  have hg := List.all_eq_true.mp hxg.2 x hx
  unfold gdB at hg
  rw [D.at_] at hg
  exact ⟨_, es, n, D, hgl, entB_ok (g := gcOf P w K mg base S tab) hg⟩
end
end Ad
end

section
set_option Elab.async false
set_option linter.all false
set_option maxRecDepth 100000
set_option maxHeartbeats 8000000
namespace Ad
open PySem PySem.Spec PyProof.Rows L2
def glFa : String → Option MD → List He.Fa
  | x, some (.int i) => [.int (nm x) i]
  | x, some (.str s) => [.str (nm x) (toS s)]
  | _, _ => []
def glOk : Option MD → Bool
  | some (.int _) => true
  | some (.str s) => decide (s.length ≤ 1000) && s.all fun c => decide (c < 0x110000)
  | _ => false
def faOf (S : Sg) (fns : List (String × Mu.Fn)) (globs : List (String × MD)) : List He.Fa :=
  (.glo (nm "law") :: S.gf.map fun f => .glo (nm f)) ++ (S.cs.flatMap fun c => [.glo (nm c), .cls (nm c), .mkr (nm c)]) ++ (S.cs.flatMap fun c => S.fl.map fun f => .noat (nm c) (nm f)) ++ (S.bl.map fun b => .free (nm b)) ++
  (S.cs.flatMap fun c => S.ml.flatMap fun m => if (Mu.look (c ++ "." ++ m) fns).isSome then [.meth (nm c) (nm m)] else []) ++ S.gl.flatMap fun x => glFa x (Mu.look x globs)
def atIs (tab : List Td) (f : String) (p : Str × Option Str) : Bool := match tdOf tab f with
  | some t => decide (t.d.at_ = p)
  | none => false
def chkAll (S : Sg) (tab : List Td) (fns : List (String × Mu.Fn)) (globs : List (String × MD)) : Bool :=
  chkTab S tab fns && (S.gf.all fun f => atIs tab f (nm f, none)) && (S.cs.all fun c => atIs tab (c ++ ".__init__") (nm c, some (nm "__init__"))) &&
  (S.cs.all fun c => S.ml.all fun m => !(Mu.look (c ++ "." ++ m) fns).isSome || atIs tab (c ++ "." ++ m) (nm c, some (nm m))) && (S.gl.all fun x => glOk (Mu.look x globs)) && (tab.all fun t => t.d.dfl.isEmpty && t.d.kwd.isEmpty) &&
  atIs tab "law" (nm "law", none) && (match tdOf tab "law", Mu.look "law" fns with
    | some t, some fn => decide (t.ps.length = 1) && decide (fn.np = 1)
    | _, _ => false)
theorem fact_mem {fa : List He.Fa} {fn : List He.DefD} {K : PySem.W.Frag} (c : He.SaysD fa fn K) {f : He.Fa} (h : f ∈ fa) : f.ok K = true := by
  obtain ⟨i, hi, e⟩ := List.mem_iff_getElem.mp h
  exact c.fact i (by rw [← e]; exact List.getElem?_eq_getElem hi)
theorem def_mem {fa : List He.Fa} {fn : List He.DefD} {K : PySem.W.Frag} (c : He.SaysD fa fn K) {d : He.DefD} (h : d ∈ fn) : ∃ fd, FunD K d.name d.qual d.params d.body d.scope (d.dvs K) (d.kws K) (He.fAd K d.at_) fd := by
  obtain ⟨i, hi, e⟩ := List.mem_iff_getElem.mp h
  exact c.def_ i (by rw [← e]; exact List.getElem?_eq_getElem hi)
/-- what is known of the written part -/
def Cn (S : Sg) (tab : List Td) (fns : List (String × Mu.Fn)) (globs : List (String × MD)) (K : PySem.W.Frag) : Prop := (∀ f ∈ faOf S fns globs, f.ok K = true) ∧ ∀ t ∈ tab, ∃ fd, FunD K t.d.name t.d.qual t.d.params t.d.body t.d.scope (t.d.dvs K) (t.d.kws K) (He.fAd K t.d.at_) fd
theorem atIs_of {tab : List Td} {f : String} {p : Str × Option Str} (h : atIs tab f p = true) : ∃ t, tdOf tab f = some t ∧ t.d.at_ = p := by
  unfold atIs at h
  split at h
  · rename_i t e; exact ⟨t, e, of_decide_eq_true h⟩
  · cases h
section
variable {P : Program} {w : World} {K : PySem.W.Frag} {mg : Str → Option Value} {base h : Heap} {S : Sg} {tab : List Td} {fns : List (String × Mu.Fn)} {globs : List (String × MD)} {gds : List (String × List (MD × MD))}
theorem fA_of {f : String} {t : Td} (e : tdOf tab f = some t) : (gcOf P w K mg base S tab).fA f = He.fAd K t.d.at_ := by
  show (match tdOf tab f with | some t => He.fAd K t.d.at_ | none => 0) = _
  rw [e]
theorem defs_of (c : Cn S tab fns globs K) (ok : chkAll S tab fns globs = true) : ∀ t ∈ tab, ∃ fd, FunD K t.d.name t.d.qual t.d.params t.d.body t.d.scope [] [] (He.fAd K t.d.at_) fd := by
  intro t ht
  simp only [chkAll, Bool.and_eq_true] at ok
  have hd := List.all_eq_true.mp ok.1.1.2 t ht
  simp only [Bool.and_eq_true] at hd
  obtain ⟨fd, FD⟩ := c.2 t ht
  have e1 : t.d.dvs K = [] := by
    have := List.isEmpty_iff.mp hd.1
    simp [He.DefD.dvs, this]
  have e2 : t.d.kws K = [] := by
    have := List.isEmpty_iff.mp hd.2
    simp [He.DefD.kws, this]
  rw [e1, e2] at FD
  exact ⟨fd, FD⟩
theorem fx_of (KX : K.In h) (Gm : h.Ns mainGlobals mg) (c : Cn S tab fns globs K) (ok : chkAll S tab fns globs = true) : Fx (gcOf P w K mg base S tab) (Mu.mkProg fns globs gds) S.gf S.ml := by
  have D := defs_of c ok
  simp only [chkAll, Bool.and_eq_true] at ok
  obtain ⟨⟨⟨⟨⟨⟨⟨o1, o2⟩, o3⟩, o4⟩, o5⟩, o6⟩, o7⟩, o8⟩ := ok
  refine ⟨fun k hk => ?_, fun k hk f hf => ?_, fun f hf => ?_, fun k hk => ?_, fun k hk m hm fn ef => ?_⟩
  · refine He.cls_ok (c.1 _ ?_)
    simp only [faOf, List.mem_append, List.mem_flatMap]
    exact .inl (.inl (.inl (.inl (.inr ⟨k, hk, by simp⟩))))
  · refine He.noat_ok (c.1 _ ?_)
    simp only [faOf, List.mem_append, List.mem_flatMap]
    exact .inl (.inl (.inl (.inr ⟨k, hk, List.mem_map.mpr ⟨f, hf, rfl⟩⟩)))
  · obtain ⟨t, e, ea⟩ := atIs_of (List.all_eq_true.mp o2 f hf)
    obtain ⟨fd, FD⟩ := D t (List.mem_of_find?_eq_some e)
    have eA : (gcOf P w K mg base S tab).fA f = He.ga K (nm f) := by rw [fA_of e, ea]; rfl
    refine ⟨?_, ?_⟩
    · rw [eA]
      refine He.glo_ok KX Gm (c.1 _ ?_)
      simp only [faOf, List.mem_append]
      exact .inl (.inl (.inl (.inl (.inl (List.mem_cons_of_mem _ (List.mem_map.mpr ⟨f, hf, rfl⟩))))))
    · rw [fA_of e]; exact FD.kp
  · obtain ⟨t, e, ea⟩ := atIs_of (List.all_eq_true.mp o3 k hk)
    refine ⟨He.glo_ok KX Gm (c.1 _ ?_), ?_⟩
    · simp only [faOf, List.mem_append, List.mem_flatMap]
      exact .inl (.inl (.inl (.inl (.inr ⟨k, hk, by simp⟩))))
    · have eA : (gcOf P w K mg base S tab).fA (k ++ ".__init__") = He.ma K (He.ga K (nm k)) (nm "__init__") := by rw [fA_of e, ea]; rfl
      rw [eA]
      refine He.mkr_ok (c.1 _ ?_)
      simp only [faOf, List.mem_append, List.mem_flatMap]
      exact .inl (.inl (.inl (.inl (.inr ⟨k, hk, by simp⟩))))
  · have hs : (Mu.look (k ++ "." ++ m) fns).isSome = true := by rw [show Mu.look (k ++ "." ++ m) fns = some fn from ef]; rfl
    have := List.all_eq_true.mp (List.all_eq_true.mp o4 k hk) m hm
    rw [hs] at this
    obtain ⟨t, e, ea⟩ := atIs_of (by simpa using this)
    have eA : (gcOf P w K mg base S tab).fA (k ++ "." ++ m) = He.ma K (He.ga K (nm k)) (nm m) := by rw [fA_of e, ea]; rfl
    rw [eA]
    refine He.meth_ok (c.1 _ ?_)
    simp only [faOf, List.mem_append, List.mem_flatMap]
    refine .inl (.inr ⟨k, hk, m, hm, ?_⟩)
    rw [if_pos hs]; simp
theorem fk_of (KX : K.In h) (Gm : h.Ns mainGlobals mg) (c : Cn S tab fns globs K) (ok : chkAll S tab fns globs = true) (hgd : ∀ x ∈ S.gds, GdOk (gcOf P w K mg base S tab) x ((Mu.mkProg fns globs gds).gd x)) : Fk (gcOf P w K mg base S tab) (Mu.mkProg fns globs gds) S := by
  simp only [chkAll, Bool.and_eq_true] at ok
  obtain ⟨⟨⟨⟨⟨⟨⟨o1, o2⟩, o3⟩, o4⟩, o5⟩, o6⟩, o7⟩, o8⟩ := ok
  refine ⟨rfl, rfl, fun b hb => ?_, fun x hx d hd w' => ?_, hgd⟩
  · refine He.free_ok KX Gm (c.1 _ ?_)
    simp only [faOf, List.mem_append]
    exact .inl (.inl (.inr (List.mem_map.mpr ⟨b, hb, rfl⟩)))
  · have hd : Mu.look x globs = some d := hd
    have o := List.all_eq_true.mp o5 x hx
    rw [hd] at o
    have mem : ∀ f, f ∈ glFa x (some d) → f ∈ faOf S fns globs := fun f hf => by
      simp only [faOf, List.mem_append, List.mem_flatMap]
      exact .inr ⟨x, hx, by rw [hd]; exact hf⟩
    cases d with
    | int i =>
      obtain ⟨t, e⟩ := He.int_ok KX Gm (c.1 _ (mem _ (List.mem_singleton.mpr rfl)))
      exact ⟨.int i, _, e, ⟨t, rfl⟩, rfl⟩
    | str s =>
      obtain ⟨t, e⟩ := He.str_ok KX Gm (c.1 _ (mem _ (List.mem_singleton.mpr rfl)))
      simp only [glOk, Bool.and_eq_true, decide_eq_true_eq] at o
      exact ⟨.str (toS s), _, e, ⟨t, rfl⟩, ⟨Nat.le_trans o.1 (by rw [sl_num]; decide), fun ch hc => of_decide_eq_true (List.all_eq_true.mp o.2 ch hc)⟩, rfl⟩
    | _ => cases o
/-- what the law's def is promised -/
def spL (K : PySem.W.Frag) : Sp := fun vs H Q _ => ∃ (a : Addr) (ns : List Int), vs = [.ref a] ∧ ns.length ≤ 63 ∧ Only H ∧ SqL K H a (ns.map V.int) ∧ ∀ H', Q (.bl true) H'
theorem ints_VR {w : Wd} : ∀ ns : List Int, VRs K w (ns.map Mu.D.int) (ns.map V.int)
  | [] => rfl
  | n :: ns => ⟨.int n, ns.map V.int, rfl, rfl, ints_VR ns⟩
theorem ro_only {H : Hp} {a : Addr} {xs : List V} (ho : Only H) (h : SqL K H a xs) : Ro K H a xs := by
  rcases h with (h | h) | h
  · rcases ho a with e | ⟨o, ys, e⟩
    · rw [e] at h; cases h
    · rw [e] at h; cases h
  · exact .inl h
  · exact .inr h
def faX (S : Sg) (fns : List (String × Mu.Fn)) (globs : List (String × MD)) : List He.Fa := faOf S fns globs ++ (S.xs.map fun x => .glo (nm x)) ++ S.gds.map fun x => .glo (nm x)
def fnX (tab : List Td) (bd : Option He.DefD) : List He.DefD := tab.map (·.d) ++ bd.toList
def chkBd (S : Sg) (bd : Option He.DefD) : Bool := !inL "BadSchedule" S.xs || (match bd with
  | some d => chkBs d && decide (d.at_ = (nm "BadSchedule", some (nm "__init__")))
  | none => false)
theorem cn_of {ts : List He.Tab} {bd : Option He.DefD} (c : He.SaysT (faX S fns globs) (fnX tab bd) ts w K) : Cn S tab fns globs K :=
  ⟨fun f hf => fact_mem c.d (List.mem_append_left _ (List.mem_append_left _ hf)), fun t ht => def_mem c.d (List.mem_append_left _ (List.mem_map.mpr ⟨t, ht, rfl⟩))⟩
def BdOk (bd : Option He.DefD) : Prop := ∀ d, bd = some d → ∀ (kV doc pm : Value) (an : Option Addr) (cdv ct : Value) (us : List Value), us.length = bsN.length → bindArgs (PySem.W.fnOf d.name d.qual d.params d.body d.scope .none kV doc pm an cdv ct) ⟨us, []⟩ = pure (bsN.zip us)
theorem fkx_of {bd : Option He.DefD} (KX : K.In h) (Gm : h.Ns mainGlobals mg) (c : SaysE (faX S fns globs) (fnX tab bd) (tabsOf S gds) (exB S gds) w K) (hbd : chkBd S bd = true) (hbb : BdOk bd) : FkX (gcOf P w K mg base S tab) S := by
  have x := c.x
  simp only [exB, Bool.and_eq_true] at x
  obtain ⟨⟨⟨x1, x2⟩, x3⟩, x4⟩ := x
  have one := fun z (hz : z ∈ S.xs) => List.all_eq_true.mp x1 z hz
  have two := fun z (hz : z ∈ S.xs) y (hy : y ∈ S.xs) => List.all_eq_true.mp (List.all_eq_true.mp x2 z hz) y hy
  have hbs : "BadSchedule" ∈ S.xs → bsB K = true := fun hb => by
    have : inL "BadSchedule" S.xs = true := decide_eq_true hb
    rw [this] at x3; simpa using x3
  refine ⟨rfl, ⟨fun z hz => ?_, fun z hz hn => ?_, fun z hz => ?_, fun z hz => ?_, fun z hz => ?_, fun z hz y hy => ?_⟩, fun z hz hn => ?_, fun z hz y hy => ?_, fun hb => ?_, fun hb => ?_⟩
  · exact He.glo_ok KX Gm (fact_mem c.t.d (List.mem_append_left _ (List.mem_append_right _ (List.mem_map.mpr ⟨z, hz, rfl⟩))))
  · have := one z hz
    simp only [exOne, Bool.and_eq_true, Bool.or_eq_true, decide_eq_true_eq] at this
    rcases this.2 with e | e
    · exact absurd e hn
    · exact e.1
  · have := one z hz
    simp only [exOne, Bool.and_eq_true] at this
    exact this.1.1.1
  · have := one z hz
    simp only [exOne, Bool.and_eq_true, decide_eq_true_eq] at this
    exact this.1.1.2
  · have := one z hz
    simp only [exOne, Bool.and_eq_true, decide_eq_true_eq] at this
    exact this.1.2
  · have := two z hz y hy
    simp only [exTwo, Bool.and_eq_true, decide_eq_true_eq] at this
    exact this.1
  · have := one z hz
    simp only [exOne, Bool.and_eq_true, Bool.or_eq_true, decide_eq_true_eq] at this
    rcases this.2 with e | e
    · exact absurd e hn
    · exact exccB_ok e.2
  · have := two z hz y hy
    simp only [exTwo, Bool.and_eq_true, decide_eq_true_eq] at this
    exact this.2
  · have := hbs hb
    simp only [bsB, Bool.and_eq_true, decide_eq_true_eq] at this
    obtain ⟨⟨⟨⟨⟨b1, b2⟩, b3⟩, b4⟩, b5⟩, b6⟩ := this
    exact ⟨xfB_ok b1, b2, b3⟩
  · have := hbs hb
    simp only [bsB, Bool.and_eq_true, decide_eq_true_eq] at this
    obtain ⟨⟨⟨⟨⟨b1, b2⟩, b3⟩, b4⟩, b5⟩, b6⟩ := this
    have hin : inL "BadSchedule" S.xs = true := decide_eq_true hb
    unfold chkBd at hbd
    rw [hin] at hbd
    cases bd with
    | none => cases hbd
    | some d =>
      simp only [Bool.not_true, Bool.false_or, Bool.and_eq_true, decide_eq_true_eq] at hbd
      obtain ⟨d1, d2⟩ := hbd
      obtain ⟨fd, FD⟩ := def_mem c.t.d (d := d) (List.mem_append_right _ (by simp))
      have d1' := d1
      simp only [chkBs, Bool.and_eq_true] at d1'
      obtain ⟨⟨⟨_, k1⟩, k2⟩, _⟩ := d1'
      have e1 : d.dvs K = [] := by have := List.isEmpty_iff.mp k1; simp [He.DefD.dvs, this]
      have e2 : d.kws K = [] := by have := List.isEmpty_iff.mp k2; simp [He.DefD.kws, this]
      rw [e1, e2] at FD
      have eA : He.fAd K d.at_ = He.ma K (He.ga K (nm "BadSchedule")) (nm "__init__") := by rw [d2]; rfl
      rw [eA] at FD
      exact ⟨oexB_ok b4, b2, b3, _, fd, b5, b6, bs_fn d1 FD (oexB_ok b4) b2 b3, FunD.bindsN FD (hbb d rfl)⟩
theorem law_facts {fa : Addr} {n : Nat} {x : Str} (KX : K.In h) (Gm : h.Ns mainGlobals mg) (hlaw : mg (nm "law") = some (.ref fa)) {bd : Option He.DefD} (cE : SaysE (faX S fns globs) (fnX tab bd) (tabsOf S gds) (exB S gds) w K) (hbd : chkBd S bd = true) (hbb : BdOk bd) (ok : chkAll S tab fns globs = true) (hb : ∀ t ∈ tab, BindOk t) (hps : (tdOf tab "law").map (·.ps) = some [x])
    (mu : ∀ ns : List Int, ns.length ≤ 63 → ∃ ah, Mu.callN (Mu.mkProg fns globs gds) (n + 1) "law" [.lst (ns.map .int)] [] = .ok (.bl true) ah) :
    ∃ fd : FuncData, (∀ (s : Shared) (v : Value), BindsTo s fd ⟨[v], []⟩ [(x, v)]) ∧ (∀ (H : Hp) (a : Addr) (ns : List Int), ns.length ≤ 63 → Only H → SqL K H a (ns.map V.int) → spL K [.ref a] H (fun v _ => v = .bl true) fun _ _ _ => False) ∧
      ∀ base : Heap, K.In base → base.Ns mainGlobals mg → FnOk P w K mg base CX0 (2 * (n + 1) + 2) fa fd [x] (spL K) := by
  have c := cn_of cE.t
  have D := defs_of c ok
  have ok' := ok
  simp only [chkAll, Bool.and_eq_true] at ok
  obtain ⟨⟨⟨⟨⟨⟨⟨o1, o2⟩, o3⟩, o4⟩, o5⟩, o6⟩, o7⟩, o8⟩ := ok
  obtain ⟨t, e, ea⟩ := atIs_of o7
  have htm : t ∈ tab := List.mem_of_find?_eq_some e
  have ep : t.ps = [x] := by rw [e] at hps; exact Option.some.inj hps
  obtain ⟨fd0, FD0⟩ := D t htm
  rw [e] at o8
  cases el : Mu.look "law" fns with
  | none => rw [el] at o8; cases o8
  | some fn =>
    rw [el] at o8
    simp only [Bool.and_eq_true, decide_eq_true_eq] at o8
    have efa : fa = He.fAd K t.d.at_ := by
      have := hlaw.symm.trans (He.glo_ok KX Gm (x := nm "law") (c.1 _ (by simp only [faOf, List.mem_append]; exact .inl (.inl (.inl (.inl (.inl (List.mem_cons_self ..)))))))) 
      cases this
      rw [ea]; rfl
    refine ⟨fd0, fun s v => ?_, fun H a ns hl hO hS => ⟨a, ns, rfl, hl, hO, hS, fun _ => rfl⟩, fun base kb nb => ?_⟩
    · have := FunD.bindsA FD0 (hb t htm) s [v] (by rw [ep]; rfl)
      rw [ep] at this
      exact this
    · have F := fk_of (w := w) (P := P) (base := base) (gds := gds) KX Gm c ok' (fun y hy => gd_of KX Gm cE (fun z hz => List.mem_append_right _ (List.mem_map.mpr ⟨z, hz, rfl⟩)) hy)
      have Fx0 := fx_of (w := w) (P := P) (base := base) (gds := gds) KX Gm c ok'
      have FX := fkx_of (base := base) (P := P) (h := h) KX Gm cE hbd hbb
      have ih := fns_all (g := gcOf P w K mg base S tab) F FX Fx0 o1 hb (fun f t e => fA_of e) D n
      have hc : chkTd S t fn = true := by
        have := List.all_eq_true.mp o1 _ (look_mem el)
        simp only [e] at this
        exact this
      have FO := fn_step (g := gcOf P w K mg base S tab) (tab := tab) F FX Fx0 ih el hc FD0
      rw [ep] at FO
      rw [efa]
      refine hush (FnOk.imp (sp' := spL K) FO fun vs H Q E hs => ?_) (fun _ _ _ _ _ z => z)
      obtain ⟨a, ns, rfl, hl, hO, hS, hq⟩ := hs
      obtain ⟨ah, em⟩ := mu ns hl
      refine ⟨⟨fun _ => 0, [], H⟩, [.lst (ns.map .int)], fn, rfl, ⟨fun i j hi => absurd hi (Nat.not_lt_zero i), fun i o eo => by simp at eo⟩, ⟨.ref a, [], rfl, ⟨a, ns.map V.int, rfl, ro_only hO hS, ints_VR ns⟩, rfl⟩, el, by rw [o8.2]; rfl, ?_⟩
      show Aft _ _ _ (Mu.callN (Mu.mkProg fns globs gds) (n + 1) "law" [.lst (ns.map .int)] []) Q E
      rw [em]
      intro b w' _ _ _ rb
      obtain rfl : b = .bl true := rb
      exact hq w'.H
end
end Ad
end

section
set_option autoImplicit false
set_option linter.all false
/-! MuL: laws of the evaluator, whatever the program. -/
namespace Mu
abbrev cxP (P : Prog) (n : Nat) : Cx := ⟨callN P n, P.glob, P.gd, none, fun f => (P.fns f).isSome⟩
theorem call_eq {P : Prog} {n : Nat} {f : String} {as : List D} {h : Hp} {fn : Fn} (e : P.fns f = some fn) (l : as.length = fn.np) : callN P (n + 1) f as h = (execs (cxP P n) (start as fn.nl) h fn.body).fin := by
  rw [callN, e]; simp only [l, if_true]
@[simp] theorem eqR_str (h : Hp) (a b : List Nat) : eqR h (.str a) (.str b) = some (decide (a = b)) := by simp [eqR, dat, DEP, pyEq]
@[simp] theorem eqR_int (h : Hp) (a b : Int) : eqR h (.int a) (.int b) = some (decide (a = b)) := by simp [eqR, dat, DEP, pyEq]
@[simp] theorem eqR_bl (h : Hp) (a b : Bool) : eqR h (.bl a) (.bl b) = some (a == b) := by simp [eqR, dat, DEP, pyEq]
@[simp] theorem cmpR_eq (h : Hp) (x y : D) (t : Bool) (e : eqR h x y = some t) : cmpR .eq h x y = .ok (.bl t) h := by simp [cmpR, cmpO, e]
@[simp] theorem cmpR_ne (h : Hp) (x y : D) (t : Bool) (e : eqR h x y = some t) : cmpR .ne h x y = .ok (.bl (!t)) h := by simp [cmpR, cmpO, e]
@[simp] theorem cmpR_lt (h : Hp) (a b : Int) : cmpR .lt h (.int a) (.int b) = .ok (.bl (decide (a < b))) h := by simp [cmpR, cmpO, alike, alikeN, ltB]
@[simp] theorem cmpR_gt (h : Hp) (a b : Int) : cmpR .gt h (.int a) (.int b) = .ok (.bl (decide (b < a))) h := by simp [cmpR, cmpO, alike, alikeN, ltB]
@[simp] theorem cmpR_le (h : Hp) (a b : Int) : cmpR .le h (.int a) (.int b) = .ok (.bl (decide (a ≤ b))) h := by
  simp only [cmpR, cmpO, alike, alikeN, if_true, opt_some, R.bind_ok, ltB]
  congr 2
  by_cases q : b < a
  · simp [q]; first | done | omega
  · simp [q]; first | done | omega
@[simp] theorem cmpR_ge (h : Hp) (a b : Int) : cmpR .ge h (.int a) (.int b) = .ok (.bl (decide (b ≤ a))) h := by
  simp only [cmpR, cmpO, alike, alikeN, if_true, opt_some, R.bind_ok, ltB]
  congr 2
  by_cases q : a < b
  · simp [q]; first | done | omega
  · simp [q]; first | done | omega
@[simp] theorem binR_add (h : Hp) (a b : Int) : binR .add h (.int a) (.int b) = .ok (.int (a + b)) h := rfl
@[simp] theorem binR_sub (h : Hp) (a b : Int) : binR .sub h (.int a) (.int b) = .ok (.int (a - b)) h := rfl
theorem binR_fdiv (h : Hp) (a b : Int) (h0 : 0 < b) (h1 : b.natAbs < 10 ^ 100) : binR .fdiv h (.int a) (.int b) = .ok (.int (a / b)) h := by simp only [binR]; rw [if_pos ⟨h0, h1⟩]
theorem binR_mod (h : Hp) (a b : Int) (h0 : 0 < b) : binR .mod h (.int a) (.int b) = .ok (.int (a % b)) h := by simp only [binR]; rw [if_pos h0]
@[simp] theorem truth_non (h : Hp) : truth h .non = some false := rfl
@[simp] theorem truth_bl (h : Hp) (b : Bool) : truth h (.bl b) = some b := rfl
@[simp] theorem truth_int (h : Hp) (i : Int) : truth h (.int i) = some (decide (i ≠ 0)) := rfl
@[simp] theorem truth_str (h : Hp) (s : List Nat) : truth h (.str s) = some (!s.isEmpty) := rfl
@[simp] theorem truth_tup (h : Hp) (s : List D) : truth h (.tup s) = some (!s.isEmpty) := rfl
@[simp] theorem truth_lst (h : Hp) (s : List D) : truth h (.lst s) = some (!s.isEmpty) := rfl
@[simp] theorem len_str (h : Hp) (s : List Nat) : bltR .len h [.str s] = .ok (.int s.length) h := rfl
@[simp] theorem len_tup (h : Hp) (s : List D) : bltR .len h [.tup s] = .ok (.int s.length) h := rfl
@[simp] theorem len_lst (h : Hp) (s : List D) : bltR .len h [.lst s] = .ok (.int s.length) h := rfl
@[simp] theorem int_int (h : Hp) (i : Int) : bltR .int h [.int i] = .ok (.int i) h := rfl
@[simp] theorem max_int (h : Hp) (i j : Int) : bltR .max h [.int i, .int j] = .ok (.int (if i < j then j else i)) h := rfl
@[simp] theorem min_int (h : Hp) (i j : Int) : bltR .min h [.int i, .int j] = .ok (.int (if j < i then j else i)) h := rfl
theorem int_str (h : Hp) (s : List Nat) (i : Int) (e : textInt s = some i) : bltR .int h [.str s] = .ok (.int i) h := by simp [bltR, intR, e]
theorem str_int (h : Hp) (i : Int) (e : i.natAbs < 10 ^ 100) : bltR .str h [.int i] = .ok (.str (intText i)) h := by simp only [bltR, strR]; rw [if_pos e]
theorem ix_str (h : Hp) (s : List Nat) (i : Int) (c : Nat) (h0 : 0 ≤ i) (e : s[i.toNat]? = some c) : ixR h (.str s) (.int i) = .ok (.str [c]) h := by
  have hl := (List.getElem?_eq_some_iff.mp e).1
  simp only [ixR, ixN, h0, if_true]
  rw [if_pos (by omega)]
  simp [e]
theorem ix_tup (h : Hp) (s : List D) (i : Int) (c : D) (h0 : 0 ≤ i) (e : s[i.toNat]? = some c) : ixR h (.tup s) (.int i) = .ok c h := by
  have hl := (List.getElem?_eq_some_iff.mp e).1
  simp only [ixR, ixN, h0, if_true]
  rw [if_pos (by omega)]
  simp [e]
theorem ix_lst (h : Hp) (s : List D) (i : Int) (c : D) (h0 : 0 ≤ i) (e : s[i.toNat]? = some c) : ixR h (.lst s) (.int i) = .ok c h := by
  have hl := (List.getElem?_eq_some_iff.mp e).1
  simp only [ixR, ixN, h0, if_true]
  rw [if_pos (by omega)]
  simp [e]
theorem vg0 (d : D) (σ : Fr) : vget (some d :: σ) 0 = some d := rfl
theorem vg1 (x : Option D) (σ : Fr) (k : Nat) : vget (x :: σ) (k + 1) = vget σ k := rfl
theorem vs0 (x : Option D) (σ : Fr) (d : D) : vset (x :: σ) 0 d = some d :: σ := rfl
theorem vs1 (x : Option D) (σ : Fr) (k : Nat) (d : D) : vset (x :: σ) (k + 1) d = x :: vset σ k d := rfl
theorem add_str (h : Hp) (a b : List Nat) (e : a.length + b.length ≤ 100000) : binR .add h (.str a) (.str b) = .ok (.str (a ++ b)) h := by
  simp only [binR, addR]; rw [if_pos (Nat.le_trans e (by decide +kernel))]
theorem mul_str (h : Hp) (a : List Nat) (j : Int) (e : a.length * j.toNat ≤ 100000) (e2 : j.natAbs ≤ 100000) : binR .mul h (.str a) (.int j) = .ok (.str (List.replicate j.toNat a).flatten) h := by
  simp only [binR, mulR]; rw [if_pos ⟨Nat.le_trans e (by decide +kernel), Nat.lt_of_le_of_lt e2 (by decide +kernel)⟩]
theorem ix_end (h : Hp) (ds : List D) (i : Int) (c : D) (h0 : 0 ≤ i) (e : ds[i.toNat]? = some c) : ixR (h ++ [.lst ds]) (.obj h.length) (.int i) = .ok c (h ++ [.lst ds]) := by
  have hl := (List.getElem?_eq_some_iff.mp e).1
  have hp : (h ++ [AO.lst ds])[h.length]? = some (.lst ds) := by simp
  simp only [ixR, hp, ixN, h0, if_true]
  rw [if_pos (by omega)]
  simp [e]
theorem gd_none (h h' : Hp) : gdOk h h' none = true := rfl
/-! ### digits -/
theorem digitChar_nat {n : Nat} (h : n < 10) : (Nat.digitChar n).toNat = 48 + n := by
  have : n = 0 ∨ n = 1 ∨ n = 2 ∨ n = 3 ∨ n = 4 ∨ n = 5 ∨ n = 6 ∨ n = 7 ∨ n = 8 ∨ n = 9 := by omega
  rcases this with h | h | h | h | h | h | h | h | h | h <;> subst h <;> decide
theorem natDigits_small {n : Nat} (h : n < 10) : natDigits n = [48 + n] := by
  unfold natDigits
  rw [Nat.toDigits_of_lt_base h]
  simp [digitChar_nat h]
theorem natDigits_step {n : Nat} (h : 10 ≤ n) : natDigits n = natDigits (n / 10) ++ [48 + n % 10] := by
  unfold natDigits
  rw [Nat.toDigits_of_base_le (by decide) h]
  simp [digitChar_nat (Nat.mod_lt n (by decide : 0 < 10))]
theorem natDigits_len {n k : Nat} (hk : 0 < k) (h : n < 10 ^ k) : (natDigits n).length ≤ k := by
  unfold natDigits
  rw [List.length_map]
  exact (Nat.length_toDigits_le_iff (by decide) hk).mpr h
theorem isDig_add {n : Nat} (h : n < 10) : isDig (48 + n) = true := by simp [isDig]; omega
theorem natDigits_dig (n : Nat) : (natDigits n).all isDig = true := by
  induction n using Nat.strongRecOn with
  | ind n ih =>
    by_cases h : n < 10
    · rw [natDigits_small h]; simp [isDig_add h]
    · rw [natDigits_step (by omega), List.all_append, ih (n / 10) (by omega)]
      simp [isDig_add (Nat.mod_lt n (by decide : 0 < 10))]
theorem digVal_snoc (ds : List Nat) (d : Nat) : digVal (ds ++ [d]) = digVal ds * 10 + (d - 48) := by simp [digVal, List.foldl_append]
theorem digVal_nat (n : Nat) : digVal (natDigits n) = n := by
  induction n using Nat.strongRecOn with
  | ind n ih =>
    by_cases h : n < 10
    · rw [natDigits_small h]; simp [digVal]
    · rw [natDigits_step (by omega), digVal_snoc, ih (n / 10) (by omega)]; omega
theorem head_app {l r : List Nat} (h : l ≠ []) : (l ++ r).head? = l.head? := by
  cases l with
  | nil => exact absurd rfl h
  | cons a b => rfl
theorem natDigits_ne (n : Nat) : natDigits n ≠ [] := by
  by_cases h : n < 10
  · rw [natDigits_small h]; simp
  · rw [natDigits_step (by omega)]; simp
theorem natDigits_head (n : Nat) (h0 : 0 < n) : (natDigits n).head? ≠ some 48 := by
  induction n using Nat.strongRecOn with
  | ind n ih =>
    by_cases h : n < 10
    · rw [natDigits_small h]; simp; omega
    · rw [natDigits_step (by omega), head_app (natDigits_ne _)]
      exact ih (n / 10) (by omega) (by omega)
theorem digVal_pos : ∀ {ds : List Nat}, ds ≠ [] → ds.all isDig = true → ds.head? ≠ some 48 → 0 < digVal ds := by
  intro ds h1 h2 h3
  cases ds with
  | nil => exact absurd rfl h1
  | cons d r =>
    have hd : 48 < d := by
      simp [isDig] at h2 h3
      omega
    have mono : ∀ (r : List Nat) (a : Nat), a ≤ r.foldl (fun n c => n * 10 + (c - 48)) a := by
      intro r
      induction r with
      | nil => intro a; exact Nat.le_refl _
      | cons x r ih => intro a; rw [List.foldl_cons]; exact Nat.le_trans (by omega) (ih _)
    have := mono r (0 * 10 + (d - 48))
    show 0 < (d :: r).foldl (fun n c => n * 10 + (c - 48)) 0
    rw [List.foldl_cons]
    omega
theorem natDigits_val : ∀ (n : Nat) (ds : List Nat), ds.length = n → ds ≠ [] → ds.all isDig = true → ds.head? ≠ some 48 → natDigits (digVal ds) = ds
  | 0, ds, hl, h1, _, _ => absurd (List.length_eq_zero_iff.mp hl) h1
  | n + 1, ds, hl, h1, h2, h3 => by
    rcases List.eq_nil_or_concat ds with e | ⟨r, d, e⟩
    · exact absurd e h1
    · rw [List.concat_eq_append] at e
      subst e
      simp only [List.all_append, List.all_cons, List.all_nil, Bool.and_true, Bool.and_eq_true] at h2
      have hd : 48 ≤ d ∧ d ≤ 57 := by simpa [isDig] using h2.2
      rw [digVal_snoc]
      by_cases hr : r = []
      · subst hr
        have : digVal [] * 10 + (d - 48) = d - 48 := by simp [digVal]
        rw [this, natDigits_small (by omega)]
        simp; omega
      · have hh : r.head? ≠ some 48 := by rwa [head_app hr] at h3
        have hp := digVal_pos hr h2.1 hh
        have ih := natDigits_val n r (by simpa using hl) hr h2.1 hh
        rw [natDigits_step (by omega), show (digVal r * 10 + (d - 48)) / 10 = digVal r by omega, show (digVal r * 10 + (d - 48)) % 10 = d - 48 by omega, ih]
        congr 2; omega
theorem intText_nat (n : Nat) : intText (n : Int) = natDigits n := by
  unfold intText
  rw [if_neg (by omega)]; rfl
end Mu
end

section
set_option autoImplicit false
set_option linter.all false
/-! MuS: running the evaluator by simp. -/
namespace Mu
section
variable {α β : Type}
@[simp] theorem R.bind_ite {p : Prop} [Decidable p] (a b : R α) (f : α → Hp → R β) : (if p then a else b).bind f = if p then a.bind f else b.bind f := by split <;> rfl
@[simp] theorem R.st_ite {p : Prop} [Decidable p] (σ : Fr) (a b : R α) (f : α → Hp → RS) : (if p then a else b).st σ f = if p then a.st σ f else b.st σ f := by split <;> rfl
@[simp] theorem opt_ite {p : Prop} [Decidable p] (a b : Option α) (h : Hp) : opt (if p then a else b) h = if p then opt a h else opt b h := by split <;> rfl
end
@[simp] theorem RS.seq_ite {p : Prop} [Decidable p] (a b : RS) (f : Fr → Hp → RS) : (if p then a else b).seq f = if p then a.seq f else b.seq f := by split <;> rfl
@[simp] theorem RS.fin_ite {p : Prop} [Decidable p] (a b : RS) : (if p then a else b).fin = if p then a.fin else b.fin := by split <;> rfl
@[simp] theorem RS.fin_nx (σ : Fr) (h : Hp) : (RS.nx σ h).fin = .ok .non h := by unfold RS.fin; exact id rfl
@[simp] theorem RS.fin_rt (d : D) (h : Hp) : (RS.rt d h).fin = .ok d h := by unfold RS.fin; exact id rfl
@[simp] theorem RS.fin_ex (x : Exn) (σ : Fr) (h : Hp) : (RS.ex x σ h).fin = .ex x h := by unfold RS.fin; exact id rfl
@[simp] theorem RS.suite_nx (σ : Fr) (h : Hp) (m : Option Nat) : (RS.nx σ h).suite m = .nx (wipeO σ m) h := by unfold RS.suite; exact id rfl
@[simp] theorem RS.suite_rt (d : D) (h : Hp) (m : Option Nat) : (RS.rt d h).suite m = .rt d h := by unfold RS.suite; exact id rfl
@[simp] theorem RS.suite_ct (σ : Fr) (h : Hp) (m : Option Nat) : (RS.ct σ h).suite m = .ct (wipeO σ m) h := by unfold RS.suite; exact id rfl
@[simp] theorem RS.suite_ite {p : Prop} [Decidable p] (a b : RS) (m : Option Nat) : (if p then a else b).suite m = if p then a.suite m else b.suite m := by split <;> rfl

/-- the steps of the evaluator, unfolded by name -/
theorem ex_try (c : Cx) (σ : Fr) (h : Hp) (b : Ss) (hs : Hs) : exec c σ h (.try_ b hs) = (match execs c σ h b with
    | .ex x σ' h' => execH { c with hx := some x } x σ' h' hs
    | r => r) := by rw [exec] <;> rfl
def tryK (c : Cx) (hs : Hs) : RS → RS
  | .ex x σ' h' => execH { c with hx := some x } x σ' h' hs
  | r => r
theorem ex_tryK (c : Cx) (σ : Fr) (h : Hp) (b : Ss) (hs : Hs) : exec c σ h (.try_ b hs) = tryK c hs (execs c σ h b) := by
  rw [exec]; unfold tryK; cases execs c σ h b <;> rfl
@[simp] theorem tryK_nx (c : Cx) (hs : Hs) (σ : Fr) (h : Hp) : tryK c hs (.nx σ h) = .nx σ h := rfl
@[simp] theorem tryK_rt (c : Cx) (hs : Hs) (d : D) (h : Hp) : tryK c hs (.rt d h) = .rt d h := rfl
@[simp] theorem tryK_ex (c : Cx) (hs : Hs) (x : Exn) (σ : Fr) (h : Hp) : tryK c hs (.ex x σ h) = execH { c with hx := some x } x σ h hs := rfl
@[simp] theorem tryK_ite {p : Prop} [Decidable p] (c : Cx) (hs : Hs) (a b : RS) : tryK c hs (if p then a else b) = if p then tryK c hs a else tryK c hs b := by split <;> rfl

/-! ### values -/
@[simp] theorem isaR_non (h : Hp) (t : Ty) : isaR h .non t = some false := rfl
@[simp] theorem isaR_bl (h : Hp) (b : Bool) (t : Ty) : isaR h (.bl b) t = some (decide (t = .int) || decide (t = .bool)) := rfl
@[simp] theorem isaR_int (h : Hp) (b : Int) (t : Ty) : isaR h (.int b) t = some (decide (t = .int)) := rfl
@[simp] theorem isaR_str (h : Hp) (b : List Nat) (t : Ty) : isaR h (.str b) t = some (decide (t = .str)) := rfl
@[simp] theorem isaR_tup (h : Hp) (b : List D) (t : Ty) : isaR h (.tup b) t = some (decide (t = .tuple)) := rfl
theorem isaR_lst {h : Hp} {p : Nat} {ds : List D} (e : h[p]? = some (.lst ds)) (t : Ty) : isaR h (.obj p) t = some (decide (t = .list)) := by simp [isaR, e]
@[simp] theorem iscV_non (d : D) : iscV .non d = decide (d = .non) := by cases d <;> simp [iscV]
@[simp] theorem iscV_bl (b : Bool) (a : Bool) : iscV (.bl b) (.bl a) = (a == b) := rfl
@[simp] theorem dat_non (h : Hp) (n : Nat) : dat h n .non = some .non := by cases n <;> rfl
@[simp] theorem dat_bl (h : Hp) (n : Nat) (b : Bool) : dat h n (.bl b) = some (.bl b) := by cases n <;> rfl
@[simp] theorem dat_int (h : Hp) (n : Nat) (b : Int) : dat h n (.int b) = some (.int b) := by cases n <;> rfl
@[simp] theorem dat_str (h : Hp) (n : Nat) (b : List Nat) : dat h n (.str b) = some (.str b) := by cases n <;> rfl
/-- no objects, no lists; nested at most n deep -/
def Plain : Nat → D → Prop
  | _, .non => True
  | _, .bl _ => True
  | _, .int _ => True
  | _, .str _ => True
  | 0, _ => False
  | n + 1, .tup ds => ∀ d ∈ ds, Plain n d
  | _ + 1, _ => False
theorem mapO_id {f : D → Option D} : ∀ {ds : List D}, (∀ d ∈ ds, f d = some d) → mapO f ds = some ds
  | [], _ => rfl
  | d :: ds, k => by
    rw [mapO, k d (List.mem_cons_self ..), mapO_id fun x hx => k x (List.mem_cons_of_mem _ hx)]
theorem dat_plain (h : Hp) : ∀ (n : Nat) (d : D), Plain n d → dat h n d = some d
  | n, .non, _ => dat_non h n
  | n, .bl b, _ => dat_bl h n b
  | n, .int b, _ => dat_int h n b
  | n, .str b, _ => dat_str h n b
  | 0, .tup _, p => by simp [Plain] at p
  | n + 1, .tup ds, p => by
    rw [Plain] at p
    simp only [dat]
    rw [mapO_id fun d hd => dat_plain h n d (p d hd)]; rfl
  | 0, .obj _, p => by simp [Plain] at p
  | n + 1, .obj _, p => by simp [Plain] at p
  | 0, .lst _, p => by simp [Plain] at p
  | n + 1, .lst _, p => by simp [Plain] at p
theorem Plain.mono : ∀ {n m : Nat} {d : D}, n ≤ m → Plain n d → Plain m d
  | n, m, .non, _, _ => by simp [Plain]
  | n, m, .bl b, _, _ => by simp [Plain]
  | n, m, .int b, _, _ => by simp [Plain]
  | n, m, .str b, _, _ => by simp [Plain]
  | 0, m, .tup _, _, p => by simp [Plain] at p
  | n + 1, 0, .tup ds, k, p => absurd k (by omega)
  | n + 1, m + 1, .tup ds, k, p => by
    rw [Plain] at p ⊢
    exact fun d hd => Plain.mono (by omega) (p d hd)
  | 0, m, .obj _, _, p => by simp [Plain] at p
  | n + 1, m, .obj _, _, p => by simp [Plain] at p
  | 0, m, .lst _, _, p => by simp [Plain] at p
  | n + 1, m, .lst _, _, p => by simp [Plain] at p
theorem eqR_plain {h : Hp} {a b : D} (pa : Plain 50 a) (pb : Plain 50 b) : eqR h a b = some (pyEq a b) := by
  simp only [eqR, DEP]; rw [dat_plain h 50 a pa, dat_plain h 50 b pb]
mutual
/-- no bools within -/
def noBl : D → Bool
  | .bl _ => false
  | .tup ds => noBls ds
  | .lst ds => noBls ds
  | _ => true
def noBls : List D → Bool
  | [] => true
  | d :: ds => noBl d && noBls ds
end
mutual
theorem pyEq_self : ∀ (n : Nat) (d : D), Plain n d → pyEq d d = true
  | _, .non, _ => rfl
  | _, .bl b, _ => by simp [pyEq]
  | _, .int b, _ => by simp [pyEq]
  | _, .str b, _ => by simp [pyEq]
  | 0, .tup _, p => by simp [Plain] at p
  | n + 1, .tup ds, p => by
    rw [Plain] at p
    simp only [pyEq]
    exact pyEqs_self n ds p
  | 0, .obj _, p => by simp [Plain] at p
  | n + 1, .obj _, p => by simp [Plain] at p
  | 0, .lst _, p => by simp [Plain] at p
  | n + 1, .lst _, p => by simp [Plain] at p
theorem pyEqs_self : ∀ (n : Nat) (ds : List D), (∀ d ∈ ds, Plain n d) → pyEqs ds ds = true
  | _, [], _ => rfl
  | n, d :: ds, p => by
    simp only [pyEqs]
    rw [pyEq_self n d (p d (List.mem_cons_self ..)), pyEqs_self n ds fun x hx => p x (List.mem_cons_of_mem _ hx)]; rfl
end
/-! ### heaps -/
theorem lt_of_get {h : Hp} {p : Nat} {o : AO} (e : h[p]? = some o) : p < h.length := (List.getElem?_eq_some_iff.mp e).1
theorem get_app {h g : Hp} {p : Nat} {o : AO} (e : h[p]? = some o) : (h ++ g)[p]? = some o := by
  rw [List.getElem?_append_left (lt_of_get e)]; exact e
/-! ### loops -/
theorem forL_gen {g : Hp → Bool} {step : D → Fr → Hp → RS} (I : List D → Fr → Hp → Prop) (Q : RS → Prop) (hend : ∀ σ h, I [] σ h → Q (.nx σ h))
    (hstep : ∀ d r σ h, I (d :: r) σ h → (∃ σ' h', (step d σ h = .nx σ' h' ∨ step d σ h = .ct σ' h') ∧ g h' = true ∧ I r σ' h') ∨ (∃ σ' h', step d σ h = .bk σ' h' ∧ Q (.nx σ' h')) ∨ (∃ v h', step d σ h = .rt v h' ∧ Q (.rt v h')) ∨ (∃ x σ' h', step d σ h = .ex x σ' h' ∧ Q (.ex x σ' h'))) :
    ∀ (ds : List D) (σ : Fr) (h : Hp), I ds σ h → Q (forL g step ds σ h)
  | [], σ, h, i => by rw [forL]; exact hend σ h i
  | d :: ds, σ, h, i => by
    rw [forL]
    rcases hstep d ds σ h i with ⟨σ', h', e, hg, i'⟩ | ⟨σ', h', e, q⟩ | ⟨v, h', e, q⟩ | ⟨x, σ', h', e, q⟩
    · rcases e with e | e <;> rw [e] <;> simp only [hg, if_true] <;> exact forL_gen I Q hend hstep ds σ' h' i'
    · rw [e]; exact q
    · rw [e]; exact q
    · rw [e]; exact q
/-- a loop that goes through -/
theorem forL_run {g : Hp → Bool} {step : D → Fr → Hp → RS} (I : List D → Fr → Hp → Prop)
    (hstep : ∀ d r σ h, I (d :: r) σ h → ∃ σ' h', step d σ h = .nx σ' h' ∧ g h' = true ∧ I r σ' h') (ds : List D) (σ : Fr) (h : Hp) (i : I ds σ h) : ∃ σ' h', forL g step ds σ h = .nx σ' h' ∧ I [] σ' h' :=
  forL_gen I (fun r => ∃ σ' h', r = .nx σ' h' ∧ I [] σ' h') (fun σ h i => ⟨σ, h, rfl, i⟩)
    (fun d r σ h i => by obtain ⟨σ', h', e, hg, i'⟩ := hstep d r σ h i; exact .inl ⟨σ', h', .inl e, hg, i'⟩) ds σ h i
/-- a comprehension that goes through: each item's value -/
theorem lcL_run {g : Hp → Bool} {step : D → Hp → R (Option D)} (I : List D → List D → Hp → Prop)
    (hstep : ∀ d r acc h, I (d :: r) acc h → acc.length < LIM ∧ ((∃ y h', step d h = .ok (some y) h' ∧ g h' = true ∧ I r (acc ++ [y]) h') ∨ (∃ h', step d h = .ok none h' ∧ g h' = true ∧ I r acc h'))) : ∀ (ds acc : List D) (h : Hp), I ds acc h → ∃ ys h', lcL g step ds acc h = .ok ys h' ∧ I [] ys h'
  | [], acc, h, i => ⟨acc, h, by rw [lcL], i⟩
  | d :: ds, acc, h, i => by
    rw [lcL]
    obtain ⟨hl, hs⟩ := hstep d ds acc h i
    rcases hs with ⟨y, h', e, hg, i'⟩ | ⟨h', e, hg, i'⟩
    · rw [e]; simp only [R.quiet_ok, R.bind_ok, hg, if_true, hl]
      exact lcL_run I hstep ds _ h' i'
    · rw [e]; simp only [R.quiet_ok, R.bind_ok, hg, if_true]
      exact lcL_run I hstep ds _ h' i'
/-! ### what follows a part, by name -/
def tupSK (ds : List D) : D → Hp → R D := fun d h => match d with
    | .tup xs => if ds.length + xs.length ≤ LIM then .ok (.tup (ds ++ xs)) h else .bad
    | _ => .bad
def makeK : D → Hp → Nat → R D := fun d h' p => match d with
    | .non => .ok (.obj p) h'
    | _ => .bad
def putK (σ : Fr) : Option Hp → RS
  | some h' => .nx σ h'
  | none => .bad
def forK (c : Cx) (t : Tg) (b : Ss) : D → Fr → Hp → RS := fun d σ h => match tgS h σ t d with
    | some σ' => execs c σ' h b
    | none => .bad
def rngK2 (x y : D) (h : Hp) : R (List D × Option Nat) := match x, y with
    | .int i, .int j => if i.natAbs < 2 ^ 62 ∧ j.natAbs < 2 ^ 62 then .ok (rangeD i j, none) h else .bad
    | _, _ => .bad
def zipK (x y : D) (h : Hp) : R (List D × Option Nat) := match x, y with
    | .tup xs, .tup ys => .ok (zipD xs ys, none) h
    | .tup xs, .obj q => match h[q]? with
      | some (.lst ys) => .ok (zipD xs ys, some q) h
      | _ => .bad
    | _, _ => .bad
def kTup  (ds : List D) (h : Hp) : R D := .ok (.tup ds) h
@[simp] theorem kTup_ap  (ds : List D) (h : Hp) : kTup  ds h = .ok (.tup ds) h := rfl
def kLst  (ds : List D) (h : Hp) : R D := .ok (.obj h.length) (h ++ [.lst ds])
@[simp] theorem kLst_ap  (ds : List D) (h : Hp) : kLst  ds h = .ok (.obj h.length) (h ++ [.lst ds]) := rfl
def kDct (tk : Bool) (ks : List String) (ds : List D) (h : Hp) : R D := .ok (.obj h.length) (h ++ [.dct tk ((ks.map fun k => D.str (cp k)).zip ds)])
@[simp] theorem kDct_ap (tk : Bool) (ks : List String) (ds : List D) (h : Hp) : kDct tk ks ds h = .ok (.obj h.length) (h ++ [.dct tk ((ks.map fun k => D.str (cp k)).zip ds)]) := rfl
def kBin2 (op : BOp) (x : D) (y : D) (h : Hp) : R D := binR op h x y
@[simp] theorem kBin2_ap (op : BOp) (x : D) (y : D) (h : Hp) : kBin2 op x y h = binR op h x y := rfl
def kBin1 (c : Cx) (σ : Fr) (op : BOp) (b : E) (x : D) (h : Hp) : R D := (ev c σ h b).bind (kBin2 op x)
@[simp] theorem kBin1_ap (c : Cx) (σ : Fr) (op : BOp) (b : E) (x : D) (h : Hp) : kBin1 c σ op b x h = (ev c σ h b).bind (kBin2 op x) := rfl
def kCmp2 (op : COp) (x : D) (y : D) (h : Hp) : R D := cmpR op h x y
@[simp] theorem kCmp2_ap (op : COp) (x : D) (y : D) (h : Hp) : kCmp2 op x y h = cmpR op h x y := rfl
def kCmp1 (c : Cx) (σ : Fr) (op : COp) (b : E) (x : D) (h : Hp) : R D := (ev c σ h b).bind (kCmp2 op x)
@[simp] theorem kCmp1_ap (c : Cx) (σ : Fr) (op : COp) (b : E) (x : D) (h : Hp) : kCmp1 c σ op b x h = (ev c σ h b).bind (kCmp2 op x) := rfl
def kIsc (n : Bool) (k : Cv) (x : D) (h : Hp) : R D := .ok (.bl (n ^^ iscV k x)) h
@[simp] theorem kIsc_ap (n : Bool) (k : Cv) (x : D) (h : Hp) : kIsc n k x h = .ok (.bl (n ^^ iscV k x)) h := rfl
def kAnd2 (c : Cx) (σ : Fr) (b : E) (x : D) (t : Bool) (h : Hp) : R D := if t then ev c σ h b else .ok x h
@[simp] theorem kAnd2_ap (c : Cx) (σ : Fr) (b : E) (x : D) (t : Bool) (h : Hp) : kAnd2 c σ b x t h = if t then ev c σ h b else .ok x h := rfl
def kAnd1 (c : Cx) (σ : Fr) (b : E) (x : D) (h : Hp) : R D := (opt (truth h x) h).bind (kAnd2 c σ b x)
@[simp] theorem kAnd1_ap (c : Cx) (σ : Fr) (b : E) (x : D) (h : Hp) : kAnd1 c σ b x h = (opt (truth h x) h).bind (kAnd2 c σ b x) := rfl
def kOr2 (c : Cx) (σ : Fr) (b : E) (x : D) (t : Bool) (h : Hp) : R D := if t then .ok x h else ev c σ h b
@[simp] theorem kOr2_ap (c : Cx) (σ : Fr) (b : E) (x : D) (t : Bool) (h : Hp) : kOr2 c σ b x t h = if t then .ok x h else ev c σ h b := rfl
def kOr1 (c : Cx) (σ : Fr) (b : E) (x : D) (h : Hp) : R D := (opt (truth h x) h).bind (kOr2 c σ b x)
@[simp] theorem kOr1_ap (c : Cx) (σ : Fr) (b : E) (x : D) (h : Hp) : kOr1 c σ b x h = (opt (truth h x) h).bind (kOr2 c σ b x) := rfl
def kNot2  (t : Bool) (h : Hp) : R D := .ok (.bl (!t)) h
@[simp] theorem kNot2_ap  (t : Bool) (h : Hp) : kNot2  t h = .ok (.bl (!t)) h := rfl
def kNot1  (x : D) (h : Hp) : R D := (opt (truth h x) h).bind kNot2
@[simp] theorem kNot1_ap  (x : D) (h : Hp) : kNot1  x h = (opt (truth h x) h).bind kNot2 := rfl
def kIfe2 (c : Cx) (σ : Fr) (a b : E) (t : Bool) (h : Hp) : R D := if t then ev c σ h a else ev c σ h b
@[simp] theorem kIfe2_ap (c : Cx) (σ : Fr) (a b : E) (t : Bool) (h : Hp) : kIfe2 c σ a b t h = if t then ev c σ h a else ev c σ h b := rfl
def kIfe1 (c : Cx) (σ : Fr) (a b : E) (x : D) (h : Hp) : R D := (opt (truth h x) h).bind (kIfe2 c σ a b)
@[simp] theorem kIfe1_ap (c : Cx) (σ : Fr) (a b : E) (x : D) (h : Hp) : kIfe1 c σ a b x h = (opt (truth h x) h).bind (kIfe2 c σ a b) := rfl
def kNeg  (x : D) (h : Hp) : R D := negR h x
@[simp] theorem kNeg_ap  (x : D) (h : Hp) : kNeg  x h = negR h x := rfl
def kIx2 (x : D) (y : D) (h : Hp) : R D := ixR h x y
@[simp] theorem kIx2_ap (x : D) (y : D) (h : Hp) : kIx2 x y h = ixR h x y := rfl
def kIx1 (c : Cx) (σ : Fr) (b : E) (x : D) (h : Hp) : R D := (ev c σ h b).bind (kIx2 x)
@[simp] theorem kIx1_ap (c : Cx) (σ : Fr) (b : E) (x : D) (h : Hp) : kIx1 c σ b x h = (ev c σ h b).bind (kIx2 x) := rfl
def kCut0  (d : D) (h : Hp) : R D := cutR h d none none
@[simp] theorem kCut0_ap  (d : D) (h : Hp) : kCut0  d h = cutR h d none none := rfl
def kCut1c (d : D) (i : Int) (h : Hp) : R D := cutR h d (some i) none
@[simp] theorem kCut1c_ap (d : D) (i : Int) (h : Hp) : kCut1c d i h = cutR h d (some i) none := rfl
def kCut1b (d : D) (i : D) (h : Hp) : R D := (opt (endI i) h).bind (kCut1c d)
@[simp] theorem kCut1b_ap (d : D) (i : D) (h : Hp) : kCut1b d i h = (opt (endI i) h).bind (kCut1c d) := rfl
def kCut1 (c : Cx) (σ : Fr) (x : E) (d : D) (h : Hp) : R D := (ev c σ h x).bind (kCut1b d)
@[simp] theorem kCut1_ap (c : Cx) (σ : Fr) (x : E) (d : D) (h : Hp) : kCut1 c σ x d h = (ev c σ h x).bind (kCut1b d) := rfl
def kCut2c (d : D) (i : Int) (h : Hp) : R D := cutR h d none (some i)
@[simp] theorem kCut2c_ap (d : D) (i : Int) (h : Hp) : kCut2c d i h = cutR h d none (some i) := rfl
def kCut2b (d : D) (i : D) (h : Hp) : R D := (opt (endI i) h).bind (kCut2c d)
@[simp] theorem kCut2b_ap (d : D) (i : D) (h : Hp) : kCut2b d i h = (opt (endI i) h).bind (kCut2c d) := rfl
def kCut2 (c : Cx) (σ : Fr) (y : E) (d : D) (h : Hp) : R D := (ev c σ h y).bind (kCut2b d)
@[simp] theorem kCut2_ap (c : Cx) (σ : Fr) (y : E) (d : D) (h : Hp) : kCut2 c σ y d h = (ev c σ h y).bind (kCut2b d) := rfl
def kCut3e (d : D) (i : Int) (j : Int) (h : Hp) : R D := cutR h d (some i) (some j)
@[simp] theorem kCut3e_ap (d : D) (i : Int) (j : Int) (h : Hp) : kCut3e d i j h = cutR h d (some i) (some j) := rfl
def kCut3d (d : D) (i : Int) (j : D) (h : Hp) : R D := (opt (endI j) h).bind (kCut3e d i)
@[simp] theorem kCut3d_ap (d : D) (i : Int) (j : D) (h : Hp) : kCut3d d i j h = (opt (endI j) h).bind (kCut3e d i) := rfl
def kCut3c (c : Cx) (σ : Fr) (y : E) (d : D) (i : Int) (h : Hp) : R D := (ev c σ h y).bind (kCut3d d i)
@[simp] theorem kCut3c_ap (c : Cx) (σ : Fr) (y : E) (d : D) (i : Int) (h : Hp) : kCut3c c σ y d i h = (ev c σ h y).bind (kCut3d d i) := rfl
def kCut3b (c : Cx) (σ : Fr) (y : E) (d : D) (i : D) (h : Hp) : R D := (opt (endI i) h).bind (kCut3c c σ y d)
@[simp] theorem kCut3b_ap (c : Cx) (σ : Fr) (y : E) (d : D) (i : D) (h : Hp) : kCut3b c σ y d i h = (opt (endI i) h).bind (kCut3c c σ y d) := rfl
def kCut3 (c : Cx) (σ : Fr) (x y : E) (d : D) (h : Hp) : R D := (ev c σ h x).bind (kCut3b c σ y d)
@[simp] theorem kCut3_ap (c : Cx) (σ : Fr) (x y : E) (d : D) (h : Hp) : kCut3 c σ x y d h = (ev c σ h x).bind (kCut3b c σ y d) := rfl
def kFld (f : String) (x : D) (h : Hp) : R D := fldR h x f
@[simp] theorem kFld_ap (f : String) (x : D) (h : Hp) : kFld f x h = fldR h x f := rfl
def kCall (c : Cx) (f : String) (ds : List D) (h : Hp) : R D := c.call f ds h
@[simp] theorem kCall_ap (c : Cx) (f : String) (ds : List D) (h : Hp) : kCall c f ds h = c.call f ds h := rfl
def kMeth (c : Cx) (f : String) (p : Nat) (ds : List D) (h : Hp) : R D := c.call f (.obj p :: ds) h
@[simp] theorem kMeth_ap (c : Cx) (f : String) (p : Nat) (ds : List D) (h : Hp) : kMeth c f p ds h = c.call f (.obj p :: ds) h := rfl
def kMake2 (p : Nat) (d : D) (h : Hp) : R D := makeK d h p
@[simp] theorem kMake2_ap (p : Nat) (d : D) (h : Hp) : kMake2 p d h = makeK d h p := rfl
def kMake (c : Cx) (k : String) (ds : List D) (h : Hp) : R D := (c.call (k ++ ".__init__") (.obj h.length :: ds) (h ++ [.ins k []])).bind (kMake2 h.length)
@[simp] theorem kMake_ap (c : Cx) (k : String) (ds : List D) (h : Hp) : kMake c k ds h = (c.call (k ++ ".__init__") (.obj h.length :: ds) (h ++ [.ins k []])).bind (kMake2 h.length) := rfl
def kBm2 (m : Bm) (x : D) (kd : Nat) (ds : List D) (h : Hp) : R D := if kdO h x = kd then bmR m h x ds else .bad
@[simp] theorem kBm2_ap (m : Bm) (x : D) (kd : Nat) (ds : List D) (h : Hp) : kBm2 m x kd ds h = if kdO h x = kd then bmR m h x ds else .bad := rfl
def kBm1 (c : Cx) (σ : Fr) (m : Bm) (es : Es) (x : D) (h : Hp) : R D := if mOk m (kdO h x) = false then .bad else (evs c σ h es).bind (kBm2 m x (kdO h x))
@[simp] theorem kBm1_ap (c : Cx) (σ : Fr) (m : Bm) (es : Es) (x : D) (h : Hp) : kBm1 c σ m es x h = if mOk m (kdO h x) = false then .bad else (evs c σ h es).bind (kBm2 m x (kdO h x)) := rfl
def kBlt (f : Bf) (ds : List D) (h : Hp) : R D := bltR f h ds
@[simp] theorem kBlt_ap (f : Bf) (ds : List D) (h : Hp) : kBlt f ds h = bltR f h ds := rfl
def kIsa2  (b : Bool) (h : Hp) : R D := .ok (.bl b) h
@[simp] theorem kIsa2_ap  (b : Bool) (h : Hp) : kIsa2  b h = .ok (.bl b) h := rfl
def kIsa1 (t : Ty) (x : D) (h : Hp) : R D := (opt (isaR h x t) h).bind kIsa2
@[simp] theorem kIsa1_ap (t : Ty) (x : D) (h : Hp) : kIsa1 t x h = (opt (isaR h x t) h).bind kIsa2 := rfl
def kCons2 (d : D) (ds : List D) (h : Hp) : R (List D) := .ok (d :: ds) h
@[simp] theorem kCons2_ap (d : D) (ds : List D) (h : Hp) : kCons2 d ds h = .ok (d :: ds) h := rfl
def kCons1 (c : Cx) (σ : Fr) (es : Es) (d : D) (h : Hp) : R (List D) := (evs c σ h es).bind (kCons2 d)
@[simp] theorem kCons1_ap (c : Cx) (σ : Fr) (es : Es) (d : D) (h : Hp) : kCons1 c σ es d h = (evs c σ h es).bind (kCons2 d) := rfl
def kTupS (c : Cx) (σ : Fr) (e : E) (ds : List D) (h : Hp) : R D := (ev c σ h e).bind (tupSK ds)
@[simp] theorem kTupS_ap (c : Cx) (σ : Fr) (e : E) (ds : List D) (h : Hp) : kTupS c σ e ds h = (ev c σ h e).bind (tupSK ds) := rfl
def kSeq  (d : D) (h : Hp) : R (List D × Option Nat) := opt (iterR h d) h
@[simp] theorem kSeq_ap  (d : D) (h : Hp) : kSeq  d h = opt (iterR h d) h := rfl
def kRng2b (x : D) (y : D) (h : Hp) : R (List D × Option Nat) := rngK2 x y h
@[simp] theorem kRng2b_ap (x : D) (y : D) (h : Hp) : kRng2b x y h = rngK2 x y h := rfl
def kRng2 (c : Cx) (σ : Fr) (b : E) (x : D) (h : Hp) : R (List D × Option Nat) := (ev c σ h b).bind (kRng2b x)
@[simp] theorem kRng2_ap (c : Cx) (σ : Fr) (b : E) (x : D) (h : Hp) : kRng2 c σ b x h = (ev c σ h b).bind (kRng2b x) := rfl
def kZip2 (x : D) (y : D) (h : Hp) : R (List D × Option Nat) := zipK x y h
@[simp] theorem kZip2_ap (x : D) (y : D) (h : Hp) : kZip2 x y h = zipK x y h := rfl
def kZip (c : Cx) (σ : Fr) (b : E) (x : D) (h : Hp) : R (List D × Option Nat) := (ev c σ h b).bind (kZip2 x)
@[simp] theorem kZip_ap (c : Cx) (σ : Fr) (b : E) (x : D) (h : Hp) : kZip c σ b x h = (ev c σ h b).bind (kZip2 x) := rfl
def kT  (x : D) (h : Hp) : R Bool := opt (truth h x) h
@[simp] theorem kT_ap  (x : D) (h : Hp) : kT  x h = opt (truth h x) h := rfl
def kCmpE  (t : Bool) (h : Hp) : R D := .ok (.bl t) h
@[simp] theorem kCmpE_ap  (t : Bool) (h : Hp) : kCmpE  t h = .ok (.bl t) h := rfl
def kCmpN  (t : Bool) (h : Hp) : R D := .ok (.bl (!t)) h
@[simp] theorem kCmpN_ap  (t : Bool) (h : Hp) : kCmpN  t h = .ok (.bl (!t)) h := rfl
def kAF2 (σ : Fr) (f : String) (d : D) (x : D) (h : Hp) : RS := putK σ (putF h x f d)
@[simp] theorem kAF2_ap (σ : Fr) (f : String) (d : D) (x : D) (h : Hp) : kAF2 σ f d x h = putK σ (putF h x f d) := rfl
def kAF1 (c : Cx) (σ : Fr) (o : E) (f : String) (d : D) (h : Hp) : RS := (ev c σ h o).st σ (kAF2 σ f d)
@[simp] theorem kAF1_ap (c : Cx) (σ : Fr) (o : E) (f : String) (d : D) (h : Hp) : kAF1 c σ o f d h = (ev c σ h o).st σ (kAF2 σ f d) := rfl
def kAI3 (σ : Fr) (d x : D) (k : D) (h : Hp) : RS := putK σ (putI h x k d)
@[simp] theorem kAI3_ap (σ : Fr) (d x : D) (k : D) (h : Hp) : kAI3 σ d x k h = putK σ (putI h x k d) := rfl
def kAI2 (c : Cx) (σ : Fr) (i : E) (d : D) (x : D) (h : Hp) : RS := (ev c σ h i).st σ (kAI3 σ d x)
@[simp] theorem kAI2_ap (c : Cx) (σ : Fr) (i : E) (d : D) (x : D) (h : Hp) : kAI2 c σ i d x h = (ev c σ h i).st σ (kAI3 σ d x) := rfl
def kAI1 (c : Cx) (σ : Fr) (o i : E) (d : D) (h : Hp) : RS := (ev c σ h o).st σ (kAI2 c σ i d)
@[simp] theorem kAI1_ap (c : Cx) (σ : Fr) (o i : E) (d : D) (h : Hp) : kAI1 c σ o i d h = (ev c σ h o).st σ (kAI2 c σ i d) := rfl
def kAu3 (σ : Fr) (x : Nat) (d : D) (h : Hp) : RS := .nx (vset σ x d) h
@[simp] theorem kAu3_ap (σ : Fr) (x : Nat) (d : D) (h : Hp) : kAu3 σ x d h = .nx (vset σ x d) h := rfl
def kAu2 (σ : Fr) (x : Nat) (op : BOp) (a : D) (b : D) (h : Hp) : RS := (augR op h a b).st σ (kAu3 σ x)
@[simp] theorem kAu2_ap (σ : Fr) (x : Nat) (op : BOp) (a : D) (b : D) (h : Hp) : kAu2 σ x op a b h = (augR op h a b).st σ (kAu3 σ x) := rfl
def kAu1 (c : Cx) (σ : Fr) (x : Nat) (op : BOp) (e : E) (a : D) (h : Hp) : RS := (ev c σ h e).st σ (kAu2 σ x op a)
@[simp] theorem kAu1_ap (c : Cx) (σ : Fr) (x : Nat) (op : BOp) (e : E) (a : D) (h : Hp) : kAu1 c σ x op e a h = (ev c σ h e).st σ (kAu2 σ x op a) := rfl
def kGF4 (σ : Fr) (f : String) (x : D) (h1 : Hp) (d : D) (h : Hp) : RS := if insC h x = insC h1 x then putK σ (putF h x f d) else .bad
@[simp] theorem kGF4_ap (σ : Fr) (f : String) (x : D) (h1 : Hp) (d : D) (h : Hp) : kGF4 σ f x h1 d h = if insC h x = insC h1 x then putK σ (putF h x f d) else .bad := rfl
def kGF3 (σ : Fr) (f : String) (op : BOp) (x : D) (h1 : Hp) (a : D) (b : D) (h : Hp) : RS := (augR op h a b).st σ (kGF4 σ f x h1)
@[simp] theorem kGF3_ap (σ : Fr) (f : String) (op : BOp) (x : D) (h1 : Hp) (a : D) (b : D) (h : Hp) : kGF3 σ f op x h1 a b h = (augR op h a b).st σ (kGF4 σ f x h1) := rfl
def kGF2 (c : Cx) (σ : Fr) (f : String) (op : BOp) (e : E) (x : D) (h1 : Hp) (a : D) (h : Hp) : RS := (ev c σ h e).st σ (kGF3 σ f op x h1 a)
@[simp] theorem kGF2_ap (c : Cx) (σ : Fr) (f : String) (op : BOp) (e : E) (x : D) (h1 : Hp) (a : D) (h : Hp) : kGF2 c σ f op e x h1 a h = (ev c σ h e).st σ (kGF3 σ f op x h1 a) := rfl
def kGF1 (c : Cx) (σ : Fr) (f : String) (op : BOp) (e : E) (x : D) (h : Hp) : RS := (fldR h x f).st σ (kGF2 c σ f op e x h)
@[simp] theorem kGF1_ap (c : Cx) (σ : Fr) (f : String) (op : BOp) (e : E) (x : D) (h : Hp) : kGF1 c σ f op e x h = (fldR h x f).st σ (kGF2 c σ f op e x h) := rfl
def kGI5 (σ : Fr) (x k : D) (d : D) (h : Hp) : RS := putK σ (putI h x k d)
@[simp] theorem kGI5_ap (σ : Fr) (x k : D) (d : D) (h : Hp) : kGI5 σ x k d h = putK σ (putI h x k d) := rfl
def kGI4 (σ : Fr) (op : BOp) (x k a : D) (b : D) (h : Hp) : RS := (augR op h a b).st σ (kGI5 σ x k)
@[simp] theorem kGI4_ap (σ : Fr) (op : BOp) (x k a : D) (b : D) (h : Hp) : kGI4 σ op x k a b h = (augR op h a b).st σ (kGI5 σ x k) := rfl
def kGI3 (c : Cx) (σ : Fr) (op : BOp) (e : E) (x k : D) (a : D) (h : Hp) : RS := (ev c σ h e).st σ (kGI4 σ op x k a)
@[simp] theorem kGI3_ap (c : Cx) (σ : Fr) (op : BOp) (e : E) (x k : D) (a : D) (h : Hp) : kGI3 c σ op e x k a h = (ev c σ h e).st σ (kGI4 σ op x k a) := rfl
def kGI2 (c : Cx) (σ : Fr) (op : BOp) (e : E) (x : D) (k : D) (h : Hp) : RS := (dixR h x k).st σ (kGI3 c σ op e x k)
@[simp] theorem kGI2_ap (c : Cx) (σ : Fr) (op : BOp) (e : E) (x : D) (k : D) (h : Hp) : kGI2 c σ op e x k h = (dixR h x k).st σ (kGI3 c σ op e x k) := rfl
def kGI1 (c : Cx) (σ : Fr) (i : E) (op : BOp) (e : E) (x : D) (h : Hp) : RS := (ev c σ h i).st σ (kGI2 c σ op e x)
@[simp] theorem kGI1_ap (c : Cx) (σ : Fr) (i : E) (op : BOp) (e : E) (x : D) (h : Hp) : kGI1 c σ i op e x h = (ev c σ h i).st σ (kGI2 c σ op e x) := rfl
def kEx (σ : Fr) (d : D) (h : Hp) : RS := .nx σ h
@[simp] theorem kEx_ap (σ : Fr) (d : D) (h : Hp) : kEx σ d h = .nx σ h := rfl
def kRet  (d : D) (h : Hp) : RS := .rt d h
@[simp] theorem kRet_ap  (d : D) (h : Hp) : kRet  d h = .rt d h := rfl
def kIff (c : Cx) (σ : Fr) (a b : Ss) (t : Bool) (h : Hp) : RS := if t then execs c σ h a else execs c σ h b
@[simp] theorem kIff_ap (c : Cx) (σ : Fr) (a b : Ss) (t : Bool) (h : Hp) : kIff c σ a b t h = if t then execs c σ h a else execs c σ h b := rfl
def kSs (c : Cx) (ss : Ss) (σ : Fr) (h : Hp) : RS := execs c σ h ss
@[simp] theorem kSs_ap (c : Cx) (ss : Ss) (σ : Fr) (h : Hp) : kSs c ss σ h = execs c σ h ss := rfl
def kFr (c : Cx) (σ : Fr) (t : Tg) (b : Ss) (p : List D × Option Nat) (h : Hp) : RS := forL (fun h' => gdOk h h' p.2) (forK c t b) p.1 σ h
@[simp] theorem kFr_ap (c : Cx) (σ : Fr) (t : Tg) (b : Ss) (p : List D × Option Nat) (h : Hp) : kFr c σ t b p h = forL (fun h' => gdOk h h' p.2) (forK c t b) p.1 σ h := rfl
/-! ### the steps, by name -/
section
variable (c : Cx) (σ : Fr) (h : Hp)
@[simp] theorem x_v (i : Nat) : ev c σ h (.v i) = opt (vget σ i) h := by rw [ev]
@[simp] theorem x_int (i : Int) : ev c σ h (.int i) = .ok (.int i) h := by rw [ev]
@[simp] theorem x_bl (i : Bool) : ev c σ h (.bl i) = .ok (.bl i) h := by rw [ev]
@[simp] theorem x_str (i : String) : ev c σ h (.str i) = .ok (.str (cp i)) h := by rw [ev]
@[simp] theorem x_non : ev c σ h .non = .ok .non h := by rw [ev]
@[simp] theorem x_glob (x : String) : ev c σ h (.glob x) = opt (c.glob x) h := by rw [ev]
def ginK (n : Bool) (c : Cx) (x : String) : D → Hp → R D := fun d h => match d with
    | .str s => .ok (.bl (n ^^ (dlook (.str s) (c.gd x)).isSome)) h
    | _ => .bad
def gatK (c : Cx) (x : String) : D → Hp → R D := fun d h => match d with
    | .str s => opt (dlook (.str s) (c.gd x)) h
    | _ => .bad
@[simp] theorem x_gin (n : Bool) (a : E) (x : String) : ev c σ h (.gin n a x) = (ev c σ h a).bind (ginK n c x) := by rw [ev]; rfl
@[simp] theorem x_gat (a : E) (x : String) : ev c σ h (.gat x a) = (ev c σ h a).bind (gatK c x) := by rw [ev]; rfl
@[simp] theorem ginK_str (n : Bool) (x : String) (s : List Nat) : ginK n c x (.str s) h = .ok (.bl (n ^^ (dlook (.str s) (c.gd x)).isSome)) h := rfl
@[simp] theorem gatK_str (x : String) (s : List Nat) : gatK c x (.str s) h = opt (dlook (.str s) (c.gd x)) h := rfl
@[simp] theorem x_tup (es : Es) : ev c σ h (.tup es) = (evs c σ h es).bind kTup := by rw [ev]; rfl
@[simp] theorem x_lst (es : Es) : ev c σ h (.lst es) = (evs c σ h es).bind kLst := by rw [ev]; rfl
@[simp] theorem x_dct (tk : Bool) (ks : List String) (es : Es) : ev c σ h (.dct tk ks es) = (evs c σ h es).bind (kDct tk ks) := by rw [ev]; rfl
@[simp] theorem x_bin (op : BOp) (a b : E) : ev c σ h (.bin op a b) = (ev c σ h a).bind (kBin1 c σ op b) := by rw [ev]; rfl
@[simp] theorem x_cmp (op : COp) (a b : E) : ev c σ h (.cmp op a b) = (ev c σ h a).bind (kCmp1 c σ op b) := by rw [ev]; rfl
@[simp] theorem x_isc (n : Bool) (k : Cv) (a : E) : ev c σ h (.isc n k a) = (ev c σ h a).bind (kIsc n k) := by rw [ev]; rfl
@[simp] theorem x_and (a b : E) : ev c σ h (.and a b) = (ev c σ h a).bind (kAnd1 c σ b) := by rw [ev]; rfl
@[simp] theorem x_or (a b : E) : ev c σ h (.or a b) = (ev c σ h a).bind (kOr1 c σ b) := by rw [ev]; rfl
@[simp] theorem x_not (a : E) : ev c σ h (.not a) = (ev c σ h a).bind kNot1 := by rw [ev]; rfl
@[simp] theorem x_ife (k a b : E) : ev c σ h (.ife k a b) = (ev c σ h k).bind (kIfe1 c σ a b) := by rw [ev]; rfl
@[simp] theorem x_neg (a : E) : ev c σ h (.neg a) = (ev c σ h a).bind kNeg := by rw [ev]; rfl
@[simp] theorem negR_int (i : Int) : negR h (.int i) = .ok (.int (-i)) h := rfl
@[simp] theorem x_ix (a b : E) : ev c σ h (.ix a b) = (ev c σ h a).bind (kIx1 c σ b) := by rw [ev]; rfl
@[simp] theorem x_cut0 (a x y : E) : ev c σ h (.cut a none none x y) = (ev c σ h a).bind kCut0 := by rw [ev]; rfl
@[simp] theorem x_cut1 (a x y : E) : ev c σ h (.cut a (some ()) none x y) = (ev c σ h a).bind (kCut1 c σ x) := by
  rw [ev]; congr 1; funext d h'; show _ = (ev c σ h' x).bind fun i h => (opt (endI i) h).bind fun i h => cutR h d (some i) none; dsimp only; cases ev c σ h' x with
  | ok v h2 => simp only [R.bind_ok]; cases endI v <;> rfl
  | _ => rfl
@[simp] theorem x_cut2 (a x y : E) : ev c σ h (.cut a none (some ()) x y) = (ev c σ h a).bind (kCut2 c σ y) := by
  rw [ev]; congr 1; funext d h'; show _ = (ev c σ h' y).bind fun i h => (opt (endI i) h).bind fun i h => cutR h d none (some i); simp only [R.bind_ok]; cases ev c σ h' y with
  | ok v h2 => simp only [R.bind_ok]; cases endI v <;> rfl
  | _ => rfl
@[simp] theorem x_cut3 (a x y : E) : ev c σ h (.cut a (some ()) (some ()) x y) = (ev c σ h a).bind (kCut3 c σ x y) := by
  rw [ev]; congr 1; funext d h'; show _ = (ev c σ h' x).bind fun i h => (opt (endI i) h).bind fun i h => (ev c σ h y).bind fun j h => (opt (endI j) h).bind fun j h => cutR h d (some i) (some j); dsimp only; cases ev c σ h' x with
  | ok v h2 =>
    simp only [R.bind_ok]
    cases endI v with
    | none => rfl
    | some i =>
      simp only [opt_some, R.bind_ok]
      cases ev c σ h2 y with
      | ok u h3 => simp only [R.bind_ok]; cases endI u <;> rfl
      | _ => rfl
  | _ => rfl
@[simp] theorem x_fld (a : E) (f : String) : ev c σ h (.fld a f) = (ev c σ h a).bind (kFld f) := by rw [ev]; rfl
@[simp] theorem x_call (f : String) (es : Es) : ev c σ h (.call f es) = (evs c σ h es).bind (kCall c f) := by rw [ev]; rfl
def methK (c : Cx) (σ : Fr) (m : String) (es : Es) : D → Hp → R D := fun x h => match x with
    | .obj p => match h[p]? with
      | some (.ins k fs) => if fget m fs = none ∧ c.has (k ++ "." ++ m) = true then (evs c σ h es).bind fun ds h => c.call (k ++ "." ++ m) (.obj p :: ds) h else .bad
      | _ => .bad
    | _ => .bad
@[simp] theorem x_meth (o : E) (m : String) (es : Es) : ev c σ h (.meth o m es) = (ev c σ h o).bind (methK c σ m es) := by rw [ev]; rfl
theorem methK_ins {m : String} {es : Es} {p : Nat} {k : String} {fs : List (String × D)} (e : h[p]? = some (.ins k fs)) : methK c σ m es (.obj p) h = if fget m fs = none ∧ c.has (k ++ "." ++ m) = true then (evs c σ h es).bind fun ds h => c.call (k ++ "." ++ m) (.obj p :: ds) h else .bad := by
  simp only [methK, e]
@[simp] theorem makeK_non (p : Nat) : makeK .non h p = .ok (.obj p) h := rfl
@[simp] theorem x_make (k : String) (es : Es) : ev c σ h (.make k es) = (evs c σ h es).bind (kMake c k) := by rw [ev]; rfl
@[simp] theorem x_bm (o : E) (m : Bm) (es : Es) : ev c σ h (.bm o m es) = (ev c σ h o).bind (kBm1 c σ m es) := by rw [ev]; rfl
@[simp] theorem x_blt (f : Bf) (es : Es) : ev c σ h (.blt f es) = (evs c σ h es).bind (kBlt f) := by rw [ev]; rfl
@[simp] theorem x_isa (a : E) (t : Ty) : ev c σ h (.isa a t) = (ev c σ h a).bind (kIsa1 t) := by rw [ev]; rfl
@[simp] theorem x_hfld (f : String) : ev c σ h (.hfld f) = opt (c.hx.bind fun x => fget f x.fs) h := by rw [ev]
@[simp] theorem x_hisa (f : String) : ev c σ h (.hisa f) = opt (c.hx.map fun x => .bl (excSub x.cls f)) h := by rw [ev]
def fmtK (d : D) (h : Hp) : R D := match fmtR d with
    | some s => if s.length ≤ 100000 then .ok (.str s) h else .bad
    | none => .bad
@[simp] theorem x_fmt (a : E) : ev c σ h (.fmt a) = (ev c σ h a).bind fmtK := by rw [ev]; rfl
def fstrK (ds : List D) (h : Hp) : R D := match allStr ds with
    | some ts => .ok (.str ts.flatten) h
    | none => .bad
@[simp] theorem x_fstr (es : Es) : ev c σ h (.fstr es) = (evs c σ h es).bind fstrK := by rw [ev]; rfl
@[simp] theorem x_tupS (es : Es) (e : E) : ev c σ h (.tupS es e) = (evs c σ h es).bind (kTupS c σ e) := by rw [ev]; rfl
@[simp] theorem xs_nil : evs c σ h .nil = .ok [] h := by rw [evs]
@[simp] theorem xs_cons (e : E) (es : Es) : evs c σ h (.cons e es) = (ev c σ h e).bind (kCons1 c σ es) := by rw [evs]; rfl
@[simp] theorem xi_seq (e : E) : evI c σ h (.seq e) = (ev c σ h e).bind kSeq := by rw [evI]; rfl
@[simp] theorem xT (e : E) : evT c σ h e = (ev c σ h e).bind kT := by rw [evT]; rfl
def asgK (t : Tg) (σ : Fr) : D → Hp → RS := fun d h => match tgS h σ t d with
    | some σ' => .nx σ' h
    | none => .bad
@[simp] theorem y_asg (t : Tg) (e : E) : exec c σ h (.asg t e) = (ev c σ h e).st σ (asgK t σ) := by rw [exec]; rfl
@[simp] theorem asgK_one (i : Nat) (d : D) : asgK (.one i) σ d h = .nx (vset σ i d) h := rfl
@[simp] theorem putK_some (h' : Hp) : putK σ (some h') = .nx σ h' := rfl
@[simp] theorem y_asgF (o : E) (f : String) (e : E) : exec c σ h (.asgF o f e) = (ev c σ h e).st σ (kAF1 c σ o f) := by rw [exec]; rfl
@[simp] theorem y_asgI (o i e : E) : exec c σ h (.asgI o i e) = (ev c σ h e).st σ (kAI1 c σ o i) := by rw [exec]; rfl
@[simp] theorem y_aug (x : Nat) (op : BOp) (e : E) : exec c σ h (.aug x op e) = (opt (vget σ x) h).st σ (kAu1 c σ x op e) := by rw [exec]; rfl
@[simp] theorem y_augF (o : E) (f : String) (op : BOp) (e : E) : exec c σ h (.augF o f op e) = (ev c σ h o).st σ (kGF1 c σ f op e) := by rw [exec]; rfl
@[simp] theorem y_augI (o i : E) (op : BOp) (e : E) : exec c σ h (.augI o i op e) = (ev c σ h o).st σ (kGI1 c σ i op e) := by rw [exec]; rfl
@[simp] theorem y_ex (e : E) : exec c σ h (.ex e) = (ev c σ h e).st σ (kEx σ) := by rw [exec]; rfl
@[simp] theorem y_ret (e : E) : exec c σ h (.ret e) = (ev c σ h e).st σ kRet := by rw [exec]; rfl
@[simp] theorem y_ret0 : exec c σ h .ret0 = .rt .non h := by rw [exec]
@[simp] theorem y_iff (k : E) (a b : Ss) : exec c σ h (.iff k a b) = (evT c σ h k).st σ (kIff c σ a b) := by rw [exec]; rfl
@[simp] theorem y_pass : exec c σ h .pass = .nx σ h := by rw [exec]
@[simp] theorem y_brk : exec c σ h .brk = .bk σ h := by rw [exec]
@[simp] theorem y_cont : exec c σ h .cont = .ct σ h := by rw [exec]
@[simp] theorem y_try (b : Ss) (hs : Hs) : exec c σ h (.try_ b hs) = tryK c hs (execs c σ h b) := ex_tryK c σ h b hs
def rseK (k : String) (σ : Fr) : List D → Hp → RS := fun ds h => match k, ds with
    | "BadSchedule", [l, r] => .ex ⟨"BadSchedule", [("line", l), ("reason", r)]⟩ σ h
    | k, [] => .ex ⟨k, []⟩ σ h
    | _, _ => .bad
@[simp] theorem y_rse (b : Bool) (k : String) (es : Es) : exec c σ h (.rse b k es) = (evs c σ h es).st σ (rseK k σ) := by rw [exec]; rfl
@[simp] theorem rseK_0 (k : String) : rseK k σ [] h = .ex ⟨k, []⟩ σ h := by
  unfold rseK; split <;> simp_all
@[simp] theorem rseK_2 (l r : D) : rseK "BadSchedule" σ [l, r] h = .ex ⟨"BadSchedule", [("line", l), ("reason", r)]⟩ σ h := rfl
@[simp] theorem ys_nil : execs c σ h .nil = .nx σ h := by rw [execs]
@[simp] theorem ys_cons (s : S) (ss : Ss) : execs c σ h (.cons s ss) = (exec c σ h s).seq (kSs c ss) := by rw [execs]; rfl
@[simp] theorem eh_nil (x : Exn) : execH c x σ h .nil = .ex x σ h := by rw [execH]
@[simp] theorem eh_cons (x : Exn) (cs : List String) (nm : Option Nat) (b : Ss) (hs : Hs) : execH c x σ h (.cons cs nm b hs) = if cs.any (excSub x.cls) then (execs c (wipeO σ nm) h b).suite nm else execH c x σ h hs := by rw [execH]
theorem forK_one (i : Nat) (b : Ss) (d : D) : forK c (.one i) b d σ h = execs c (vset σ i d) h b := rfl
theorem y_fr (t : Tg) (it : It) (b : Ss) : exec c σ h (.fr t it b) = (evI c σ h it).st σ (kFr c σ t b) := by rw [exec]; rfl
end
def fldO : Option AO → String → Hp → R D
  | some (.ins _ fs), f, h => opt (fget f fs) h
  | _, _, _ => .bad
@[simp] theorem fldR_obj (h : Hp) (p : Nat) (f : String) : fldR h (.obj p) f = fldO h[p]? f h := by
  simp only [fldR, fldO]; rcases h[p]? with _ | (_ | ⟨_ | _, _⟩ | _ | _) <;> rfl
@[simp] theorem fldO_ins (k : String) (fs : List (String × D)) (f : String) (h : Hp) : fldO (some (.ins k fs)) f h = opt (fget f fs) h := rfl
def putFO : Option AO → Nat → String → D → Hp → Option Hp
  | some (.ins c fs), p, f, d, h => if fs.length < 900 then some (h.set p (.ins c (fput f d fs))) else none
  | _, _, _, _, _ => none
@[simp] theorem putF_obj (h : Hp) (p : Nat) (f : String) (d : D) : putF h (.obj p) f d = putFO h[p]? p f d h := by
  simp only [putF, putFO]; rcases h[p]? with _ | (_ | ⟨_ | _, _⟩ | _ | _) <;> rfl
@[simp] theorem putFO_ins (k : String) (fs : List (String × D)) (p : Nat) (f : String) (d : D) (h : Hp) : putFO (some (.ins k fs)) p f d h = if fs.length < 900 then some (h.set p (.ins k (fput f d fs))) else none := rfl
def insCO : Option AO → Option String
  | some (.ins c _) => some c
  | _ => none
@[simp] theorem insC_obj (h : Hp) (p : Nat) : insC h (.obj p) = insCO h[p]? := by
  simp only [insC, insCO] <;> rcases h[p]? with _ | (_ | ⟨_ | _, _⟩ | _ | _) <;> rfl
@[simp] theorem insCO_ins (k : String) (fs : List (String × D)) : insCO (some (.ins k fs)) = some k := rfl
def putIO : Option AO → Nat → D → D → Hp → Option Hp
  | some (.lst ds), p, .int i, d, h => (ixN i ds.length).map fun k => h.set p (.lst (ds.set k d))
  | some (.dct tk kvs), p, i, d, h => if keyOk tk i = true ∧ kvs.length < LIM then some (h.set p (.dct tk (dput i d kvs))) else none
  | _, _, _, _, _ => none
@[simp] theorem putI_obj (h : Hp) (p : Nat) (i d : D) : putI h (.obj p) i d = putIO h[p]? p i d h := by
  simp only [putI, putIO]; rcases h[p]? with _ | (_ | ⟨_ | _, _⟩ | _ | _) <;> cases i <;> rfl
@[simp] theorem putIO_lst (ds : List D) (p : Nat) (i : Int) (d : D) (h : Hp) : putIO (some (.lst ds)) p (.int i) d h = (ixN i ds.length).map fun k => h.set p (.lst (ds.set k d)) := rfl
@[simp] theorem putIO_dct (tk : Bool) (kvs : List (D × D)) (p : Nat) (i d : D) (h : Hp) : putIO (some (.dct tk kvs)) p i d h = if keyOk tk i = true ∧ kvs.length < LIM then some (h.set p (.dct tk (dput i d kvs))) else none := by cases i <;> rfl
def ixO : Option AO → D → Hp → R D
  | some (.lst ds), .int i, h => opt ((ixN i ds.length).bind fun k => ds[k]?) h
  | some (.dct tk kvs), k, h => if keyOk tk k then opt (dlook k kvs) h else .bad
  | some (.lck kvs), k, h => if keyOk false k then opt (dlook k kvs) h else .bad
  | _, _, _ => .bad
@[simp] theorem ixR_obj (h : Hp) (p : Nat) (i : D) : ixR h (.obj p) i = ixO h[p]? i h := by
  cases i <;> simp only [ixR, ixO] <;> rcases h[p]? with _ | (_ | ⟨_ | _, _⟩ | _ | _) <;> rfl
@[simp] theorem ixO_lst (ds : List D) (i : Int) (h : Hp) : ixO (some (.lst ds)) (.int i) h = opt ((ixN i ds.length).bind fun k => ds[k]?) h := rfl
@[simp] theorem ixO_lck (kvs : List (D × D)) (i : D) (h : Hp) : ixO (some (.lck kvs)) i h = if keyOk false i then opt (dlook i kvs) h else .bad := by cases i <;> rfl
@[simp] theorem ixO_dct (tk : Bool) (kvs : List (D × D)) (i : D) (h : Hp) : ixO (some (.dct tk kvs)) i h = if keyOk tk i then opt (dlook i kvs) h else .bad := by cases i <;> rfl
def dixO : Option AO → D → Hp → R D
  | some (.dct tk kvs), k, h => if keyOk tk k then opt (dlook k kvs) h else .bad
  | _, _, _ => .bad
@[simp] theorem dixR_obj (h : Hp) (p : Nat) (i : D) : dixR h (.obj p) i = dixO h[p]? i h := by
  simp only [dixR, dixO]; rcases h[p]? with _ | (_ | ⟨_ | _, _⟩ | _ | _) <;> rfl
@[simp] theorem dixO_dct (tk : Bool) (kvs : List (D × D)) (i : D) (h : Hp) : dixO (some (.dct tk kvs)) i h = if keyOk tk i then opt (dlook i kvs) h else .bad := rfl
def methO : Option AO → Cx → Fr → String → Es → Nat → Hp → R D
  | some (.ins k fs), c, σ, m, es, p, h => if fget m fs = none ∧ c.has (k ++ "." ++ m) = true then (evs c σ h es).bind fun ds h => c.call (k ++ "." ++ m) (.obj p :: ds) h else .bad
  | _, _, _, _, _, _, _ => .bad
@[simp] theorem methK_obj (c : Cx) (σ : Fr) (h : Hp) (m : String) (es : Es) (p : Nat) : methK c σ m es (.obj p) h = methO h[p]? c σ m es p h := by
  simp only [methK, methO]; rcases h[p]? with _ | (_ | ⟨_ | _, _⟩ | _ | _) <;> rfl
@[simp] theorem methO_ins (k : String) (fs : List (String × D)) (c : Cx) (σ : Fr) (m : String) (es : Es) (p : Nat) (h : Hp) : methO (some (.ins k fs)) c σ m es p h = if fget m fs = none ∧ c.has (k ++ "." ++ m) = true then (evs c σ h es).bind fun ds h => c.call (k ++ "." ++ m) (.obj p :: ds) h else .bad := rfl
def kdOO : Option AO → Nat
  | some (.lst _) => 2
  | some (.dct _ _) => 3
  | _ => 0
@[simp] theorem kdO_obj (h : Hp) (p : Nat) : kdO h (.obj p) = kdOO h[p]? := by simp only [kdO, kdOO] <;> rcases h[p]? with _ | (_ | ⟨_ | _, _⟩ | _ | _) <;> rfl
@[simp] theorem kdOO_lst (ds : List D) : kdOO (some (.lst ds)) = 2 := rfl
@[simp] theorem kdOO_dct (t : Bool) (ds : List (D × D)) : kdOO (some (.dct t ds)) = 3 := rfl
@[simp] theorem kdO_str (h : Hp) (s : List Nat) : kdO h (.str s) = 1 := rfl
def bmO : Option AO → Bm → Hp → Nat → List D → R D
  | some (.lst ds), m, h, p, as => lstM m h p ds as
  | some (.dct tk kvs), m, h, p, as => dctM m h p tk kvs as
  | _, _, _, _, _ => .bad
@[simp] theorem bmR_obj (m : Bm) (h : Hp) (p : Nat) (as : List D) : bmR m h (.obj p) as = bmO h[p]? m h p as := by
  simp only [bmR, bmO]; rcases h[p]? with _ | (_ | ⟨_ | _, _⟩ | _ | _) <;> rfl
@[simp] theorem bmR_str (m : Bm) (h : Hp) (s : List Nat) (as : List D) : bmR m h (.str s) as = strM m h s as := rfl
@[simp] theorem bmO_lst (ds : List D) (m : Bm) (h : Hp) (p : Nat) (as : List D) : bmO (some (.lst ds)) m h p as = lstM m h p ds as := rfl
@[simp] theorem bmO_dct (tk : Bool) (ds : List (D × D)) (m : Bm) (h : Hp) (p : Nat) (as : List D) : bmO (some (.dct tk ds)) m h p as = dctM m h p tk ds as := rfl
@[simp] theorem mOk_append : mOk .append 2 = true := rfl
@[simp] theorem mOk_extend : mOk .extend 2 = true := rfl
@[simp] theorem mOk_insert : mOk .insert 2 = true := rfl
@[simp] theorem mOk_reverse : mOk .reverse 2 = true := rfl
@[simp] theorem mOk_index : mOk .index 2 = true := rfl
@[simp] theorem mOk_popL : mOk .pop 2 = true := rfl
@[simp] theorem mOk_popD : mOk .pop 3 = true := rfl
@[simp] theorem mOk_get : mOk .get 3 = true := rfl
@[simp] theorem mOk_setd : mOk .setdefault 3 = true := rfl
@[simp] theorem mOk_join : mOk .join 1 = true := rfl
@[simp] theorem mOk_sw : mOk .startswith 1 = true := rfl
@[simp] theorem lstM_append (h : Hp) (p : Nat) (ds : List D) (d : D) : lstM .append h p ds [d] = if ds.length < LIM then .ok .non (h.set p (.lst (ds ++ [d]))) else .bad := rfl
@[simp] theorem lstM_reverse (h : Hp) (p : Nat) (ds : List D) : lstM .reverse h p ds [] = .ok .non (h.set p (.lst ds.reverse)) := rfl
@[simp] theorem lstM_insert (h : Hp) (p : Nat) (ds : List D) (d : D) : lstM .insert h p ds [.int 0, d] = if ds.length < LIM then .ok .non (h.set p (.lst (d :: ds))) else .bad := rfl
def extO : Option AO → Hp → Nat → List D → R D
  | some (.lst xs), h, p, ds => if ds.length + xs.length ≤ LIM then .ok .non (h.set p (.lst (ds ++ xs))) else .bad
  | _, _, _, _ => .bad
@[simp] theorem lstM_extend (h : Hp) (p q : Nat) (ds : List D) : lstM .extend h p ds [.obj q] = extO h[q]? h p ds := by
  simp only [lstM, extO]; rcases h[q]? with _ | (_ | ⟨_ | _, _⟩ | _ | _) <;> rfl
@[simp] theorem extO_lst (xs : List D) (h : Hp) (p : Nat) (ds : List D) : extO (some (.lst xs)) h p ds = if ds.length + xs.length ≤ LIM then .ok .non (h.set p (.lst (ds ++ xs))) else .bad := rfl
theorem lstM_pop (h : Hp) (p : Nat) (ds : List D) (i : Int) (k : Nat) (d : D) (e : ixN i ds.length = some k) (e2 : ds[k]? = some d) : lstM .pop h p ds [.int i] = .ok d (h.set p (.lst (ds.eraseIdx k))) := by
  simp only [lstM, e, e2]
@[simp] theorem dctM_get2 (h : Hp) (p : Nat) (tk : Bool) (kvs : List (D × D)) (k d : D) : dctM .get h p tk kvs [k, d] = if keyOk tk k then .ok ((dlook k kvs).getD d) h else .bad := rfl
@[simp] theorem dctM_get1 (h : Hp) (p : Nat) (tk : Bool) (kvs : List (D × D)) (k : D) : dctM .get h p tk kvs [k] = if keyOk tk k then .ok ((dlook k kvs).getD .non) h else .bad := rfl
@[simp] theorem keyOk_int (tk : Bool) (i : Int) : keyOk tk (.int i) = !tk := rfl
@[simp] theorem keyOk_str (tk : Bool) (i : List Nat) : keyOk tk (.str i) = !tk := rfl
def itO : Option AO → Nat → Option (List D × Option Nat)
  | some (.lst ds), p => some (ds, some p)
  | some (.lck kvs), _ => some (kvs.map (·.1), none)
  | _, _ => none
@[simp] theorem iterR_obj (h : Hp) (p : Nat) : iterR h (.obj p) = itO h[p]? p := by
  simp only [iterR, itO]; rcases h[p]? with _ | (_ | ⟨_ | _, _⟩ | _ | _) <;> rfl
@[simp] theorem itO_lck (kvs : List (D × D)) (p : Nat) : itO (some (.lck kvs)) p = some (kvs.map (·.1), none) := rfl
@[simp] theorem itO_lst (ds : List D) (p : Nat) : itO (some (.lst ds)) p = some (ds, some p) := rfl
@[simp] theorem iterR_tup (h : Hp) (ds : List D) : iterR h (.tup ds) = some (ds, none) := rfl
@[simp] theorem iterR_lst (h : Hp) (ds : List D) : iterR h (.lst ds) = some (ds, none) := rfl
@[simp] theorem iterR_str (h : Hp) (ds : List Nat) : iterR h (.str ds) = some (ds.map fun c => .str [c], none) := rfl
def truO : Option AO → Option Bool
  | some (.lst ds) => some (!ds.isEmpty)
  | some (.dct false kvs) => some (!kvs.isEmpty)
  | _ => none
@[simp] theorem truth_obj (h : Hp) (p : Nat) : truth h (.obj p) = truO h[p]? := by
  simp only [truth, truO] <;> rcases h[p]? with _ | (_ | ⟨_ | _, _⟩ | _ | _) <;> rfl
@[simp] theorem truO_lst (ds : List D) : truO (some (.lst ds)) = some (!ds.isEmpty) := rfl
@[simp] theorem truO_dct (ds : List (D × D)) : truO (some (.dct false ds)) = some (!ds.isEmpty) := rfl
def isaO : Option AO → Ty → Option Bool
  | some (.lst _), t => some (decide (t = .list))
  | some (.dct false _), t => some (decide (t = .dict))
  | _, _ => none
@[simp] theorem isaR_obj (h : Hp) (p : Nat) (t : Ty) : isaR h (.obj p) t = isaO h[p]? t := by
  simp only [isaR, isaO] <;> rcases h[p]? with _ | (_ | ⟨_ | _, _⟩ | _ | _) <;> rfl
@[simp] theorem isaO_lst (ds : List D) (t : Ty) : isaO (some (.lst ds)) t = some (decide (t = .list)) := rfl
@[simp] theorem isaR_lst' (h : Hp) (ds : List D) (t : Ty) : isaR h (.lst ds) t = some (decide (t = .list)) := rfl
def lenO : Option AO → Hp → R D
  | some (.lst ds), h => .ok (.int ds.length) h
  | some (.dct false kvs), h => .ok (.int kvs.length) h
  | _, _ => .bad
@[simp] theorem len_obj (h : Hp) (p : Nat) : bltR .len h [.obj p] = lenO h[p]? h := by
  show lenR h [.obj p] = _
  simp only [lenR, lenO]; rcases h[p]? with _ | (_ | ⟨_ | _, _⟩ | _ | _) <;> rfl
@[simp] theorem lenO_lst (ds : List D) (h : Hp) : lenO (some (.lst ds)) h = .ok (.int ds.length) h := rfl
def tupO : Option AO → Hp → R D
  | some (.lst ds), h => .ok (.tup ds) h
  | _, _ => .bad
@[simp] theorem tup_obj (h : Hp) (p : Nat) : bltR .tuple h [.obj p] = tupO h[p]? h := by
  show tupR h [.obj p] = _
  simp only [tupR, tupO]; rcases h[p]? with _ | (_ | ⟨_ | _, _⟩ | _ | _) <;> rfl
@[simp] theorem tupO_lst (ds : List D) (h : Hp) : tupO (some (.lst ds)) h = .ok (.tup ds) h := rfl
def lisO : Option AO → Hp → R D
  | some (.lst ds), h => newL h ds
  | some (.dct false kvs), h => newL h (kvs.map (·.1))
  | _, _ => .bad
@[simp] theorem lis_obj (h : Hp) (p : Nat) : bltR .list h [.obj p] = lisO h[p]? h := by
  show listR h [.obj p] = _
  simp only [listR, lisO]; rcases h[p]? with _ | (_ | ⟨_ | _, _⟩ | _ | _) <;> rfl
@[simp] theorem lisO_lst (ds : List D) (h : Hp) : lisO (some (.lst ds)) h = .ok (.obj h.length) (h ++ [.lst ds]) := rfl
@[simp] theorem lisO_dct (ds : List (D × D)) (h : Hp) : lisO (some (.dct false ds)) h = .ok (.obj h.length) (h ++ [.lst (ds.map (·.1))]) := rfl
def datO : Option AO → Hp → Nat → Option D
  | some (.lst ds), h, n => (mapO (dat h n) ds).map .lst
  | _, _, _ => none
@[simp] theorem dat_obj (h : Hp) (n p : Nat) : dat h (n + 1) (.obj p) = datO h[p]? h n := by
  simp only [dat, datO]; rcases h[p]? with _ | (_ | ⟨_ | _, _⟩ | _ | _) <;> rfl
@[simp] theorem datO_lst (ds : List D) (h : Hp) (n : Nat) : datO (some (.lst ds)) h n = (mapO (dat h n) ds).map .lst := rfl
@[simp] theorem dat_lstv (h : Hp) (n : Nat) (ds : List D) : dat h (n + 1) (.lst ds) = (mapO (dat h n) ds).map .lst := rfl
def inO : Option AO → D → Hp → Option Bool
  | some (.lst ds), a, h => memR h a ds
  | some (.dct tk kvs), a, _ => if keyOk tk a then some (dlook a kvs).isSome else none
  | _, _, _ => none
@[simp] theorem inR_obj (h : Hp) (p : Nat) (a : D) : inR h a (.obj p) = inO h[p]? a h := by
  simp only [inR, inO]; rcases h[p]? with _ | (_ | ⟨_ | _, _⟩ | _ | _) <;> rfl
@[simp] theorem inO_lst (ds : List D) (h : Hp) (a : D) : inO (some (.lst ds)) a h = memR h a ds := rfl
@[simp] theorem inO_dct (tk : Bool) (kvs : List (D × D)) (h : Hp) (a : D) : inO (some (.dct tk kvs)) a h = if keyOk tk a then some (dlook a kvs).isSome else none := rfl
@[simp] theorem gdOk_obj (h h' : Hp) (p : Nat) (ds : List D) (e : h[p]? = some (.lst ds)) (e' : h'[p]? = some (.lst ds)) : gdOk h h' (some p) = true := by simp only [gdOk, e, e']; simp
@[simp] theorem gdOk_none' (h h' : Hp) : gdOk h h' none = true := rfl
@[simp] theorem ixR_tup (h : Hp) (i : Int) (ds : List D) : ixR h (.tup ds) (.int i) = opt ((ixN i ds.length).bind fun k => ds[k]?) h := rfl
@[simp] theorem cutR_str (h : Hp) (s : List Nat) (a b : Option Int) : cutR h (.str s) a b = .ok (.str (cut s a b)) h := rfl
@[simp] theorem cutR_tup (h : Hp) (s : List D) (a b : Option Int) : cutR h (.tup s) a b = .ok (.tup (cut s a b)) h := rfl
@[simp] theorem ixN_0 (n : Nat) : ixN 0 (n + 1) = some 0 := by simp [ixN]
@[simp] theorem ixN_1 (n : Nat) : ixN 1 (n + 2) = some 1 := by simp [ixN]; omega
@[simp] theorem ixN_2 (n : Nat) : ixN 2 (n + 3) = some 2 := by simp [ixN]; omega
@[simp] theorem ixN_3 (n : Nat) : ixN 3 (n + 4) = some 3 := by simp [ixN]; omega
theorem ixN_nat (k n : Nat) (e : k < n) : ixN (k : Int) n = some k := by simp [ixN]; omega
@[simp] theorem augR_add (h : Hp) (i j : Int) : augR .add h (.int i) (.int j) = .ok (.int (i + j)) h := rfl
@[simp] theorem augR_sub (h : Hp) (i j : Int) : augR .sub h (.int i) (.int j) = .ok (.int (i - j)) h := rfl
theorem cmpR_eq' (h : Hp) (x y : D) : cmpR .eq h x y = (opt (eqR h x y) h).bind kCmpE := rfl
theorem cmpR_ne' (h : Hp) (x y : D) : cmpR .ne h x y = (opt (eqR h x y) h).bind kCmpN := by
  simp only [cmpR, cmpO]; cases eqR h x y <;> simp
@[simp] theorem cmpR_in (h : Hp) (x y : D) : cmpR .isin h x y = (opt (inR h x y) h).bind kCmpE := rfl
@[simp] theorem cmpR_notin (h : Hp) (x y : D) : cmpR .notin h x y = (opt (inR h x y) h).bind kCmpN := by
  simp only [cmpR, cmpO]; cases inR h x y <;> simp
@[simp] theorem inR_tup (h : Hp) (x : D) (ds : List D) : inR h x (.tup ds) = memR h x ds := rfl
theorem inR_lst_ {h : Hp} {p : Nat} {ds : List D} (x : D) (e : h[p]? = some (.lst ds)) : inR h x (.obj p) = memR h x ds := by simp only [inR, e]
theorem inR_dct {h : Hp} {p : Nat} {tk : Bool} {ds : List (D × D)} (x : D) (e : h[p]? = some (.dct tk ds)) : inR h x (.obj p) = if keyOk tk x then some (dlook x ds).isSome else none := by simp only [inR, e]
theorem memR_def (h : Hp) (x : D) (ds : List D) : memR h x ds = (dat h 50 x).bind fun a => (mapO (dat h 50) ds).map fun xs => xs.any fun z => pyEq z a := by
  unfold memR; rw [show DEP = 50 from rfl]
  cases dat h 50 x <;> cases mapO (dat h 50) ds <;> rfl
theorem eqR_def (h : Hp) (x y : D) : eqR h x y = (dat h 50 x).bind fun a => (dat h 50 y).map fun b => pyEq a b := by
  unfold eqR; rw [show DEP = 50 from rfl]
  cases dat h 50 x <;> cases dat h 50 y <;> rfl
@[simp] theorem mapO_nil {α β : Type} (f : α → Option β) : mapO f [] = some [] := rfl
@[simp] theorem mapO_cons {α β : Type} (f : α → Option β) (a : α) (as : List α) : mapO f (a :: as) = (f a).bind fun b => (mapO f as).map fun bs => b :: bs := by
  rw [mapO]; cases f a <;> cases mapO f as <;> rfl
@[simp] theorem dat_tup (h : Hp) (n : Nat) (ds : List D) : dat h (n + 1) (.tup ds) = (mapO (dat h n) ds).map .tup := rfl
theorem dat_lst (h : Hp) (n p : Nat) (ds : List D) (e : h[p]? = some (.lst ds)) : dat h (n + 1) (.obj p) = (mapO (dat h n) ds).map .lst := by simp only [dat, e]
theorem truth_lstO (h : Hp) (p : Nat) (ds : List D) (e : h[p]? = some (.lst ds)) : truth h (.obj p) = some (!ds.isEmpty) := by simp only [truth, e]
@[simp] theorem pyEq_non_bl  (b : Bool) : pyEq .non (.bl b) = false := by simp [pyEq]
@[simp] theorem pyEq_non_int  (i : Int) : pyEq .non (.int i) = false := by simp [pyEq]
@[simp] theorem pyEq_non_str  (s : List Nat) : pyEq .non (.str s) = false := by simp [pyEq]
@[simp] theorem pyEq_non_tup  (ds : List D) : pyEq .non (.tup ds) = false := by simp [pyEq]
@[simp] theorem pyEq_non_lst  (es : List D) : pyEq .non (.lst es) = false := by simp [pyEq]
@[simp] theorem pyEq_non_obj  (p : Nat) : pyEq .non (.obj p) = false := by simp [pyEq]
@[simp] theorem pyEq_bl_non (b : Bool)  : pyEq (.bl b) .non = false := by simp [pyEq]
@[simp] theorem pyEq_bl_int (b : Bool) (i : Int) : pyEq (.bl b) (.int i) = decide (bi b = i) := by simp [pyEq]
@[simp] theorem pyEq_bl_str (b : Bool) (s : List Nat) : pyEq (.bl b) (.str s) = false := by simp [pyEq]
@[simp] theorem pyEq_bl_tup (b : Bool) (ds : List D) : pyEq (.bl b) (.tup ds) = false := by simp [pyEq]
@[simp] theorem pyEq_bl_lst (b : Bool) (es : List D) : pyEq (.bl b) (.lst es) = false := by simp [pyEq]
@[simp] theorem pyEq_bl_obj (b : Bool) (p : Nat) : pyEq (.bl b) (.obj p) = false := by simp [pyEq]
@[simp] theorem pyEq_int_non (i : Int)  : pyEq (.int i) .non = false := by simp [pyEq]
@[simp] theorem pyEq_int_bl (i : Int) (b : Bool) : pyEq (.int i) (.bl b) = decide (i = bi b) := by simp [pyEq]
@[simp] theorem pyEq_int_str (i : Int) (s : List Nat) : pyEq (.int i) (.str s) = false := by simp [pyEq]
@[simp] theorem pyEq_int_tup (i : Int) (ds : List D) : pyEq (.int i) (.tup ds) = false := by simp [pyEq]
@[simp] theorem pyEq_int_lst (i : Int) (es : List D) : pyEq (.int i) (.lst es) = false := by simp [pyEq]
@[simp] theorem pyEq_int_obj (i : Int) (p : Nat) : pyEq (.int i) (.obj p) = false := by simp [pyEq]
@[simp] theorem pyEq_str_non (s : List Nat)  : pyEq (.str s) .non = false := by simp [pyEq]
@[simp] theorem pyEq_str_bl (s : List Nat) (b : Bool) : pyEq (.str s) (.bl b) = false := by simp [pyEq]
@[simp] theorem pyEq_str_int (s : List Nat) (i : Int) : pyEq (.str s) (.int i) = false := by simp [pyEq]
@[simp] theorem pyEq_str_tup (s : List Nat) (ds : List D) : pyEq (.str s) (.tup ds) = false := by simp [pyEq]
@[simp] theorem pyEq_str_lst (s : List Nat) (es : List D) : pyEq (.str s) (.lst es) = false := by simp [pyEq]
@[simp] theorem pyEq_str_obj (s : List Nat) (p : Nat) : pyEq (.str s) (.obj p) = false := by simp [pyEq]
@[simp] theorem pyEq_tup_non (ds : List D)  : pyEq (.tup ds) .non = false := by simp [pyEq]
@[simp] theorem pyEq_tup_bl (ds : List D) (b : Bool) : pyEq (.tup ds) (.bl b) = false := by simp [pyEq]
@[simp] theorem pyEq_tup_int (ds : List D) (i : Int) : pyEq (.tup ds) (.int i) = false := by simp [pyEq]
@[simp] theorem pyEq_tup_str (ds : List D) (s : List Nat) : pyEq (.tup ds) (.str s) = false := by simp [pyEq]
@[simp] theorem pyEq_tup_lst (ds : List D) (es : List D) : pyEq (.tup ds) (.lst es) = false := by simp [pyEq]
@[simp] theorem pyEq_tup_obj (ds : List D) (p : Nat) : pyEq (.tup ds) (.obj p) = false := by simp [pyEq]
@[simp] theorem pyEq_lst_non (es : List D)  : pyEq (.lst es) .non = false := by simp [pyEq]
@[simp] theorem pyEq_lst_bl (es : List D) (b : Bool) : pyEq (.lst es) (.bl b) = false := by simp [pyEq]
@[simp] theorem pyEq_lst_int (es : List D) (i : Int) : pyEq (.lst es) (.int i) = false := by simp [pyEq]
@[simp] theorem pyEq_lst_str (es : List D) (s : List Nat) : pyEq (.lst es) (.str s) = false := by simp [pyEq]
@[simp] theorem pyEq_lst_tup (es : List D) (ds : List D) : pyEq (.lst es) (.tup ds) = false := by simp [pyEq]
@[simp] theorem pyEq_lst_obj (es : List D) (p : Nat) : pyEq (.lst es) (.obj p) = false := by simp [pyEq]
@[simp] theorem pyEq_obj_non (p : Nat)  : pyEq (.obj p) .non = false := by simp [pyEq]
@[simp] theorem pyEq_obj_bl (p : Nat) (b : Bool) : pyEq (.obj p) (.bl b) = false := by simp [pyEq]
@[simp] theorem pyEq_obj_int (p : Nat) (i : Int) : pyEq (.obj p) (.int i) = false := by simp [pyEq]
@[simp] theorem pyEq_obj_str (p : Nat) (s : List Nat) : pyEq (.obj p) (.str s) = false := by simp [pyEq]
@[simp] theorem pyEq_obj_tup (p : Nat) (ds : List D) : pyEq (.obj p) (.tup ds) = false := by simp [pyEq]
@[simp] theorem pyEq_obj_lst (p : Nat) (es : List D) : pyEq (.obj p) (.lst es) = false := by simp [pyEq]
@[simp] theorem pyEq_non : pyEq .non .non = true := by simp [pyEq]
@[simp] theorem pyEq_bl (a b : Bool) : pyEq (.bl a) (.bl b) = (a == b) := by simp [pyEq]
@[simp] theorem pyEq_int (a b : Int) : pyEq (.int a) (.int b) = decide (a = b) := by simp [pyEq]
@[simp] theorem pyEq_str (a b : List Nat) : pyEq (.str a) (.str b) = decide (a = b) := by simp [pyEq]
@[simp] theorem pyEq_tup (a b : List D) : pyEq (.tup a) (.tup b) = pyEqs a b := by simp [pyEq]
@[simp] theorem pyEq_lst (a b : List D) : pyEq (.lst a) (.lst b) = pyEqs a b := by simp [pyEq]
@[simp] theorem pyEqs_nil : pyEqs [] [] = true := by simp [pyEqs]
@[simp] theorem pyEqs_cons (a b : D) (as bs : List D) : pyEqs (a :: as) (b :: bs) = (pyEq a b && pyEqs as bs) := by simp [pyEqs]
@[simp] theorem pyEqs_n1 (a : D) (as : List D) : pyEqs (a :: as) [] = false := by simp [pyEqs]
@[simp] theorem pyEqs_n2 (a : D) (as : List D) : pyEqs [] (a :: as) = false := by simp [pyEqs]
theorem cp_inj {a b : String} (h : cp a = cp b) : a = b := by
  have inj : ∀ (l r : List Char), l.map Char.toNat = r.map Char.toNat → l = r := by
    intro l
    induction l with
    | nil => intro r h; cases r <;> simp_all
    | cons c l ih =>
      intro r h
      cases r with
      | nil => simp at h
      | cons d r =>
        simp only [List.map_cons, List.cons.injEq] at h
        rw [Char.toNat_inj.mp h.1, ih r h.2]
  exact String.ext (by simpa using inj _ _ h)
@[simp] theorem cp_eq (a b : String) : (cp a = cp b) = (a = b) := propext ⟨cp_inj, fun e => by rw [e]⟩
theorem lim_ge {n : Nat} (e : n ≤ 1000000) : n ≤ LIM := Nat.le_trans e (by decide +kernel)
@[simp] theorem lim_le (n : Nat) (e : n ≤ 1000000) : n ≤ LIM := lim_ge e
theorem lim_lt {n : Nat} (e : n ≤ 1000000) : n < LIM := Nat.lt_of_le_of_lt e (by decide +kernel)
theorem mod_ok (h : Hp) (a b : Int) (h0 : 0 < b) : binR .mod h (.int a) (.int b) = .ok (.int (a % b)) h := binR_mod h a b h0
theorem fdiv_ok (h : Hp) (a b : Int) (h0 : 0 < b) (h1 : b ≤ 1000000000000000000000) : binR .fdiv h (.int a) (.int b) = .ok (.int (a / b)) h :=
  binR_fdiv h a b h0 (Nat.lt_of_le_of_lt (show b.natAbs ≤ 1000000000000000000000 by omega) (by decide +kernel))
theorem endI_ok {i : Int} (h0 : -1000000000000 ≤ i) (h1 : i ≤ 1000000000000) : endI (.int i) = some i := by
  have a1 : i.natAbs < 2 ^ 62 := Nat.lt_of_le_of_lt (show i.natAbs ≤ 1000000000000 by omega) (by decide +kernel)
  simp only [endI]; rw [if_pos a1]
theorem mul_int (h : Hp) (i j : Int) (e : i.natAbs ≤ 1000000000000 ∨ j.natAbs ≤ 1000000000000) : binR .mul h (.int i) (.int j) = .ok (.int (i * j)) h := by
  have e' : i.natAbs < 2 ^ 64 ∨ j.natAbs < 2 ^ 64 := e.imp (fun z => Nat.lt_of_le_of_lt z (by decide +kernel)) (fun z => Nat.lt_of_le_of_lt z (by decide +kernel))
  simp only [binR, mulR]; rw [if_pos e']
def rngK1 (d : D) (h : Hp) : R (List D × Option Nat) := match d with
    | .int j => if j.natAbs < 2 ^ 62 then .ok (rangeD 0 j, none) h else .bad
    | _ => .bad
@[simp] theorem xi_rng1 (c : Cx) (σ : Fr) (h : Hp) (e : E) : evI c σ h (.rng1 e) = (ev c σ h e).bind rngK1 := by rw [evI]; rfl
theorem rngK1_ok (h : Hp) (j : Int) (h0 : -1000000000000 ≤ j) (h1 : j ≤ 1000000000000) : rngK1 (.int j) h = .ok (rangeD 0 j, none) h := by
  have : j.natAbs < 2 ^ 62 := Nat.lt_of_le_of_lt (show j.natAbs ≤ 1000000000000 by omega) (by decide +kernel)
  simp only [rngK1]; rw [if_pos this]
@[simp] theorem xi_rng2 (c : Cx) (σ : Fr) (h : Hp) (a b : E) : evI c σ h (.rng2 a b) = (ev c σ h a).bind (kRng2 c σ b) := by rw [evI]; rfl
theorem rngK2_ok (h : Hp) (i j : Int) (h0 : -1000000000000 ≤ i) (h1 : i ≤ 1000000000000) (h2 : -1000000000000 ≤ j) (h3 : j ≤ 1000000000000) : rngK2 (.int i) (.int j) h = .ok (rangeD i j, none) h := by
  have a1 : i.natAbs < 2 ^ 62 := Nat.lt_of_le_of_lt (show i.natAbs ≤ 1000000000000 by omega) (by decide +kernel)
  have a2 : j.natAbs < 2 ^ 62 := Nat.lt_of_le_of_lt (show j.natAbs ≤ 1000000000000 by omega) (by decide +kernel)
  simp only [rngK2]; rw [if_pos ⟨a1, a2⟩]
def enmK (d : D) (h : Hp) : R (List D × Option Nat) := match d with
    | .tup ds => .ok (enumD 0 ds, none) h
    | .lst ds => .ok (enumD 0 ds, none) h
    | .obj p => match h[p]? with
      | some (.lst ds) => .ok (enumD 0 ds, some p) h
      | _ => .bad
    | _ => .bad
@[simp] theorem xi_enm (c : Cx) (σ : Fr) (h : Hp) (e : E) : evI c σ h (.enm e) = (ev c σ h e).bind enmK := by rw [evI]; rfl
@[simp] theorem xi_zip (c : Cx) (σ : Fr) (h : Hp) (a b : E) : evI c σ h (.zip a b) = (ev c σ h a).bind (kZip c σ b) := by rw [evI]; rfl
theorem zipK_obj (xs ys : List D) {q : Nat} {h : Hp} (e : h[q]? = some (.lst ys)) : zipK (.tup xs) (.obj q) h = .ok (zipD xs ys, some q) h := by simp only [zipK, e]
@[simp] theorem zipK_tup (xs ys : List D) (h : Hp) : zipK (.tup xs) (.tup ys) h = .ok (zipD xs ys, none) h := rfl
theorem small62 {j : Int} (h0 : -1000000000000 ≤ j) (h1 : j ≤ 1000000000000) : j.natAbs < 2 ^ 62 := Nat.lt_of_le_of_lt (show j.natAbs ≤ 1000000000000 by omega) (by decide +kernel)
/-! ### where a run ends -/
def Ok {α : Type} (Q : α → Hp → Prop) (r : R α) : Prop := ∃ a h, r = .ok a h ∧ Q a h
@[simp] theorem Ok_ok {α : Type} (Q : α → Hp → Prop) (a : α) (h : Hp) : Ok Q (.ok a h) = Q a h := propext ⟨fun ⟨_, _, e, q⟩ => by cases e; exact q, fun q => ⟨_, _, rfl, q⟩⟩
@[simp] theorem Ok_ite {α : Type} (Q : α → Hp → Prop) {p : Prop} [Decidable p] (a b : R α) : Ok Q (if p then a else b) = ((p → Ok Q a) ∧ (¬ p → Ok Q b)) := by
  by_cases q : p <;> simp [q]
def Nx (Q : Fr → Hp → Prop) (r : RS) : Prop := ∃ σ h, r = .nx σ h ∧ Q σ h
@[simp] theorem Nx_nx (Q : Fr → Hp → Prop) (σ : Fr) (h : Hp) : Nx Q (.nx σ h) = Q σ h := propext ⟨fun ⟨_, _, e, q⟩ => by cases e; exact q, fun q => ⟨_, _, rfl, q⟩⟩
@[simp] theorem Nx_ite (Q : Fr → Hp → Prop) {p : Prop} [Decidable p] (a b : RS) : Nx Q (if p then a else b) = ((p → Nx Q a) ∧ (¬ p → Nx Q b)) := by
  by_cases q : p <;> simp [q]
def Rt (Q : D → Hp → Prop) (r : RS) : Prop := ∃ d h, r = .rt d h ∧ Q d h
@[simp] theorem Rt_rt (Q : D → Hp → Prop) (d : D) (h : Hp) : Rt Q (.rt d h) = Q d h := propext ⟨fun ⟨_, _, e, q⟩ => by cases e; exact q, fun q => ⟨_, _, rfl, q⟩⟩
@[simp] theorem Rt_ite (Q : D → Hp → Prop) {p : Prop} [Decidable p] (a b : RS) : Rt Q (if p then a else b) = ((p → Rt Q a) ∧ (¬ p → Rt Q b)) := by
  by_cases q : p <;> simp [q]
theorem Ok_fin {Q : D → Hp → Prop} {r : RS} (e : Rt Q r) : Ok Q r.fin := by
  obtain ⟨d, h, rfl, q⟩ := e; exact ⟨d, h, rfl, q⟩
@[simp high] theorem ixO_mod (ds : List D) (e m : Int) (h : Hp) (h0 : 0 < m) (h1 : m ≤ ds.length) : ixO (some (.lst ds)) (.int (e % m)) h = .ok (ds.getD (e % m).toNat .non) h := by
  have a0 : 0 ≤ e % m := Int.emod_nonneg _ (by omega)
  have a1 : e % m < m := Int.emod_lt_of_pos _ h0
  have a2 : (e % m).toNat < ds.length := by omega
  simp only [ixO, ixN, a0, if_true]
  rw [if_pos (by omega)]
  simp [List.getElem?_eq_getElem a2, List.getD_eq_getElem?_getD]
@[simp] theorem ixN_of (i : Int) (n : Nat) (h0 : 0 ≤ i) (h1 : i < n) : ixN i n = some i.toNat := by
  simp only [ixN, h0, if_true]; rw [if_pos h1]
@[simp] theorem ixN_neg (i : Int) (n : Nat) (h0 : i < 0) (h1 : 0 ≤ i + n) : ixN i n = some (i + n).toNat := by
  simp only [ixN]; rw [if_neg (by omega), if_pos h1]
theorem pow_ok (h : Hp) (i j : Int) (h0 : 0 ≤ j) (h1 : j ≤ 1000) (h2 : 0 ≤ i) (h3 : i ≤ 1000000000000000000) : binR .pow h (.int i) (.int j) = .ok (.int (i ^ j.toNat)) h := by
  have a2 : i.natAbs < 2 ^ 64 := Nat.lt_of_le_of_lt (show i.natAbs ≤ 1000000000000000000 by omega) (by decide +kernel)
  simp only [binR]; rw [if_pos ⟨h0, by omega, a2⟩]
theorem addL_ok {h : Hp} {p q : Nat} {a b : List D} (e : h[p]? = some (.lst a)) (e2 : h[q]? = some (.lst b)) (l : a.length + b.length ≤ 1000000) : binR .add h (.obj p) (.obj q) = .ok (.obj h.length) (h ++ [.lst (a ++ b)]) := by
  simp only [binR, addR, e, e2]; rw [if_pos (lim_ge l)]
def addO : Option AO → Option AO → Hp → R D
  | some (.lst a), some (.lst b), h => if a.length + b.length ≤ LIM then .ok (.obj h.length) (h ++ [.lst (a ++ b)]) else .bad
  | _, _, _ => .bad
@[simp] theorem add_obj (h : Hp) (p q : Nat) : binR .add h (.obj p) (.obj q) = addO h[p]? h[q]? h := by
  show addR h (.obj p) (.obj q) = _
  simp only [addR, addO]
  rcases h[p]? with _ | (_ | ⟨_ | _, _⟩ | _ | _) <;> rcases h[q]? with _ | (_ | ⟨_ | _, _⟩ | _ | _) <;> rfl
@[simp] theorem addO_lst (a b : List D) (h : Hp) : addO (some (.lst a)) (some (.lst b)) h = if a.length + b.length ≤ LIM then .ok (.obj h.length) (h ++ [.lst (a ++ b)]) else .bad := rfl
@[simp] theorem add_tup (h : Hp) (a b : List D) : binR .add h (.tup a) (.tup b) = if a.length + b.length ≤ LIM then .ok (.tup (a ++ b)) h else .bad := rfl
theorem mapO_plain (h : Hp) {n : Nat} {ds : List D} (p : ∀ d ∈ ds, Plain n d) : mapO (dat h n) ds = some ds := mapO_id fun d hd => dat_plain h n d (p d hd)
def Ss.app : Ss → Ss → Ss
  | .nil, b => b
  | .cons s a, b => .cons s (Ss.app a b)
theorem execs_app (c : Cx) : ∀ (a b : Ss) (σ : Fr) (h : Hp), execs c σ h (a.app b) = (execs c σ h a).seq (kSs c b)
  | .nil, b, σ, h => by simp [Ss.app]
  | .cons s a, b, σ, h => by
    rw [Ss.app, execs, execs]
    cases exec c σ h s with
    | nx σ' h' => simp only [RS.seq_nx]; exact execs_app c a b σ' h'
    | _ => rfl
theorem Nx_seq {Q' Q : Fr → Hp → Prop} {r : RS} {f : Fr → Hp → RS} (h1 : Nx Q' r) (h2 : ∀ σ h, Q' σ h → Nx Q (f σ h)) : Nx Q (r.seq f) := by
  obtain ⟨σ, h, rfl, q⟩ := h1
  exact h2 σ h q
theorem Nx_split {c : Cx} {a b : Ss} {σ : Fr} {h : Hp} {Q' Q : Fr → Hp → Prop} (h1 : Nx Q' (execs c σ h a)) (h2 : ∀ σ h, Q' σ h → Nx Q (execs c σ h b)) : Nx Q (execs c σ h (a.app b)) := by
  rw [execs_app]; exact Nx_seq h1 fun σ h q => h2 σ h q
theorem gset_eq (h : Hp) (p : Nat) (o : AO) : (h.set p o)[p]? = (h[p]?).map fun _ => o := by
  rw [List.getElem?_set_self']; cases h[p]? <;> rfl
theorem gset_ne (h : Hp) {p t : Nat} (o : AO) (ne : p ≠ t) : (h.set p o)[t]? = h[t]? := List.getElem?_set_ne ne
@[simp] theorem int_bl (h : Hp) (b : Bool) : bltR .int h [.bl b] = .ok (.int (bi b)) h := rfl
@[simp] theorem bi_true : bi true = 1 := rfl
@[simp] theorem bi_false : bi false = 0 := rfl
def maxO : Option AO → Hp → R D
  | some (.lst ds), h => opt (((allInt ds).bind maxL).map .int) h
  | _, _ => .bad
@[simp] theorem max_obj (h : Hp) (p : Nat) : bltR .max h [.obj p] = maxO h[p]? h := by
  show maxR h [.obj p] = _
  simp only [maxR, maxO] <;> rcases h[p]? with _ | (_ | ⟨_ | _, _⟩ | _ | _) <;> rfl
@[simp] theorem maxO_lst (ds : List D) (h : Hp) : maxO (some (.lst ds)) h = opt (((allInt ds).bind maxL).map .int) h := rfl
@[simp] theorem allInt_nil : allInt [] = some [] := rfl
@[simp] theorem allInt_cons (i : Int) (r : List D) : allInt (.int i :: r) = (allInt r).map fun l => i :: l := rfl
@[simp] theorem maxL_cons (a : Int) (r : List Int) : maxL (a :: r) = some (r.foldl (fun m x => if m < x then x else m) a) := rfl
def sumO : Option AO → Hp → R D
  | some (.lst ds), h => opt ((allInt ds).map fun is => .int is.sum) h
  | _, _ => .bad
@[simp] theorem sum_obj (h : Hp) (p : Nat) : bltR .sum h [.obj p] = sumO h[p]? h := by
  show sumR h [.obj p] = _
  simp only [sumR, sumO] <;> rcases h[p]? with _ | (_ | ⟨_ | _, _⟩ | _ | _) <;> rfl
@[simp] theorem sumO_lst (ds : List D) (h : Hp) : sumO (some (.lst ds)) h = opt ((allInt ds).map fun is => .int is.sum) h := rfl
def sortO : Option AO → Hp → R D
  | some (.lst ds), h => match sortD ds with
      | some es => newL h es
      | none => .bad
  | some (.dct false kvs), h => match allInt (kvs.map (·.1)) with
      | some ns => if ns.length < 64 then newL h ((ns.mergeSort fun a b => decide (a ≤ b)).map .int) else .bad
      | none => .bad
  | some (.dct true kvs), h => match sortD (kvs.map (·.1)) with
      | some es => newL h es
      | none => .bad
  | _, _ => .bad
@[simp] theorem sort_obj (h : Hp) (p : Nat) : bltR .sorted h [.obj p] = sortO h[p]? h := by
  show sortR h [.obj p] = _
  simp only [sortR, sortO] <;> rcases h[p]? with _ | (_ | ⟨_ | _, _⟩ | _ | _) <;> rfl
theorem sortO_int {kvs : List (D × D)} {ns : List Int} (h : Hp) (e : kvs.map (·.1) = ns.map .int) (l : ns.length < 64) : sortO (some (.dct false kvs)) h = .ok (.obj h.length) (h ++ [.lst ((ns.mergeSort fun a b => decide (a ≤ b)).map .int)]) := by
  have e2 : allInt (kvs.map (·.1)) = some ns := by
    rw [e]
    clear e l
    induction ns with
    | nil => rfl
    | cons n ns ih => simp [ih]
  simp only [sortO, e2, l, if_true, newL]
theorem ex_for {c : Cx} {σ : Fr} {h h1 : Hp} {t : Tg} {it : It} {b : Ss} {ds : List D} {g : Option Nat} (e : evI c σ h it = .ok (ds, g) h1) : exec c σ h (.fr t it b) = forL (fun h2 => gdOk h1 h2 g) (forK c t b) ds σ h1 := by
  rw [y_fr, e]; simp
theorem clamp_nn {i : Int} (n : Nat) (h : 0 ≤ i) : clampI i n = min i.toNat n := by unfold clampI; rw [if_neg (by omega)]
theorem cut_hi_len {α : Type} (xs : List α) {i : Int} (h : 0 ≤ i) : (cut xs none (some i)).length = min i.toNat xs.length := by
  simp only [cut, clamp_nn _ h, List.length_drop, List.length_take]; omega
theorem cut_lo_len {α : Type} (xs : List α) {i : Int} (h : 0 ≤ i) : (cut xs (some i) none).length = xs.length - i.toNat := by
  simp only [cut, clamp_nn _ h, List.length_drop, List.length_take]; omega
theorem cut_mid_len {α : Type} (xs : List α) {i j : Int} (h : 0 ≤ i) (h2 : 0 ≤ j) : (cut xs (some i) (some j)).length = min j.toNat xs.length - i.toNat := by
  simp only [cut, clamp_nn _ h, clamp_nn _ h2, List.length_drop, List.length_take]; omega
def kSome (y : D) (h : Hp) : R (Option D) := .ok (some y) h
@[simp] theorem kSome_ap (y : D) (h : Hp) : kSome y h = .ok (some y) h := rfl
def lcS0 (c : Cx) (σ : Fr) (t : Tg) (elt : E) (d : D) (h : Hp) : R (Option D) := match tgS h (wipe σ (tgIs t)) t d with
  | some σ' => (ev c σ' h elt).bind kSome
  | none => .bad
def kIf (c : Cx) (σ : Fr) (elt : E) (t : Bool) (h : Hp) : R (Option D) := if t then (ev c σ h elt).bind kSome else .ok none h
@[simp] theorem kIf_ap (c : Cx) (σ : Fr) (elt : E) (t : Bool) (h : Hp) : kIf c σ elt t h = if t then (ev c σ h elt).bind kSome else .ok none h := rfl
def lcS1 (c : Cx) (σ : Fr) (t : Tg) (cond elt : E) (d : D) (h : Hp) : R (Option D) := match tgS h (wipe σ (tgIs t)) t d with
  | some σ' => (evT c σ' h cond).bind (kIf c σ' elt)
  | none => .bad
theorem wipe_one (σ : Fr) (i : Nat) (d : D) : (wipe σ [i]).set i (some d) = σ.set i (some d) := by simp [wipe]
theorem lcS0_one (c : Cx) (σ : Fr) (i : Nat) (elt : E) (d : D) (h : Hp) : lcS0 c σ (.one i) elt d h = (ev c (vset σ i d) h elt).bind kSome := by
  simp only [lcS0, tgS, vset, tgIs, wipe_one]
theorem lcS1_one (c : Cx) (σ : Fr) (i : Nat) (cond elt : E) (d : D) (h : Hp) : lcS1 c σ (.one i) cond elt d h = (evT c (vset σ i d) h cond).bind (kIf c (vset σ i d) elt) := by
  simp only [lcS1, tgS, vset, tgIs, wipe_one]
def kLc0 (c : Cx) (σ : Fr) (t : Tg) (elt : E) (p : List D × Option Nat) (h : Hp) : R D := (lcL (fun h' => gdOk h h' p.2) (lcS0 c σ t elt) p.1 [] h).bind kLst
def kLc1 (c : Cx) (σ : Fr) (t : Tg) (cond elt : E) (p : List D × Option Nat) (h : Hp) : R D := (lcL (fun h' => gdOk h h' p.2) (lcS1 c σ t cond elt) p.1 [] h).bind kLst
@[simp] theorem kLc0_ap (c : Cx) (σ : Fr) (t : Tg) (elt : E) (p : List D × Option Nat) (h : Hp) : kLc0 c σ t elt p h = (lcL (fun h' => gdOk h h' p.2) (lcS0 c σ t elt) p.1 [] h).bind kLst := rfl
@[simp] theorem kLc1_ap (c : Cx) (σ : Fr) (t : Tg) (cond elt : E) (p : List D × Option Nat) (h : Hp) : kLc1 c σ t cond elt p h = (lcL (fun h' => gdOk h h' p.2) (lcS1 c σ t cond elt) p.1 [] h).bind kLst := rfl
@[simp] theorem x_lc0 (c : Cx) (σ : Fr) (h : Hp) (t : Tg) (it : It) (cond elt : E) : ev c σ h (.lc t it none cond elt) = (evI c σ h it).bind (kLc0 c σ t elt) := by
  rw [ev]; rfl
@[simp] theorem x_lc1 (c : Cx) (σ : Fr) (h : Hp) (t : Tg) (it : It) (cond elt : E) : ev c σ h (.lc t it (some ()) cond elt) = (evI c σ h it).bind (kLc1 c σ t cond elt) := by
  rw [ev]; congr 1; funext p h1
  have e : ∀ d h, (match tgS h (wipe σ (tgIs t)) t d with
        | some σ' => ((ev c σ' h cond).bind fun x h => (opt (truth h x) h).bind fun b h => if b then (ev c σ' h elt).bind fun y h => .ok (some y) h else .ok none h)
        | none => (.bad : R (Option D))) = lcS1 c σ t cond elt d h := by
    intro d h
    unfold lcS1
    cases tgS h (wipe σ (tgIs t)) t d with
    | none => rfl
    | some σ' =>
      simp only [xT]
      cases ev c σ' h cond with
      | ok x h2 =>
        simp only [R.bind_ok, kT_ap]
        cases truth h2 x with
        | none => rfl
        | some b => simp only [opt_some, R.bind_ok]; rfl
      | _ => rfl
  simp only [kLc1_ap]
  congr 1
  congr 1
  funext d h
  exact e d h
theorem lcL_map {g : Hp → Bool} {step : D → Hp → R (Option D)} (f : D → D) (h : Hp) (hg : g h = true) : ∀ (ds acc : List D), (∀ d ∈ ds, step d h = .ok (some (f d)) h) → acc.length + ds.length ≤ 1000000 → lcL g step ds acc h = .ok (acc ++ ds.map f) h
  | [], acc, _, _ => by simp [lcL]
  | d :: ds, acc, hs, hl => by
    simp only [List.length_cons] at hl
    rw [lcL, hs d (by simp)]
    simp only [R.quiet_ok, R.bind_ok, hg, if_true, lim_lt (show acc.length ≤ 1000000 by omega)]
    rw [lcL_map f h hg ds (acc ++ [f d]) (fun x hx => hs x (List.mem_cons_of_mem _ hx)) (by simp; omega)]
    simp
/-! ### walks over a dict -/
theorem ex_lk {c : Cx} {σ : Fr} {h h1 : Hp} {e : E} {s : S} {p : Nat} {kvs : List (D × D)} (he : ev c σ h e = .ok (.obj p) h1) (hp : h[p]? = some (.dct false kvs)) : exec c σ h (.lkS e s) = unlS p kvs (exec c σ (h.set p (.lck kvs)) s) := by
  rw [exec, he]; simp only [hp]
theorem ev_lk {c : Cx} {σ : Fr} {h h1 : Hp} {e x : E} {p : Nat} {kvs : List (D × D)} (he : ev c σ h e = .ok (.obj p) h1) (hp : h[p]? = some (.dct false kvs)) : ev c σ h (.lkE e x) = unlE p kvs (ev c σ (h.set p (.lck kvs)) x) := by
  rw [ev, he]; simp only [hp]
theorem unlS_nx {h : Hp} {p : Nat} {kvs : List (D × D)} (σ : Fr) (hp : h[p]? = some (.lck kvs)) : unlS p kvs (.nx σ h) = .nx σ (h.set p (.dct false kvs)) := by
  simp only [unlS, hp, if_true]
theorem unlE_ok {α : Type} {h : Hp} {p : Nat} {kvs : List (D × D)} (a : α) (hp : h[p]? = some (.lck kvs)) : unlE p kvs (.ok a h) = .ok a (h.set p (.dct false kvs)) := by
  simp only [unlE, hp, if_true]
theorem set_self {h : Hp} {p : Nat} {o : AO} (e : h[p]? = some o) : h.set p o = h := by
  apply List.ext_getElem?
  intro i
  by_cases q : p = i
  · subst q; rw [gset_eq, e]; rfl
  · rw [gset_ne _ _ q]
def valO : Option AO → Hp → R (List D × Option Nat)
  | some (.lck kvs), h => .ok (kvs.map (·.2), none) h
  | _, _ => .bad
def kVals (d : D) (h : Hp) : R (List D × Option Nat) := match d with
  | .obj p => valO h[p]? h
  | _ => .bad
@[simp] theorem kVals_obj (p : Nat) (h : Hp) : kVals (.obj p) h = valO h[p]? h := rfl
@[simp] theorem valO_lck (kvs : List (D × D)) (h : Hp) : valO (some (.lck kvs)) h = .ok (kvs.map (·.2), none) h := rfl
@[simp] theorem xi_vals (c : Cx) (σ : Fr) (h : Hp) (e : E) : evI c σ h (.vals e) = (ev c σ h e).bind kVals := by
  rw [evI]
  congr 1
  funext d h'
  cases d <;> try rfl
  simp only [kVals, valO]
  rename_i p
  rcases h'[p]? with _ | (_ | _ | _ | _) <;> rfl
end Mu
end

section
set_option autoImplicit false
set_option linter.all false
namespace Mu
/-- is_printable(value); slots: 0=value 1=character -/
@[simp] def s_is_printable_0a_0 : S := (.ret (.bl false))
@[simp] def b_is_printable_0a : Ss := (.cons s_is_printable_0a_0 .nil)
@[simp] def s_is_printable_0 : S := (.iff (.not (.isa (.v 0) .str)) b_is_printable_0a .nil)
@[simp] def s_is_printable_1_0a_0 : S := (.ret (.bl false))
@[simp] def b_is_printable_1_0a : Ss := (.cons s_is_printable_1_0a_0 .nil)
@[simp] def s_is_printable_1_0 : S := (.iff (.or (.cmp .lt (.v 1) (.str " ")) (.or (.cmp .gt (.v 1) (.str "~")) (.cmp .eq (.blt .ord (.cons (.v 1) .nil)) (.glob "PERCENT")))) b_is_printable_1_0a .nil)
@[simp] def b_is_printable_1 : Ss := (.cons s_is_printable_1_0 .nil)
@[simp] def s_is_printable_1 : S := (.fr (.one 1) (.seq (.v 0)) b_is_printable_1)
@[simp] def s_is_printable_2 : S := (.ret (.bl true))
@[simp] def b_is_printable : Ss := (.cons s_is_printable_0 (.cons s_is_printable_1 (.cons s_is_printable_2 .nil)))
def fn_is_printable : Fn := ⟨1, 2, b_is_printable⟩
/-- is_integer(value, least, greatest); slots: 0=value 1=least 2=greatest -/
@[simp] def s_is_integer_0a_0 : S := (.ret (.bl false))
@[simp] def b_is_integer_0a : Ss := (.cons s_is_integer_0a_0 .nil)
@[simp] def s_is_integer_0 : S := (.iff (.or (.not (.isa (.v 0) .int)) (.isa (.v 0) .bool)) b_is_integer_0a .nil)
@[simp] def s_is_integer_1 : S := (.ret (.and (.cmp .le (.v 1) (.v 0)) (.cmp .le (.v 0) (.v 2))))
@[simp] def b_is_integer : Ss := (.cons s_is_integer_0 (.cons s_is_integer_1 .nil))
def fn_is_integer : Fn := ⟨3, 3, b_is_integer⟩
/-- _text_of(value, depth); slots: 0=value 1=depth 2=item -/
@[simp] def s__text_of_0a_0a_0 : S := (.rse false "BadText" .nil)
@[simp] def b__text_of_0a_0a : Ss := (.cons s__text_of_0a_0a_0 .nil)
@[simp] def s__text_of_0a_0 : S := (.iff (.not (.call "is_printable" (.cons (.v 0) .nil))) b__text_of_0a_0a .nil)
@[simp] def s__text_of_0a_1 : S := (.ret (.fstr (.cons (.fmt (.blt .len (.cons (.v 0) .nil))) (.cons (.str ":") (.cons (.fmt (.v 0)) .nil)))))
@[simp] def b__text_of_0a : Ss := (.cons s__text_of_0a_0 (.cons s__text_of_0a_1 .nil))
@[simp] def s__text_of_0 : S := (.iff (.isa (.v 0) .str) b__text_of_0a .nil)
@[simp] def s__text_of_1a_0a_0 : S := (.rse false "BadText" .nil)
@[simp] def b__text_of_1a_0a : Ss := (.cons s__text_of_1a_0a_0 .nil)
@[simp] def s__text_of_1a_0 : S := (.iff (.cmp .ge (.v 1) (.glob "MOST_DEPTH")) b__text_of_1a_0a .nil)
@[simp] def s__text_of_1a_1 : S := (.ret (.bin .add (.bin .add (.str "(") (.bm (.str "") .join (.cons (.lc (.one 2) (.seq (.v 0)) none (.bl true) (.bin .add (.call "_text_of" (.cons (.v 2) (.cons (.bin .add (.v 1) (.int 1)) .nil))) (.str ";"))) .nil))) (.str ")")))
@[simp] def b__text_of_1a : Ss := (.cons s__text_of_1a_0 (.cons s__text_of_1a_1 .nil))
@[simp] def s__text_of_1 : S := (.iff (.isa (.v 0) .tuple) b__text_of_1a .nil)
@[simp] def s__text_of_2a_0 : S := (.rse false "BadText" .nil)
@[simp] def b__text_of_2a : Ss := (.cons s__text_of_2a_0 .nil)
@[simp] def s__text_of_2 : S := (.iff (.not (.call "is_integer" (.cons (.v 0) (.cons (.neg (.glob "GREATEST")) (.cons (.glob "GREATEST") .nil))))) b__text_of_2a .nil)
@[simp] def s__text_of_3 : S := (.ret (.blt .str (.cons (.v 0) .nil)))
@[simp] def b__text_of : Ss := (.cons s__text_of_0 (.cons s__text_of_1 (.cons s__text_of_2 (.cons s__text_of_3 .nil))))
def fn__text_of : Fn := ⟨2, 3, b__text_of⟩
/-- encode(value); slots: 0=value 1=text -/
@[simp] def s_encode_0 : S := (.asg (.one 1) (.call "_text_of" (.cons (.v 0) (.cons (.int 0) .nil))))
@[simp] def s_encode_1a_0 : S := (.rse false "BadText" .nil)
@[simp] def b_encode_1a : Ss := (.cons s_encode_1a_0 .nil)
@[simp] def s_encode_1 : S := (.iff (.cmp .gt (.blt .len (.cons (.v 1) .nil)) (.glob "MOST_LENGTH")) b_encode_1a .nil)
@[simp] def s_encode_2 : S := (.ret (.v 1))
@[simp] def b_encode : Ss := (.cons s_encode_0 (.cons s_encode_1 (.cons s_encode_2 .nil)))
def fn_encode : Fn := ⟨1, 2, b_encode⟩
/-- _read_integer(text, start); slots: 0=text 1=start 2=first 3=end -/
@[simp] def s__read_integer_0 : S := (.asg (.one 2) (.v 1))
@[simp] def s__read_integer_1a_0 : S := (.asg (.one 2) (.bin .add (.v 1) (.int 1)))
@[simp] def b__read_integer_1a : Ss := (.cons s__read_integer_1a_0 .nil)
@[simp] def s__read_integer_1 : S := (.iff (.cmp .eq (.cut (.v 0) (some ()) (some ()) (.v 1) (.bin .add (.v 1) (.int 1))) (.str "-")) b__read_integer_1a .nil)
@[simp] def s__read_integer_2 : S := (.asg (.one 3) (.v 2))
@[simp] def s__read_integer_3_0 : S := (.aug 3 .add (.int 1))
@[simp] def b__read_integer_3 : Ss := (.cons s__read_integer_3_0 .nil)
@[simp] def s__read_integer_3 : S := (.whl (.and (.cmp .lt (.v 3) (.blt .len (.cons (.v 0) .nil))) (.cmp .isin (.ix (.v 0) (.v 3)) (.glob "DIGITS_texts"))) b__read_integer_3)
@[simp] def s__read_integer_4a_0 : S := (.rse false "BadText" .nil)
@[simp] def b__read_integer_4a : Ss := (.cons s__read_integer_4a_0 .nil)
@[simp] def s__read_integer_4 : S := (.iff (.or (.cmp .eq (.v 3) (.v 2)) (.cmp .gt (.bin .sub (.v 3) (.v 2)) (.glob "MOST_DIGITS"))) b__read_integer_4a .nil)
@[simp] def s__read_integer_5a_0 : S := (.rse false "BadText" .nil)
@[simp] def b__read_integer_5a : Ss := (.cons s__read_integer_5a_0 .nil)
@[simp] def s__read_integer_5 : S := (.iff (.and (.cmp .eq (.ix (.v 0) (.v 2)) (.str "0")) (.cmp .gt (.v 3) (.bin .add (.v 1) (.int 1)))) b__read_integer_5a .nil)
@[simp] def s__read_integer_6 : S := (.ret (.tup (.cons (.blt .int (.cons (.cut (.v 0) (some ()) (some ()) (.v 1) (.v 3)) .nil)) (.cons (.v 3) .nil))))
@[simp] def b__read_integer : Ss := (.cons s__read_integer_0 (.cons s__read_integer_1 (.cons s__read_integer_2 (.cons s__read_integer_3 (.cons s__read_integer_4 (.cons s__read_integer_5 (.cons s__read_integer_6 .nil)))))))
def fn__read_integer : Fn := ⟨2, 4, b__read_integer⟩
/-- _read_tuple(text, start, depth); slots: 0=text 1=start 2=depth 3=items 4=index 5=item -/
@[simp] def s__read_tuple_0a_0 : S := (.rse false "BadText" .nil)
@[simp] def b__read_tuple_0a : Ss := (.cons s__read_tuple_0a_0 .nil)
@[simp] def s__read_tuple_0 : S := (.iff (.cmp .ge (.v 2) (.glob "MOST_DEPTH")) b__read_tuple_0a .nil)
@[simp] def s__read_tuple_1 : S := (.asg (.one 3) (.lst .nil))
@[simp] def s__read_tuple_2 : S := (.asg (.one 4) (.bin .add (.v 1) (.int 1)))
@[simp] def s__read_tuple_3_0 : S := (.asg (.tup [5, 4]) (.call "_read" (.cons (.v 0) (.cons (.v 4) (.cons (.bin .add (.v 2) (.int 1)) .nil)))))
@[simp] def s__read_tuple_3_1a_0 : S := (.rse false "BadText" .nil)
@[simp] def b__read_tuple_3_1a : Ss := (.cons s__read_tuple_3_1a_0 .nil)
@[simp] def s__read_tuple_3_1 : S := (.iff (.cmp .ne (.cut (.v 0) (some ()) (some ()) (.v 4) (.bin .add (.v 4) (.int 1))) (.str ";")) b__read_tuple_3_1a .nil)
@[simp] def s__read_tuple_3_2 : S := (.ex (.bm (.v 3) .append (.cons (.v 5) .nil)))
@[simp] def s__read_tuple_3_3 : S := (.aug 4 .add (.int 1))
@[simp] def b__read_tuple_3 : Ss := (.cons s__read_tuple_3_0 (.cons s__read_tuple_3_1 (.cons s__read_tuple_3_2 (.cons s__read_tuple_3_3 .nil))))
@[simp] def s__read_tuple_3 : S := (.whl (.cmp .ne (.cut (.v 0) (some ()) (some ()) (.v 4) (.bin .add (.v 4) (.int 1))) (.str ")")) b__read_tuple_3)
@[simp] def s__read_tuple_4 : S := (.ret (.tup (.cons (.blt .tuple (.cons (.v 3) .nil)) (.cons (.bin .add (.v 4) (.int 1)) .nil))))
@[simp] def b__read_tuple : Ss := (.cons s__read_tuple_0 (.cons s__read_tuple_1 (.cons s__read_tuple_2 (.cons s__read_tuple_3 (.cons s__read_tuple_4 .nil)))))
def fn__read_tuple : Fn := ⟨3, 6, b__read_tuple⟩
/-- _read(text, start, depth); slots: 0=text 1=start 2=depth 3=end 4=number 5=index -/
@[simp] def s__read_0a_0 : S := (.ret (.call "_read_tuple" (.cons (.v 0) (.cons (.v 1) (.cons (.v 2) .nil)))))
@[simp] def b__read_0a : Ss := (.cons s__read_0a_0 .nil)
@[simp] def s__read_0 : S := (.iff (.cmp .eq (.cut (.v 0) (some ()) (some ()) (.v 1) (.bin .add (.v 1) (.int 1))) (.str "(")) b__read_0a .nil)
@[simp] def s__read_1 : S := (.asg (.tup [4, 5]) (.call "_read_integer" (.cons (.v 0) (.cons (.v 1) .nil))))
@[simp] def s__read_2a_0 : S := (.ret (.tup (.cons (.v 4) (.cons (.v 5) .nil))))
@[simp] def b__read_2a : Ss := (.cons s__read_2a_0 .nil)
@[simp] def s__read_2 : S := (.iff (.cmp .ne (.cut (.v 0) (some ()) (some ()) (.v 5) (.bin .add (.v 5) (.int 1))) (.str ":")) b__read_2a .nil)
@[simp] def s__read_3 : S := (.asg (.one 3) (.bin .add (.bin .add (.v 5) (.int 1)) (.v 4)))
@[simp] def s__read_4a_0 : S := (.rse false "BadText" .nil)
@[simp] def b__read_4a : Ss := (.cons s__read_4a_0 .nil)
@[simp] def s__read_4 : S := (.iff (.or (.cmp .lt (.v 4) (.int 0)) (.cmp .gt (.v 3) (.blt .len (.cons (.v 0) .nil)))) b__read_4a .nil)
@[simp] def s__read_5 : S := (.ret (.tup (.cons (.cut (.v 0) (some ()) (some ()) (.bin .add (.v 5) (.int 1)) (.v 3)) (.cons (.v 3) .nil))))
@[simp] def b__read : Ss := (.cons s__read_0 (.cons s__read_1 (.cons s__read_2 (.cons s__read_3 (.cons s__read_4 (.cons s__read_5 .nil))))))
def fn__read : Fn := ⟨3, 6, b__read⟩
/-- decode(text); slots: 0=text 1=value 2=end -/
@[simp] def s_decode_0a_0 : S := (.rse false "BadText" .nil)
@[simp] def b_decode_0a : Ss := (.cons s_decode_0a_0 .nil)
@[simp] def s_decode_0 : S := (.iff (.or (.not (.call "is_printable" (.cons (.v 0) .nil))) (.cmp .gt (.blt .len (.cons (.v 0) .nil)) (.glob "MOST_LENGTH"))) b_decode_0a .nil)
@[simp] def s_decode_1 : S := (.asg (.tup [1, 2]) (.call "_read" (.cons (.v 0) (.cons (.int 0) (.cons (.int 0) .nil)))))
@[simp] def s_decode_2a_0 : S := (.rse false "BadText" .nil)
@[simp] def b_decode_2a : Ss := (.cons s_decode_2a_0 .nil)
@[simp] def s_decode_2 : S := (.iff (.cmp .ne (.v 2) (.blt .len (.cons (.v 0) .nil))) b_decode_2a .nil)
@[simp] def s_decode_3 : S := (.ret (.v 1))
@[simp] def b_decode : Ss := (.cons s_decode_0 (.cons s_decode_1 (.cons s_decode_2 (.cons s_decode_3 .nil))))
def fn_decode : Fn := ⟨1, 3, b_decode⟩
/-- check_act(act); slots: 0=act 1=kinds 2=kind 3=item -/
@[simp] def s_check_act_0a_0 : S := (.rse false "BadSchedule" (.cons (.int 0) (.cons (.str "act") .nil)))
@[simp] def b_check_act_0a : Ss := (.cons s_check_act_0a_0 .nil)
@[simp] def s_check_act_0 : S := (.iff (.or (.not (.isa (.v 0) .tuple)) (.or (.cmp .eq (.v 0) (.tup .nil)) (.or (.not (.isa (.ix (.v 0) (.int 0)) .str)) (.gin true (.ix (.v 0) (.int 0)) "ACTS")))) b_check_act_0a .nil)
@[simp] def s_check_act_1 : S := (.asg (.one 1) (.gat "ACTS" (.ix (.v 0) (.int 0))))
@[simp] def s_check_act_2a_0 : S := (.rse false "BadSchedule" (.cons (.int 0) (.cons (.str "act") .nil)))
@[simp] def b_check_act_2a : Ss := (.cons s_check_act_2a_0 .nil)
@[simp] def s_check_act_2 : S := (.iff (.cmp .ne (.blt .len (.cons (.v 0) .nil)) (.bin .add (.blt .len (.cons (.v 1) .nil)) (.int 1))) b_check_act_2a .nil)
@[simp] def s_check_act_3_0a_0 : S := (.rse false "BadSchedule" (.cons (.int 0) (.cons (.str "number") .nil)))
@[simp] def b_check_act_3_0a : Ss := (.cons s_check_act_3_0a_0 .nil)
@[simp] def s_check_act_3_0 : S := (.iff (.and (.cmp .eq (.v 2) (.str "ticks")) (.not (.call "is_integer" (.cons (.v 3) (.cons (.int 1) (.cons (.glob "MOST_TICKS") .nil)))))) b_check_act_3_0a .nil)
@[simp] def s_check_act_3_1a_0 : S := (.rse false "BadSchedule" (.cons (.int 0) (.cons (.str "number") .nil)))
@[simp] def b_check_act_3_1a : Ss := (.cons s_check_act_3_1a_0 .nil)
@[simp] def s_check_act_3_1 : S := (.iff (.and (.cmp .eq (.v 2) (.str "number")) (.not (.call "is_integer" (.cons (.v 3) (.cons (.int 0) (.cons (.glob "MOST_NUMBER") .nil)))))) b_check_act_3_1a .nil)
@[simp] def b_check_act_3 : Ss := (.cons s_check_act_3_0 (.cons s_check_act_3_1 .nil))
@[simp] def s_check_act_3 : S := (.fr (.tup [2, 3]) (.zip (.v 1) (.cut (.v 0) (some ()) none (.int 1) .non)) b_check_act_3)
@[simp] def b_check_act : Ss := (.cons s_check_act_0 (.cons s_check_act_1 (.cons s_check_act_2 (.cons s_check_act_3 .nil))))
def fn_check_act : Fn := ⟨1, 4, b_check_act⟩
/-- number_of(word); slots: 0=word 1=character -/
@[simp] def s_number_of_0a_0 : S := (.ret .non)
@[simp] def b_number_of_0a : Ss := (.cons s_number_of_0a_0 .nil)
@[simp] def s_number_of_0 : S := (.iff (.or (.cmp .eq (.v 0) (.str "")) (.or (.cmp .gt (.blt .len (.cons (.v 0) .nil)) (.glob "MOST_FIGURES")) (.and (.cmp .eq (.ix (.v 0) (.int 0)) (.str "0")) (.cmp .ne (.v 0) (.str "0"))))) b_number_of_0a .nil)
@[simp] def s_number_of_1_0a_0 : S := (.ret .non)
@[simp] def b_number_of_1_0a : Ss := (.cons s_number_of_1_0a_0 .nil)
@[simp] def s_number_of_1_0 : S := (.iff (.cmp .notin (.v 1) (.glob "DIGITS_schedule")) b_number_of_1_0a .nil)
@[simp] def b_number_of_1 : Ss := (.cons s_number_of_1_0 .nil)
@[simp] def s_number_of_1 : S := (.fr (.one 1) (.seq (.v 0)) b_number_of_1)
@[simp] def s_number_of_2 : S := (.ret (.blt .int (.cons (.v 0) .nil)))
@[simp] def b_number_of : Ss := (.cons s_number_of_0 (.cons s_number_of_1 (.cons s_number_of_2 .nil)))
def fn_number_of : Fn := ⟨1, 2, b_number_of⟩
/-- _value_of(kind, text, line); slots: 0=kind 1=text 2=line 3=value -/
@[simp] def s__value_of_0_0_0 : S := (.asg (.one 3) (.call "decode" (.cons (.v 1) .nil)))
@[simp] def b__value_of_0_0 : Ss := (.cons s__value_of_0_0_0 .nil)
@[simp] def s__value_of_0 : S := (.try_ b__value_of_0_0 (.cons ["ValueError"] none (.cons .any .nil) .nil))
@[simp] def s__value_of_1a_0 : S := (.ret (.v 3))
@[simp] def b__value_of_1a : Ss := (.cons s__value_of_1a_0 .nil)
@[simp] def s__value_of_1 : S := (.iff (.or (.and (.cmp .eq (.v 0) (.str "payload")) (.isa (.v 3) .str)) (.and (.cmp .eq (.v 0) (.str "groups")) (.isa (.v 3) .tuple))) b__value_of_1a .nil)
@[simp] def s__value_of_2 : S := (.rse false "BadSchedule" (.cons (.v 2) (.cons (.str "text") .nil)))
@[simp] def b__value_of : Ss := (.cons s__value_of_0 (.cons s__value_of_1 (.cons s__value_of_2 .nil)))
def fn__value_of : Fn := ⟨3, 4, b__value_of⟩
/-- _item_of(kind, word, line); slots: 0=kind 1=word 2=line 3=number -/
@[simp] def s__item_of_0a_0 : S := (.ret (.call "_value_of" (.cons (.v 0) (.cons (.v 1) (.cons (.v 2) .nil)))))
@[simp] def b__item_of_0a : Ss := (.cons s__item_of_0a_0 .nil)
@[simp] def s__item_of_0 : S := (.iff (.cmp .isin (.v 0) (.tup (.cons (.str "payload") (.cons (.str "groups") .nil)))) b__item_of_0a .nil)
@[simp] def s__item_of_1 : S := (.asg (.one 3) (.call "number_of" (.cons (.v 1) .nil)))
@[simp] def s__item_of_2a_0 : S := (.rse false "BadSchedule" (.cons (.v 2) (.cons (.str "number") .nil)))
@[simp] def b__item_of_2a : Ss := (.cons s__item_of_2a_0 .nil)
@[simp] def s__item_of_2 : S := (.iff (.isc false .non (.v 3)) b__item_of_2a .nil)
@[simp] def s__item_of_3 : S := (.ret (.v 3))
@[simp] def b__item_of : Ss := (.cons s__item_of_0 (.cons s__item_of_1 (.cons s__item_of_2 (.cons s__item_of_3 .nil))))
def fn__item_of : Fn := ⟨3, 4, b__item_of⟩
/-- _act_of(row, line); slots: 0=row 1=line 2=words 3=kinds 4=act 5=kind 6=word -/
@[simp] def s__act_of_0 : S := (.asg (.one 2) (.bm (.v 0) .split (.cons (.str " ") .nil)))
@[simp] def s__act_of_1a_0 : S := (.rse false "BadSchedule" (.cons (.v 1) (.cons (.str "verb") .nil)))
@[simp] def b__act_of_1a : Ss := (.cons s__act_of_1a_0 .nil)
@[simp] def s__act_of_1 : S := (.iff (.gin true (.ix (.v 2) (.int 0)) "ACTS") b__act_of_1a .nil)
@[simp] def s__act_of_2 : S := (.asg (.one 3) (.gat "ACTS" (.ix (.v 2) (.int 0))))
@[simp] def s__act_of_3a_0 : S := (.asg (.one 2) (.bm (.v 0) .split (.cons (.str " ") (.cons (.blt .len (.cons (.v 3) .nil)) .nil))))
@[simp] def b__act_of_3a : Ss := (.cons s__act_of_3a_0 .nil)
@[simp] def s__act_of_3 : S := (.iff (.and (.cmp .ne (.v 3) (.tup .nil)) (.cmp .isin (.ix (.v 3) (.neg (.int 1))) (.tup (.cons (.str "payload") (.cons (.str "groups") .nil))))) b__act_of_3a .nil)
@[simp] def s__act_of_4a_0 : S := (.rse false "BadSchedule" (.cons (.v 1) (.cons (.str "count") .nil)))
@[simp] def b__act_of_4a : Ss := (.cons s__act_of_4a_0 .nil)
@[simp] def s__act_of_4 : S := (.iff (.cmp .ne (.blt .len (.cons (.v 2) .nil)) (.bin .add (.blt .len (.cons (.v 3) .nil)) (.int 1))) b__act_of_4a .nil)
@[simp] def s__act_of_5 : S := (.asg (.one 4) (.lst (.cons (.ix (.v 2) (.int 0)) .nil)))
@[simp] def s__act_of_6_0 : S := (.ex (.bm (.v 4) .append (.cons (.call "_item_of" (.cons (.v 5) (.cons (.v 6) (.cons (.v 1) .nil)))) .nil)))
@[simp] def b__act_of_6 : Ss := (.cons s__act_of_6_0 .nil)
@[simp] def s__act_of_6 : S := (.fr (.tup [5, 6]) (.zip (.v 3) (.cut (.v 2) (some ()) none (.int 1) .non)) b__act_of_6)
@[simp] def s__act_of_7 : S := (.ret (.blt .tuple (.cons (.v 4) .nil)))
@[simp] def b__act_of : Ss := (.cons s__act_of_0 (.cons s__act_of_1 (.cons s__act_of_2 (.cons s__act_of_3 (.cons s__act_of_4 (.cons s__act_of_5 (.cons s__act_of_6 (.cons s__act_of_7 .nil))))))))
def fn__act_of : Fn := ⟨2, 7, b__act_of⟩
/-- _count_of(words, line); slots: 0=words 1=line 2=count -/
@[simp] def s__count_of_0a_0 : S := (.rse false "BadSchedule" (.cons (.v 1) (.cons (.str "count") .nil)))
@[simp] def b__count_of_0a : Ss := (.cons s__count_of_0a_0 .nil)
@[simp] def s__count_of_0 : S := (.iff (.cmp .ne (.blt .len (.cons (.v 0) .nil)) (.int 2)) b__count_of_0a .nil)
@[simp] def s__count_of_1 : S := (.asg (.one 2) (.call "number_of" (.cons (.ix (.v 0) (.int 1)) .nil)))
@[simp] def s__count_of_2a_0 : S := (.rse false "BadSchedule" (.cons (.v 1) (.cons (.str "number") .nil)))
@[simp] def b__count_of_2a : Ss := (.cons s__count_of_2a_0 .nil)
@[simp] def s__count_of_2 : S := (.iff (.isc false .non (.v 2)) b__count_of_2a .nil)
@[simp] def s__count_of_3 : S := (.ret (.v 2))
@[simp] def b__count_of : Ss := (.cons s__count_of_0 (.cons s__count_of_1 (.cons s__count_of_2 (.cons s__count_of_3 .nil))))
def fn__count_of : Fn := ⟨2, 3, b__count_of⟩
/-- parse_schedule(text); slots: 0=text 1=found 2=acts 3=index 4=row 5=line 6=words -/
@[simp] def s_parse_schedule_0 : S := (.asg (.one 1) .non)
@[simp] def s_parse_schedule_1 : S := (.asg (.one 2) (.lst .nil))
@[simp] def s_parse_schedule_2_0 : S := (.asg (.one 5) (.bin .add (.v 3) (.int 1)))
@[simp] def s_parse_schedule_2_1a_0 : S := (.rse false "BadSchedule" (.cons (.v 5) (.cons (.str "character") .nil)))
@[simp] def b_parse_schedule_2_1a : Ss := (.cons s_parse_schedule_2_1a_0 .nil)
@[simp] def s_parse_schedule_2_1 : S := (.iff (.not (.call "is_printable" (.cons (.v 4) .nil))) b_parse_schedule_2_1a .nil)
@[simp] def s_parse_schedule_2_2a_0 : S := .cont
@[simp] def b_parse_schedule_2_2a : Ss := (.cons s_parse_schedule_2_2a_0 .nil)
@[simp] def s_parse_schedule_2_2 : S := (.iff (.or (.cmp .eq (.v 4) (.str "")) (.bm (.v 4) .startswith (.cons (.str "#") .nil))) b_parse_schedule_2_2a .nil)
@[simp] def s_parse_schedule_2_3 : S := (.asg (.one 6) (.bm (.v 4) .split (.cons (.str " ") .nil)))
@[simp] def s_parse_schedule_2_4a_0 : S := (.rse false "BadSchedule" (.cons (.v 5) (.cons (.str "group") .nil)))
@[simp] def b_parse_schedule_2_4a : Ss := (.cons s_parse_schedule_2_4a_0 .nil)
@[simp] def s_parse_schedule_2_4 : S := (.iff (.cmp .eq (.cmp .eq (.ix (.v 6) (.int 0)) (.str "group")) (.isc true .non (.v 1))) b_parse_schedule_2_4a .nil)
@[simp] def s_parse_schedule_2_5a_0 : S := (.asg (.one 1) (.tup (.cons (.v 5) (.cons (.call "_count_of" (.cons (.v 6) (.cons (.v 5) .nil))) .nil))))
@[simp] def b_parse_schedule_2_5a : Ss := (.cons s_parse_schedule_2_5a_0 .nil)
@[simp] def s_parse_schedule_2_5b_0 : S := (.ex (.bm (.v 2) .append (.cons (.tup (.cons (.v 5) (.cons (.call "_act_of" (.cons (.v 4) (.cons (.v 5) .nil))) .nil))) .nil)))
@[simp] def b_parse_schedule_2_5b : Ss := (.cons s_parse_schedule_2_5b_0 .nil)
@[simp] def s_parse_schedule_2_5 : S := (.iff (.isc false .non (.v 1)) b_parse_schedule_2_5a b_parse_schedule_2_5b)
@[simp] def b_parse_schedule_2 : Ss := (.cons s_parse_schedule_2_0 (.cons s_parse_schedule_2_1 (.cons s_parse_schedule_2_2 (.cons s_parse_schedule_2_3 (.cons s_parse_schedule_2_4 (.cons s_parse_schedule_2_5 .nil))))))
@[simp] def s_parse_schedule_2 : S := (.fr (.tup [3, 4]) (.enm (.bm (.v 0) .split (.cons (.str "\n") .nil))) b_parse_schedule_2)
@[simp] def s_parse_schedule_3a_0 : S := (.rse false "BadSchedule" (.cons (.int 0) (.cons (.str "group") .nil)))
@[simp] def b_parse_schedule_3a : Ss := (.cons s_parse_schedule_3a_0 .nil)
@[simp] def s_parse_schedule_3 : S := (.iff (.isc false .non (.v 1)) b_parse_schedule_3a .nil)
@[simp] def s_parse_schedule_4 : S := (.ret (.tup (.cons (.ix (.v 1) (.int 0)) (.cons (.ix (.v 1) (.int 1)) (.cons (.v 2) .nil)))))
@[simp] def b_parse_schedule : Ss := (.cons s_parse_schedule_0 (.cons s_parse_schedule_1 (.cons s_parse_schedule_2 (.cons s_parse_schedule_3 (.cons s_parse_schedule_4 .nil)))))
def fn_parse_schedule : Fn := ⟨1, 7, b_parse_schedule⟩
/-- _line_of(act); slots: 0=act 1=words 2=kind 3=item -/
@[simp] def s__line_of_0 : S := (.asg (.one 1) (.lst (.cons (.ix (.v 0) (.int 0)) .nil)))
@[simp] def s__line_of_1_0a_0 : S := (.ex (.bm (.v 1) .append (.cons (.call "encode" (.cons (.v 3) .nil)) .nil)))
@[simp] def b__line_of_1_0a : Ss := (.cons s__line_of_1_0a_0 .nil)
@[simp] def s__line_of_1_0b_0 : S := (.ex (.bm (.v 1) .append (.cons (.blt .str (.cons (.v 3) .nil)) .nil)))
@[simp] def b__line_of_1_0b : Ss := (.cons s__line_of_1_0b_0 .nil)
@[simp] def s__line_of_1_0 : S := (.iff (.cmp .isin (.v 2) (.tup (.cons (.str "payload") (.cons (.str "groups") .nil)))) b__line_of_1_0a b__line_of_1_0b)
@[simp] def b__line_of_1 : Ss := (.cons s__line_of_1_0 .nil)
@[simp] def s__line_of_1 : S := (.fr (.tup [2, 3]) (.zip (.gat "ACTS" (.ix (.v 0) (.int 0))) (.cut (.v 0) (some ()) none (.int 1) .non)) b__line_of_1)
@[simp] def s__line_of_2 : S := (.ret (.bm (.str " ") .join (.cons (.v 1) .nil)))
@[simp] def b__line_of : Ss := (.cons s__line_of_0 (.cons s__line_of_1 (.cons s__line_of_2 .nil)))
def fn__line_of : Fn := ⟨1, 4, b__line_of⟩
/-- act_line(act); slots: 0=act 1=line 2=fits -/
@[simp] def s_act_line_0_0_0 : S := (.ex (.call "check_act" (.cons (.v 0) .nil)))
@[simp] def s_act_line_0_0_1 : S := (.asg (.one 1) (.call "_line_of" (.cons (.v 0) .nil)))
@[simp] def s_act_line_0_0_2 : S := (.asg (.one 2) (.cmp .eq (.call "_act_of" (.cons (.v 1) (.cons (.int 0) .nil))) (.v 0)))
@[simp] def b_act_line_0_0 : Ss := (.cons s_act_line_0_0_0 (.cons s_act_line_0_0_1 (.cons s_act_line_0_0_2 .nil)))
@[simp] def s_act_line_0 : S := (.try_ b_act_line_0_0 (.cons ["ValueError"] none (.cons .any .nil) .nil))
@[simp] def s_act_line_1a_0 : S := (.rse false "BadSchedule" (.cons (.int 0) (.cons (.str "act") .nil)))
@[simp] def b_act_line_1a : Ss := (.cons s_act_line_1a_0 .nil)
@[simp] def s_act_line_1 : S := (.iff (.not (.v 2)) b_act_line_1a .nil)
@[simp] def s_act_line_2 : S := (.ret (.v 1))
@[simp] def b_act_line : Ss := (.cons s_act_line_0 (.cons s_act_line_1 (.cons s_act_line_2 .nil)))
def fn_act_line : Fn := ⟨1, 3, b_act_line⟩
/-- _law_bag(_law_script, _law_k); slots: 0=_law_script 1=_law_k 2=_law_cell -/
@[simp] def s__law_bag_0 : S := (.asg (.one 2) (.int 0))
@[simp] def s__law_bag_1a_0 : S := (.asg (.one 2) (.blt .int (.cons (.ix (.v 0) (.v 1)) .nil)))
@[simp] def b__law_bag_1a : Ss := (.cons s__law_bag_1a_0 .nil)
@[simp] def s__law_bag_1 : S := (.iff (.cmp .lt (.v 1) (.blt .len (.cons (.v 0) .nil))) b__law_bag_1a .nil)
@[simp] def s__law_bag_2a_0 : S := (.ret (.lst (.cons (.v 2) (.cons (.v 2) (.cons (.v 1) .nil)))))
@[simp] def b__law_bag_2a : Ss := (.cons s__law_bag_2a_0 .nil)
@[simp] def s__law_bag_2 : S := (.iff (.cmp .ge (.v 2) (.bin .pow (.int 10) (.int 18))) b__law_bag_2a .nil)
@[simp] def s__law_bag_3 : S := (.ret (.lst (.cons (.int 0) (.cons (.v 2) (.cons (.v 1) .nil)))))
@[simp] def b__law_bag : Ss := (.cons s__law_bag_0 (.cons s__law_bag_1 (.cons s__law_bag_2 (.cons s__law_bag_3 .nil))))
def fn__law_bag : Fn := ⟨2, 3, b__law_bag⟩
/-- _law_draw(_law_bag_here, _law_many); slots: 0=_law_bag_here 1=_law_many 2=_law_rest 3=_law_seed -/
@[simp] def s__law_draw_0a_0 : S := (.asg (.one 3) (.bin .mod (.blt .int (.cons (.bin .add (.bin .add (.bin .mul (.ix (.v 0) (.int 1)) (.int 48271)) (.bin .mul (.ix (.v 0) (.int 2)) (.int 69621))) (.int 11)) .nil)) (.int 2147483647)))
@[simp] def s__law_draw_0a_1 : S := (.asgI (.v 0) (.int 0) (.bin .add (.bin .mul (.v 3) (.int 2147483629)) (.bin .mod (.blt .int (.cons (.bin .add (.bin .mul (.v 3) (.v 3)) (.bin .mul (.ix (.v 0) (.int 2)) (.int 16807))) .nil)) (.int 2147483629))))
@[simp] def s__law_draw_0a_2 : S := (.asgI (.v 0) (.int 1) (.v 3))
@[simp] def b__law_draw_0a : Ss := (.cons s__law_draw_0a_0 (.cons s__law_draw_0a_1 (.cons s__law_draw_0a_2 .nil)))
@[simp] def s__law_draw_0 : S := (.iff (.cmp .eq (.ix (.v 0) (.int 0)) (.int 0)) b__law_draw_0a .nil)
@[simp] def s__law_draw_1 : S := (.asg (.one 2) (.ix (.v 0) (.int 0)))
@[simp] def s__law_draw_2 : S := (.asgI (.v 0) (.int 0) (.bin .fdiv (.v 2) (.v 1)))
@[simp] def s__law_draw_3 : S := (.ret (.bin .mod (.blt .int (.cons (.v 2) .nil)) (.v 1)))
@[simp] def b__law_draw : Ss := (.cons s__law_draw_0 (.cons s__law_draw_1 (.cons s__law_draw_2 (.cons s__law_draw_3 .nil))))
def fn__law_draw : Fn := ⟨2, 4, b__law_draw⟩
/-- _law_text(_law_bag_here); slots: 0=_law_bag_here 1=_law_chars 2=_law_size 3=_law_k -/
@[simp] def s__law_text_0 : S := (.asg (.one 1) (.str " !\"#$&'()*+,-./0123456789:;<=>?@ABCDEFGHIJKLMNOPQRSTUVWXYZ[\\]^_`abcdefghijklmnopqrstuvwxyz{|}~"))
@[simp] def s__law_text_1 : S := (.asg (.one 2) (.ix (.lst (.cons (.int 0) (.cons (.int 1) (.cons (.int 2) (.cons (.int 5) (.cons (.int 30) (.cons (.int 31) (.cons (.int 60) .nil)))))))) (.call "_law_draw" (.cons (.v 0) (.cons (.int 7) .nil)))))
@[simp] def s__law_text_2a_0 : S := (.ret (.bm (.str "") .join (.cons (.lc (.one 3) (.rng1 (.v 2)) none (.bl true) (.ix (.v 1) (.call "_law_draw" (.cons (.v 0) (.cons (.int 94) .nil))))) .nil)))
@[simp] def b__law_text_2a : Ss := (.cons s__law_text_2a_0 .nil)
@[simp] def s__law_text_2 : S := (.iff (.cmp .eq (.call "_law_draw" (.cons (.v 0) (.cons (.int 2) .nil))) (.int 0)) b__law_text_2a .nil)
@[simp] def s__law_text_3 : S := (.ret (.ix (.lst (.cons (.str "") (.cons (.str "a") (.cons (.str " ") (.cons (.str "5:it is") (.cons (.str "a b  c") (.cons (.str "#1") (.cons (.str "(0;)") .nil)))))))) (.call "_law_draw" (.cons (.v 0) (.cons (.int 7) .nil)))))
@[simp] def b__law_text : Ss := (.cons s__law_text_0 (.cons s__law_text_1 (.cons s__law_text_2 (.cons s__law_text_3 .nil))))
def fn__law_text : Fn := ⟨1, 4, b__law_text⟩
/-- _law_groups(_law_bag_here); slots: 0=_law_bag_here 1=_law_choice 2=_law_groups_here 3=_law_k 4=_law_j -/
@[simp] def s__law_groups_0 : S := (.asg (.one 1) (.call "_law_draw" (.cons (.v 0) (.cons (.int 4) .nil))))
@[simp] def s__law_groups_1a_0 : S := (.ret (.ix (.lst (.cons (.tup .nil) (.cons (.tup (.cons (.tup .nil) .nil)) (.cons (.tup (.cons (.int 5) (.cons (.int 2) .nil))) (.cons (.tup (.cons (.tup (.cons (.str "a") .nil)) (.cons (.neg (.int 3)) .nil))) (.cons (.tup (.cons (.tup (.cons (.int 0) (.cons (.int 0) .nil))) .nil)) (.cons (.tup (.cons (.tup (.cons (.tup (.cons (.tup (.cons (.int 1) .nil)) .nil)) .nil)) .nil)) (.cons (.tup (.cons (.str "") (.cons (.str " x") .nil))) .nil)))))))) (.call "_law_draw" (.cons (.v 0) (.cons (.int 7) .nil)))))
@[simp] def b__law_groups_1a : Ss := (.cons s__law_groups_1a_0 .nil)
@[simp] def s__law_groups_1 : S := (.iff (.cmp .eq (.v 1) (.int 0)) b__law_groups_1a .nil)
@[simp] def s__law_groups_2 : S := (.asg (.one 2) (.lst .nil))
@[simp] def s__law_groups_3_0 : S := (.ex (.bm (.v 2) .append (.cons (.blt .tuple (.cons (.lc (.one 4) (.rng1 (.bin .add (.int 1) (.call "_law_draw" (.cons (.v 0) (.cons (.int 4) .nil))))) none (.bl true) (.call "_law_draw" (.cons (.v 0) (.cons (.int 12) .nil)))) .nil)) .nil)))
@[simp] def b__law_groups_3 : Ss := (.cons s__law_groups_3_0 .nil)
@[simp] def s__law_groups_3 : S := (.fr (.one 3) (.rng1 (.v 1)) b__law_groups_3)
@[simp] def s__law_groups_4 : S := (.ret (.blt .tuple (.cons (.v 2) .nil)))
@[simp] def b__law_groups : Ss := (.cons s__law_groups_0 (.cons s__law_groups_1 (.cons s__law_groups_2 (.cons s__law_groups_3 (.cons s__law_groups_4 .nil)))))
def fn__law_groups : Fn := ⟨1, 5, b__law_groups⟩
/-- _law_number(_law_bag_here); slots: 0=_law_bag_here -/
@[simp] def s__law_number_0a_0 : S := (.ret (.call "_law_draw" (.cons (.v 0) (.cons (.bin .pow (.int 10) (.int 12)) .nil))))
@[simp] def b__law_number_0a : Ss := (.cons s__law_number_0a_0 .nil)
@[simp] def s__law_number_0 : S := (.iff (.cmp .eq (.call "_law_draw" (.cons (.v 0) (.cons (.int 4) .nil))) (.int 0)) b__law_number_0a .nil)
@[simp] def s__law_number_1 : S := (.ret (.call "_law_draw" (.cons (.v 0) (.cons (.int 30) .nil))))
@[simp] def b__law_number : Ss := (.cons s__law_number_0 (.cons s__law_number_1 .nil))
def fn__law_number : Fn := ⟨1, 1, b__law_number⟩
/-- _law_act(_law_bag_here); slots: 0=_law_bag_here 1=_law_kinds 2=_law_kind -/
@[simp] def s__law_act_0 : S := (.asg (.one 1) (.lst (.cons (.str "tick") (.cons (.str "calm") (.cons (.str "round") (.cons (.str "deliver") (.cons (.str "lose") (.cons (.str "double") (.cons (.str "move") (.cons (.str "cast") (.cons (.str "part") (.cons (.str "heal") (.cons (.str "crash") (.cons (.str "start") (.cons (.str "arm") (.cons (.str "cast") .nil))))))))))))))))
@[simp] def s__law_act_1 : S := (.asg (.one 2) (.ix (.v 1) (.call "_law_draw" (.cons (.v 0) (.cons (.int 14) .nil)))))
@[simp] def s__law_act_2a_0 : S := (.ret (.tup (.cons (.v 2) .nil)))
@[simp] def b__law_act_2a : Ss := (.cons s__law_act_2a_0 .nil)
@[simp] def s__law_act_2 : S := (.iff (.or (.cmp .eq (.v 2) (.str "round")) (.cmp .eq (.v 2) (.str "heal"))) b__law_act_2a .nil)
@[simp] def s__law_act_3a_0 : S := (.ret (.tup (.cons (.v 2) (.cons (.bin .add (.int 1) (.call "_law_draw" (.cons (.v 0) (.cons (.int 1000) .nil)))) .nil))))
@[simp] def b__law_act_3a : Ss := (.cons s__law_act_3a_0 .nil)
@[simp] def s__law_act_3 : S := (.iff (.or (.cmp .eq (.v 2) (.str "tick")) (.cmp .eq (.v 2) (.str "calm"))) b__law_act_3a .nil)
@[simp] def s__law_act_4a_0 : S := (.ret (.tup (.cons (.v 2) (.cons (.call "_law_number" (.cons (.v 0) .nil)) (.cons (.call "_law_text" (.cons (.v 0) .nil)) .nil)))))
@[simp] def b__law_act_4a : Ss := (.cons s__law_act_4a_0 .nil)
@[simp] def s__law_act_4 : S := (.iff (.cmp .eq (.v 2) (.str "cast")) b__law_act_4a .nil)
@[simp] def s__law_act_5a_0 : S := (.ret (.tup (.cons (.v 2) (.cons (.call "_law_groups" (.cons (.v 0) .nil)) .nil))))
@[simp] def b__law_act_5a : Ss := (.cons s__law_act_5a_0 .nil)
@[simp] def s__law_act_5 : S := (.iff (.cmp .eq (.v 2) (.str "part")) b__law_act_5a .nil)
@[simp] def s__law_act_6a_0 : S := (.ret (.tup (.cons (.v 2) (.cons (.call "_law_number" (.cons (.v 0) .nil)) (.cons (.call "_law_number" (.cons (.v 0) .nil)) (.cons (.call "_law_number" (.cons (.v 0) .nil)) .nil))))))
@[simp] def b__law_act_6a : Ss := (.cons s__law_act_6a_0 .nil)
@[simp] def s__law_act_6 : S := (.iff (.cmp .eq (.v 2) (.str "arm")) b__law_act_6a .nil)
@[simp] def s__law_act_7 : S := (.ret (.tup (.cons (.v 2) (.cons (.call "_law_number" (.cons (.v 0) .nil)) .nil))))
@[simp] def b__law_act : Ss := (.cons s__law_act_0 (.cons s__law_act_1 (.cons s__law_act_2 (.cons s__law_act_3 (.cons s__law_act_4 (.cons s__law_act_5 (.cons s__law_act_6 (.cons s__law_act_7 .nil))))))))
def fn__law_act : Fn := ⟨1, 3, b__law_act⟩
/-- _law_line(_law_act_here); slots: 0=_law_act_here 1=_law_words 2=_law_item -/
@[simp] def s__law_line_0 : S := (.asg (.one 1) (.lst (.cons (.ix (.v 0) (.int 0)) .nil)))
@[simp] def s__law_line_1_0a_0 : S := (.ex (.bm (.v 1) .append (.cons (.blt .str (.cons (.v 2) .nil)) .nil)))
@[simp] def b__law_line_1_0a : Ss := (.cons s__law_line_1_0a_0 .nil)
@[simp] def s__law_line_1_0b_0 : S := (.ex (.bm (.v 1) .append (.cons (.call "encode" (.cons (.v 2) .nil)) .nil)))
@[simp] def b__law_line_1_0b : Ss := (.cons s__law_line_1_0b_0 .nil)
@[simp] def s__law_line_1_0 : S := (.iff (.isa (.v 2) .int) b__law_line_1_0a b__law_line_1_0b)
@[simp] def b__law_line_1 : Ss := (.cons s__law_line_1_0 .nil)
@[simp] def s__law_line_1 : S := (.fr (.one 2) (.seq (.cut (.v 0) (some ()) none (.int 1) .non)) b__law_line_1)
@[simp] def s__law_line_2 : S := (.ret (.bm (.str " ") .join (.cons (.v 1) .nil)))
@[simp] def b__law_line : Ss := (.cons s__law_line_0 (.cons s__law_line_1 (.cons s__law_line_2 .nil)))
def fn__law_line : Fn := ⟨1, 3, b__law_line⟩
/-- _law_skipped(_law_bag_here); slots: 0=_law_bag_here -/
@[simp] def s__law_skipped_0 : S := (.ret (.ix (.lst (.cons (.str "") (.cons (.str "#") (.cons (.str "# group 1") (.cons (.str "#tick 1") (.cons (.str "# ") .nil)))))) (.call "_law_draw" (.cons (.v 0) (.cons (.int 5) .nil)))))
@[simp] def b__law_skipped : Ss := (.cons s__law_skipped_0 .nil)
def fn__law_skipped : Fn := ⟨1, 1, b__law_skipped⟩
/-- law(_law_script); slots: 0=_law_script 1=_law_first 2=_law_count 3=_law_rows 4=_law_k 5=_law_at 6=_law_due 7=_law_actual 8=_law_told 9=_law_bag_here 10=_law_act_here 11=_law_line_here -/
@[simp] def s_law_0 : S := (.asg (.one 1) (.call "_law_bag" (.cons (.v 0) (.cons (.int 0) .nil))))
@[simp] def s_law_1 : S := (.asg (.one 2) (.call "_law_number" (.cons (.v 1) .nil)))
@[simp] def s_law_2 : S := (.asg (.one 3) (.lst .nil))
@[simp] def s_law_3_0 : S := (.ex (.bm (.v 3) .append (.cons (.call "_law_skipped" (.cons (.v 1) .nil)) .nil)))
@[simp] def b_law_3 : Ss := (.cons s_law_3_0 .nil)
@[simp] def s_law_3 : S := (.fr (.one 4) (.rng1 (.call "_law_draw" (.cons (.v 1) (.cons (.int 3) .nil)))) b_law_3)
@[simp] def s_law_4 : S := (.ex (.bm (.v 3) .append (.cons (.bin .add (.str "group ") (.blt .str (.cons (.v 2) .nil))) .nil)))
@[simp] def s_law_5 : S := (.asg (.one 5) (.blt .len (.cons (.v 3) .nil)))
@[simp] def s_law_6 : S := (.asg (.one 6) (.lst .nil))
@[simp] def s_law_7_0 : S := (.asg (.one 9) (.call "_law_bag" (.cons (.v 0) (.cons (.v 4) .nil))))
@[simp] def s_law_7_1a_0 : S := (.ex (.bm (.v 3) .append (.cons (.call "_law_skipped" (.cons (.v 9) .nil)) .nil)))
@[simp] def b_law_7_1a : Ss := (.cons s_law_7_1a_0 .nil)
@[simp] def s_law_7_1 : S := (.iff (.cmp .eq (.call "_law_draw" (.cons (.v 9) (.cons (.int 5) .nil))) (.int 0)) b_law_7_1a .nil)
@[simp] def s_law_7_2 : S := (.asg (.one 10) (.call "_law_act" (.cons (.v 9) .nil)))
@[simp] def s_law_7_3 : S := (.asg (.one 11) (.call "act_line" (.cons (.v 10) .nil)))
@[simp] def s_law_7_4a_0 : S := (.ret (.bl false))
@[simp] def b_law_7_4a : Ss := (.cons s_law_7_4a_0 .nil)
@[simp] def s_law_7_4 : S := (.iff (.or (.not (.isa (.v 11) .str)) (.or (.cmp .ne (.v 11) (.call "_law_line" (.cons (.v 10) .nil))) (.isc true .non (.call "check_act" (.cons (.v 10) .nil))))) b_law_7_4a .nil)
@[simp] def s_law_7_5 : S := (.ex (.bm (.v 3) .append (.cons (.v 11) .nil)))
@[simp] def s_law_7_6 : S := (.ex (.bm (.v 6) .append (.cons (.tup (.cons (.blt .len (.cons (.v 3) .nil)) (.cons (.v 10) .nil))) .nil)))
@[simp] def b_law_7 : Ss := (.cons s_law_7_0 (.cons s_law_7_1 (.cons s_law_7_2 (.cons s_law_7_3 (.cons s_law_7_4 (.cons s_law_7_5 (.cons s_law_7_6 .nil)))))))
@[simp] def s_law_7 : S := (.fr (.one 4) (.rng2 (.int 1) (.blt .len (.cons (.v 0) .nil))) b_law_7)
@[simp] def s_law_8 : S := (.asg (.one 7) (.call "parse_schedule" (.cons (.bm (.str "\n") .join (.cons (.v 3) .nil)) .nil)))
@[simp] def s_law_9a_0 : S := (.ret (.bl false))
@[simp] def b_law_9a : Ss := (.cons s_law_9a_0 .nil)
@[simp] def s_law_9 : S := (.iff (.or (.not (.isa (.v 7) .tuple)) (.or (.cmp .ne (.blt .len (.cons (.v 7) .nil)) (.int 3)) (.cmp .ne (.cut (.v 7) none (some ()) .non (.int 2)) (.tup (.cons (.v 5) (.cons (.v 2) .nil)))))) b_law_9a .nil)
@[simp] def s_law_10a_0 : S := (.ret (.bl false))
@[simp] def b_law_10a : Ss := (.cons s_law_10a_0 .nil)
@[simp] def s_law_10 : S := (.iff (.not (.isa (.ix (.v 7) (.int 2)) .list)) b_law_10a .nil)
@[simp] def s_law_11_0a_0 : S := (.ret (.bl false))
@[simp] def b_law_11_0a : Ss := (.cons s_law_11_0a_0 .nil)
@[simp] def s_law_11_0 : S := (.iff (.or (.not (.isa (.v 8) .tuple)) (.not (.isa (.ix (.v 8) (.int 1)) .tuple))) b_law_11_0a .nil)
@[simp] def b_law_11 : Ss := (.cons s_law_11_0 .nil)
@[simp] def s_law_11 : S := (.fr (.one 8) (.seq (.ix (.v 7) (.int 2))) b_law_11)
@[simp] def s_law_12 : S := (.ret (.cmp .eq (.ix (.v 7) (.int 2)) (.v 6)))
@[simp] def b_law : Ss := (.cons s_law_0 (.cons s_law_1 (.cons s_law_2 (.cons s_law_3 (.cons s_law_4 (.cons s_law_5 (.cons s_law_6 (.cons s_law_7 (.cons s_law_8 (.cons s_law_9 (.cons s_law_10 (.cons s_law_11 (.cons s_law_12 .nil)))))))))))))
def fn_law : Fn := ⟨1, 12, b_law⟩
def fnTab : List (String × Fn) := [("is_printable", fn_is_printable),
  ("is_integer", fn_is_integer),
  ("_text_of", fn__text_of),
  ("encode", fn_encode),
  ("_read_integer", fn__read_integer),
  ("_read_tuple", fn__read_tuple),
  ("_read", fn__read),
  ("decode", fn_decode),
  ("check_act", fn_check_act),
  ("number_of", fn_number_of),
  ("_value_of", fn__value_of),
  ("_item_of", fn__item_of),
  ("_act_of", fn__act_of),
  ("_count_of", fn__count_of),
  ("parse_schedule", fn_parse_schedule),
  ("_line_of", fn__line_of),
  ("act_line", fn_act_line),
  ("_law_bag", fn__law_bag),
  ("_law_draw", fn__law_draw),
  ("_law_text", fn__law_text),
  ("_law_groups", fn__law_groups),
  ("_law_number", fn__law_number),
  ("_law_act", fn__law_act),
  ("_law_line", fn__law_line),
  ("_law_skipped", fn__law_skipped),
  ("law", fn_law)]
def globTab : List (String × D) := [("MOST_NUMBER", (.int 1000000000000)), ("MOST_DIGITS", (.int 24)), ("MOST_DEPTH", (.int 8)), ("MOST_LENGTH", (.int 100000)), ("DIGITS_texts", (.str (cp "0123456789"))), ("PERCENT", (.int 37)), ("GREATEST", (.int 999999999999999999999999)), ("MOST_TICKS", (.int 1000)), ("MOST_FIGURES", (.int 12)), ("DIGITS_schedule", (.str (cp "0123456789")))]
def gdTab : List (String × List (D × D)) := [("ACTS", [((.str (cp "tick")), (.tup [(.str (cp "ticks"))])), ((.str (cp "calm")), (.tup [(.str (cp "ticks"))])), ((.str (cp "round")), (.tup [])), ((.str (cp "deliver")), (.tup [(.str (cp "number"))])), ((.str (cp "lose")), (.tup [(.str (cp "number"))])), ((.str (cp "double")), (.tup [(.str (cp "number"))])), ((.str (cp "move")), (.tup [(.str (cp "number"))])), ((.str (cp "cast")), (.tup [(.str (cp "process")), (.str (cp "payload"))])), ((.str (cp "part")), (.tup [(.str (cp "groups"))])), ((.str (cp "heal")), (.tup [])), ((.str (cp "crash")), (.tup [(.str (cp "process"))])), ((.str (cp "start")), (.tup [(.str (cp "process"))])), ((.str (cp "arm")), (.tup [(.str (cp "process")), (.str (cp "number")), (.str (cp "number"))]))])]
def prog : Prog := mkProg fnTab globTab gdTab
theorem call_is_printable (n : Nat) (a0 : D) (h : Hp) : callN prog (n + 1) "is_printable" [a0] h = (execs (cxP prog n) [some a0, none] h b_is_printable).fin := by rw [callN]; rfl
theorem call_is_integer (n : Nat) (a0 a1 a2 : D) (h : Hp) : callN prog (n + 1) "is_integer" [a0, a1, a2] h = (execs (cxP prog n) [some a0, some a1, some a2] h b_is_integer).fin := by rw [callN]; rfl
theorem call__text_of (n : Nat) (a0 a1 : D) (h : Hp) : callN prog (n + 1) "_text_of" [a0, a1] h = (execs (cxP prog n) [some a0, some a1, none] h b__text_of).fin := by rw [callN]; rfl
theorem call_encode (n : Nat) (a0 : D) (h : Hp) : callN prog (n + 1) "encode" [a0] h = (execs (cxP prog n) [some a0, none] h b_encode).fin := by rw [callN]; rfl
theorem call__read_integer (n : Nat) (a0 a1 : D) (h : Hp) : callN prog (n + 1) "_read_integer" [a0, a1] h = (execs (cxP prog n) [some a0, some a1, none, none] h b__read_integer).fin := by rw [callN]; rfl
theorem call__read_tuple (n : Nat) (a0 a1 a2 : D) (h : Hp) : callN prog (n + 1) "_read_tuple" [a0, a1, a2] h = (execs (cxP prog n) [some a0, some a1, some a2, none, none, none] h b__read_tuple).fin := by rw [callN]; rfl
theorem call__read (n : Nat) (a0 a1 a2 : D) (h : Hp) : callN prog (n + 1) "_read" [a0, a1, a2] h = (execs (cxP prog n) [some a0, some a1, some a2, none, none, none] h b__read).fin := by rw [callN]; rfl
theorem call_decode (n : Nat) (a0 : D) (h : Hp) : callN prog (n + 1) "decode" [a0] h = (execs (cxP prog n) [some a0, none, none] h b_decode).fin := by rw [callN]; rfl
theorem call_check_act (n : Nat) (a0 : D) (h : Hp) : callN prog (n + 1) "check_act" [a0] h = (execs (cxP prog n) [some a0, none, none, none] h b_check_act).fin := by rw [callN]; rfl
theorem call_number_of (n : Nat) (a0 : D) (h : Hp) : callN prog (n + 1) "number_of" [a0] h = (execs (cxP prog n) [some a0, none] h b_number_of).fin := by rw [callN]; rfl
theorem call__value_of (n : Nat) (a0 a1 a2 : D) (h : Hp) : callN prog (n + 1) "_value_of" [a0, a1, a2] h = (execs (cxP prog n) [some a0, some a1, some a2, none] h b__value_of).fin := by rw [callN]; rfl
theorem call__item_of (n : Nat) (a0 a1 a2 : D) (h : Hp) : callN prog (n + 1) "_item_of" [a0, a1, a2] h = (execs (cxP prog n) [some a0, some a1, some a2, none] h b__item_of).fin := by rw [callN]; rfl
theorem call__act_of (n : Nat) (a0 a1 : D) (h : Hp) : callN prog (n + 1) "_act_of" [a0, a1] h = (execs (cxP prog n) [some a0, some a1, none, none, none, none, none] h b__act_of).fin := by rw [callN]; rfl
theorem call__count_of (n : Nat) (a0 a1 : D) (h : Hp) : callN prog (n + 1) "_count_of" [a0, a1] h = (execs (cxP prog n) [some a0, some a1, none] h b__count_of).fin := by rw [callN]; rfl
theorem call_parse_schedule (n : Nat) (a0 : D) (h : Hp) : callN prog (n + 1) "parse_schedule" [a0] h = (execs (cxP prog n) [some a0, none, none, none, none, none, none] h b_parse_schedule).fin := by rw [callN]; rfl
theorem call__line_of (n : Nat) (a0 : D) (h : Hp) : callN prog (n + 1) "_line_of" [a0] h = (execs (cxP prog n) [some a0, none, none, none] h b__line_of).fin := by rw [callN]; rfl
theorem call_act_line (n : Nat) (a0 : D) (h : Hp) : callN prog (n + 1) "act_line" [a0] h = (execs (cxP prog n) [some a0, none, none] h b_act_line).fin := by rw [callN]; rfl
theorem call__law_bag (n : Nat) (a0 a1 : D) (h : Hp) : callN prog (n + 1) "_law_bag" [a0, a1] h = (execs (cxP prog n) [some a0, some a1, none] h b__law_bag).fin := by rw [callN]; rfl
theorem call__law_draw (n : Nat) (a0 a1 : D) (h : Hp) : callN prog (n + 1) "_law_draw" [a0, a1] h = (execs (cxP prog n) [some a0, some a1, none, none] h b__law_draw).fin := by rw [callN]; rfl
theorem call__law_text (n : Nat) (a0 : D) (h : Hp) : callN prog (n + 1) "_law_text" [a0] h = (execs (cxP prog n) [some a0, none, none, none] h b__law_text).fin := by rw [callN]; rfl
theorem call__law_groups (n : Nat) (a0 : D) (h : Hp) : callN prog (n + 1) "_law_groups" [a0] h = (execs (cxP prog n) [some a0, none, none, none, none] h b__law_groups).fin := by rw [callN]; rfl
theorem call__law_number (n : Nat) (a0 : D) (h : Hp) : callN prog (n + 1) "_law_number" [a0] h = (execs (cxP prog n) [some a0] h b__law_number).fin := by rw [callN]; rfl
theorem call__law_act (n : Nat) (a0 : D) (h : Hp) : callN prog (n + 1) "_law_act" [a0] h = (execs (cxP prog n) [some a0, none, none] h b__law_act).fin := by rw [callN]; rfl
theorem call__law_line (n : Nat) (a0 : D) (h : Hp) : callN prog (n + 1) "_law_line" [a0] h = (execs (cxP prog n) [some a0, none, none] h b__law_line).fin := by rw [callN]; rfl
theorem call__law_skipped (n : Nat) (a0 : D) (h : Hp) : callN prog (n + 1) "_law_skipped" [a0] h = (execs (cxP prog n) [some a0] h b__law_skipped).fin := by rw [callN]; rfl
theorem call_law (n : Nat) (a0 : D) (h : Hp) : callN prog (n + 1) "law" [a0] h = (execs (cxP prog n) [some a0, none, none, none, none, none, none, none, none, none, none, none] h b_law).fin := by rw [callN]; rfl
@[simp] theorem glob_MOST_NUMBER : prog.glob "MOST_NUMBER" = some (.int 1000000000000) := by rfl
@[simp] theorem glob_MOST_DIGITS : prog.glob "MOST_DIGITS" = some (.int 24) := by rfl
@[simp] theorem glob_MOST_DEPTH : prog.glob "MOST_DEPTH" = some (.int 8) := by rfl
@[simp] theorem glob_MOST_LENGTH : prog.glob "MOST_LENGTH" = some (.int 100000) := by rfl
@[simp] theorem glob_DIGITS_texts : prog.glob "DIGITS_texts" = some (.str (cp "0123456789")) := by rfl
@[simp] theorem glob_PERCENT : prog.glob "PERCENT" = some (.int 37) := by rfl
@[simp] theorem glob_GREATEST : prog.glob "GREATEST" = some (.int 999999999999999999999999) := by rfl
@[simp] theorem glob_MOST_TICKS : prog.glob "MOST_TICKS" = some (.int 1000) := by rfl
@[simp] theorem glob_MOST_FIGURES : prog.glob "MOST_FIGURES" = some (.int 12) := by rfl
@[simp] theorem glob_DIGITS_schedule : prog.glob "DIGITS_schedule" = some (.str (cp "0123456789")) := by rfl
theorem gd_ACTS : prog.gd "ACTS" = [((.str (cp "tick")), (.tup [(.str (cp "ticks"))])), ((.str (cp "calm")), (.tup [(.str (cp "ticks"))])), ((.str (cp "round")), (.tup [])), ((.str (cp "deliver")), (.tup [(.str (cp "number"))])), ((.str (cp "lose")), (.tup [(.str (cp "number"))])), ((.str (cp "double")), (.tup [(.str (cp "number"))])), ((.str (cp "move")), (.tup [(.str (cp "number"))])), ((.str (cp "cast")), (.tup [(.str (cp "process")), (.str (cp "payload"))])), ((.str (cp "part")), (.tup [(.str (cp "groups"))])), ((.str (cp "heal")), (.tup [])), ((.str (cp "crash")), (.tup [(.str (cp "process"))])), ((.str (cp "start")), (.tup [(.str (cp "process"))])), ((.str (cp "arm")), (.tup [(.str (cp "process")), (.str (cp "number")), (.str (cp "number"))]))] := by rfl
end Mu
end

section
set_option Elab.async false
set_option linter.all false
set_option maxRecDepth 100000
set_option maxHeartbeats 0
namespace Law
open PySem PySem.Spec PyProof.Rows L2 Ad
def top (i : Nat) : Stmt := PySem.Challenge.pw_mustercall_k52_schedules_read_back.main.body.getD i (.Pass ⟨0, 0, 0, 0⟩)
def d0 : He.DefD := ⟨(nm "is_printable", none), "is_printable", "is_printable", defArgs (top 12), defBody (top 12), defScope (top 12), [], []⟩
def t0 : Td := ⟨"is_printable", d0, [nm "value"], [nm "value", nm "character"]⟩
def d1 : He.DefD := ⟨(nm "is_integer", none), "is_integer", "is_integer", defArgs (top 13), defBody (top 13), defScope (top 13), [], []⟩
def t1 : Td := ⟨"is_integer", d1, [nm "value", nm "least", nm "greatest"], [nm "value", nm "least", nm "greatest"]⟩
def d2 : He.DefD := ⟨(nm "_text_of", none), "_text_of", "_text_of", defArgs (top 14), defBody (top 14), defScope (top 14), [], []⟩
def t2 : Td := ⟨"_text_of", d2, [nm "value", nm "depth"], [nm "value", nm "depth", nm "item"]⟩
def d3 : He.DefD := ⟨(nm "encode", none), "encode", "encode", defArgs (top 15), defBody (top 15), defScope (top 15), [], []⟩
def t3 : Td := ⟨"encode", d3, [nm "value"], [nm "value", nm "text"]⟩
def d4 : He.DefD := ⟨(nm "_read_integer", none), "_read_integer", "_read_integer", defArgs (top 16), defBody (top 16), defScope (top 16), [], []⟩
def t4 : Td := ⟨"_read_integer", d4, [nm "text", nm "start"], [nm "text", nm "start", nm "first", nm "end"]⟩
def d5 : He.DefD := ⟨(nm "_read_tuple", none), "_read_tuple", "_read_tuple", defArgs (top 17), defBody (top 17), defScope (top 17), [], []⟩
def t5 : Td := ⟨"_read_tuple", d5, [nm "text", nm "start", nm "depth"], [nm "text", nm "start", nm "depth", nm "items", nm "index", nm "item"]⟩
def d6 : He.DefD := ⟨(nm "_read", none), "_read", "_read", defArgs (top 18), defBody (top 18), defScope (top 18), [], []⟩
def t6 : Td := ⟨"_read", d6, [nm "text", nm "start", nm "depth"], [nm "text", nm "start", nm "depth", nm "end", nm "number", nm "index"]⟩
def d7 : He.DefD := ⟨(nm "decode", none), "decode", "decode", defArgs (top 19), defBody (top 19), defScope (top 19), [], []⟩
def t7 : Td := ⟨"decode", d7, [nm "text"], [nm "text", nm "value", nm "end"]⟩
def d8 : He.DefD := ⟨(nm "check_act", none), "check_act", "check_act", defArgs (top 23), defBody (top 23), defScope (top 23), [], []⟩
def t8 : Td := ⟨"check_act", d8, [nm "act"], [nm "act", nm "kinds", nm "kind", nm "item"]⟩
def d9 : He.DefD := ⟨(nm "number_of", none), "number_of", "number_of", defArgs (top 27), defBody (top 27), defScope (top 27), [], []⟩
def t9 : Td := ⟨"number_of", d9, [nm "word"], [nm "word", nm "character"]⟩
def d10 : He.DefD := ⟨(nm "_value_of", none), "_value_of", "_value_of", defArgs (top 28), defBody (top 28), defScope (top 28), [], []⟩
def t10 : Td := ⟨"_value_of", d10, [nm "kind", nm "text", nm "line"], [nm "kind", nm "text", nm "line", nm "value"]⟩
def d11 : He.DefD := ⟨(nm "_item_of", none), "_item_of", "_item_of", defArgs (top 29), defBody (top 29), defScope (top 29), [], []⟩
def t11 : Td := ⟨"_item_of", d11, [nm "kind", nm "word", nm "line"], [nm "kind", nm "word", nm "line", nm "number"]⟩
def d12 : He.DefD := ⟨(nm "_act_of", none), "_act_of", "_act_of", defArgs (top 30), defBody (top 30), defScope (top 30), [], []⟩
def t12 : Td := ⟨"_act_of", d12, [nm "row", nm "line"], [nm "row", nm "line", nm "words", nm "kinds", nm "act", nm "kind", nm "word"]⟩
def d13 : He.DefD := ⟨(nm "_count_of", none), "_count_of", "_count_of", defArgs (top 31), defBody (top 31), defScope (top 31), [], []⟩
def t13 : Td := ⟨"_count_of", d13, [nm "words", nm "line"], [nm "words", nm "line", nm "count"]⟩
def d14 : He.DefD := ⟨(nm "parse_schedule", none), "parse_schedule", "parse_schedule", defArgs (top 32), defBody (top 32), defScope (top 32), [], []⟩
def t14 : Td := ⟨"parse_schedule", d14, [nm "text"], [nm "text", nm "found", nm "acts", nm "index", nm "row", nm "line", nm "words"]⟩
def d15 : He.DefD := ⟨(nm "_line_of", none), "_line_of", "_line_of", defArgs (top 33), defBody (top 33), defScope (top 33), [], []⟩
def t15 : Td := ⟨"_line_of", d15, [nm "act"], [nm "act", nm "words", nm "kind", nm "item"]⟩
def d16 : He.DefD := ⟨(nm "act_line", none), "act_line", "act_line", defArgs (top 34), defBody (top 34), defScope (top 34), [], []⟩
def t16 : Td := ⟨"act_line", d16, [nm "act"], [nm "act", nm "line", nm "fits"]⟩
def d17 : He.DefD := ⟨(nm "_law_bag", none), "_law_bag", "_law_bag", defArgs (top 36), defBody (top 36), defScope (top 36), [], []⟩
def t17 : Td := ⟨"_law_bag", d17, [nm "_law_script", nm "_law_k"], [nm "_law_script", nm "_law_k", nm "_law_cell"]⟩
def d18 : He.DefD := ⟨(nm "_law_draw", none), "_law_draw", "_law_draw", defArgs (top 37), defBody (top 37), defScope (top 37), [], []⟩
def t18 : Td := ⟨"_law_draw", d18, [nm "_law_bag_here", nm "_law_many"], [nm "_law_bag_here", nm "_law_many", nm "_law_rest", nm "_law_seed"]⟩
def d19 : He.DefD := ⟨(nm "_law_text", none), "_law_text", "_law_text", defArgs (top 38), defBody (top 38), defScope (top 38), [], []⟩
def t19 : Td := ⟨"_law_text", d19, [nm "_law_bag_here"], [nm "_law_bag_here", nm "_law_chars", nm "_law_size", nm "_law_k"]⟩
def d20 : He.DefD := ⟨(nm "_law_groups", none), "_law_groups", "_law_groups", defArgs (top 39), defBody (top 39), defScope (top 39), [], []⟩
def t20 : Td := ⟨"_law_groups", d20, [nm "_law_bag_here"], [nm "_law_bag_here", nm "_law_choice", nm "_law_groups_here", nm "_law_k", nm "_law_j"]⟩
def d21 : He.DefD := ⟨(nm "_law_number", none), "_law_number", "_law_number", defArgs (top 40), defBody (top 40), defScope (top 40), [], []⟩
def t21 : Td := ⟨"_law_number", d21, [nm "_law_bag_here"], [nm "_law_bag_here"]⟩
def d22 : He.DefD := ⟨(nm "_law_act", none), "_law_act", "_law_act", defArgs (top 41), defBody (top 41), defScope (top 41), [], []⟩
def t22 : Td := ⟨"_law_act", d22, [nm "_law_bag_here"], [nm "_law_bag_here", nm "_law_kinds", nm "_law_kind"]⟩
def d23 : He.DefD := ⟨(nm "_law_line", none), "_law_line", "_law_line", defArgs (top 42), defBody (top 42), defScope (top 42), [], []⟩
def t23 : Td := ⟨"_law_line", d23, [nm "_law_act_here"], [nm "_law_act_here", nm "_law_words", nm "_law_item"]⟩
def d24 : He.DefD := ⟨(nm "_law_skipped", none), "_law_skipped", "_law_skipped", defArgs (top 43), defBody (top 43), defScope (top 43), [], []⟩
def t24 : Td := ⟨"_law_skipped", d24, [nm "_law_bag_here"], [nm "_law_bag_here"]⟩
def d25 : He.DefD := ⟨(nm "law", none), "law", "law", defArgs (top 44), defBody (top 44), defScope (top 44), [], []⟩
def t25 : Td := ⟨"law", d25, [nm "_law_script"], [nm "_law_script", nm "_law_first", nm "_law_count", nm "_law_rows", nm "_law_k", nm "_law_at", nm "_law_due", nm "_law_actual", nm "_law_told", nm "_law_bag_here", nm "_law_act_here", nm "_law_line_here"]⟩
def tab : List Td := ([t0, t1, t2, t3, t4, t5, t6, t7, t8, t9, t10, t11, t12, t13, t14, t15, t16, t17, t18, t19, t20, t21, t22, t23, t24] : List Td) ++ ([t25] : List Td)
def bd0 : He.DefD := ⟨(nm "BadSchedule", some (nm "__init__")), "__init__", "BadSchedule.__init__", defArgs (inClass (top 3) 0), defBody (inClass (top 3) 0), defScope (inClass (top 3) 0), [], []⟩
def bd : Option He.DefD := some bd0
theorem bdok : BdOk bd := fun d e => by cases e; exact fun _ _ _ _ _ _ us hl => match us, hl with | [_, _, _], _ => rfl
def sg : Sg := ⟨(["_act_of", "_count_of", "_item_of", "_law_act", "_law_bag", "_law_draw", "_law_groups", "_law_line", "_law_number", "_law_skipped", "_law_text", "_line_of", "_read", "_read_integer", "_read_tuple", "_text_of", "_value_of", "act_line", "check_act", "decode", "encode", "is_integer", "is_printable", "number_of", "parse_schedule"] : List String), ([] : List String), ([] : List String), ([] : List String), (["bool", "enumerate", "int", "isinstance", "len", "list", "ord", "range", "str", "tuple", "zip"] : List String), (["DIGITS_schedule", "DIGITS_texts", "GREATEST", "MOST_DEPTH", "MOST_DIGITS", "MOST_FIGURES", "MOST_LENGTH", "MOST_NUMBER", "MOST_TICKS", "PERCENT"] : List String), (["ACTS"] : List String), (["MusterError", "BadText", "BadSchedule"] : List String)⟩
def fa : List He.Fa := faX sg Mu.fnTab Mu.globTab
def fn : List He.DefD := fnX tab bd
def ts : List He.Tab := tabsOf sg Mu.gdTab
def ex : PySem.W.Frag → Bool := exB sg Mu.gdTab
abbrev R : PySem.W.OpenRow := PySem.W.OpenLaw.row PySem.Challenge.rw_mustercall_k52_schedules_read_back
abbrev hk : PySem.W.Hook := hookE fa fn ts ex
def ob (s : PySem.W.SharedT) : AlE := obsEG s.n fa fn ts ex (HandSHeadRun.getT s)
theorem ob_eq (s : PySem.W.SharedT) : ob s = hk.obs s.abs := obsEG_eq (PySem.W.absHeap_size _ _ _).symm (HandSHeadRun.getT_eq s)

def ftW (w : World) (r : String) (b : Bool) : World := { w with params := { w.params with followText := fun s => bif s == r then b else w.params.followText s } }
theorem ftW_eq (w : World) (r : String) : ftW w r (w.params.followText r) = w := by
  have e : (fun s => bif s == r then w.params.followText r else w.params.followText s) = w.params.followText := by
    funext s
    cases q : s == r with
    | true => rw [cond_true, beq_iff_eq.mp q]
    | false => rw [cond_false]
  unfold ftW
  rw [e]
open PySem PySem.W PySem.Calls PyProof.Rows in
theorem pAT (w : World) (os : OsState) : (HandSHeadRun.endF (HandSHeadRun.stepQ (HandSHeadRun.denQ HandSHeadRun.tabQ) R.prog (ftW w "special-get-raises" true)) 20000 R.prog (ftW w "special-get-raises" true) os).map (fun s => (HandSHeadRun.looksF R.prog (boot_heap ((ftW w "special-get-raises" true)).params) s.abs, HandSHeadRun.seenQ (PySem.W.view R.prog [44]) ((["MusterError", "BadText", "BadSchedule", "MOST_NUMBER", "MOST_DIGITS", "MOST_DEPTH", "MOST_LENGTH", "DIGITS_texts", "PERCENT", "GREATEST", "is_printable", "is_integer", "_text_of", "encode", "_read_integer", "_read_tuple", "_read", "decode", "MOST_TICKS", "ACTS", "check_act", "MOST_FIGURES", "DIGITS_schedule", "number_of", "_value_of"] : List PySem.Str) ++ (["_item_of", "_act_of", "_count_of", "parse_schedule", "_line_of", "act_line", "_law_bag", "_law_draw", "_law_text", "_law_groups", "_law_number", "_law_act", "_law_line", "_law_skipped"] : List PySem.Str)) (importedModules R.prog.main.body) (fun s => xlAt (PySem.W.view R.prog [44]) [] s && recOk (R.toRowW).records s) s.abs)) = some (true, openGood (PySem.W.view R.prog [44]) ((["MusterError", "BadText", "BadSchedule", "MOST_NUMBER", "MOST_DIGITS", "MOST_DEPTH", "MOST_LENGTH", "DIGITS_texts", "PERCENT", "GREATEST", "is_printable", "is_integer", "_text_of", "encode", "_read_integer", "_read_tuple", "_read", "decode", "MOST_TICKS", "ACTS", "check_act", "MOST_FIGURES", "DIGITS_schedule", "number_of", "_value_of"] : List PySem.Str) ++ (["_item_of", "_act_of", "_count_of", "parse_schedule", "_line_of", "act_line", "_law_bag", "_law_draw", "_law_text", "_law_groups", "_law_number", "_law_act", "_law_line", "_law_skipped"] : List PySem.Str))) := by
  kernel_rfl
open PySem PySem.W PySem.Calls PyProof.Rows in
theorem pBT (w : World) (os : OsState) : (HandSHeadRun.endF (HandSHeadRun.stepQ (HandSHeadRun.denQ HandSHeadRun.tabQ) R.prog (ftW w "special-get-raises" true)) 20000 R.prog (ftW w "special-get-raises" true) os).map (fun s => oFa s.n fa (HandSHeadRun.getT s)) = some true := by
  kernel_rfl
open PySem PySem.W PySem.Calls PyProof.Rows in
theorem pCT (w : World) (os : OsState) : (HandSHeadRun.endF (HandSHeadRun.stepQ (HandSHeadRun.denQ HandSHeadRun.tabQ) R.prog (ftW w "special-get-raises" true)) 20000 R.prog (ftW w "special-get-raises" true) os).map (fun s => oFn s.n fn (HandSHeadRun.getT s)) = some true := by
  kernel_rfl
open PySem PySem.W PySem.Calls PyProof.Rows in
theorem pDT (w : World) (os : OsState) : (HandSHeadRun.endF (HandSHeadRun.stepQ (HandSHeadRun.denQ HandSHeadRun.tabQ) R.prog (ftW w "special-get-raises" true)) 20000 R.prog (ftW w "special-get-raises" true) os).map (fun s => oRs s.n fn ts ex (HandSHeadRun.getT s)) = some (fn.map He.DefD.val, ts.map (fun t => some (He.keysIn ((ftW w "special-get-raises" true)).params t.2)), true) := by
  kernel_rfl
theorem runT (w : World) : HandSHeadRun.RunEq R (PySem.W.view R.prog [44]) hk ob 20000 ((["MusterError", "BadText", "BadSchedule", "MOST_NUMBER", "MOST_DIGITS", "MOST_DEPTH", "MOST_LENGTH", "DIGITS_texts", "PERCENT", "GREATEST", "is_printable", "is_integer", "_text_of", "encode", "_read_integer", "_read_tuple", "_read", "decode", "MOST_TICKS", "ACTS", "check_act", "MOST_FIGURES", "DIGITS_schedule", "number_of", "_value_of"] : List PySem.Str) ++ (["_item_of", "_act_of", "_count_of", "parse_schedule", "_line_of", "act_line", "_law_bag", "_law_draw", "_law_text", "_law_groups", "_law_number", "_law_act", "_law_line", "_law_skipped"] : List PySem.Str)) (ftW w "special-get-raises" true) := fun os => map_three (pAT w os) (obs_parts (w := (ftW w "special-get-raises" true)) (pBT w os) (pCT w os) (pDT w os))
open PySem PySem.W PySem.Calls PyProof.Rows in
theorem pAF (w : World) (os : OsState) : (HandSHeadRun.endF (HandSHeadRun.stepQ (HandSHeadRun.denQ HandSHeadRun.tabQ) R.prog (ftW w "special-get-raises" false)) 20000 R.prog (ftW w "special-get-raises" false) os).map (fun s => (HandSHeadRun.looksF R.prog (boot_heap ((ftW w "special-get-raises" false)).params) s.abs, HandSHeadRun.seenQ (PySem.W.view R.prog [44]) ((["MusterError", "BadText", "BadSchedule", "MOST_NUMBER", "MOST_DIGITS", "MOST_DEPTH", "MOST_LENGTH", "DIGITS_texts", "PERCENT", "GREATEST", "is_printable", "is_integer", "_text_of", "encode", "_read_integer", "_read_tuple", "_read", "decode", "MOST_TICKS", "ACTS", "check_act", "MOST_FIGURES", "DIGITS_schedule", "number_of", "_value_of"] : List PySem.Str) ++ (["_item_of", "_act_of", "_count_of", "parse_schedule", "_line_of", "act_line", "_law_bag", "_law_draw", "_law_text", "_law_groups", "_law_number", "_law_act", "_law_line", "_law_skipped"] : List PySem.Str)) (importedModules R.prog.main.body) (fun s => xlAt (PySem.W.view R.prog [44]) [] s && recOk (R.toRowW).records s) s.abs)) = some (true, openGood (PySem.W.view R.prog [44]) ((["MusterError", "BadText", "BadSchedule", "MOST_NUMBER", "MOST_DIGITS", "MOST_DEPTH", "MOST_LENGTH", "DIGITS_texts", "PERCENT", "GREATEST", "is_printable", "is_integer", "_text_of", "encode", "_read_integer", "_read_tuple", "_read", "decode", "MOST_TICKS", "ACTS", "check_act", "MOST_FIGURES", "DIGITS_schedule", "number_of", "_value_of"] : List PySem.Str) ++ (["_item_of", "_act_of", "_count_of", "parse_schedule", "_line_of", "act_line", "_law_bag", "_law_draw", "_law_text", "_law_groups", "_law_number", "_law_act", "_law_line", "_law_skipped"] : List PySem.Str))) := by
  kernel_rfl
open PySem PySem.W PySem.Calls PyProof.Rows in
theorem pBF (w : World) (os : OsState) : (HandSHeadRun.endF (HandSHeadRun.stepQ (HandSHeadRun.denQ HandSHeadRun.tabQ) R.prog (ftW w "special-get-raises" false)) 20000 R.prog (ftW w "special-get-raises" false) os).map (fun s => oFa s.n fa (HandSHeadRun.getT s)) = some true := by
  kernel_rfl
open PySem PySem.W PySem.Calls PyProof.Rows in
theorem pCF (w : World) (os : OsState) : (HandSHeadRun.endF (HandSHeadRun.stepQ (HandSHeadRun.denQ HandSHeadRun.tabQ) R.prog (ftW w "special-get-raises" false)) 20000 R.prog (ftW w "special-get-raises" false) os).map (fun s => oFn s.n fn (HandSHeadRun.getT s)) = some true := by
  kernel_rfl
open PySem PySem.W PySem.Calls PyProof.Rows in
theorem pDF (w : World) (os : OsState) : (HandSHeadRun.endF (HandSHeadRun.stepQ (HandSHeadRun.denQ HandSHeadRun.tabQ) R.prog (ftW w "special-get-raises" false)) 20000 R.prog (ftW w "special-get-raises" false) os).map (fun s => oRs s.n fn ts ex (HandSHeadRun.getT s)) = some (fn.map He.DefD.val, ts.map (fun t => some (He.keysIn ((ftW w "special-get-raises" false)).params t.2)), true) := by
  kernel_rfl
theorem runF (w : World) : HandSHeadRun.RunEq R (PySem.W.view R.prog [44]) hk ob 20000 ((["MusterError", "BadText", "BadSchedule", "MOST_NUMBER", "MOST_DIGITS", "MOST_DEPTH", "MOST_LENGTH", "DIGITS_texts", "PERCENT", "GREATEST", "is_printable", "is_integer", "_text_of", "encode", "_read_integer", "_read_tuple", "_read", "decode", "MOST_TICKS", "ACTS", "check_act", "MOST_FIGURES", "DIGITS_schedule", "number_of", "_value_of"] : List PySem.Str) ++ (["_item_of", "_act_of", "_count_of", "parse_schedule", "_line_of", "act_line", "_law_bag", "_law_draw", "_law_text", "_law_groups", "_law_number", "_law_act", "_law_line", "_law_skipped"] : List PySem.Str)) (ftW w "special-get-raises" false) := fun os => map_three (pAF w os) (obs_parts (w := (ftW w "special-get-raises" false)) (pBF w os) (pCF w os) (pDF w os))
theorem run (w : World) : HandSHeadRun.RunEq R (PySem.W.view R.prog [44]) hk ob 20000 ((["MusterError", "BadText", "BadSchedule", "MOST_NUMBER", "MOST_DIGITS", "MOST_DEPTH", "MOST_LENGTH", "DIGITS_texts", "PERCENT", "GREATEST", "is_printable", "is_integer", "_text_of", "encode", "_read_integer", "_read_tuple", "_read", "decode", "MOST_TICKS", "ACTS", "check_act", "MOST_FIGURES", "DIGITS_schedule", "number_of", "_value_of"] : List PySem.Str) ++ (["_item_of", "_act_of", "_count_of", "parse_schedule", "_line_of", "act_line", "_law_bag", "_law_draw", "_law_text", "_law_groups", "_law_number", "_law_act", "_law_line", "_law_skipped"] : List PySem.Str)) w := by
  have key : ∀ b, HandSHeadRun.RunEq R (PySem.W.view R.prog [44]) hk ob 20000 ((["MusterError", "BadText", "BadSchedule", "MOST_NUMBER", "MOST_DIGITS", "MOST_DEPTH", "MOST_LENGTH", "DIGITS_texts", "PERCENT", "GREATEST", "is_printable", "is_integer", "_text_of", "encode", "_read_integer", "_read_tuple", "_read", "decode", "MOST_TICKS", "ACTS", "check_act", "MOST_FIGURES", "DIGITS_schedule", "number_of", "_value_of"] : List PySem.Str) ++ (["_item_of", "_act_of", "_count_of", "parse_schedule", "_line_of", "act_line", "_law_bag", "_law_draw", "_law_text", "_law_groups", "_law_number", "_law_act", "_law_line", "_law_skipped"] : List PySem.Str)) (ftW w "special-get-raises" b) := fun b => by
    cases b
    · exact runF w
    · exact runT w
  have := key (w.params.followText "special-get-raises")
  rw [ftW_eq] at this
  exact this
theorem chk : chkAll sg tab Mu.fnTab Mu.globTab = true := by kernel_rfl
theorem chkb : chkBd sg bd = true := by kernel_rfl
theorem b0 : BindOk t0 := fun _ _ _ _ _ _ us hl => match us, hl with | [_], _ => rfl
theorem b1 : BindOk t1 := fun _ _ _ _ _ _ us hl => match us, hl with | [_, _, _], _ => rfl
theorem b2 : BindOk t2 := fun _ _ _ _ _ _ us hl => match us, hl with | [_, _], _ => rfl
theorem b3 : BindOk t3 := fun _ _ _ _ _ _ us hl => match us, hl with | [_], _ => rfl
theorem b4 : BindOk t4 := fun _ _ _ _ _ _ us hl => match us, hl with | [_, _], _ => rfl
theorem b5 : BindOk t5 := fun _ _ _ _ _ _ us hl => match us, hl with | [_, _, _], _ => rfl
theorem b6 : BindOk t6 := fun _ _ _ _ _ _ us hl => match us, hl with | [_, _, _], _ => rfl
theorem b7 : BindOk t7 := fun _ _ _ _ _ _ us hl => match us, hl with | [_], _ => rfl
theorem b8 : BindOk t8 := fun _ _ _ _ _ _ us hl => match us, hl with | [_], _ => rfl
theorem b9 : BindOk t9 := fun _ _ _ _ _ _ us hl => match us, hl with | [_], _ => rfl
theorem b10 : BindOk t10 := fun _ _ _ _ _ _ us hl => match us, hl with | [_, _, _], _ => rfl
theorem b11 : BindOk t11 := fun _ _ _ _ _ _ us hl => match us, hl with | [_, _, _], _ => rfl
theorem b12 : BindOk t12 := fun _ _ _ _ _ _ us hl => match us, hl with | [_, _], _ => rfl
theorem b13 : BindOk t13 := fun _ _ _ _ _ _ us hl => match us, hl with | [_, _], _ => rfl
theorem b14 : BindOk t14 := fun _ _ _ _ _ _ us hl => match us, hl with | [_], _ => rfl
theorem b15 : BindOk t15 := fun _ _ _ _ _ _ us hl => match us, hl with | [_], _ => rfl
theorem b16 : BindOk t16 := fun _ _ _ _ _ _ us hl => match us, hl with | [_], _ => rfl
theorem b17 : BindOk t17 := fun _ _ _ _ _ _ us hl => match us, hl with | [_, _], _ => rfl
theorem b18 : BindOk t18 := fun _ _ _ _ _ _ us hl => match us, hl with | [_, _], _ => rfl
theorem b19 : BindOk t19 := fun _ _ _ _ _ _ us hl => match us, hl with | [_], _ => rfl
theorem b20 : BindOk t20 := fun _ _ _ _ _ _ us hl => match us, hl with | [_], _ => rfl
theorem b21 : BindOk t21 := fun _ _ _ _ _ _ us hl => match us, hl with | [_], _ => rfl
theorem b22 : BindOk t22 := fun _ _ _ _ _ _ us hl => match us, hl with | [_], _ => rfl
theorem b23 : BindOk t23 := fun _ _ _ _ _ _ us hl => match us, hl with | [_], _ => rfl
theorem b24 : BindOk t24 := fun _ _ _ _ _ _ us hl => match us, hl with | [_], _ => rfl
theorem b25 : BindOk t25 := fun _ _ _ _ _ _ us hl => match us, hl with | [_], _ => rfl
theorem binds : ∀ t ∈ tab, BindOk t := by
  intro t ht
  simp only [tab, List.mem_append, List.mem_cons, List.not_mem_nil, or_false] at ht
  rcases ht with ((rfl | rfl | rfl | rfl | rfl | rfl | rfl | rfl | rfl | rfl | rfl | rfl | rfl | rfl | rfl | rfl | rfl | rfl | rfl | rfl | rfl | rfl | rfl | rfl | rfl) | (rfl))
  · exact b0
  · exact b1
  · exact b2
  · exact b3
  · exact b4
  · exact b5
  · exact b6
  · exact b7
  · exact b8
  · exact b9
  · exact b10
  · exact b11
  · exact b12
  · exact b13
  · exact b14
  · exact b15
  · exact b16
  · exact b17
  · exact b18
  · exact b19
  · exact b20
  · exact b21
  · exact b22
  · exact b23
  · exact b24
  · exact b25
end Law
end

section
set_option maxRecDepth 10000
set_option linter.all false
set_option maxHeartbeats 2000000
namespace Mu
theorem fdiv24 (h : Hp) (a b : Int) (h0 : 0 < b) (h1 : b ≤ 1000000000000000000000000) : binR .fdiv h (.int a) (.int b) = .ok (.int (a / b)) h :=
  binR_fdiv h a b h0 (Nat.lt_of_le_of_lt (show b.natAbs ≤ 1000000000000000000000000 by omega) (by decide +kernel))
/-! ### a bag of draws at b -/
def Bag (b : Nat) (h : Hp) : Prop := ∃ x y z, h[b]? = some (.lst [.int x, .int y, .int z])
/-- later: all but the bag stands as before -/
structure Ex (b : Nat) (h h' : Hp) : Prop where
  len : h.length ≤ h'.length
  bag : Bag b h'
  old : ∀ i, i < h.length → i ≠ b → h'[i]? = h[i]?
theorem Bag.app {b : Nat} {h g : Hp} (B : Bag b h) : Bag b (h ++ g) := by
  obtain ⟨x, y, z, e⟩ := B; exact ⟨x, y, z, get_app e⟩
theorem Ex.refl {b : Nat} {h : Hp} (B : Bag b h) : Ex b h h := ⟨Nat.le_refl _, B, fun _ _ _ => rfl⟩
theorem Ex.trans {b : Nat} {h h1 h2 : Hp} (a : Ex b h h1) (c : Ex b h1 h2) : Ex b h h2 :=
  ⟨Nat.le_trans a.len c.len, c.bag, fun i hi hb => by rw [c.old i (Nat.lt_of_lt_of_le hi a.len) hb, a.old i hi hb]⟩
theorem Ex.app {b : Nat} {h h1 : Hp} (a : Ex b h h1) (g : Hp) : Ex b h (h1 ++ g) :=
  ⟨by have := a.len; simp; omega, a.bag.app, fun i hi hb => by rw [List.getElem?_append_left (Nat.lt_of_lt_of_le hi a.len), a.old i hi hb]⟩
theorem Ex.new {b : Nat} {h : Hp} (B : Bag b h) (g : Hp) : Ex b h (h ++ g) := (Ex.refl B).app g
theorem Ex.get {b : Nat} {h h' : Hp} (E : Ex b h h') {i : Nat} {o : AO} (e : h[i]? = some o) (hb : i ≠ b) : h'[i]? = some o := by rw [E.old i (lt_of_get e) hb, e]
def DrawI (b : Nat) (h : Hp) (many : Int) (d : D) (h' : Hp) : Prop := (∃ r, d = .int r ∧ 0 ≤ r ∧ r < many) ∧ Ex b h h' ∧ h'.length = h.length
theorem draw_ok (n : Nat) {b : Nat} {h : Hp} (B : Bag b h) (many : Int) (m0 : 0 < many) (m1 : many ≤ 1000000000000000000000000) : Ok (DrawI b h many) (callN prog (n + 1) "_law_draw" [.obj b, .int many] h) := by
  rw [call__law_draw]
  obtain ⟨x, y, z, e⟩ := B
  have hl := lt_of_get e
  have fin : ∀ (u v : Int), DrawI b h many (.int (u % many)) (h.set b (.lst [.int (u / many), .int v, .int z])) := fun u v =>
    ⟨⟨_, rfl, Int.emod_nonneg _ (by omega), Int.emod_lt_of_pos _ m0⟩, ⟨by simp, ⟨_, _, _, by rw [gset_eq, e]; rfl⟩, fun i _ hb => gset_ne h _ (Ne.symm hb)⟩, by simp⟩
  by_cases q : x = 0
  · subst q
    have s0 : 0 ≤ (y * 48271 + z * 69621 + 11) % 2147483647 := Int.emod_nonneg _ (by decide)
    have s1 : (y * 48271 + z * 69621 + 11) % 2147483647 < 2147483647 := Int.emod_lt_of_pos _ (by decide)
    have m48 := fun h => mul_int h y 48271 (.inr (by decide))
    have m69 := fun h => mul_int h z 69621 (.inr (by decide))
    have m16 := fun h => mul_int h z 16807 (.inr (by decide))
    have m21 := fun h => mul_int h ((y * 48271 + z * 69621 + 11) % 2147483647) 2147483629 (.inr (by decide))
    have mss := fun h => mul_int h ((y * 48271 + z * 69621 + 11) % 2147483647) ((y * 48271 + z * 69621 + 11) % 2147483647) (.inr (by omega))
    generalize hs : (y * 48271 + z * 69621 + 11) % 2147483647 = s at *
    simp [vg0, vg1, vs0, vs1, fget, fput, cmpR_eq', cmpR_ne', eqR_def, memR_def, dlook, dput, mod_ok, fdiv_ok, gset_eq, gset_ne, e, m48, m69, m16, hs, m21, mss, m0, m1, fdiv24]
    exact fin _ _
  · simp [vg0, vg1, vs0, vs1, fget, fput, cmpR_eq', cmpR_ne', eqR_def, memR_def, dlook, dput, mod_ok, fdiv_ok, gset_eq, gset_ne, e, q, m0, m1, fdiv24]
    exact fin _ _
/-- a draw, whatever stands behind -/
structure Loc (b : Nat) (h h' : Hp) : Prop extends Ex b h h' where
  eql : h'.length = h.length
theorem Loc.trans {b : Nat} {h h1 h2 : Hp} (a : Loc b h h1) (c : Loc b h1 h2) : Loc b h h2 := ⟨a.toEx.trans c.toEx, c.eql.trans a.eql⟩
theorem draw_loc (n : Nat) {b : Nat} {h : Hp} (B : Bag b h) (many : Int) (m0 : 0 < many) (m1 : many ≤ 1000000000000000000000000) : ∃ r h', 0 ≤ r ∧ r < many ∧ Loc b h h' ∧ ∀ g, callN prog (n + 1) "_law_draw" [.obj b, .int many] (h ++ g) = .ok (.int r) (h' ++ g) := by
  obtain ⟨x, y, z, e⟩ := B
  have hl := lt_of_get e
  have fin : ∀ (u v : Int), (∀ g, callN prog (n + 1) "_law_draw" [.obj b, .int many] (h ++ g) = .ok (.int (u % many)) ((h ++ g).set b (.lst [.int (u / many), .int v, .int z]))) → ∃ r h', 0 ≤ r ∧ r < many ∧ Loc b h h' ∧ ∀ g, callN prog (n + 1) "_law_draw" [.obj b, .int many] (h ++ g) = .ok (.int r) (h' ++ g) := fun u v k =>
    ⟨_, h.set b (.lst [.int (u / many), .int v, .int z]), Int.emod_nonneg _ (by omega), Int.emod_lt_of_pos _ m0, ⟨⟨by simp, ⟨_, _, _, by rw [gset_eq, e]; rfl⟩, fun i _ hb => gset_ne h _ (Ne.symm hb)⟩, by simp⟩, fun g => by rw [k g, List.set_append_left _ _ hl]⟩
  have e' := fun g => get_app (g := g) e
  by_cases q : x = 0
  · subst q
    have s0 : 0 ≤ (y * 48271 + z * 69621 + 11) % 2147483647 := Int.emod_nonneg _ (by decide)
    have s1 : (y * 48271 + z * 69621 + 11) % 2147483647 < 2147483647 := Int.emod_lt_of_pos _ (by decide)
    have m48 := fun h => mul_int h y 48271 (.inr (by decide))
    have m69 := fun h => mul_int h z 69621 (.inr (by decide))
    have m16 := fun h => mul_int h z 16807 (.inr (by decide))
    have m21 := fun h => mul_int h ((y * 48271 + z * 69621 + 11) % 2147483647) 2147483629 (.inr (by decide))
    have mss := fun h => mul_int h ((y * 48271 + z * 69621 + 11) % 2147483647) ((y * 48271 + z * 69621 + 11) % 2147483647) (.inr (by omega))
    generalize hs : (y * 48271 + z * 69621 + 11) % 2147483647 = s at *
    refine fin (s * 2147483629 + (s * s + z * 16807) % 2147483629) s fun g => ?_
    rw [call__law_draw]
    simp [vg0, vg1, vs0, vs1, fget, fput, cmpR_eq', cmpR_ne', eqR_def, memR_def, dlook, dput, mod_ok, fdiv_ok, gset_eq, gset_ne, e', m48, m69, m16, hs, m21, mss, m0, m1, fdiv24]
  · refine fin x y fun g => ?_
    rw [call__law_draw]
    simp [vg0, vg1, vs0, vs1, fget, fput, cmpR_eq', cmpR_ne', eqR_def, memR_def, dlook, dput, mod_ok, fdiv_ok, gset_eq, gset_ne, e', q, m0, m1, fdiv24]
theorem bag_ok (n : Nat) (ns : List Int) (k : Int) (hk : 0 ≤ k) (h : Hp) : Ok (fun d h' => d = .obj h.length ∧ ∃ x y z, h' = h ++ [.lst [.int x, .int y, .int z]]) (callN prog (n + 1) "_law_bag" [.lst (ns.map .int), .int k] h) := by
  rw [call__law_bag]
  have key : ∀ c : Int, Ok (fun d h' => d = .obj h.length ∧ ∃ x y z, h' = h ++ [.lst [.int x, .int y, .int z]]) (if (1000000000000000000 : Int) ≤ c then (.ok (.obj h.length) (h ++ [.lst [.int c, .int c, .int k]]) : R D) else .ok (.obj h.length) (h ++ [.lst [.int 0, .int c, .int k]])) := by
    intro c
    split
    · exact ⟨_, _, rfl, rfl, _, _, _, rfl⟩
    · exact ⟨_, _, rfl, rfl, _, _, _, rfl⟩
  by_cases z : k < ns.length
  · have hk' : k.toNat < ns.length := by omega
    have := ix_lst h (ns.map .int) k (.int ns[k.toNat]) hk (by simp [List.getElem?_eq_getElem hk'])
    have k2 := key ns[k.toNat]
    simp [vg0, vg1, vs0, vs1, fget, fput, cmpR_eq', cmpR_ne', eqR_def, memR_def, dlook, dput, mod_ok, fdiv_ok, gset_eq, gset_ne, z, this, pow_ok] <;> simpa using k2
  · have k2 := key 0
    simp [vg0, vg1, vs0, vs1, fget, fput, cmpR_eq', cmpR_ne', eqR_def, memR_def, dlook, dput, mod_ok, fdiv_ok, gset_eq, gset_ne, z, pow_ok] <;> simpa using k2
theorem cut_sub {α : Type} (xs : List α) (lo hi : Option Int) : ∀ x ∈ cut xs lo hi, x ∈ xs := by
  intro x hx
  unfold cut at hx
  exact List.mem_of_mem_take (List.mem_of_mem_drop hx)
theorem cut_len {α : Type} (xs : List α) (lo hi : Option Int) : (cut xs lo hi).length ≤ xs.length := by
  unfold cut
  simp only [List.length_drop, List.length_take]
  omega
end Mu
end

section
set_option maxRecDepth 10000
set_option linter.all false
set_option maxHeartbeats 2000000
namespace Mu
/-! ### the texts of values -/
mutual
def enc : D → List Nat
  | .str s => natDigits s.length ++ 58 :: s
  | .int i => intText i
  | .tup ds => 40 :: (encs ds ++ [41])
  | _ => []
def encs : List D → List Nat
  | [] => []
  | d :: ds => enc d ++ 59 :: encs ds
end
def okStr (s : List Nat) : Prop := ∀ c ∈ s, 32 ≤ c ∧ c ≤ 126 ∧ c ≠ 37
def okInt (i : Int) : Prop := i.natAbs ≤ 999999999999999999999999
/-- a plain value of so many levels -/
def Tv : Nat → D → Prop
  | _, .int i => okInt i
  | _, .str s => okStr s ∧ s.length ≤ 1000000
  | n + 1, .tup ds => ∀ d ∈ ds, Tv n d
  | _, _ => False
theorem Tv.mono : ∀ {n m : Nat} {d : D}, n ≤ m → Tv n d → Tv m d
  | _, _, .int _, _, w => by simpa [Tv] using w
  | _, _, .str _, _, w => by simpa [Tv] using w
  | 0, _, .tup _, _, w => by simp [Tv] at w
  | n + 1, 0, .tup _, k, _ => absurd k (by omega)
  | n + 1, m + 1, .tup ds, k, w => by
    rw [Tv] at w ⊢
    exact fun d hd => Tv.mono (by omega) (w d hd)
  | n, _, .non, _, w => by cases n <;> simp [Tv] at w
  | n, _, .bl _, _, w => by cases n <;> simp [Tv] at w
  | n, _, .obj _, _, w => by cases n <;> simp [Tv] at w
  | n, _, .lst _, _, w => by cases n <;> simp [Tv] at w
theorem enc_str (s : List Nat) : enc (.str s) = natDigits s.length ++ 58 :: s := by rw [enc]
theorem enc_int (i : Int) : enc (.int i) = intText i := by rw [enc]
theorem enc_tup (ds : List D) : enc (.tup ds) = 40 :: (encs ds ++ [41]) := by rw [enc]
theorem encs_nil : encs [] = [] := by rw [encs]
theorem encs_cons (d : D) (ds : List D) : encs (d :: ds) = enc d ++ 59 :: encs ds := by rw [encs]
end Mu
end

section
set_option maxRecDepth 10000
set_option linter.all false
set_option maxHeartbeats 2000000
namespace Mu
theorem cmp_sp (h : Hp) (c : Nat) : cmpR .lt h (.str [c]) (.str (cp " ")) = .ok (.bl (decide (c < 32))) h := by
  rw [show cp " " = [32] from rfl, show cmpR .lt h (.str [c]) (.str [32]) = .ok (.bl (ltS [c] [32])) h from rfl]
  have : ltS [c] [32] = decide (c < 32) := by simp [ltS]; omega
  rw [this]
theorem cmp_ti (h : Hp) (c : Nat) : cmpR .gt h (.str [c]) (.str (cp "~")) = .ok (.bl (decide (126 < c))) h := by
  rw [show cp "~" = [126] from rfl, show cmpR .gt h (.str [c]) (.str [126]) = .ok (.bl (ltS [126] [c])) h from rfl]
  have : ltS [126] [c] = decide (126 < c) := by simp [ltS]; omega
  rw [this]
theorem ord1 (h : Hp) (c : Nat) : bltR .ord h [.str [c]] = .ok (.int c) h := rfl
theorem pr_loop (n : Nat) (h : Hp) (v : Option D) : ∀ (s : List Nat) (x : Option D), okStr s → ∃ x', forL (fun _ => true) (forK (cxP prog n) (.one 1) b_is_printable_1) (s.map fun c => .str [c]) [v, x] h = .nx [v, x'] h
  | [], x, _ => ⟨x, rfl⟩
  | c :: s, x, hc => by
    obtain ⟨x', ih⟩ := pr_loop n h v s (some (.str [c])) fun d hd => hc d (List.mem_cons_of_mem _ hd)
    obtain ⟨c1, c2, c3⟩ := hc c (List.mem_cons_self ..)
    have e1 : ¬ c < 32 := by omega
    have e2 : ¬ 126 < c := by omega
    have e3 : ¬ (c : Int) = 37 := by omega
    have st : forK (cxP prog n) (.one 1) b_is_printable_1 (.str [c]) [v, x] h = .nx [v, some (.str [c])] h := by
      simp [vg0, vg1, vs0, vs1, fget, fput, cmpR_eq', cmpR_ne', eqR_def, memR_def, dlook, dput, mod_ok, fdiv_ok, gset_eq, gset_ne, forK_one, cmp_sp, cmp_ti, ord1, e1, e2, e3]
    refine ⟨x', ?_⟩
    rw [List.map_cons, forL, st]
    simp only [if_true]
    exact ih
theorem isprint (n : Nat) (h : Hp) {s : List Nat} (e : okStr s) : callN prog (n + 1) "is_printable" [.str s] h = .ok (.bl true) h := by
  obtain ⟨x', e1⟩ := pr_loop n h (some (.str s)) s none e
  have ef := ex_for (c := cxP prog n) (σ := [some (.str s), none]) (h := h) (h1 := h) (t := .one 1) (it := .seq (.v 0)) (b := b_is_printable_1) (ds := s.map fun c => .str [c]) (g := none) (by simp [vg0, vg1, vs0, vs1, fget, fput, cmpR_eq', cmpR_ne', eqR_def, memR_def, dlook, dput, mod_ok, fdiv_ok, gset_eq, gset_ne])
  have et : (fun h2 => gdOk h h2 none) = (fun _ : Hp => true) := rfl
  rw [et] at ef
  rw [call_is_printable]
  have es : exec (cxP prog n) [some (.str s), none] h s_is_printable_1 = .nx [some (.str s), x'] h := ef.trans e1
  simp [vg0, vg1, vs0, vs1, fget, fput, cmpR_eq', cmpR_ne', eqR_def, memR_def, dlook, dput, mod_ok, fdiv_ok, gset_eq, gset_ne, -s_is_printable_1, es]
end Mu
end

section
set_option maxRecDepth 10000
set_option linter.all false
set_option maxHeartbeats 4000000
namespace Mu
theorem encs_mem : ∀ {ds : List D} {d : D}, d ∈ ds → (enc d).length + 1 ≤ (encs ds).length
  | x :: ds, d, hd => by
    rw [encs_cons]
    rcases List.mem_cons.mp hd with rfl | hd
    · simp
    · have := encs_mem hd; simp; omega
theorem encs_len : ∀ ds : List D, ds.length ≤ (encs ds).length
  | [] => by simp
  | d :: ds => by rw [encs_cons]; have := encs_len ds; simp; omega
theorem encs_flat : ∀ ds : List D, (ds.map fun d => enc d ++ [59]).flatten = encs ds
  | [] => by rw [encs_nil]; rfl
  | d :: ds => by rw [encs_cons, List.map_cons, List.flatten_cons, encs_flat ds]; simp
theorem joinS_nil : ∀ ts : List (List Nat), joinS [] ts = ts.flatten
  | [] => rfl
  | [s] => by simp [joinS]
  | s :: t :: r => by simp only [joinS]; rw [joinS_nil (t :: r)]; simp
theorem allStr_map : ∀ ts : List (List Nat), allStr (ts.map D.str) = some ts
  | [] => rfl
  | c :: cs => by
    have := allStr_map cs
    simp only [List.map_cons, allStr, this]; rfl
theorem sum_flat : ∀ ts : List (List Nat), (ts.map List.length).sum = ts.flatten.length
  | [] => rfl
  | t :: ts => by simp
theorem join_ok (h : Hp) (ts : List (List Nat)) (hl : ts.flatten.length ≤ 1000000) : bmR .join (h ++ [.lst (ts.map D.str)]) (.str (cp "")) [.obj h.length] = .ok (.str ts.flatten) (h ++ [.lst (ts.map D.str)]) := by
  have hq : (h ++ [AO.lst (ts.map D.str)])[h.length]? = some (.lst (ts.map D.str)) := by simp
  rw [show cp "" = [] from by decide, bmR_str]
  simp only [strM, seqOf, hq, Option.bind_some, allStr_map, List.length_nil, Nat.mul_zero, Nat.add_zero, joinS_nil]
  rw [if_pos (by rw [sum_flat]; exact lim_ge hl)]
theorem text_ok : ∀ (n k : Nat) (d : D) (h : Hp) (dp : Nat), Tv n d → dp + n ≤ 8 → (enc d).length ≤ 50000 → ∃ g, callN prog (n + k + 2) "_text_of" [d, .int dp] h = .ok (.str (enc d)) (h ++ g)
  | n, k, .str s, h, dp, w, _, hl => by
    refine ⟨[], ?_⟩
    have w' : okStr s ∧ s.length ≤ 1000000 := by cases n <;> simpa [Tv] using w
    have e1 := isprint (n + k) h w'.1
    rw [enc_str] at hl ⊢
    rw [call__text_of]
    have f1 : fmtR (.str s) = some s := rfl
    have f2 : fmtR (.int (s.length : Int)) = some (natDigits s.length) := by
      simp only [fmtR]
      have := w'.2
      rw [if_pos (Nat.lt_of_le_of_lt (show (s.length : Int).natAbs ≤ 1000000 by omega) (by decide +kernel)), intText_nat]
    simp at hl
    have l1 : s.length ≤ 100000 := by omega
    have l2 : (natDigits s.length).length ≤ 100000 := by omega
    have k1 : ∀ h, fmtK (.str s) h = .ok (.str s) h := fun h => by simp only [fmtK, f1]; rw [if_pos l1]
    have k2 : ∀ h, fmtK (.int (s.length : Int)) h = .ok (.str (natDigits s.length)) h := fun h => by simp only [fmtK, f2]; rw [if_pos l2]
    have k3 : fstrK [.str (natDigits s.length), .str (cp ":"), .str s] h = .ok (.str (natDigits s.length ++ 58 :: s)) h := by
      have : allStr [.str (natDigits s.length), .str (cp ":"), .str s] = some [natDigits s.length, [58], s] := rfl
      simp only [fstrK, this]
      simp
    simp [vg0, vg1, vs0, vs1, fget, fput, cmpR_eq', cmpR_ne', eqR_def, memR_def, dlook, dput, mod_ok, fdiv_ok, gset_eq, gset_ne, e1, k1, k2, k3]
  | n, k, .int i, h, dp, w, _, hl => by
    refine ⟨[], ?_⟩
    have w' : okInt i := by cases n <;> simpa [Tv] using w
    unfold okInt at w'
    rw [enc_int] at hl ⊢
    rw [call__text_of]
    have e1 : callN prog (n + k + 1) "is_integer" [.int i, .int (-999999999999999999999999), .int 999999999999999999999999] h = .ok (.bl true) h := by
      rw [call_is_integer]
      have q1 : -999999999999999999999999 ≤ i := by omega
      have q2 : i ≤ 999999999999999999999999 := by omega
      simp [vg0, vg1, vs0, vs1, fget, fput, cmpR_eq', cmpR_ne', eqR_def, memR_def, dlook, dput, mod_ok, fdiv_ok, gset_eq, gset_ne, q1, q2]
    have e2 : bltR .str h [.int i] = .ok (.str (intText i)) h := str_int h i (Nat.lt_of_le_of_lt w' (by decide +kernel))
    simp [vg0, vg1, vs0, vs1, fget, fput, cmpR_eq', cmpR_ne', eqR_def, memR_def, dlook, dput, mod_ok, fdiv_ok, gset_eq, gset_ne, e1, e2]
  | n + 1, k, .tup ds, h, dp, w, hd, hl => by
    rw [Tv] at w
    rw [enc_tup] at hl ⊢
    simp at hl
    have lc : ∀ (es : List D) (acc : List (List Nat)) (g0 : Hp), (∀ d ∈ es, d ∈ ds) → acc.length + es.length ≤ 100000 → ∃ g, lcL (fun _ => true) (lcS0 (cxP prog (n + 1 + k + 1)) [some (.tup ds), some (.int dp), none] (.one 2) (.bin .add (.call "_text_of" (.cons (.v 2) (.cons (.bin .add (.v 1) (.int 1)) .nil))) (.str ";"))) es (acc.map D.str) (h ++ g0) =
        .ok ((acc ++ es.map fun d => enc d ++ [59]).map D.str) (h ++ g) := by
      intro es
      induction es with
      | nil => intro acc g0 _ _; exact ⟨g0, by simp [lcL]⟩
      | cons d es ih =>
        intro acc g0 hm hl2
        simp only [List.length_cons] at hl2
        have hdm := hm d (List.mem_cons_self ..)
        have hdl := encs_mem hdm
        obtain ⟨g1, e1⟩ := text_ok n k d (h ++ g0) (dp + 1) (w d hdm) (by omega) (by omega)
        obtain ⟨g2, e2⟩ := ih (acc ++ [enc d ++ [59]]) (g0 ++ g1) (fun z hz => hm z (List.mem_cons_of_mem _ hz)) (by simp; omega)
        refine ⟨g2, ?_⟩
        have fu : n + 1 + k + 1 = n + k + 2 := by omega
        have ad : ∀ H, binR .add H (.str (enc d)) (.str (cp ";")) = .ok (.str (enc d ++ [59])) H := fun H => add_str H _ _ (by show (enc d).length + 1 ≤ _; omega)
        rw [lcL, lcS0_one]
        simp only [fu] at e2 ⊢
        rw [← List.append_assoc] at e2
        have la : acc.length < LIM := lim_lt (by omega)
        rw [show ((dp + 1 : Nat) : Int) = (dp : Int) + 1 by omega] at e1
        generalize h ++ g0 = H at *
        simp [vg0, vg1, vs0, vs1, fget, fput, cmpR_eq', cmpR_ne', eqR_def, memR_def, dlook, dput, mod_ok, fdiv_ok, gset_eq, gset_ne, e1, ad, la]
        simp at e2
        exact e2
    obtain ⟨g, e⟩ := lc ds [] [] (fun d hd => hd) (by have := encs_len ds; simp; omega)
    have j := join_ok (h ++ g) (ds.map fun d => enc d ++ [59]) (by rw [encs_flat]; omega)
    rw [encs_flat] at j
    have nd : ¬ (8 : Int) ≤ (dp : Int) := by omega
    refine ⟨g ++ [.lst ((ds.map fun d => enc d ++ [59]).map D.str)], ?_⟩
    rw [show n + 1 + k + 2 = (n + 1 + k + 1) + 1 from rfl, call__text_of]
    simp at e j
    have a1 : ∀ H, binR .add H (.str (cp "(")) (.str (encs ds)) = .ok (.str (40 :: encs ds)) H := fun H => add_str H _ _ (by show 1 + (encs ds).length ≤ _; omega)
    have a2 : ∀ H, binR .add H (.str (40 :: encs ds)) (.str (cp ")")) = .ok (.str (40 :: (encs ds ++ [41]))) H := fun H => add_str H _ _ (by show (encs ds).length + 1 + 1 ≤ _; omega)
    simp [vg0, vg1, vs0, vs1, fget, fput, cmpR_eq', cmpR_ne', eqR_def, memR_def, dlook, dput, mod_ok, fdiv_ok, gset_eq, gset_ne, nd, e, j, a1, a2]
  | 0, _, .tup _, _, _, w, _, _ => by simp [Tv] at w
  | n, _, .non, _, _, w, _, _ => by cases n <;> simp [Tv] at w
  | n, _, .bl _, _, _, w, _, _ => by cases n <;> simp [Tv] at w
  | n, _, .obj _, _, _, w, _, _ => by cases n <;> simp [Tv] at w
  | n, _, .lst _, _, _, w, _, _ => by cases n <;> simp [Tv] at w
end Mu
end

section
set_option maxRecDepth 10000
set_option linter.all false
set_option maxHeartbeats 4000000
namespace Mu
theorem clamp_nat (i n : Nat) (h : i ≤ n) : clampI (i : Int) n = i := by
  unfold clampI
  rw [if_neg (by omega)]
  simp; omega
/-- text[a:b] where mid stands between -/
theorem cut_mid (pre mid post : List Nat) : cut (pre ++ (mid ++ post)) (some (pre.length : Int)) (some ((pre.length + mid.length : Nat) : Int)) = mid := by
  unfold cut
  simp only [List.length_append]
  rw [clamp_nat _ _ (by omega), clamp_nat _ _ (by omega), List.take_append, List.take_of_length_le (by omega), show pre.length + mid.length - pre.length = mid.length by omega, List.take_left, List.drop_left]
/-- text[a:a+1] -/
theorem cut_one (pre rest : List Nat) : cut (pre ++ rest) (some (pre.length : Int)) (some ((pre.length : Int) + 1)) = rest.take 1 := by
  cases rest with
  | nil =>
    have e : clampI ((pre.length : Int) + 1) pre.length = pre.length := by
      unfold clampI; rw [if_neg (by omega)]; omega
    unfold cut
    simp [e, clamp_nat]
  | cons c rest =>
    have := cut_mid pre [c] rest
    simpa using this
theorem digits_contains (c : Nat) : (cp "0123456789").contains c = isDig c := by
  have e : cp "0123456789" = [48, 49, 50, 51, 52, 53, 54, 55, 56, 57] := by decide
  rw [e]
  by_cases h : 48 ≤ c ∧ c ≤ 57
  · have : c = 48 ∨ c = 49 ∨ c = 50 ∨ c = 51 ∨ c = 52 ∨ c = 53 ∨ c = 54 ∨ c = 55 ∨ c = 56 ∨ c = 57 := by omega
    rcases this with q | q | q | q | q | q | q | q | q | q <;> subst q <;> decide
  · have n : isDig c = false := by simp [isDig]; omega
    rw [n]
    simp
    omega
def NoDig (post : List Nat) : Prop := ∀ c r, post = c :: r → isDig c = false
theorem dig_loop (n : Nat) (h : Hp) (x1 x2 : Option D) (post : List Nat) (hp : NoDig post) : ∀ (ds pre : List Nat) (N : Nat), ds.all isDig = true → ds.length < N →
    whlL (fun σ h => evT (cxP prog n) σ h (.and (.cmp .lt (.v 3) (.blt .len (.cons (.v 0) .nil))) (.cmp .isin (.ix (.v 0) (.v 3)) (.glob "DIGITS_texts")))) (fun σ h => execs (cxP prog n) σ h b__read_integer_3) N [some (.str (pre ++ (ds ++ post))), x1, x2, some (.int (pre.length : Int))] h =
      .nx [some (.str (pre ++ (ds ++ post))), x1, x2, some (.int ((pre.length + ds.length : Nat) : Int))] h
  | [], pre, N + 1, _, _ => by
    rw [whlL]
    cases post with
    | nil => simp [vg0, vg1, vs0, vs1, fget, fput, cmpR_eq', cmpR_ne', eqR_def, memR_def, dlook, dput, mod_ok, fdiv_ok, gset_eq, gset_ne]
    | cons c r =>
      have hc := hp c r rfl
      have ix := ix_str h (pre ++ c :: r) (pre.length : Int) c (by omega) (by simp)
      have il : inR h (.str [c]) (.str (cp "0123456789")) = some (isDig c) := by rw [← digits_contains]; rfl
      have lt : (pre.length : Int) < (pre.length : Int) + ((r.length : Int) + 1) := by omega
      simp [vg0, vg1, vs0, vs1, fget, fput, cmpR_eq', cmpR_ne', eqR_def, memR_def, dlook, dput, mod_ok, fdiv_ok, gset_eq, gset_ne, ix, il, hc, lt]
  | d :: ds, pre, N + 1, hd, hl => by
    simp only [List.all_cons, Bool.and_eq_true] at hd
    simp only [List.length_cons] at hl
    have ih := dig_loop n h x1 x2 post hp ds (pre ++ [d]) N hd.2 (by omega)
    have et : pre ++ [d] ++ (ds ++ post) = pre ++ (d :: ds ++ post) := by simp
    rw [et] at ih
    have el : (((pre ++ [d]).length : Nat) : Int) = (pre.length : Int) + 1 := by simp
    have el2 : (((pre ++ [d]).length + ds.length : Nat) : Int) = ((pre.length + (d :: ds).length : Nat) : Int) := by simp; omega
    rw [el, el2] at ih
    have ix := ix_str h (pre ++ (d :: ds ++ post)) (pre.length : Int) d (by omega) (by simp)
    have il : inR h (.str [d]) (.str (cp "0123456789")) = some (isDig d) := by rw [← digits_contains]; rfl
    have lt : (pre.length : Int) < ((pre ++ (d :: ds ++ post)).length : Int) := by simp; omega
    rw [whlL]
    generalize hT : pre ++ (d :: ds ++ post) = T at *
    simp [vg0, vg1, vs0, vs1, fget, fput, cmpR_eq', cmpR_ne', eqR_def, memR_def, dlook, dput, mod_ok, fdiv_ok, gset_eq, gset_ne, ix, il, hd.1, lt]
    exact ih
end Mu
end

section
set_option maxRecDepth 10000
set_option linter.all false
set_option maxHeartbeats 4000000
namespace Mu
theorem nat_text (n : Nat) : textInt (natDigits n) = some (n : Int) ∨ 601 < (natDigits n).length := by
  by_cases hl : (natDigits n).length ≤ 601
  · left
    have hd := natDigits_dig n
    have hv := digVal_nat n
    have hne := natDigits_ne n
    generalize natDigits n = s at *
    cases s with
    | nil => exact absurd rfl hne
    | cons c r =>
      have hc : isDig c = true := by simp at hd; exact hd.1
      have c45 : ¬ c = 45 := by simp [isDig] at hc; omega
      simp only [textInt]
      rw [if_neg c45, if_pos ⟨hd, by simp at hl; omega⟩, hv]
  · right; omega
theorem neg_text (n : Nat) (hl : (natDigits n).length ≤ 600) : textInt (45 :: natDigits n) = some (-(n : Int)) := by
  simp only [textInt, if_true]
  rw [if_pos ⟨natDigits_ne n, natDigits_dig n, hl⟩, digVal_nat]
theorem dig24 {n : Nat} (h : n ≤ 999999999999999999999999) : (natDigits n).length ≤ 24 := natDigits_len (by decide) (by omega)
/-- a while statement -/
theorem ex_whl (c : Cx) (σ : Fr) (h : Hp) (k : E) (b : Ss) : exec c σ h (.whl k b) = whlL (fun σ h => evT c σ h k) (fun σ h => execs c σ h b) FUEL σ h := by rw [exec]
theorem ri_tail (n : Nat) (h : Hp) (pre sg post : List Nat) (m : Nat) (v : Int) (hm : m ≤ 999999999999999999999999) (hp : NoDig post) (hv : textInt (sg ++ natDigits m) = some v) (h0 : m = 0 → sg = []) (hT : (pre ++ (sg ++ (natDigits m ++ post))).length ≤ 1000000) :
    execs (cxP prog n) [some (.str (pre ++ (sg ++ (natDigits m ++ post)))), some (.int (pre.length : Int)), some (.int ((pre.length + sg.length : Nat) : Int)), none] h (.cons s__read_integer_2 (.cons s__read_integer_3 (.cons s__read_integer_4 (.cons s__read_integer_5 (.cons s__read_integer_6 .nil))))) =
      .rt (.tup [.int v, .int ((pre.length + (sg ++ natDigits m).length : Nat) : Int)]) h := by
  have hd := natDigits_dig m
  have hne := natDigits_ne m
  have hl := dig24 hm
  have hh := natDigits_head m
  have e1 : pre ++ (sg ++ (natDigits m ++ post)) = (pre ++ sg) ++ (natDigits m ++ post) := by simp
  have lp := dig_loop n h (some (.int (pre.length : Int))) (some (.int ((pre.length + sg.length : Nat) : Int))) post hp (natDigits m) (pre ++ sg) FUEL hd (by unfold FUEL; omega)
  have el : (((pre ++ sg).length : Nat) : Int) = ((pre.length + sg.length : Nat) : Int) := by simp
  have el2 : (((pre ++ sg).length + (natDigits m).length : Nat) : Int) = ((pre.length + (sg ++ natDigits m).length : Nat) : Int) := by simp; omega
  rw [el, el2, ← e1] at lp
  have cm := cut_mid pre (sg ++ natDigits m) post
  have e2 : pre ++ ((sg ++ natDigits m) ++ post) = pre ++ (sg ++ (natDigits m ++ post)) := by simp
  rw [e2] at cm
  have iv := int_str h (sg ++ natDigits m) v hv
  have es : exec (cxP prog n) [some (.str (pre ++ (sg ++ (natDigits m ++ post)))), some (.int (pre.length : Int)), some (.int ((pre.length + sg.length : Nat) : Int)), some (.int ((pre.length + sg.length : Nat) : Int))] h s__read_integer_3 = .nx [some (.str (pre ++ (sg ++ (natDigits m ++ post)))), some (.int (pre.length : Int)), some (.int ((pre.length + sg.length : Nat) : Int)), some (.int ((pre.length + (sg ++ natDigits m).length : Nat) : Int))] h := (ex_whl _ _ _ _ _).trans lp
  have hpos : 0 < (natDigits m).length := List.length_pos_iff.mpr hne
  obtain ⟨c, r, ec⟩ : ∃ c r, natDigits m = c :: r := by
    cases q : natDigits m with
    | nil => exact absurd q hne
    | cons c r => exact ⟨c, r, rfl⟩
  have ixf := ix_str h (pre ++ (sg ++ (natDigits m ++ post))) ((pre.length + sg.length : Nat) : Int) c (by omega) (by rw [e1, ec, Int.toNat_natCast, show pre.length + sg.length = (pre ++ sg).length by simp]; simp)
  have f1 := endI_ok (i := (pre.length : Int)) (by omega) (by simp at hT; omega)
  have f2 := endI_ok (i := ((pre.length + (sg ++ natDigits m).length : Nat) : Int)) (by omega) (by simp at hT ⊢; omega)
  have q1 : ¬ ((pre.length + (sg ++ natDigits m).length : Nat) : Int) = ((pre.length + sg.length : Nat) : Int) := by simp; omega
  have q2 : ¬ (24 : Int) < ((pre.length + (sg ++ natDigits m).length : Nat) : Int) - ((pre.length + sg.length : Nat) : Int) := by simp; omega
  have q3 : ¬ (c = 48 ∧ (pre.length : Int) + 1 < ((pre.length + (sg ++ natDigits m).length : Nat) : Int)) := by
    rintro ⟨rfl, z⟩
    have m0 : m = 0 := by
      by_cases q : 0 < m
      · exact absurd (by rw [ec]; rfl) (hh q)
      · omega
    subst m0
    rw [h0 rfl] at z
    have : (natDigits 0).length = 1 := by rfl
    simp [this] at z
  generalize hE : ((pre.length + (sg ++ natDigits m).length : Nat) : Int) = En at *
  generalize hF : ((pre.length + sg.length : Nat) : Int) = Fi at *
  generalize hTT : pre ++ (sg ++ (natDigits m ++ post)) = T at *
  by_cases q4 : c = 48
  · have q5 : ¬ (pre.length : Int) + 1 < En := fun z => q3 ⟨q4, z⟩
    subst q4
    simp [vg0, vg1, vs0, vs1, fget, fput, cmpR_eq', cmpR_ne', eqR_def, memR_def, dlook, dput, mod_ok, fdiv_ok, gset_eq, gset_ne, -s__read_integer_3, es, q1, q2, ixf, f1, f2, cm, iv, q5]
  · have z : ¬ ([c] : List Nat) = cp "0" := by rw [show cp "0" = [48] from by decide]; simpa using q4
    simp [vg0, vg1, vs0, vs1, fget, fput, cmpR_eq', cmpR_ne', eqR_def, memR_def, dlook, dput, mod_ok, fdiv_ok, gset_eq, gset_ne, -s__read_integer_3, es, q1, q2, ixf, f1, f2, cm, iv, q4, z]
end Mu
end

section
set_option maxRecDepth 10000
set_option linter.all false
set_option maxHeartbeats 4000000
namespace Mu
theorem take1_dig (m : Nat) (post : List Nat) : ∃ c, (natDigits m ++ post).take 1 = [c] ∧ isDig c = true := by
  have hd := natDigits_dig m
  have hne := natDigits_ne m
  cases q : natDigits m with
  | nil => exact absurd q hne
  | cons c r => rw [q] at hd; simp at hd; exact ⟨c, by simp, hd.1⟩
theorem ri_ok (n : Nat) (h : Hp) (pre post : List Nat) (i : Int) (hi : okInt i) (hp : NoDig post) (hT : (pre ++ (intText i ++ post)).length ≤ 1000000) :
    callN prog (n + 1) "_read_integer" [.str (pre ++ (intText i ++ post)), .int (pre.length : Int)] h = .ok (.tup [.int i, .int ((pre.length + (intText i).length : Nat) : Int)]) h := by
  rw [call__read_integer]
  have c1 := cut_one pre (intText i ++ post)
  have f1 := endI_ok (i := (pre.length : Int)) (by omega) (by simp at hT; omega)
  have f2 := endI_ok (i := (pre.length : Int) + 1) (by omega) (by simp at hT; omega)
  unfold okInt at hi
  by_cases hn : i < 0
  · have e : intText i = [45] ++ natDigits i.natAbs := by unfold intText; rw [if_pos hn]; rfl
    have t := ri_tail n h pre [45] post i.natAbs i hi hp (by rw [show [45] ++ natDigits i.natAbs = 45 :: natDigits i.natAbs from rfl, neg_text _ (by have := dig24 hi; omega)]; congr 1; omega) (fun z => by omega) (by rw [e] at hT; simpa using hT)
    rw [e] at c1 hT ⊢
    rw [List.append_assoc] at c1 hT ⊢
    have c2 : cut (pre ++ ([45] ++ (natDigits i.natAbs ++ post))) (some (pre.length : Int)) (some ((pre.length : Int) + 1)) = [45] := by rw [c1]; rfl
    have e3 : ((pre.length + [45].length : Nat) : Int) = (pre.length : Int) + 1 := by simp
    rw [e3] at t
    generalize ((pre.length + ([45] ++ natDigits i.natAbs).length : Nat) : Int) = En at *
    generalize pre ++ ([45] ++ (natDigits i.natAbs ++ post)) = T at *
    have d1 : ([45] : List Nat) = cp "-" := by decide
    rw [d1] at c2
    simp [vg0, vg1, vs0, vs1, fget, fput, cmpR_eq', cmpR_ne', eqR_def, memR_def, dlook, dput, mod_ok, fdiv_ok, gset_eq, gset_ne, -s__read_integer_2, -s__read_integer_3, -s__read_integer_4, -s__read_integer_5, -s__read_integer_6, c2, f1, f2, t]
  · have e : intText i = [] ++ natDigits i.natAbs := by unfold intText; rw [if_neg hn]; rfl
    have hv : textInt ([] ++ natDigits i.natAbs) = some i := by
      rcases nat_text i.natAbs with q | q
      · rw [List.nil_append, q]; congr 1; omega
      · have := dig24 hi; omega
    have t := ri_tail n h pre [] post i.natAbs i hi hp hv (fun _ => rfl) (by rw [e] at hT; simpa using hT)
    rw [e] at c1 hT ⊢
    rw [List.append_assoc] at c1 hT ⊢
    obtain ⟨c, ec, hc⟩ := take1_dig i.natAbs post
    have c2 : cut (pre ++ ([] ++ (natDigits i.natAbs ++ post))) (some (pre.length : Int)) (some ((pre.length : Int) + 1)) = [c] := by rw [c1, List.nil_append, ec]
    have e3 : ((pre.length + ([] : List Nat).length : Nat) : Int) = (pre.length : Int) := by simp
    rw [e3] at t
    generalize ((pre.length + ([] ++ natDigits i.natAbs).length : Nat) : Int) = En at *
    generalize pre ++ ([] ++ (natDigits i.natAbs ++ post)) = T at *
    have d1 : ¬ ([c] : List Nat) = cp "-" := by
      rw [show cp "-" = [45] from by decide]
      rintro z
      injection z with z1 _
      subst z1
      exact absurd hc (by decide)
    simp [vg0, vg1, vs0, vs1, fget, fput, cmpR_eq', cmpR_ne', eqR_def, memR_def, dlook, dput, mod_ok, fdiv_ok, gset_eq, gset_ne, -s__read_integer_2, -s__read_integer_3, -s__read_integer_4, -s__read_integer_5, -s__read_integer_6, c2, d1, f1, f2, t]
end Mu
end

section
set_option maxRecDepth 10000
set_option linter.all false
set_option maxHeartbeats 4000000
namespace Mu
/-- what may stand behind a value in a text -/
def Post (post : List Nat) : Prop := post = [] ∨ ∃ r, post = 59 :: r
theorem Post.noDig {post : List Nat} (p : Post post) : NoDig post := by
  rcases p with rfl | ⟨r, rfl⟩
  · rintro c r e; injection e
  · rintro c r e; injection e with e1 _; subst e1; decide
theorem Post.take {post : List Nat} (p : Post post) : post.take 1 = [] ∨ post.take 1 = [59] := by
  rcases p with rfl | ⟨r, rfl⟩
  · exact .inl rfl
  · exact .inr rfl
theorem asg2' (i j : Nat) (σ : Fr) (a b : D) (h : Hp) : asgK (.tup [i, j]) σ (.tup [a, b]) h = .nx (vset (vset σ i a) j b) h := rfl
theorem set_mid (h g : Hp) (x y : AO) : (h ++ x :: g).set h.length y = h ++ y :: g := by simp
theorem get_mid (h g : Hp) (x : AO) : (h ++ x :: g)[h.length]? = some x := by simp
/-- the first sign of a text -/
theorem intText_head (i : Int) : ∃ c r, intText i = c :: r ∧ c ≠ 40 ∧ c ≠ 41 := by
  unfold intText
  split
  · exact ⟨45, _, rfl, by decide, by decide⟩
  · obtain ⟨c, e, hc⟩ := take1_dig i.natAbs []
    have hne := natDigits_ne i.natAbs
    cases q : natDigits i.natAbs with
    | nil => exact absurd q hne
    | cons c' r =>
      rw [q] at e; simp at e; subst e
      refine ⟨c', r, rfl, ?_, ?_⟩ <;> rintro rfl <;> exact absurd hc (by decide)
theorem enc_head : ∀ (n : Nat) (d : D), Tv n d → ∃ c r, enc d = c :: r ∧ c ≠ 41
  | n, .int i, _ => by obtain ⟨c, r, e, _, h2⟩ := intText_head i; exact ⟨c, r, by rw [enc_int, e], h2⟩
  | n, .str s, _ => by
    obtain ⟨c, r, e, _, h2⟩ := intText_head (s.length : Int)
    rw [intText_nat] at e
    exact ⟨c, r ++ 58 :: s, by rw [enc_str, e]; rfl, h2⟩
  | n, .tup ds, _ => ⟨40, encs ds ++ [41], by rw [enc_tup], by decide⟩
  | n, .non, w => by cases n <;> simp [Tv] at w
  | n, .bl _, w => by cases n <;> simp [Tv] at w
  | n, .obj _, w => by cases n <;> simp [Tv] at w
  | n, .lst _, w => by cases n <;> simp [Tv] at w
theorem e40 : cp "(" = [40] := by decide
theorem e41 : cp ")" = [41] := by decide
theorem e58 : cp ":" = [58] := by decide
theorem e59 : cp ";" = [59] := by decide
theorem rd_int (n : Nat) (h : Hp) (pre post : List Nat) (i : Int) (dp : D) (hi : okInt i) (hp : Post post) (hT : (pre ++ (intText i ++ post)).length ≤ 1000000) :
    callN prog (n + 2) "_read" [.str (pre ++ (intText i ++ post)), .int (pre.length : Int), dp] h = .ok (.tup [.int i, .int ((pre.length + (intText i).length : Nat) : Int)]) h := by
  have r := ri_ok n h pre post i hi hp.noDig hT
  have c1 := cut_one pre (intText i ++ post)
  have c2 := cut_one (pre ++ intText i) post
  have f1 := endI_ok (i := (pre.length : Int)) (by omega) (by simp at hT; omega)
  have f2 := endI_ok (i := (pre.length : Int) + 1) (by omega) (by simp at hT; omega)
  have f3 := endI_ok (i := ((pre.length + (intText i).length : Nat) : Int)) (by omega) (by simp at hT; omega)
  have f4 := endI_ok (i := ((pre.length + (intText i).length : Nat) : Int) + 1) (by omega) (by simp at hT; omega)
  obtain ⟨c, t, e, h1, _⟩ := intText_head i
  have n1 : ¬ (List.take 1 (intText i ++ post)) = cp "(" := by
    rw [e, e40]; rintro z; injection z with z1 _; exact h1 z1
  have n2 : ¬ (List.take 1 post) = cp ":" := by
    rw [e58]; rcases hp.take with q | q <;> rw [q] <;> decide
  have el : (((pre ++ intText i).length : Nat) : Int) = ((pre.length + (intText i).length : Nat) : Int) := by simp
  rw [el, List.append_assoc] at c2
  rw [show n + 2 = (n + 1) + 1 from rfl, call__read]
  generalize ((pre.length + (intText i).length : Nat) : Int) = En at *
  generalize pre ++ (intText i ++ post) = T at *
  simp [vg0, vg1, vs0, vs1, fget, fput, cmpR_eq', cmpR_ne', eqR_def, memR_def, dlook, dput, mod_ok, fdiv_ok, gset_eq, gset_ne, c1, c2, f1, f2, f3, f4, n1, n2, r, asg2']
theorem rd_str (n : Nat) (h : Hp) (pre post : List Nat) (s : List Nat) (dp : D) (hs : s.length ≤ 1000000) (hT : (pre ++ (enc (.str s) ++ post)).length ≤ 1000000) :
    callN prog (n + 2) "_read" [.str (pre ++ (enc (.str s) ++ post)), .int (pre.length : Int), dp] h = .ok (.tup [.str s, .int ((pre.length + (enc (.str s)).length : Nat) : Int)]) h := by
  rw [enc_str] at hT ⊢
  have hp : NoDig (58 :: (s ++ post)) := by rintro c r e; injection e with e1 _; subst e1; decide
  have eT : pre ++ (natDigits s.length ++ 58 :: s ++ post) = pre ++ (intText (s.length : Int) ++ (58 :: (s ++ post))) := by rw [intText_nat]; simp
  rw [eT] at hT ⊢
  have r := ri_ok n h pre (58 :: (s ++ post)) (s.length : Int) (by unfold okInt; omega) hp hT
  have c1 := cut_one pre (intText (s.length : Int) ++ (58 :: (s ++ post)))
  have c2 := cut_one (pre ++ intText (s.length : Int)) (58 :: (s ++ post))
  have c3 := cut_mid (pre ++ intText (s.length : Int) ++ [58]) s post
  have eT2 : pre ++ intText (s.length : Int) ++ [58] ++ (s ++ post) = pre ++ (intText (s.length : Int) ++ (58 :: (s ++ post))) := by simp
  rw [eT2] at c3
  have f1 := endI_ok (i := (pre.length : Int)) (by omega) (by simp at hT; omega)
  have f2 := endI_ok (i := (pre.length : Int) + 1) (by omega) (by simp at hT; omega)
  have f3 := endI_ok (i := ((pre.length + (intText (s.length : Int)).length : Nat) : Int)) (by omega) (by simp at hT; omega)
  have f4 := endI_ok (i := ((pre.length + (intText (s.length : Int)).length : Nat) : Int) + 1) (by omega) (by simp at hT; omega)
  have f5 := endI_ok (i := ((pre.length + (intText (s.length : Int)).length : Nat) : Int) + 1 + (s.length : Int)) (by omega) (by simp at hT; omega)
  obtain ⟨c, t, e, h1, _⟩ := intText_head (s.length : Int)
  have n1 : ¬ (List.take 1 (intText (s.length : Int) ++ (58 :: (s ++ post)))) = cp "(" := by
    rw [e, e40]; rintro z; injection z with z1 _; exact h1 z1
  have n2 : (List.take 1 (58 :: (s ++ post))) = cp ":" := by rw [e58]; rfl
  have el : (((pre ++ intText (s.length : Int)).length : Nat) : Int) = ((pre.length + (intText (s.length : Int)).length : Nat) : Int) := by simp
  have el3 : (((pre ++ intText (s.length : Int) ++ [58]).length : Nat) : Int) = ((pre.length + (intText (s.length : Int)).length : Nat) : Int) + 1 := by simp; omega
  have el4 : (((pre ++ intText (s.length : Int) ++ [58]).length + s.length : Nat) : Int) = ((pre.length + (intText (s.length : Int)).length : Nat) : Int) + 1 + (s.length : Int) := by simp; omega
  rw [el, List.append_assoc, n2] at c2
  rw [el3, el4] at c3
  have nl : ¬ ((pre ++ (intText (s.length : Int) ++ (58 :: (s ++ post)))).length : Int) < ((pre.length + (intText (s.length : Int)).length : Nat) : Int) + 1 + (s.length : Int) := by simp; omega
  have ef : ((pre.length + (natDigits s.length ++ 58 :: s).length : Nat) : Int) = ((pre.length + (intText (s.length : Int)).length : Nat) : Int) + 1 + (s.length : Int) := by rw [intText_nat]; simp; omega
  rw [ef]
  have ns : ¬ (s.length : Int) < 0 := by omega
  rw [show n + 2 = (n + 1) + 1 from rfl, call__read]
  generalize ((pre.length + (intText (s.length : Int)).length : Nat) : Int) = En at *
  generalize pre ++ (intText (s.length : Int) ++ (58 :: (s ++ post))) = T at *
  simp [vg0, vg1, vs0, vs1, fget, fput, cmpR_eq', cmpR_ne', eqR_def, memR_def, dlook, dput, mod_ok, fdiv_ok, gset_eq, gset_ne, c1, c2, c3, f1, f2, f3, f4, f5, n1, r, asg2', nl, ns]
end Mu
end

section
set_option maxRecDepth 10000
set_option linter.all false
set_option maxHeartbeats 4000000
namespace Mu
def ReadOk (L k : Nat) : Prop := ∀ (d : D) (h : Hp) (pre post : List Nat) (dp : Nat), Tv L d → dp + L ≤ 8 → Post post → (pre ++ (enc d ++ post)).length ≤ 1000000 →
  ∃ g, callN prog (2 * L + k + 2) "_read" [.str (pre ++ (enc d ++ post)), .int (pre.length : Int), .int (dp : Int)] h = .ok (.tup [d, .int ((pre.length + (enc d).length : Nat) : Int)]) (h ++ g)
theorem tup_loop (L k : Nat) (ih : ReadOk L k) (h : Hp) (x1 : Option D) (dp : Nat) (hd : dp + 1 + L ≤ 8) (post : List Nat) : ∀ (es : List D) (acc : List D) (pre : List Nat) (x5 : Option D) (g : Hp) (N : Nat), (∀ d ∈ es, Tv L d) → es.length < N → acc.length + es.length ≤ 1000000 → (pre ++ (encs es ++ 41 :: post)).length ≤ 1000000 →
    ∃ x5' g', whlL (fun σ h => evT (cxP prog (2 * L + k + 2)) σ h (.cmp .ne (.cut (.v 0) (some ()) (some ()) (.v 4) (.bin .add (.v 4) (.int 1))) (.str ")"))) (fun σ h => execs (cxP prog (2 * L + k + 2)) σ h b__read_tuple_3) N
      [some (.str (pre ++ (encs es ++ 41 :: post))), x1, some (.int (dp : Int)), some (.obj h.length), some (.int (pre.length : Int)), x5] (h ++ .lst acc :: g) =
      .nx [some (.str (pre ++ (encs es ++ 41 :: post))), x1, some (.int (dp : Int)), some (.obj h.length), some (.int ((pre.length + (encs es).length : Nat) : Int)), x5'] (h ++ .lst (acc ++ es) :: g')
  | [], acc, pre, x5, g, N + 1, _, _, _, hT => by
    refine ⟨x5, g, ?_⟩
    rw [whlL]
    have c1 := cut_one pre (encs [] ++ 41 :: post)
    have n1 : (List.take 1 (encs [] ++ 41 :: post)) = cp ")" := by rw [e41, encs_nil]; rfl
    rw [n1] at c1
    have f1 := endI_ok (i := (pre.length : Int)) (by omega) (by simp at hT; omega)
    have f2 := endI_ok (i := (pre.length : Int) + 1) (by omega) (by simp at hT; omega)
    have el : ((pre.length + (encs []).length : Nat) : Int) = (pre.length : Int) := by rw [encs_nil]; simp
    rw [el]
    generalize pre ++ (encs [] ++ 41 :: post) = T at *
    simp [vg0, vg1, vs0, vs1, fget, fput, cmpR_eq', cmpR_ne', eqR_def, memR_def, dlook, dput, mod_ok, fdiv_ok, gset_eq, gset_ne, c1, f1, f2]
  | d :: es, acc, pre, x5, g, N + 1, hw, hN, ha, hT => by
    simp only [List.length_cons] at hN ha
    have wd := hw d (List.mem_cons_self ..)
    have eT : pre ++ (encs (d :: es) ++ 41 :: post) = pre ++ (enc d ++ 59 :: (encs es ++ 41 :: post)) := by rw [encs_cons]; simp
    have eT2 : pre ++ (encs (d :: es) ++ 41 :: post) = (pre ++ enc d ++ [59]) ++ (encs es ++ 41 :: post) := by rw [eT]; simp
    have hT2 := hT
    rw [eT] at hT2
    obtain ⟨g1, r⟩ := ih d (h ++ .lst acc :: g) pre (59 :: (encs es ++ 41 :: post)) (dp + 1) wd (by omega) (.inr ⟨_, rfl⟩) hT2
    obtain ⟨x', g', rec⟩ := tup_loop L k ih h x1 dp hd post es (acc ++ [d]) (pre ++ enc d ++ [59]) (some d) (g ++ g1) N (fun z hz => hw z (List.mem_cons_of_mem _ hz)) (by omega) (by simp; omega) (by rw [← eT2]; exact hT)
    refine ⟨x', g', ?_⟩
    rw [← eT2] at rec
    rw [← eT] at r
    have c1 := cut_one pre (enc d ++ 59 :: (encs es ++ 41 :: post))
    obtain ⟨c, t, e, h1⟩ := enc_head L d wd
    have n1 : ¬ (List.take 1 (enc d ++ 59 :: (encs es ++ 41 :: post))) = cp ")" := by
      rw [e, e41]; rintro z; injection z with z1 _; exact h1 z1
    rw [← eT] at c1
    have c2 := cut_one (pre ++ enc d) (59 :: (encs es ++ 41 :: post))
    have n2 : (List.take 1 (59 :: (encs es ++ 41 :: post))) = cp ";" := by rw [e59]; rfl
    have el : (((pre ++ enc d).length : Nat) : Int) = ((pre.length + (enc d).length : Nat) : Int) := by simp
    rw [el, List.append_assoc, n2, ← eT] at c2
    have f1 := endI_ok (i := (pre.length : Int)) (by omega) (by simp at hT; omega)
    have f2 := endI_ok (i := (pre.length : Int) + 1) (by omega) (by simp at hT; omega)
    have f3 := endI_ok (i := ((pre.length + (enc d).length : Nat) : Int)) (by omega) (by simp at hT2; omega)
    have f4 := endI_ok (i := ((pre.length + (enc d).length : Nat) : Int) + 1) (by omega) (by simp at hT2; omega)
    have el2 : (((pre ++ enc d ++ [59]).length : Nat) : Int) = ((pre.length + (enc d).length : Nat) : Int) + 1 := by simp; omega
    have el3 : (((pre ++ enc d ++ [59]).length + (encs es).length : Nat) : Int) = ((pre.length + (encs (d :: es)).length : Nat) : Int) := by rw [encs_cons]; simp; omega
    rw [el2, el3] at rec
    have ed : ((dp + 1 : Nat) : Int) = (dp : Int) + 1 := by omega
    rw [ed] at r
    have la : acc.length < LIM := lim_lt (by omega)
    rw [List.append_assoc, List.cons_append] at r
    have gm := get_mid h (g ++ g1) (.lst acc)
    have sm := set_mid h (g ++ g1) (.lst acc) (.lst (acc ++ [d]))
    rw [whlL]
    generalize List.take 1 (enc d ++ 59 :: (encs es ++ 41 :: post)) = t1 at *
    generalize ((pre.length + (encs (d :: es)).length : Nat) : Int) = Eq at *
    generalize ((pre.length + (enc d).length : Nat) : Int) = En at *
    generalize pre ++ (encs (d :: es) ++ 41 :: post) = T at *
    rw [show acc ++ [d] ++ es = acc ++ d :: es by simp] at rec
    have hk : (fun σ h => evT (cxP prog (2 * L + k + 2)) σ h (.cmp .ne (.cut (.v 0) (some ()) (some ()) (.v 4) (.bin .add (.v 4) (.int 1))) (.str ")"))) [some (.str T), x1, some (.int (dp : Int)), some (.obj h.length), some (.int (pre.length : Int)), x5] (h ++ .lst acc :: g) = .ok true (h ++ .lst acc :: g) := by
      simp [vg0, vg1, vs0, vs1, fget, fput, cmpR_eq', cmpR_ne', eqR_def, memR_def, dlook, dput, mod_ok, fdiv_ok, gset_eq, gset_ne, c1, f1, f2, n1]
    have hb : (fun σ h => execs (cxP prog (2 * L + k + 2)) σ h b__read_tuple_3) [some (.str T), x1, some (.int (dp : Int)), some (.obj h.length), some (.int (pre.length : Int)), x5] (h ++ .lst acc :: g) = .nx [some (.str T), x1, some (.int (dp : Int)), some (.obj h.length), some (.int (En + 1)), some d] (h ++ .lst (acc ++ [d]) :: (g ++ g1)) := by
      simp [vg0, vg1, vs0, vs1, fget, fput, cmpR_eq', cmpR_ne', eqR_def, memR_def, dlook, dput, mod_ok, fdiv_ok, gset_eq, gset_ne, c2, f3, f4, r, asg2', la, gm, sm]
    rw [show evT (cxP prog (2 * L + k + 2)) [some (.str T), x1, some (.int (dp : Int)), some (.obj h.length), some (.int (pre.length : Int)), x5] (h ++ .lst acc :: g) (.cmp .ne (.cut (.v 0) (some ()) (some ()) (.v 4) (.bin .add (.v 4) (.int 1))) (.str ")")) = _ from hk]
    simp only [R.st, if_true]
    rw [show execs (cxP prog (2 * L + k + 2)) [some (.str T), x1, some (.int (dp : Int)), some (.obj h.length), some (.int (pre.length : Int)), x5] (h ++ .lst acc :: g) b__read_tuple_3 = _ from hb]
    exact rec
theorem read_ok : ∀ (L k : Nat), ReadOk L k
  | n, k, .int i, h, pre, post, dp, w, _, hp, hT => by
    have w' : okInt i := by cases n <;> simpa [Tv] using w
    rw [enc_int] at hT ⊢
    exact ⟨[], by rw [List.append_nil]; exact rd_int (2 * n + k) h pre post i _ w' hp hT⟩
  | n, k, .str s, h, pre, post, dp, w, _, hp, hT => by
    have w' : okStr s ∧ s.length ≤ 1000000 := by cases n <;> simpa [Tv] using w
    exact ⟨[], by rw [List.append_nil]; exact rd_str (2 * n + k) h pre post s _ w'.2 hT⟩
  | L + 1, k, .tup ds, h, pre, post, dp, w, hd, hp, hT => by
    rw [Tv] at w
    have ih := read_ok L k
    rw [enc_tup] at hT ⊢
    have eT : pre ++ (40 :: (encs ds ++ [41]) ++ post) = (pre ++ [40]) ++ (encs ds ++ 41 :: post) := by simp
    have hT2 := hT
    rw [eT] at hT2
    have el := encs_len ds
    have dl : ds.length ≤ 1000000 := by simp at hT; omega
    obtain ⟨x', g', lp⟩ := tup_loop L k ih h (some (.int (pre.length : Int))) dp (by omega) post ds [] (pre ++ [40]) none [] FUEL w (by unfold FUEL; omega) (by simpa using dl) hT2
    rw [← eT] at lp
    have c1 := cut_one pre (40 :: (encs ds ++ [41]) ++ post)
    have n1 : List.take 1 (40 :: (encs ds ++ [41]) ++ post) = cp "(" := by rw [e40]; rfl
    rw [n1] at c1
    have e1 : (((pre ++ [40]).length : Nat) : Int) = (pre.length : Int) + 1 := by simp
    have e2 : (((pre ++ [40]).length + (encs ds).length : Nat) : Int) + 1 = ((pre.length + (40 :: (encs ds ++ [41])).length : Nat) : Int) := by simp; omega
    rw [e1] at lp
    have f1 := endI_ok (i := (pre.length : Int)) (by omega) (by simp at hT; omega)
    have f2 := endI_ok (i := (pre.length : Int) + 1) (by omega) (by simp at hT; omega)
    have nd : ¬ (8 : Int) ≤ (dp : Int) := by omega
    have gm := get_mid h g' (.lst ds)
    refine ⟨.lst ds :: g', ?_⟩
    rw [show 2 * (L + 1) + k + 2 = (2 * L + k + 2 + 1) + 1 by omega, call__read]
    rw [← e2]
    generalize ((pre ++ [40]).length + (encs ds).length : Nat) = En at *
    generalize pre ++ (40 :: (encs ds ++ [41]) ++ post) = T at *
    have es : exec (cxP prog (2 * L + k + 2)) [some (.str T), some (.int (pre.length : Int)), some (.int (dp : Int)), some (.obj h.length), some (.int ((pre.length : Int) + 1)), none] (h ++ [.lst []]) s__read_tuple_3 = .nx [some (.str T), some (.int (pre.length : Int)), some (.int (dp : Int)), some (.obj h.length), some (.int (En : Int)), x'] (h ++ .lst ds :: g') := (ex_whl _ _ _ _ _).trans (by simpa using lp)
    have ct : callN prog (2 * L + k + 2 + 1) "_read_tuple" [.str T, .int (pre.length : Int), .int (dp : Int)] h = .ok (.tup [.tup ds, .int ((En : Int) + 1)]) (h ++ .lst ds :: g') := by
      rw [call__read_tuple]
      simp [vg0, vg1, vs0, vs1, fget, fput, cmpR_eq', cmpR_ne', eqR_def, memR_def, dlook, dput, mod_ok, fdiv_ok, gset_eq, gset_ne, -s__read_tuple_3, es, nd, gm]
    simp [vg0, vg1, vs0, vs1, fget, fput, cmpR_eq', cmpR_ne', eqR_def, memR_def, dlook, dput, mod_ok, fdiv_ok, gset_eq, gset_ne, c1, f1, f2, ct]
  | 0, _, .tup _, _, _, _, _, w, _, _, _ => by simp [Tv] at w
  | n, _, .non, _, _, _, _, w, _, _, _ => by cases n <;> simp [Tv] at w
  | n, _, .bl _, _, _, _, _, w, _, _, _ => by cases n <;> simp [Tv] at w
  | n, _, .obj _, _, _, _, _, w, _, _, _ => by cases n <;> simp [Tv] at w
  | n, _, .lst _, _, _, _, _, w, _, _, _ => by cases n <;> simp [Tv] at w
end Mu
end

section
set_option maxRecDepth 10000
set_option linter.all false
set_option maxHeartbeats 4000000
namespace Mu
theorem isDig_okStr {s : List Nat} (h : s.all isDig = true) : okStr s := by
  intro c hc
  have := List.all_eq_true.mp h c hc
  simp [isDig] at this; omega
theorem okStr_app {s t : List Nat} (a : okStr s) (b : okStr t) : okStr (s ++ t) := by
  intro c hc; rcases List.mem_append.mp hc with q | q
  · exact a c q
  · exact b c q
theorem okStr_cons {c : Nat} {t : List Nat} (a : 32 ≤ c ∧ c ≤ 126 ∧ c ≠ 37) (b : okStr t) : okStr (c :: t) := by
  intro d hd; rcases List.mem_cons.mp hd with q | q
  · subst q; exact a
  · exact b d q
theorem okStr_nil : okStr [] := fun _ h => nomatch h
theorem encs_okStr : ∀ (ds : List D), (∀ d ∈ ds, okStr (enc d)) → okStr (encs ds)
  | [], _ => by rw [encs_nil]; exact okStr_nil
  | d :: ds, k => by
    rw [encs_cons]
    exact okStr_app (k d (List.mem_cons_self ..)) (okStr_cons (by omega) (encs_okStr ds fun x hx => k x (List.mem_cons_of_mem _ hx)))
theorem enc_okStr : ∀ (n : Nat) (d : D), Tv n d → okStr (enc d)
  | n, .int i, _ => by
    rw [enc_int]; unfold intText; split
    · exact okStr_cons (by omega) (isDig_okStr (natDigits_dig _))
    · exact isDig_okStr (natDigits_dig _)
  | n, .str s, w => by
    have w' : okStr s ∧ s.length ≤ 1000000 := by cases n <;> simpa [Tv] using w
    rw [enc_str]
    exact okStr_app (isDig_okStr (natDigits_dig _)) (okStr_cons (by omega) w'.1)
  | n + 1, .tup ds, w => by
    rw [Tv] at w
    rw [enc_tup]
    exact okStr_cons (by omega) (okStr_app (encs_okStr ds fun d hd => enc_okStr n d (w d hd)) (okStr_cons (by omega) okStr_nil))
  | 0, .tup ds, w => by simp [Tv] at w
  | n, .non, w => by cases n <;> simp [Tv] at w
  | n, .bl _, w => by cases n <;> simp [Tv] at w
  | n, .obj _, w => by cases n <;> simp [Tv] at w
  | n, .lst _, w => by cases n <;> simp [Tv] at w
theorem encode_ok (n k : Nat) (d : D) (h : Hp) (w : Tv n d) (hn : n ≤ 8) (hl : (enc d).length ≤ 50000) : ∃ g, callN prog (n + k + 3) "encode" [d] h = .ok (.str (enc d)) (h ++ g) := by
  obtain ⟨g, e⟩ := text_ok n k d h 0 w (by omega) hl
  refine ⟨g, ?_⟩
  rw [show n + k + 3 = (n + k + 2) + 1 from rfl, call_encode]
  have nl : ¬ (100000 : Int) < ((enc d).length : Int) := by omega
  simp at e
  simp [vg0, vg1, vs0, vs1, fget, fput, cmpR_eq', cmpR_ne', eqR_def, memR_def, dlook, dput, mod_ok, fdiv_ok, gset_eq, gset_ne, e, nl]
theorem decode_ok (n k : Nat) (d : D) (h : Hp) (w : Tv n d) (hn : n ≤ 8) (hl : (enc d).length ≤ 50000) : ∃ g, callN prog (2 * n + k + 3) "decode" [.str (enc d)] h = .ok d (h ++ g) := by
  obtain ⟨g, e⟩ := read_ok n k d h [] [] 0 w (by omega) (.inl rfl) (by simp; omega)
  refine ⟨g, ?_⟩
  rw [show 2 * n + k + 3 = (2 * n + k + 2) + 1 from rfl, call_decode]
  have p := isprint (2 * n + k + 1) h (enc_okStr n d w)
  have nl : ¬ (100000 : Int) < ((enc d).length : Int) := by omega
  simp at e
  simp [vg0, vg1, vs0, vs1, fget, fput, cmpR_eq', cmpR_ne', eqR_def, memR_def, dlook, dput, mod_ok, fdiv_ok, gset_eq, gset_ne, e, nl, p, asg2']
theorem enc_prefix {n m : Nat} {d e : D} {r : List Nat} (w : Tv n d) (v : Tv m e) (hn : n ≤ 8) (hm : m ≤ 8) (hl : (enc e).length ≤ 50000) (q : enc e = enc d ++ r) (hp : Post r) : d = e ∧ r = [] := by
  have w' := Tv.mono hn w
  have v' := Tv.mono hm v
  have hl2 : (enc d ++ r).length ≤ 50000 := by rw [← q]; exact hl
  obtain ⟨g, e1⟩ := read_ok 8 0 d [] [] r 0 w' (by omega) hp (by simp at hl2 ⊢; omega)
  obtain ⟨g2, e2⟩ := read_ok 8 0 e [] [] [] 0 v' (by omega) (.inl rfl) (by simp; omega)
  simp only [List.nil_append, List.append_nil] at e1 e2
  rw [q, e1] at e2
  injection e2 with e3 _
  injection e3 with e4
  injection e4 with e5 e6
  injection e6 with e7 _
  injection e7 with e8
  have q2 := congrArg List.length q
  simp at e8 q2
  exact ⟨e5, List.length_eq_zero_iff.mp (by omega)⟩
theorem enc_inj {n m : Nat} {d e : D} (w : Tv n d) (v : Tv m e) (hn : n ≤ 8) (hm : m ≤ 8) (hl : (enc e).length ≤ 50000) (q : enc e = enc d) : d = e :=
  (enc_prefix (r := []) w v hn hm hl (by simpa using q) (.inl rfl)).1
end Mu
end

section
set_option maxRecDepth 10000
set_option linter.all false
set_option maxHeartbeats 4000000
namespace Mu
/-! ### words and rows -/
theorem splitC_ne (c : Nat) : ∀ s : List Nat, splitC c s ≠ []
  | [] => by simp [splitC]
  | a :: r => by
    have h := splitC_ne c r
    rw [splitC]
    cases e : splitC c r with
    | nil => exact absurd e h
    | cons w ws => simp only; split <;> simp
theorem splitC_free {c : Nat} : ∀ {w : List Nat}, c ∉ w → splitC c w = [w]
  | [], _ => rfl
  | a :: r, h => by
    have h2 : c ∉ r := fun q => h (List.mem_cons_of_mem _ q)
    have h1 : ¬ a = c := fun q => h (by rw [q]; exact List.mem_cons_self ..)
    rw [splitC, splitC_free h2]
    simp only [if_neg h1]
theorem splitC_cons {c : Nat} (r : List Nat) : ∀ {w : List Nat}, c ∉ w → splitC c (w ++ c :: r) = w :: splitC c r
  | [], _ => by
    rw [List.nil_append, splitC]
    cases e : splitC c r with
    | nil => exact absurd e (splitC_ne c r)
    | cons w ws => simp only [if_true]
  | a :: w, h => by
    have h2 : c ∉ w := fun q => h (List.mem_cons_of_mem _ q)
    have h1 : ¬ a = c := fun q => h (by rw [q]; exact List.mem_cons_self ..)
    rw [List.cons_append, splitC, splitC_cons r h2]
    simp only [if_neg h1]
theorem splitN_free {c : Nat} : ∀ (n : Nat) {w : List Nat}, c ∉ w → splitN c n w = [w]
  | 0, w, _ => by rw [splitN]
  | n + 1, [], _ => by rw [splitN]
  | n + 1, a :: r, h => by
    have h2 : c ∉ r := fun q => h (List.mem_cons_of_mem _ q)
    have h1 : ¬ a = c := fun q => h (by rw [q]; exact List.mem_cons_self ..)
    rw [splitN, if_neg h1, splitN_free (n + 1) h2]
theorem splitN_cons {c : Nat} (n : Nat) (r : List Nat) : ∀ {w : List Nat}, c ∉ w → splitN c (n + 1) (w ++ c :: r) = w :: splitN c n r
  | [], _ => by rw [List.nil_append, splitN, if_pos rfl]
  | a :: w, h => by
    have h2 : c ∉ w := fun q => h (List.mem_cons_of_mem _ q)
    have h1 : ¬ a = c := fun q => h (by rw [q]; exact List.mem_cons_self ..)
    rw [List.cons_append, splitN, if_neg h1, splitN_cons n r h2]
theorem joinS_cons (s : List Nat) (w t : List Nat) (r : List (List Nat)) : joinS s (w :: t :: r) = w ++ s ++ joinS s (t :: r) := rfl
theorem splitC_join {c : Nat} : ∀ {ws : List (List Nat)}, ws ≠ [] → (∀ w ∈ ws, c ∉ w) → splitC c (joinS [c] ws) = ws
  | [], h, _ => absurd rfl h
  | [w], _, k => splitC_free (k w (List.mem_cons_self ..))
  | w :: t :: r, _, k => by
    rw [joinS_cons, List.append_assoc, List.singleton_append, splitC_cons _ (k w (List.mem_cons_self ..)), splitC_join (by simp) fun x hx => k x (List.mem_cons_of_mem _ hx)]
theorem splitN_join {c : Nat} : ∀ (n : Nat) {ws : List (List Nat)} (x : List Nat), ws.length = n → (∀ w ∈ ws, c ∉ w) → splitN c n (joinS [c] (ws ++ [x])) = ws ++ [x]
  | 0, [], x, _, _ => by simp [joinS, splitN]
  | n + 1, w :: ws, x, hl, k => by
    have ih := splitN_join n (ws := ws) x (by simpa using hl) fun y hy => k y (List.mem_cons_of_mem _ hy)
    have e : ∃ t r, ws ++ [x] = t :: r := by cases ws <;> simp
    obtain ⟨t, r, e⟩ := e
    rw [List.cons_append, e, joinS_cons, List.append_assoc, List.singleton_append, splitN_cons n _ (k w (List.mem_cons_self ..)), ← e, ih]
theorem splitC_head {c : Nat} {w : List Nat} (h : c ∉ w) (ws : List (List Nat)) : ∃ r, splitC c (joinS [c] (w :: ws)) = w :: r := by
  cases ws with
  | nil => exact ⟨[], splitC_free h⟩
  | cons t r => rw [joinS_cons, List.append_assoc, List.singleton_append, splitC_cons _ h]; exact ⟨_, rfl⟩
theorem okStr_join {s : List Nat} (hs : okStr s) : ∀ {ws : List (List Nat)}, (∀ w ∈ ws, okStr w) → okStr (joinS s ws)
  | [], _ => okStr_nil
  | [w], k => k w (List.mem_cons_self ..)
  | w :: t :: r, k => by
    rw [joinS_cons]
    exact okStr_app (okStr_app (k w (List.mem_cons_self ..)) hs) (okStr_join hs fun x hx => k x (List.mem_cons_of_mem _ hx))
theorem joinS_len (s : List Nat) : ∀ ws : List (List Nat), (joinS s ws).length ≤ (ws.map List.length).sum + ws.length * s.length
  | [] => by simp [joinS]
  | [w] => by simp [joinS]
  | w :: t :: r => by
    have := joinS_len s (t :: r)
    rw [joinS_cons]
    simp only [List.length_append, List.map_cons, List.sum_cons, List.length_cons] at this ⊢
    have e1 : (r.length + 1 + 1) * s.length = (r.length + 1) * s.length + s.length := by rw [Nat.add_mul _ 1, Nat.one_mul]
    omega
theorem split_ok (h : Hp) (s : List Nat) (c : Nat) (hc : c < 256) (hl : s.length ≤ 900000) : bmR .split h (.str s) [.str [c]] = .ok (.obj h.length) (h ++ [.lst ((splitC c s).map .str)]) := by
  rw [bmR_str]
  simp only [strM]
  rw [if_pos ⟨hc, lim_ge (by omega)⟩]
  rfl
theorem splitMax_ok (h : Hp) (s : List Nat) (c n : Nat) (hc : c < 256) (hn : n < 1000) (hl : s.length ≤ 900000) : bmR .split h (.str s) [.str [c], .int (n : Int)] = .ok (.obj h.length) (h ++ [.lst ((splitN c n s).map .str)]) := by
  rw [bmR_str]
  simp only [strM]
  rw [if_pos ⟨⟨hc, by omega, by omega⟩, lim_ge (by omega)⟩]
  rfl
theorem joinS_ok (h : Hp) (q : Nat) (s : List Nat) (ts : List (List Nat)) (hq : h[q]? = some (.lst (ts.map D.str))) (hl : (ts.map List.length).sum + ts.length * s.length ≤ 1000000) : bmR .join h (.str s) [.obj q] = .ok (.str (joinS s ts)) h := by
  rw [bmR_str]
  simp only [strM, seqOf, hq, Option.bind_some, allStr_map]
  rw [if_pos (lim_ge hl)]
/-! ### numbers in words -/
theorem num_loop (n : Nat) (h : Hp) (x0 : Option D) : ∀ (cs : List Nat) (x : Option D), cs.all isDig = true →
    ∃ x', forL (fun _ => true) (forK (cxP prog n) (.one 1) b_number_of_1) (cs.map fun c => .str [c]) [x0, x] h = .nx [x0, x'] h
  | [], x, _ => ⟨x, rfl⟩
  | c :: cs, x, hd => by
    simp only [List.all_cons, Bool.and_eq_true] at hd
    obtain ⟨x', ih⟩ := num_loop n h x0 cs (some (.str [c])) hd.2
    refine ⟨x', ?_⟩
    have ins : inR h (.str [c]) (.str (cp "0123456789")) = some (isDig c) := by rw [← digits_contains]; rfl
    have st : forK (cxP prog n) (.one 1) b_number_of_1 (.str [c]) [x0, x] h = .nx [x0, some (.str [c])] h := by
      simp [vg0, vg1, vs0, vs1, fget, fput, cmpR_eq', cmpR_ne', eqR_def, memR_def, dlook, dput, mod_ok, fdiv_ok, gset_eq, gset_ne, forK_one, ins, hd.1]
    rw [List.map_cons, forL, st]
    simp only [if_true]
    exact ih
theorem num_ok (n : Nat) (h : Hp) (m : Nat) (hm : m < 1000000000000) : callN prog (n + 1) "number_of" [.str (natDigits m)] h = .ok (.int (m : Int)) h := by
  have hl : (natDigits m).length ≤ 12 := natDigits_len (by decide) (by omega)
  have hd := natDigits_dig m
  have hv : textInt (natDigits m) = some (m : Int) := by rcases nat_text m with q | q
                                                         · exact q
                                                         · omega
  have hz : (natDigits m)[0]? = some 48 → natDigits m = [48] := fun q => by
    by_cases z : 0 < m
    · exact absurd (by rw [List.head?_eq_getElem?]; exact q) (natDigits_head m z)
    · have : m = 0 := by omega
      subst this; decide
  obtain ⟨c, r, ec⟩ : ∃ c r, natDigits m = c :: r := by
    cases q : natDigits m with
    | nil => exact absurd q (natDigits_ne m)
    | cons c r => exact ⟨c, r, rfl⟩
  obtain ⟨x', e1⟩ := num_loop n h (some (.str (natDigits m))) (natDigits m) none hd
  have ef := ex_for (c := cxP prog n) (σ := [some (.str (natDigits m)), none]) (h := h) (h1 := h) (t := .one 1) (it := .seq (.v 0)) (b := b_number_of_1) (ds := (natDigits m).map fun c => .str [c]) (g := none) (by simp [vg0, vg1, vs0, vs1, fget, fput, cmpR_eq', cmpR_ne', eqR_def, memR_def, dlook, dput, mod_ok, fdiv_ok, gset_eq, gset_ne])
  have et : (fun h2 => gdOk h h2 none) = (fun _ : Hp => true) := rfl
  rw [et] at ef
  have es : exec (cxP prog n) [some (.str (natDigits m)), none] h s_number_of_1 = .nx [some (.str (natDigits m)), x'] h := ef.trans e1
  have ix := ix_str h (natDigits m) 0 c (by omega) (by rw [ec]; rfl)
  have bi : bltR .int h [.str (natDigits m)] = .ok (.int (m : Int)) h := by
    show (opt ((textInt (natDigits m)).map .int) h : R D) = _
    rw [hv]; rfl
  have e48 : cp "0" = [48] := by decide
  have ee : cp "" = [] := by decide
  have nl : ¬ (12 : Int) < ((natDigits m).length : Int) := by omega
  have ne := natDigits_ne m
  rw [ec] at hz
  simp only [List.getElem?_cons_zero, Option.some.injEq] at hz
  rw [call_number_of]
  by_cases q : c = 48
  · have z := hz q
    rw [← ec] at z
    have z' : natDigits m = cp "0" := by rw [z, e48]
    rw [q, ← e48] at ix
    have n0 : ¬ cp "0" = cp "" := by decide
    have nl' : ¬ (12 : Int) < ((cp "0").length : Int) := by decide
    rw [z'] at es ix bi ⊢
    simp [vg0, vg1, vs0, vs1, fget, fput, cmpR_eq', cmpR_ne', eqR_def, memR_def, dlook, dput, mod_ok, fdiv_ok, gset_eq, gset_ne, -s_number_of_1, es, ix, bi, n0, nl']
  · have n0 : ¬ natDigits m = cp "" := by rw [ee]; exact ne
    have n1 : ¬ ([c] : List Nat) = cp "0" := by rw [e48]; simpa using q
    simp [vg0, vg1, vs0, vs1, fget, fput, cmpR_eq', cmpR_ne', eqR_def, memR_def, dlook, dput, mod_ok, fdiv_ok, gset_eq, gset_ne, -s_number_of_1, es, ix, bi, nl, n0, n1]
end Mu
end

section
set_option maxRecDepth 10000
set_option linter.all false
set_option maxHeartbeats 4000000
namespace Mu
/-! ### acts -/
/-- an item of a kind -/
inductive Fit : List Nat → D → Prop
  | ticks (n : Nat) : 1 ≤ n → n ≤ 1000 → Fit (cp "ticks") (.int (n : Int))
  | number (n : Nat) : n < 1000000000000 → Fit (cp "number") (.int (n : Int))
  | process (n : Nat) : n < 1000000000000 → Fit (cp "process") (.int (n : Int))
  | payload (s : List Nat) : okStr s → s.length ≤ 60 → Fit (cp "payload") (.str s)
  | groups (ds : List D) : Tv 6 (.tup ds) → (enc (.tup ds)).length ≤ 2000 → Fit (cp "groups") (.tup ds)
/-- the kinds of the names -/
def actK : List (List Nat × List (List Nat)) := [(cp "tick", [cp "ticks"]), (cp "calm", [cp "ticks"]), (cp "round", []), (cp "deliver", [cp "number"]), (cp "lose", [cp "number"]), (cp "double", [cp "number"]), (cp "move", [cp "number"]), (cp "cast", [cp "process", cp "payload"]), (cp "part", [cp "groups"]), (cp "heal", []), (cp "crash", [cp "process"]), (cp "start", [cp "process"]), (cp "arm", [cp "process", cp "number", cp "number"])]
/-- an act: its name, its items with their kinds -/
structure ActV (nm : List Nat) (ps : List (List Nat × D)) : Prop where
  k : (nm, ps.map (·.1)) ∈ actK
  f : ∀ p ∈ ps, Fit p.1 p.2
def actD (nm : List Nat) (ps : List (List Nat × D)) : D := .tup (.str nm :: ps.map (·.2))
def actW (nm : List Nat) (ps : List (List Nat × D)) : List (List Nat) := nm :: ps.map fun p => enc p.2
def actL (nm : List Nat) (ps : List (List Nat × D)) : List Nat := joinS [32] (actW nm ps)
theorem dlook_acts {nm : List Nat} {ks : List (List Nat)} (h : (nm, ks) ∈ actK) : dlook (.str nm) (prog.gd "ACTS") = some (.tup (ks.map .str)) := by
  rw [gd_ACTS]
  simp only [actK, List.mem_cons, Prod.mk.injEq, List.not_mem_nil, or_false] at h
  rcases h with ⟨rfl, rfl⟩ | ⟨rfl, rfl⟩ | ⟨rfl, rfl⟩ | ⟨rfl, rfl⟩ | ⟨rfl, rfl⟩ | ⟨rfl, rfl⟩ | ⟨rfl, rfl⟩ | ⟨rfl, rfl⟩ | ⟨rfl, rfl⟩ | ⟨rfl, rfl⟩ | ⟨rfl, rfl⟩ | ⟨rfl, rfl⟩ | ⟨rfl, rfl⟩ <;> rfl
theorem act_name {nm : List Nat} {ks : List (List Nat)} (h : (nm, ks) ∈ actK) : (32 ∉ nm ∧ okStr nm) ∧ (nm ≠ cp "group" ∧ ∃ c r, nm = c :: r ∧ c ≠ 35) ∧ nm.length ≤ 10 := by
  simp only [actK, List.mem_cons, Prod.mk.injEq, List.not_mem_nil, or_false] at h
  have key : ∀ s : List Nat, (!s.contains 32 && s.all fun c => decide (32 ≤ c ∧ c ≤ 126 ∧ c ≠ 37)) && (decide (s ≠ cp "group") && (match s with | [] => false | c :: _ => decide (c ≠ 35)) && decide (s.length ≤ 10)) = true → (32 ∉ s ∧ okStr s) ∧ (s ≠ cp "group" ∧ ∃ c r, s = c :: r ∧ c ≠ 35) ∧ s.length ≤ 10 := by
    intro s hs
    simp only [Bool.and_eq_true, Bool.not_eq_true', List.all_eq_true, decide_eq_true_eq] at hs
    obtain ⟨⟨a, b⟩, ⟨c, d⟩, e⟩ := hs
    refine ⟨⟨by simpa using a, fun x hx => b x hx⟩, ⟨c, ?_⟩, e⟩
    cases s with
    | nil => exact absurd d (by simp)
    | cons x r => exact ⟨x, r, rfl, by simpa using d⟩
  rcases h with ⟨rfl, _⟩ | ⟨rfl, _⟩ | ⟨rfl, _⟩ | ⟨rfl, _⟩ | ⟨rfl, _⟩ | ⟨rfl, _⟩ | ⟨rfl, _⟩ | ⟨rfl, _⟩ | ⟨rfl, _⟩ | ⟨rfl, _⟩ | ⟨rfl, _⟩ | ⟨rfl, _⟩ | ⟨rfl, _⟩ <;> exact key _ (by decide)
theorem Tv.plain : ∀ (n : Nat) (d : D), Tv n d → Plain (n + 1) d
  | n, .int _, _ => by simp [Plain]
  | n, .str _, _ => by simp [Plain]
  | n + 1, .tup ds, w => by
    rw [Tv] at w; rw [Plain]
    exact fun d hd => Tv.plain n d (w d hd)
  | 0, .tup _, w => by simp [Tv] at w
  | n, .non, w => by cases n <;> simp [Tv] at w
  | n, .bl _, w => by cases n <;> simp [Tv] at w
  | n, .obj _, w => by cases n <;> simp [Tv] at w
  | n, .lst _, w => by cases n <;> simp [Tv] at w
theorem Fit.plain {k : List Nat} {d : D} (f : Fit k d) : Plain 7 d := by
  cases f with
  | ticks n _ _ => simp [Plain]
  | number n _ => simp [Plain]
  | process n _ => simp [Plain]
  | payload s _ _ => simp [Plain]
  | groups ds w _ => exact Tv.plain 6 _ w
theorem enc_nat (n : Nat) : enc (.int (n : Int)) = natDigits n := by rw [enc_int, intText_nat]
theorem dig32 (n : Nat) : 32 ∉ natDigits n := fun h => by
  have := List.all_eq_true.mp (natDigits_dig n) _ h
  simp [isDig] at this
theorem dig12 {n : Nat} (h : n < 1000000000000) : (natDigits n).length ≤ 12 := natDigits_len (by decide) (by omega)
theorem Fit.word {k : List Nat} {d : D} (f : Fit k d) : okStr (enc d) ∧ (enc d).length ≤ 2000 ∧ (k ≠ cp "payload" → k ≠ cp "groups" → 32 ∉ enc d) := by
  cases f with
  | ticks n h1 h2 => rw [enc_nat]; exact ⟨isDig_okStr (natDigits_dig n), by have := dig12 (n := n) (by omega); omega, fun _ _ => dig32 n⟩
  | number n h1 => rw [enc_nat]; exact ⟨isDig_okStr (natDigits_dig n), by have := dig12 h1; omega, fun _ _ => dig32 n⟩
  | process n h1 => rw [enc_nat]; exact ⟨isDig_okStr (natDigits_dig n), by have := dig12 h1; omega, fun _ _ => dig32 n⟩
  | payload s h1 h2 =>
    refine ⟨enc_okStr 0 _ (by simp [Tv]; exact ⟨h1, by omega⟩), ?_, fun q => absurd rfl q⟩
    rw [enc_str]
    have := dig12 (n := s.length) (by omega)
    simp; omega
  | groups ds w l => exact ⟨enc_okStr 6 _ w, l, fun _ q => absurd rfl q⟩
theorem ActV.kinds {nm : List Nat} {ps : List (List Nat × D)} (A : ActV nm ps) : ps.length ≤ 3 := by
  have h := A.k
  simp only [actK, List.mem_cons, Prod.mk.injEq, List.not_mem_nil, or_false] at h
  have : (ps.map (·.1)).length ≤ 3 := by
    rcases h with ⟨_, e⟩ | ⟨_, e⟩ | ⟨_, e⟩ | ⟨_, e⟩ | ⟨_, e⟩ | ⟨_, e⟩ | ⟨_, e⟩ | ⟨_, e⟩ | ⟨_, e⟩ | ⟨_, e⟩ | ⟨_, e⟩ | ⟨_, e⟩ | ⟨_, e⟩ <;> rw [e] <;> decide
  simpa using this
theorem ActV.line_len {nm : List Nat} {ps : List (List Nat × D)} (A : ActV nm ps) : (actL nm ps).length ≤ 7000 := by
  have n := (act_name A.k).2.2
  have k := A.kinds
  have s : ∀ qs : List (List Nat × D), (∀ p ∈ qs, Fit p.1 p.2) → ((qs.map fun p => enc p.2).map List.length).sum ≤ 2000 * qs.length := by
    intro qs
    induction qs with
    | nil => intro _; simp
    | cons q qs ih =>
      intro f
      have a := (f q (List.mem_cons_self ..)).word.2.1
      have b := ih fun p hp => f p (List.mem_cons_of_mem _ hp)
      simp only [List.map_cons, List.sum_cons, List.length_cons] at b ⊢
      omega
  have t := joinS_len [32] (actW nm ps)
  have u := s ps A.f
  unfold actL
  simp only [actW, List.map_cons, List.sum_cons, List.length_cons, List.length_map, List.length_nil] at t u ⊢
  omega
theorem ActV.line_ok {nm : List Nat} {ps : List (List Nat × D)} (A : ActV nm ps) : okStr (actL nm ps) := by
  refine okStr_join (okStr_cons (by omega) okStr_nil) ?_
  intro w hw
  rcases List.mem_cons.mp hw with rfl | hw
  · exact (act_name A.k).1.2
  · obtain ⟨p, hp, rfl⟩ := List.mem_map.mp hw
    exact (A.f p hp).word.1
end Mu
end

section
set_option maxRecDepth 10000
set_option linter.all false
set_option maxHeartbeats 4000000
namespace Mu
theorem zipD_pairs : ∀ ps : List (List Nat × D), zipD ((ps.map (·.1)).map .str) (ps.map (·.2)) = ps.map fun p => .tup [.str p.1, p.2]
  | [] => rfl
  | p :: ps => by rw [List.map_cons, List.map_cons, List.map_cons, List.map_cons, zipD, zipD_pairs ps]
theorem zipD_words : ∀ ps : List (List Nat × D), zipD ((ps.map (·.1)).map .str) ((ps.map fun p => enc p.2).map .str) = ps.map fun p => .tup [.str p.1, .str (enc p.2)]
  | [] => rfl
  | p :: ps => by rw [List.map_cons, List.map_cons, List.map_cons, List.map_cons, List.map_cons, zipD, zipD_words ps]
theorem isint_ok (n : Nat) (h : Hp) {i lo hi : Int} (q1 : lo ≤ i) (q2 : i ≤ hi) : callN prog (n + 1) "is_integer" [.int i, .int lo, .int hi] h = .ok (.bl true) h := by
  rw [call_is_integer]
  simp [vg0, vg1, vs0, vs1, fget, fput, cmpR_eq', cmpR_ne', eqR_def, memR_def, dlook, dput, mod_ok, fdiv_ok, gset_eq, gset_ne, q1, q2]
theorem act_plain {nm : List Nat} {ps : List (List Nat × D)} (A : ActV nm ps) : Plain 9 (actD nm ps) := by
  rw [actD, Plain]
  intro d hd
  rcases List.mem_cons.mp hd with rfl | hd
  · simp [Plain]
  · obtain ⟨p, hp, rfl⟩ := List.mem_map.mp hd
    exact (A.f p hp).plain.mono (by omega)
theorem act_ne (h : Hp) {nm : List Nat} {ps : List (List Nat × D)} (A : ActV nm ps) : cmpR .eq h (actD nm ps) (.tup []) = .ok (.bl false) h := by
  rw [cmpR_eq', eqR_plain ((act_plain A).mono (by omega)) (by simp [Plain])]
  rfl
theorem forK_two {c : Cx} {σ : Fr} {h : Hp} (i j : Nat) (b : Ss) (x y : D) : forK c (.tup [i, j]) b (.tup [x, y]) σ h = execs c (vset (vset σ i x) j y) h b := rfl
theorem kind_ne : (¬ cp "ticks" = cp "number") ∧ (¬ cp "number" = cp "ticks") ∧ (¬ cp "process" = cp "ticks") ∧ (¬ cp "process" = cp "number") ∧ (¬ cp "payload" = cp "ticks") ∧ (¬ cp "payload" = cp "number") ∧ (¬ cp "groups" = cp "ticks") ∧ (¬ cp "groups" = cp "number") := by decide
theorem check_loop (n : Nat) (h : Hp) (x0 x1 : Option D) : ∀ (ps : List (List Nat × D)) (x2 x3 : Option D), (∀ p ∈ ps, Fit p.1 p.2) →
    ∃ y2 y3, forL (fun _ => true) (forK (cxP prog (n + 1)) (.tup [2, 3]) b_check_act_3) (ps.map fun p => .tup [.str p.1, p.2]) [x0, x1, x2, x3] h = .nx [x0, x1, y2, y3] h
  | [], x2, x3, _ => ⟨x2, x3, rfl⟩
  | p :: ps, x2, x3, f => by
    obtain ⟨y2, y3, ih⟩ := check_loop n h x0 x1 ps (some (.str p.1)) (some p.2) fun q hq => f q (List.mem_cons_of_mem _ hq)
    refine ⟨y2, y3, ?_⟩
    have fp := f p (List.mem_cons_self ..)
    have st : forK (cxP prog (n + 1)) (.tup [2, 3]) b_check_act_3 (.tup [.str p.1, p.2]) [x0, x1, x2, x3] h = .nx [x0, x1, some (.str p.1), some p.2] h := by
      obtain ⟨k, d⟩ := p
      simp only at fp
      obtain ⟨k1, k2, k3, k4, k5, k6, k7, k8⟩ := kind_ne
      cases fp with
      | ticks m h1 h2 => have e := isint_ok n h (i := (m : Int)) (lo := 1) (hi := 1000) (by omega) (by omega); simp [vg0, vg1, vs0, vs1, fget, fput, cmpR_eq', cmpR_ne', eqR_def, memR_def, dlook, dput, mod_ok, fdiv_ok, gset_eq, gset_ne, forK_two, e, k1]
      | number m h1 => have e := isint_ok n h (i := (m : Int)) (lo := 0) (hi := 1000000000000) (by omega) (by omega); simp [vg0, vg1, vs0, vs1, fget, fput, cmpR_eq', cmpR_ne', eqR_def, memR_def, dlook, dput, mod_ok, fdiv_ok, gset_eq, gset_ne, forK_two, e, k2]
      | process m h1 => simp [vg0, vg1, vs0, vs1, fget, fput, cmpR_eq', cmpR_ne', eqR_def, memR_def, dlook, dput, mod_ok, fdiv_ok, gset_eq, gset_ne, forK_two, k3, k4]
      | payload s h1 h2 => simp [vg0, vg1, vs0, vs1, fget, fput, cmpR_eq', cmpR_ne', eqR_def, memR_def, dlook, dput, mod_ok, fdiv_ok, gset_eq, gset_ne, forK_two, k5, k6]
      | groups ds w l => simp [vg0, vg1, vs0, vs1, fget, fput, cmpR_eq', cmpR_ne', eqR_def, memR_def, dlook, dput, mod_ok, fdiv_ok, gset_eq, gset_ne, forK_two, k7, k8]
    rw [List.map_cons, forL, st]
    simp only [if_true]
    exact ih
theorem cut_tail (h : Hp) (a : D) (ds : List D) : cutR h (.tup (a :: ds)) (some 1) none = .ok (.tup ds) h := by
  simp [cutR, cut, clampI]
theorem ln_act (h : Hp) (nm : List Nat) (ps : List (List Nat × D)) : bltR .len h [actD nm ps] = .ok (.int ((ps.length : Int) + 1)) h := by simp [actD]
theorem check_ok (n : Nat) (h : Hp) {nm : List Nat} {ps : List (List Nat × D)} (A : ActV nm ps) : callN prog (n + 2) "check_act" [actD nm ps] h = .ok .non h := by
  have dl := dlook_acts A.k
  have ne := act_ne h A
  have kl : (ps.map (·.1)).length = ps.length := by simp
  obtain ⟨y2, y3, lp⟩ := check_loop n h (some (actD nm ps)) (some (.tup ((ps.map (·.1)).map .str))) ps none none A.f
  have ix : ixR h (actD nm ps) (.int 0) = .ok (.str nm) h := by simp [actD]
  have ct := cut_tail h (.str nm) (ps.map (·.2))
  rw [show D.tup (.str nm :: ps.map (·.2)) = actD nm ps from rfl] at ct
  have zp : zipK (.tup ((ps.map (·.1)).map .str)) (.tup (ps.map (·.2))) h = .ok (ps.map fun p => .tup [.str p.1, p.2], none) h := by
    rw [zipK_tup, zipD_pairs]
  have f1 : endI (.int 1) = some 1 := endI_ok (by omega) (by omega)
  have ln := ln_act h nm ps
  have ia : isaR h (actD nm ps) .tuple = some true := rfl
  have ia2 : isaR h (.str nm) .str = some true := rfl
  generalize ps.map (·.1) = ks at *
  generalize ps.map (·.2) = xs at *
  generalize (ps.map fun p => D.tup [.str p.1, p.2]) = zs at *
  generalize actD nm ps = T at *
  have ef := ex_for (c := cxP prog (n + 1)) (σ := [some T, some (.tup (ks.map .str)), none, none]) (h := h) (h1 := h) (t := .tup [2, 3]) (it := (.zip (.v 1) (.cut (.v 0) (some ()) none (.int 1) .non))) (b := b_check_act_3) (ds := zs) (g := none) (by
    simp [vg0, vg1, vs0, vs1, fget, fput, cmpR_eq', cmpR_ne', eqR_def, memR_def, dlook, dput, mod_ok, fdiv_ok, gset_eq, gset_ne, ct, f1, -zipK_tup, zp])
  have et : (fun h2 => gdOk h h2 none) = (fun _ : Hp => true) := rfl
  rw [et] at ef
  have es : exec (cxP prog (n + 1)) [some T, some (.tup (ks.map .str)), none, none] h s_check_act_3 = .nx [some T, some (.tup (ks.map .str)), y2, y3] h := ef.trans lp
  rw [call_check_act]
  simp [vg0, vg1, vs0, vs1, fget, fput, cmpR_eq', cmpR_ne', eqR_def, memR_def, dlook, dput, mod_ok, fdiv_ok, gset_eq, gset_ne, dl, ne, ix, ln, ia, kl, -s_check_act_3, es]
end Mu
end

section
set_option maxRecDepth 10000
set_option linter.all false
set_option maxHeartbeats 4000000
namespace Mu
theorem in_ticks (h : Hp) : inR h (.str (cp "ticks")) (.tup [.str (cp "payload"), .str (cp "groups")]) = some false := by rfl
theorem in_number (h : Hp) : inR h (.str (cp "number")) (.tup [.str (cp "payload"), .str (cp "groups")]) = some false := by rfl
theorem in_process (h : Hp) : inR h (.str (cp "process")) (.tup [.str (cp "payload"), .str (cp "groups")]) = some false := by rfl
theorem in_payload (h : Hp) : inR h (.str (cp "payload")) (.tup [.str (cp "payload"), .str (cp "groups")]) = some true := by rfl
theorem in_groups (h : Hp) : inR h (.str (cp "groups")) (.tup [.str (cp "payload"), .str (cp "groups")]) = some true := by rfl
theorem strn (h : Hp) {n : Nat} (hn : n < 1000000000000) : bltR .str h [.int (n : Int)] = .ok (.str (enc (.int (n : Int)))) h := by
  rw [enc_int]
  exact str_int h _ (Nat.lt_of_le_of_lt (show (n : Int).natAbs ≤ 1000000000000 by omega) (by decide +kernel))
theorem line_loop (k : Nat) (h : Hp) (x0 : Option D) : ∀ (ps : List (List Nat × D)) (acc : List (List Nat)) (x2 x3 : Option D) (g : Hp), (∀ p ∈ ps, Fit p.1 p.2) → acc.length + ps.length ≤ 1000 →
    ∃ y2 y3 g', forL (fun _ => true) (forK (cxP prog (6 + k + 3)) (.tup [2, 3]) b__line_of_1) (ps.map fun p => .tup [.str p.1, p.2]) [x0, some (.obj h.length), x2, x3] (h ++ .lst (acc.map .str) :: g) = .nx [x0, some (.obj h.length), y2, y3] (h ++ .lst ((acc ++ ps.map fun p => enc p.2).map .str) :: g')
  | [], acc, x2, x3, g, _, _ => ⟨x2, x3, g, by simp [forL]⟩
  | p :: ps, acc, x2, x3, g, f, hl => by
    simp only [List.length_cons] at hl
    have fp := f p (List.mem_cons_self ..)
    have la : acc.length < LIM := lim_lt (by omega)
    have st : ∃ g1, forK (cxP prog (6 + k + 3)) (.tup [2, 3]) b__line_of_1 (.tup [.str p.1, p.2]) [x0, some (.obj h.length), x2, x3] (h ++ .lst (acc.map .str) :: g) = .nx [x0, some (.obj h.length), some (.str p.1), some p.2] (h ++ .lst ((acc ++ [enc p.2]).map .str) :: (g ++ g1)) := by
      obtain ⟨kk, d⟩ := p
      simp only at fp
      have gm := fun g => get_mid h g (.lst (acc.map D.str))
      have sm := fun g y => set_mid h g (.lst (acc.map D.str)) y
      cases fp with
      | ticks m h1 h2 =>
        refine ⟨[], ?_⟩
        have e := fun h => strn h (n := m) (by omega)
        have i1 := in_ticks
        generalize enc (.int (m : Int)) = w at *
        generalize cp "ticks" = kn at *
        simp [vg0, vg1, vs0, vs1, fget, fput, cmpR_eq', cmpR_ne', eqR_def, memR_def, dlook, dput, mod_ok, fdiv_ok, gset_eq, gset_ne, forK_two, i1, e, gm, sm, la]
      | number m h1 =>
        refine ⟨[], ?_⟩
        have e := fun h => strn h (n := m) (by omega)
        have i1 := in_number
        generalize enc (.int (m : Int)) = w at *
        generalize cp "number" = kn at *
        simp [vg0, vg1, vs0, vs1, fget, fput, cmpR_eq', cmpR_ne', eqR_def, memR_def, dlook, dput, mod_ok, fdiv_ok, gset_eq, gset_ne, forK_two, i1, e, gm, sm, la]
      | process m h1 =>
        refine ⟨[], ?_⟩
        have e := fun h => strn h (n := m) (by omega)
        have i1 := in_process
        generalize enc (.int (m : Int)) = w at *
        generalize cp "process" = kn at *
        simp [vg0, vg1, vs0, vs1, fget, fput, cmpR_eq', cmpR_ne', eqR_def, memR_def, dlook, dput, mod_ok, fdiv_ok, gset_eq, gset_ne, forK_two, i1, e, gm, sm, la]
      | payload s h1 h2 =>
        obtain ⟨g1, e⟩ := encode_ok 6 k (.str s) (h ++ .lst (acc.map D.str) :: g) (by simp [Tv]; exact ⟨h1, by omega⟩) (by omega) (by have := (Fit.payload s h1 h2).word.2.1; omega)
        refine ⟨g1, ?_⟩
        have i1 := in_payload
        rw [List.append_assoc, List.cons_append] at e
        generalize enc (.str s) = w at *
        simp [vg0, vg1, vs0, vs1, fget, fput, cmpR_eq', cmpR_ne', eqR_def, memR_def, dlook, dput, mod_ok, fdiv_ok, gset_eq, gset_ne, forK_two, i1, e, gm, sm, la]
      | groups ds w0 l0 =>
        obtain ⟨g1, e⟩ := encode_ok 6 k (.tup ds) (h ++ .lst (acc.map D.str) :: g) w0 (by omega) (by omega)
        refine ⟨g1, ?_⟩
        have i1 := in_groups
        rw [List.append_assoc, List.cons_append] at e
        generalize enc (.tup ds) = w at *
        simp [vg0, vg1, vs0, vs1, fget, fput, cmpR_eq', cmpR_ne', eqR_def, memR_def, dlook, dput, mod_ok, fdiv_ok, gset_eq, gset_ne, forK_two, i1, e, gm, sm, la]
    obtain ⟨g1, st⟩ := st
    obtain ⟨y2, y3, g', ih⟩ := line_loop k h x0 ps (acc ++ [enc p.2]) (some (.str p.1)) (some p.2) (g ++ g1) (fun q hq => f q (List.mem_cons_of_mem _ hq)) (by simp; omega)
    refine ⟨y2, y3, g', ?_⟩
    rw [List.map_cons, forL, st]
    simp only [if_true]
    rw [ih]
    simp
end Mu
end

section
set_option maxRecDepth 10000
set_option linter.all false
set_option maxHeartbeats 4000000
namespace Mu
theorem join_act (h : Hp) (q : Nat) {nm : List Nat} {ps : List (List Nat × D)} (A : ActV nm ps) (hq : h[q]? = some (.lst ((actW nm ps).map D.str))) : bmR .join h (.str (cp " ")) [.obj q] = .ok (.str (actL nm ps)) h := by
  rw [show cp " " = [32] from by decide]
  refine joinS_ok h q [32] (actW nm ps) hq ?_
  have n := (act_name A.k).2.2
  have k := A.kinds
  have s : ∀ qs : List (List Nat × D), (∀ p ∈ qs, Fit p.1 p.2) → ((qs.map fun p => enc p.2).map List.length).sum ≤ 2000 * qs.length := by
    intro qs
    induction qs with
    | nil => intro _; simp
    | cons q qs ih =>
      intro f
      have a := (f q (List.mem_cons_self ..)).word.2.1
      have b := ih fun p hp => f p (List.mem_cons_of_mem _ hp)
      simp only [List.map_cons, List.sum_cons, List.length_cons] at b ⊢
      omega
  have u := s ps A.f
  simp only [actW, List.map_cons, List.sum_cons, List.length_cons, List.length_map, List.length_nil] at u ⊢
  omega
theorem line_ok (k : Nat) (h : Hp) {nm : List Nat} {ps : List (List Nat × D)} (A : ActV nm ps) : ∃ g, callN prog (6 + k + 4) "_line_of" [actD nm ps] h = .ok (.str (actL nm ps)) (h ++ g) := by
  have dl := dlook_acts A.k
  have kn := A.kinds
  have ix : ∀ h, ixR h (actD nm ps) (.int 0) = .ok (.str nm) h := fun h => by simp [actD]
  have ct := fun h => cut_tail h (.str nm) (ps.map (·.2))
  rw [show D.tup (.str nm :: ps.map (·.2)) = actD nm ps from rfl] at ct
  have zp : ∀ h, zipK (.tup ((ps.map (·.1)).map .str)) (.tup (ps.map (·.2))) h = .ok (ps.map fun p => .tup [.str p.1, p.2], none) h := fun h => by
    rw [zipK_tup, zipD_pairs]
  have f1 : endI (.int 1) = some 1 := endI_ok (by omega) (by omega)
  obtain ⟨y2, y3, g, lp⟩ := line_loop k h (some (actD nm ps)) ps [nm] none none [] A.f (by simp; omega)
  rw [show [nm] ++ ps.map (fun p => enc p.2) = actW nm ps from rfl] at lp
  have jn := join_act (h ++ .lst ((actW nm ps).map D.str) :: g) h.length A (get_mid h g _)
  generalize ps.map (·.1) = ks at *
  generalize ps.map (·.2) = xs at *
  generalize (ps.map fun p => D.tup [.str p.1, p.2]) = zs at *
  generalize actD nm ps = T at *
  generalize actW nm ps = ws at *
  generalize actL nm ps = L at *
  have lp : forL (fun _ => true) (forK (cxP prog (6 + k + 3)) (.tup [2, 3]) b__line_of_1) zs [some T, some (.obj h.length), none, none] (h ++ [.lst [.str nm]]) = .nx [some T, some (.obj h.length), y2, y3] (h ++ .lst (ws.map D.str) :: g) := lp
  have ef := ex_for (c := cxP prog (6 + k + 3)) (σ := [some T, some (.obj h.length), none, none]) (h := h ++ [.lst [.str nm]]) (h1 := h ++ [.lst [.str nm]]) (t := .tup [2, 3]) (it := (.zip (.gat "ACTS" (.ix (.v 0) (.int 0))) (.cut (.v 0) (some ()) none (.int 1) .non))) (b := b__line_of_1) (ds := zs) (g := none) (by
    simp [vg0, vg1, vs0, vs1, fget, fput, cmpR_eq', cmpR_ne', eqR_def, memR_def, dlook, dput, mod_ok, fdiv_ok, gset_eq, gset_ne, ct, ix, dl, f1, -zipK_tup, zp])
  have et : (fun h2 => gdOk (h ++ [.lst [.str nm]]) h2 none) = (fun _ : Hp => true) := rfl
  rw [et] at ef
  have es : exec (cxP prog (6 + k + 3)) [some T, some (.obj h.length), none, none] (h ++ [.lst [.str nm]]) s__line_of_1 = .nx [some T, some (.obj h.length), y2, y3] (h ++ .lst (ws.map D.str) :: g) := ef.trans lp
  refine ⟨.lst (ws.map D.str) :: g, ?_⟩
  rw [show 6 + k + 4 = (6 + k + 3) + 1 from rfl, call__line_of]
  simp [vg0, vg1, vs0, vs1, fget, fput, cmpR_eq', cmpR_ne', eqR_def, memR_def, dlook, dput, mod_ok, fdiv_ok, gset_eq, gset_ne, ix, -s__line_of_1, es, jn]
/-- the law's own line -/
theorem lline_loop (k : Nat) (h : Hp) (x0 : Option D) : ∀ (ps : List (List Nat × D)) (acc : List (List Nat)) (x2 : Option D) (g : Hp), (∀ p ∈ ps, Fit p.1 p.2) → acc.length + ps.length ≤ 1000 →
    ∃ y2 g', forL (fun _ => true) (forK (cxP prog (6 + k + 3)) (.one 2) b__law_line_1) (ps.map (·.2)) [x0, some (.obj h.length), x2] (h ++ .lst (acc.map .str) :: g) = .nx [x0, some (.obj h.length), y2] (h ++ .lst ((acc ++ ps.map fun p => enc p.2).map .str) :: g')
  | [], acc, x2, g, _, _ => ⟨x2, g, by simp [forL]⟩
  | p :: ps, acc, x2, g, f, hl => by
    simp only [List.length_cons] at hl
    have fp := f p (List.mem_cons_self ..)
    have la : acc.length < LIM := lim_lt (by omega)
    have st : ∃ g1, forK (cxP prog (6 + k + 3)) (.one 2) b__law_line_1 p.2 [x0, some (.obj h.length), x2] (h ++ .lst (acc.map .str) :: g) = .nx [x0, some (.obj h.length), some p.2] (h ++ .lst ((acc ++ [enc p.2]).map .str) :: (g ++ g1)) := by
      obtain ⟨kk, d⟩ := p
      simp only at fp
      have gm := fun g => get_mid h g (.lst (acc.map D.str))
      have sm := fun g y => set_mid h g (.lst (acc.map D.str)) y
      have nb : ∀ m : Nat, m < 1000000000000 → ∃ g1, forK (cxP prog (6 + k + 3)) (.one 2) b__law_line_1 (.int (m : Int)) [x0, some (.obj h.length), x2] (h ++ .lst (acc.map .str) :: g) = .nx [x0, some (.obj h.length), some (.int (m : Int))] (h ++ .lst ((acc ++ [enc (.int (m : Int))]).map .str) :: (g ++ g1)) := by
        intro m hm
        refine ⟨[], ?_⟩
        have e := fun h => strn h (n := m) (by omega)
        generalize enc (.int (m : Int)) = w at *
        simp [vg0, vg1, vs0, vs1, fget, fput, cmpR_eq', cmpR_ne', eqR_def, memR_def, dlook, dput, mod_ok, fdiv_ok, gset_eq, gset_ne, forK_one, e, gm, sm, la]
      cases fp with
      | ticks m h1 h2 => exact nb m (by omega)
      | number m h1 => exact nb m h1
      | process m h1 => exact nb m h1
      | payload s h1 h2 =>
        obtain ⟨g1, e⟩ := encode_ok 6 k (.str s) (h ++ .lst (acc.map D.str) :: g) (by simp [Tv]; exact ⟨h1, by omega⟩) (by omega) (by have := (Fit.payload s h1 h2).word.2.1; omega)
        refine ⟨g1, ?_⟩
        rw [List.append_assoc, List.cons_append] at e
        generalize enc (.str s) = w at *
        simp [vg0, vg1, vs0, vs1, fget, fput, cmpR_eq', cmpR_ne', eqR_def, memR_def, dlook, dput, mod_ok, fdiv_ok, gset_eq, gset_ne, forK_one, e, gm, sm, la]
      | groups ds w0 l0 =>
        obtain ⟨g1, e⟩ := encode_ok 6 k (.tup ds) (h ++ .lst (acc.map D.str) :: g) w0 (by omega) (by omega)
        refine ⟨g1, ?_⟩
        rw [List.append_assoc, List.cons_append] at e
        generalize enc (.tup ds) = w at *
        simp [vg0, vg1, vs0, vs1, fget, fput, cmpR_eq', cmpR_ne', eqR_def, memR_def, dlook, dput, mod_ok, fdiv_ok, gset_eq, gset_ne, forK_one, e, gm, sm, la]
    obtain ⟨g1, st⟩ := st
    obtain ⟨y2, g', ih⟩ := lline_loop k h x0 ps (acc ++ [enc p.2]) (some p.2) (g ++ g1) (fun q hq => f q (List.mem_cons_of_mem _ hq)) (by simp; omega)
    refine ⟨y2, g', ?_⟩
    rw [List.map_cons, forL, st]
    simp only [if_true]
    rw [ih]
    simp
theorem lline_ok (k : Nat) (h : Hp) {nm : List Nat} {ps : List (List Nat × D)} (A : ActV nm ps) : ∃ g, callN prog (6 + k + 4) "_law_line" [actD nm ps] h = .ok (.str (actL nm ps)) (h ++ g) := by
  have kn := A.kinds
  have ix : ∀ h, ixR h (actD nm ps) (.int 0) = .ok (.str nm) h := fun h => by simp [actD]
  have ct := fun h => cut_tail h (.str nm) (ps.map (·.2))
  rw [show D.tup (.str nm :: ps.map (·.2)) = actD nm ps from rfl] at ct
  have f1 : endI (.int 1) = some 1 := endI_ok (by omega) (by omega)
  obtain ⟨y2, g, lp⟩ := lline_loop k h (some (actD nm ps)) ps [nm] none [] A.f (by simp; omega)
  rw [show [nm] ++ ps.map (fun p => enc p.2) = actW nm ps from rfl] at lp
  have jn := join_act (h ++ .lst ((actW nm ps).map D.str) :: g) h.length A (get_mid h g _)
  generalize ps.map (·.2) = xs at *
  generalize actD nm ps = T at *
  generalize actW nm ps = ws at *
  generalize actL nm ps = L at *
  have lp : forL (fun _ => true) (forK (cxP prog (6 + k + 3)) (.one 2) b__law_line_1) xs [some T, some (.obj h.length), none] (h ++ [.lst [.str nm]]) = .nx [some T, some (.obj h.length), y2] (h ++ .lst (ws.map D.str) :: g) := lp
  have ef := ex_for (c := cxP prog (6 + k + 3)) (σ := [some T, some (.obj h.length), none]) (h := h ++ [.lst [.str nm]]) (h1 := h ++ [.lst [.str nm]]) (t := .one 2) (it := (.seq (.cut (.v 0) (some ()) none (.int 1) .non))) (b := b__law_line_1) (ds := xs) (g := none) (by
    simp [vg0, vg1, vs0, vs1, fget, fput, cmpR_eq', cmpR_ne', eqR_def, memR_def, dlook, dput, mod_ok, fdiv_ok, gset_eq, gset_ne, ct, f1])
  have et : (fun h2 => gdOk (h ++ [.lst [.str nm]]) h2 none) = (fun _ : Hp => true) := rfl
  rw [et] at ef
  have es : exec (cxP prog (6 + k + 3)) [some T, some (.obj h.length), none] (h ++ [.lst [.str nm]]) s__law_line_1 = .nx [some T, some (.obj h.length), y2] (h ++ .lst (ws.map D.str) :: g) := ef.trans lp
  refine ⟨.lst (ws.map D.str) :: g, ?_⟩
  rw [show 6 + k + 4 = (6 + k + 3) + 1 from rfl, call__law_line]
  simp [vg0, vg1, vs0, vs1, fget, fput, cmpR_eq', cmpR_ne', eqR_def, memR_def, dlook, dput, mod_ok, fdiv_ok, gset_eq, gset_ne, ix, -s__law_line_1, es, jn]
end Mu
end

section
set_option maxRecDepth 10000
set_option linter.all false
set_option maxHeartbeats 4000000
namespace Mu
theorem value_ok (k : Nat) (h : Hp) {kd : List Nat} {d : D} (ln : D) (f : Fit kd d) (hk : kd = cp "payload" ∨ kd = cp "groups") : ∃ g, callN prog (2 * 6 + k + 4) "_value_of" [.str kd, .str (enc d), ln] h = .ok d (h ++ g) := by
  have t : Tv 6 d := by
    cases f with
    | ticks n _ _ => rcases hk with q | q <;> exact absurd q (by decide)
    | number n _ => rcases hk with q | q <;> exact absurd q (by decide)
    | process n _ => rcases hk with q | q <;> exact absurd q (by decide)
    | payload s h1 h2 => simp [Tv]; exact ⟨h1, by omega⟩
    | groups ds w l => exact w
  have l := f.word.2.1
  obtain ⟨g, e⟩ := decode_ok 6 k d h t (by omega) (by omega)
  refine ⟨g, ?_⟩
  rw [show 2 * 6 + k + 4 = (2 * 6 + k + 3) + 1 from rfl, call__value_of]
  cases f with
  | ticks n _ _ => rcases hk with q | q <;> exact absurd q (by decide)
  | number n _ => rcases hk with q | q <;> exact absurd q (by decide)
  | process n _ => rcases hk with q | q <;> exact absurd q (by decide)
  | payload s h1 h2 =>
    have ia : isaR (h ++ g) (.str s) .str = some true := rfl
    generalize enc (.str s) = w at *
    simp [vg0, vg1, vs0, vs1, fget, fput, cmpR_eq', cmpR_ne', eqR_def, memR_def, dlook, dput, mod_ok, fdiv_ok, gset_eq, gset_ne, e, ia, tryK]
  | groups ds w0 l0 =>
    have n1 : ¬ cp "groups" = cp "payload" := by decide
    generalize enc (.tup ds) = w at *
    simp [vg0, vg1, vs0, vs1, fget, fput, cmpR_eq', cmpR_ne', eqR_def, memR_def, dlook, dput, mod_ok, fdiv_ok, gset_eq, gset_ne, e, n1, tryK]
theorem item_ok (k : Nat) (h : Hp) {kd : List Nat} {d : D} (ln : D) (f : Fit kd d) : ∃ g, callN prog (2 * 6 + k + 5) "_item_of" [.str kd, .str (enc d), ln] h = .ok d (h ++ g) := by
  have nb : ∀ (kk : List Nat) (m : Nat), m < 1000000000000 → inR h (.str kk) (.tup [.str (cp "payload"), .str (cp "groups")]) = some false → callN prog (2 * 6 + k + 5) "_item_of" [.str kk, .str (enc (.int (m : Int))), ln] h = .ok (.int (m : Int)) (h ++ []) := by
    intro kk m hm i1
    have e := num_ok (2 * 6 + k + 3) h m hm
    rw [enc_nat]
    rw [show 2 * 6 + k + 5 = (2 * 6 + k + 3 + 1) + 1 from rfl, call__item_of]
    generalize natDigits m = w at *
    simp [vg0, vg1, vs0, vs1, fget, fput, cmpR_eq', cmpR_ne', eqR_def, memR_def, dlook, dput, mod_ok, fdiv_ok, gset_eq, gset_ne, i1, e]
  have vl : (kd = cp "payload" ∨ kd = cp "groups") → inR h (.str kd) (.tup [.str (cp "payload"), .str (cp "groups")]) = some true → ∃ g, callN prog (2 * 6 + k + 5) "_item_of" [.str kd, .str (enc d), ln] h = .ok d (h ++ g) := by
    intro hk i1
    obtain ⟨g, e⟩ := value_ok k h ln f hk
    refine ⟨g, ?_⟩
    rw [show 2 * 6 + k + 5 = (2 * 6 + k + 4) + 1 from rfl, call__item_of]
    simp [vg0, vg1, vs0, vs1, fget, fput, cmpR_eq', cmpR_ne', eqR_def, memR_def, dlook, dput, mod_ok, fdiv_ok, gset_eq, gset_ne, i1, e]
  cases f with
  | ticks n h1 h2 => exact ⟨[], nb _ n (by omega) (in_ticks h)⟩
  | number n h1 => exact ⟨[], nb _ n h1 (in_number h)⟩
  | process n h1 => exact ⟨[], nb _ n h1 (in_process h)⟩
  | payload s h1 h2 => exact vl (.inl rfl) (in_payload h)
  | groups ds w l => exact vl (.inr rfl) (in_groups h)
theorem get_mid2 (h g : Hp) (x y : AO) : (h ++ x :: y :: g)[h.length + 1]? = some y := by simp
theorem act_loop (k : Nat) (H h1 : Hp) (R : List D) (hR : h1[H.length + 1]? = some (.lst R)) (x0 x2 x3 : Option D) (ln : D) : ∀ (ps : List (List Nat × D)) (acc : List D) (x5 x6 : Option D) (g : Hp), (∀ p ∈ ps, Fit p.1 p.2) → acc.length + ps.length ≤ 1000 →
    ∃ y5 y6 g', forL (fun h' => gdOk h1 h' (some (H.length + 1))) (forK (cxP prog (2 * 6 + k + 5)) (.tup [5, 6]) b__act_of_6) (ps.map fun p => .tup [.str p.1, .str (enc p.2)]) [x0, some ln, x2, x3, some (.obj H.length), x5, x6] (H ++ .lst acc :: .lst R :: g) =
      .nx [x0, some ln, x2, x3, some (.obj H.length), y5, y6] (H ++ .lst (acc ++ ps.map (·.2)) :: .lst R :: g')
  | [], acc, x5, x6, g, _, _ => ⟨x5, x6, g, by simp [forL]⟩
  | p :: ps, acc, x5, x6, g, f, hl => by
    simp only [List.length_cons] at hl
    have la : acc.length < LIM := lim_lt (by omega)
    obtain ⟨g1, e⟩ := item_ok k (H ++ .lst acc :: .lst R :: g) ln (f p (List.mem_cons_self ..))
    obtain ⟨y5, y6, g', ih⟩ := act_loop k H h1 R hR x0 x2 x3 ln ps (acc ++ [p.2]) (some (.str p.1)) (some (.str (enc p.2))) (g ++ g1) (fun q hq => f q (List.mem_cons_of_mem _ hq)) (by simp; omega)
    refine ⟨y5, y6, g', ?_⟩
    have gm := fun g => get_mid H g (.lst acc)
    have sm := fun g y => set_mid H g (.lst acc) y
    have gd := gdOk_obj h1 (H ++ .lst (acc ++ [p.2]) :: .lst R :: (g ++ g1)) (H.length + 1) R hR (get_mid2 H _ _ _)
    have st : forK (cxP prog (2 * 6 + k + 5)) (.tup [5, 6]) b__act_of_6 (.tup [.str p.1, .str (enc p.2)]) [x0, some ln, x2, x3, some (.obj H.length), x5, x6] (H ++ .lst acc :: .lst R :: g) = .nx [x0, some ln, x2, x3, some (.obj H.length), some (.str p.1), some (.str (enc p.2))] (H ++ .lst (acc ++ [p.2]) :: .lst R :: (g ++ g1)) := by
      rw [List.append_assoc, List.cons_append, List.cons_append] at e
      generalize enc p.2 = w at *
      simp [vg0, vg1, vs0, vs1, fget, fput, cmpR_eq', cmpR_ne', eqR_def, memR_def, dlook, dput, mod_ok, fdiv_ok, gset_eq, gset_ne, forK_two, e, gm, sm, la]
    rw [List.map_cons, forL, st]
    simp only [gd, if_true]
    rw [ih]
    simp
end Mu
end

section
set_option maxRecDepth 10000
set_option linter.all false
set_option maxHeartbeats 4000000
namespace Mu
theorem ix_lst0 {h : Hp} {q : Nat} {a : D} {ds : List D} (e : h[q]? = some (.lst (a :: ds))) : ixR h (.obj q) (.int 0) = .ok a h := by
  simp [ixR, e, ixN]
theorem cut_lst {h : Hp} {q : Nat} {a : D} {ds : List D} (e : h[q]? = some (.lst (a :: ds))) : cutR h (.obj q) (some 1) none = .ok (.obj h.length) (h ++ [.lst ds]) := by
  simp [cutR, e, cut, clampI]
theorem act_tail (k : Nat) (H : Hp) {nm : List Nat} {ps : List (List Nat × D)} (A : ActV nm ps) (row ln : D) (qw : Nat) (hw : H[qw]? = some (.lst ((actW nm ps).map D.str))) :
    ∃ g, execs (cxP prog (2 * 6 + k + 5)) [some row, some ln, some (.obj qw), some (.tup ((ps.map (·.1)).map .str)), none, none, none] H (.cons s__act_of_4 (.cons s__act_of_5 (.cons s__act_of_6 (.cons s__act_of_7 .nil)))) = .rt (actD nm ps) (H ++ g) := by
  have kn := A.kinds
  have hl := lt_of_get hw
  have ew : (actW nm ps).map D.str = .str nm :: (ps.map fun p => enc p.2).map .str := rfl
  rw [ew] at hw
  have hw1 : (H ++ [.lst [.str nm]])[qw]? = some (.lst (.str nm :: (ps.map fun p => enc p.2).map .str)) := get_app hw
  have l1 : (H ++ [AO.lst [.str nm]]).length = H.length + 1 := by simp
  have e2 : H ++ [AO.lst [.str nm]] ++ [.lst ((ps.map fun p => enc p.2).map .str)] = H ++ .lst [.str nm] :: .lst ((ps.map fun p => enc p.2).map .str) :: [] := by simp
  have hR : (H ++ .lst [.str nm] :: .lst ((ps.map fun p => enc p.2).map .str) :: [])[H.length + 1]? = some (.lst ((ps.map fun p => enc p.2).map .str)) := get_mid2 H _ _ _
  obtain ⟨y5, y6, g', lp⟩ := act_loop k H (H ++ .lst [.str nm] :: .lst ((ps.map fun p => enc p.2).map .str) :: []) ((ps.map fun p => enc p.2).map .str) hR (some row) (some (.obj qw)) (some (.tup ((ps.map (·.1)).map .str))) ln ps [.str nm] none none [] A.f (by simp; omega)
  have ix := ix_lst0 hw
  have ct := cut_lst hw1
  rw [l1, e2] at ct
  have zp := zipK_obj ((ps.map (·.1)).map .str) ((ps.map fun p => enc p.2).map .str) hR
  rw [zipD_words] at zp
  have f1 : endI (.int 1) = some 1 := endI_ok (by omega) (by omega)
  have ef := ex_for (c := cxP prog (2 * 6 + k + 5)) (σ := [some row, some ln, some (.obj qw), some (.tup ((ps.map (·.1)).map .str)), some (.obj H.length), none, none]) (h := H ++ [.lst [.str nm]]) (h1 := H ++ .lst [.str nm] :: .lst ((ps.map fun p => enc p.2).map .str) :: []) (t := .tup [5, 6]) (it := (.zip (.v 3) (.cut (.v 2) (some ()) none (.int 1) .non))) (b := b__act_of_6) (ds := ps.map fun p => .tup [.str p.1, .str (enc p.2)]) (g := some (H.length + 1)) (by
    generalize (ps.map fun p => D.tup [.str p.1, .str (enc p.2)]) = zs at *
    generalize (ps.map fun p => enc p.2).map D.str = xs at *
    generalize (ps.map (·.1)).map D.str = ks at *
    simp [vg0, vg1, vs0, vs1, fget, fput, cmpR_eq', cmpR_ne', eqR_def, memR_def, dlook, dput, mod_ok, fdiv_ok, gset_eq, gset_ne, ct, f1, zp])
  have es : exec (cxP prog (2 * 6 + k + 5)) [some row, some ln, some (.obj qw), some (.tup ((ps.map (·.1)).map .str)), some (.obj H.length), none, none] (H ++ [.lst [.str nm]]) s__act_of_6 = _ := ef.trans lp
  have gm := get_mid H (.lst ((ps.map fun p => enc p.2).map .str) :: g') (.lst ([.str nm] ++ ps.map (·.2)))
  have ad : D.tup ([.str nm] ++ ps.map (·.2)) = actD nm ps := rfl
  have lw : lenO H[qw]? H = .ok (.int ((ps.length : Int) + 1)) H := by
    rw [hw]; simp [lenO]
  have lk : ((ps.map (·.1)).map D.str).length = ps.length := by simp
  refine ⟨.lst ([.str nm] ++ ps.map (·.2)) :: .lst ((ps.map fun p => enc p.2).map .str) :: g', ?_⟩
  rw [← ad]
  generalize [D.str nm] ++ ps.map (·.2) = fs at *
  generalize (ps.map fun p => enc p.2).map D.str = xs at *
  generalize (ps.map (·.1)).map D.str = ks at *
  simp [vg0, vg1, vs0, vs1, fget, fput, cmpR_eq', cmpR_ne', eqR_def, memR_def, dlook, dput, mod_ok, fdiv_ok, gset_eq, gset_ne, lw, lk, ix, -s__act_of_6, es, gm]
theorem kinds_split {nm : List Nat} {ks : List (List Nat)} (h : (nm, ks) ∈ actK) : ks = [] ∨ ∃ is l, ks = is ++ [l] ∧ (∀ k ∈ is, k ≠ cp "payload" ∧ k ≠ cp "groups") := by
  have key : ∀ ks : List (List Nat), ks.dropLast.all (fun k => decide (k ≠ cp "payload" ∧ k ≠ cp "groups")) = true → ks = [] ∨ ∃ is l, ks = is ++ [l] ∧ (∀ k ∈ is, k ≠ cp "payload" ∧ k ≠ cp "groups") := by
    intro ks hs
    by_cases e : ks = []
    · exact .inl e
    · refine .inr ⟨ks.dropLast, ks.getLast e, (List.dropLast_concat_getLast e).symm, fun k hk => ?_⟩
      simpa using List.all_eq_true.mp hs k hk
  simp only [actK, List.mem_cons, Prod.mk.injEq, List.not_mem_nil, or_false] at h
  rcases h with ⟨_, rfl⟩ | ⟨_, rfl⟩ | ⟨_, rfl⟩ | ⟨_, rfl⟩ | ⟨_, rfl⟩ | ⟨_, rfl⟩ | ⟨_, rfl⟩ | ⟨_, rfl⟩ | ⟨_, rfl⟩ | ⟨_, rfl⟩ | ⟨_, rfl⟩ | ⟨_, rfl⟩ | ⟨_, rfl⟩ <;> exact key _ (by decide)
end Mu
end

section
set_option maxRecDepth 10000
set_option linter.all false
set_option maxHeartbeats 4000000
namespace Mu
theorem ne_nil (h : Hp) (ks : List (List Nat)) : cmpR .ne h (.tup (ks.map .str)) (.tup []) = .ok (.bl (!ks.isEmpty)) h := by
  rw [cmpR_ne', eqR_plain (by rw [Plain]; intro d hd; obtain ⟨s, _, rfl⟩ := List.mem_map.mp hd; simp [Plain]) (by simp [Plain])]
  cases ks <;> simp [pyEq, pyEqs]
theorem ixN_last (n : Nat) : ixN (-1) (n + 1) = some n := by
  unfold ixN
  rw [if_neg (by omega), if_pos (by omega)]
  congr 1; omega
theorem mOk_split1 : mOk .split 1 = true := rfl
theorem ix_last (h : Hp) (is : List (List Nat)) (l : List Nat) : ixR h (.tup ((is ++ [l]).map .str)) (.int (-1)) = .ok (.str l) h := by
  have e : ((is ++ [l]).map D.str).length = is.length + 1 := by simp
  have e2 : ((is ++ [l]).map D.str)[is.length]? = some (.str l) := by simp
  simp only [ixR, e, ixN_last, Option.bind_some, e2, opt]
theorem free_words {ps : List (List Nat × D)} (f : ∀ p ∈ ps, Fit p.1 p.2) (k : ∀ q ∈ ps.map (·.1), q ≠ cp "payload" ∧ q ≠ cp "groups") : ∀ w ∈ ps.map (fun p => enc p.2), 32 ∉ w := by
  intro w hw
  obtain ⟨p, hp, rfl⟩ := List.mem_map.mp hw
  have := k p.1 (List.mem_map_of_mem hp)
  exact (f p hp).word.2.2 this.1 this.2
theorem in_fit (h : Hp) {l : List Nat} {d : D} (f : Fit l d) : ((l = cp "payload" ∨ l = cp "groups") ∧ inR h (.str l) (.tup [.str (cp "payload"), .str (cp "groups")]) = some true) ∨ ((l ≠ cp "payload" ∧ l ≠ cp "groups") ∧ inR h (.str l) (.tup [.str (cp "payload"), .str (cp "groups")]) = some false) := by
  cases f with
  | ticks _ _ _ => exact .inr ⟨by decide, in_ticks h⟩
  | number _ _ => exact .inr ⟨by decide, in_number h⟩
  | process _ _ => exact .inr ⟨by decide, in_process h⟩
  | payload _ _ _ => exact .inl ⟨.inl rfl, in_payload h⟩
  | groups _ _ _ => exact .inl ⟨.inr rfl, in_groups h⟩
/-- a row's words, as the program takes them -/
theorem words_ok {nm : List Nat} {ps : List (List Nat × D)} (A : ActV nm ps) : (ps.map (·.1) = [] ∧ splitC 32 (actL nm ps) = actW nm ps) ∨
    ∃ is l, ps.map (·.1) = is ++ [l] ∧ ((∀ h, inR h (.str l) (.tup [.str (cp "payload"), .str (cp "groups")]) = some true) ∧ splitN 32 ps.length (actL nm ps) = actW nm ps ∨ (∀ h, inR h (.str l) (.tup [.str (cp "payload"), .str (cp "groups")]) = some false) ∧ splitC 32 (actL nm ps) = actW nm ps) := by
  have hn := (act_name A.k).1.1
  rcases kinds_split A.k with e | ⟨is, l, e, hi⟩
  · refine .inl ⟨e, ?_⟩
    have : ps = [] := by simpa using e
    subst this
    exact splitC_free hn
  · refine .inr ⟨is, l, e, ?_⟩
    obtain ⟨qs, p, rfl⟩ : ∃ qs p, ps = qs ++ [p] := by
      rcases List.eq_nil_or_concat ps with q | ⟨qs, p, q⟩
      · subst q; simp at e
      · exact ⟨qs, p, by simpa using q⟩
    rw [List.map_append, List.map_cons, List.map_nil] at e
    obtain ⟨e1, e2⟩ := List.append_inj' e rfl
    have e3 : p.1 = l := by simpa using e2
    have fq := free_words (ps := qs) (fun x hx => A.f x (List.mem_append_left _ hx)) (by rw [e1]; exact hi)
    have fp := A.f p (List.mem_append_right _ (List.mem_singleton.mpr rfl))
    have ew : actW nm (qs ++ [p]) = (nm :: qs.map fun p => enc p.2) ++ [enc p.2] := by simp [actW]
    rcases in_fit [] fp with ⟨q, _⟩ | ⟨q, _⟩
    · refine .inl ⟨fun h => ?_, ?_⟩
      · rcases in_fit h fp with ⟨_, r⟩ | ⟨r, _⟩
        · rw [← e3]; exact r
        · rcases q with q | q
          · exact absurd q r.1
          · exact absurd q r.2
      · rw [actL, ew]
        refine splitN_join _ _ (by simp) ?_
        intro w hw
        rcases List.mem_cons.mp hw with rfl | hw
        · exact hn
        · exact fq w hw
    · refine .inr ⟨fun h => ?_, ?_⟩
      · rcases in_fit h fp with ⟨r, _⟩ | ⟨_, r⟩
        · rcases r with r | r
          · exact absurd r q.1
          · exact absurd r q.2
        · rw [← e3]; exact r
      · rw [actL, ew]
        refine splitC_join (by simp) ?_
        intro w hw
        rcases List.mem_append.mp hw with hw | hw
        · rcases List.mem_cons.mp hw with rfl | hw
          · exact hn
          · exact fq w hw
        · rw [List.mem_singleton.mp hw]
          exact fp.word.2.2 q.1 q.2
theorem act_ok (k : Nat) (h : Hp) {nm : List Nat} {ps : List (List Nat × D)} (A : ActV nm ps) (ln : D) : ∃ g, callN prog (2 * 6 + k + 6) "_act_of" [.str (actL nm ps), ln] h = .ok (actD nm ps) (h ++ g) := by
  have dl := dlook_acts A.k
  have ll := A.line_len
  have kn := A.kinds
  have sp := split_ok h (actL nm ps) 32 (by omega) (by omega)
  have e32 : cp " " = [32] := by decide
  rw [← e32] at sp
  obtain ⟨r, hr⟩ : ∃ r, splitC 32 (actL nm ps) = nm :: r := splitC_head (act_name A.k).1.1 _
  have ix : ixR (h ++ [.lst ((splitC 32 (actL nm ps)).map D.str)]) (.obj h.length) (.int 0) = .ok (.str nm) (h ++ [.lst ((splitC 32 (actL nm ps)).map D.str)]) := ix_lst0 (ds := r.map D.str) (by rw [hr]; simp)
  rw [show 2 * 6 + k + 6 = (2 * 6 + k + 5) + 1 from rfl, call__act_of]
  rcases words_ok A with ⟨e, w⟩ | ⟨is, l, e, ⟨i1, w⟩ | ⟨i1, w⟩⟩
  · obtain ⟨g, t⟩ := act_tail k (h ++ [.lst ((splitC 32 (actL nm ps)).map D.str)]) A (.str (actL nm ps)) ln h.length (by rw [w]; simp)
    refine ⟨.lst ((splitC 32 (actL nm ps)).map D.str) :: g, ?_⟩
    have ne := ne_nil (h ++ [.lst ((splitC 32 (actL nm ps)).map D.str)]) (ps.map (·.1))
    rw [e] at ne t dl
    generalize actL nm ps = L at *
    generalize actD nm ps = T at *
    generalize (splitC 32 L).map D.str = ws at *
    simp only [List.map_nil, List.isEmpty_nil, Bool.not_true] at ne t dl
    simp [vg0, vg1, vs0, vs1, fget, fput, cmpR_eq', cmpR_ne', eqR_def, memR_def, dlook, dput, mod_ok, fdiv_ok, gset_eq, gset_ne, -s__act_of_4, -s__act_of_5, -s__act_of_6, -s__act_of_7, mOk_split1, sp, ix, dl, ne, t]
  · have hl : (h ++ [AO.lst ((splitC 32 (actL nm ps)).map D.str)]).length = h.length + 1 := by simp
    have sp2 := splitMax_ok (h ++ [.lst ((splitC 32 (actL nm ps)).map D.str)]) (actL nm ps) 32 ps.length (by omega) (by omega) (by omega)
    obtain ⟨g, t⟩ := act_tail k (h ++ [.lst ((splitC 32 (actL nm ps)).map D.str)] ++ [.lst ((splitN 32 ps.length (actL nm ps)).map D.str)]) A (.str (actL nm ps)) ln (h.length + 1) (by rw [w, ← hl]; simp)
    refine ⟨.lst ((splitC 32 (actL nm ps)).map D.str) :: .lst ((splitN 32 ps.length (actL nm ps)).map D.str) :: g, ?_⟩
    have ne := ne_nil (h ++ [.lst ((splitC 32 (actL nm ps)).map D.str)]) (ps.map (·.1))
    have il := ix_last (h ++ [.lst ((splitC 32 (actL nm ps)).map D.str)]) is l
    have hk : (ps.map (·.1)).isEmpty = false := by rw [e]; cases is <;> rfl
    have kl : ((ps.map (·.1)).map D.str).length = ps.length := by simp
    have i1' := i1 (h ++ [.lst ((splitC 32 (actL nm ps)).map D.str)])
    rw [hk] at ne
    rw [hl, ← e32] at sp2
    rw [← e] at il
    generalize ps.length = N at *
    generalize actL nm ps = L at *
    generalize actD nm ps = T at *
    generalize (ps.map (·.1)).map D.str = ks at *
    generalize (splitC 32 L).map D.str = ws at *
    generalize (splitN 32 N L).map D.str = vs at *
    simp only [Bool.not_false, List.append_assoc, List.singleton_append] at ne t sp2
    simp [vg0, vg1, vs0, vs1, fget, fput, cmpR_eq', cmpR_ne', eqR_def, memR_def, dlook, dput, mod_ok, fdiv_ok, gset_eq, gset_ne, -s__act_of_4, -s__act_of_5, -s__act_of_6, -s__act_of_7, mOk_split1, sp, ix, dl, ne, il, i1', kl, sp2, t]
  · obtain ⟨g, t⟩ := act_tail k (h ++ [.lst ((splitC 32 (actL nm ps)).map D.str)]) A (.str (actL nm ps)) ln h.length (by rw [w]; simp)
    refine ⟨.lst ((splitC 32 (actL nm ps)).map D.str) :: g, ?_⟩
    have ne := ne_nil (h ++ [.lst ((splitC 32 (actL nm ps)).map D.str)]) (ps.map (·.1))
    have il := ix_last (h ++ [.lst ((splitC 32 (actL nm ps)).map D.str)]) is l
    have hk : (ps.map (·.1)).isEmpty = false := by rw [e]; cases is <;> rfl
    have i1' := i1 (h ++ [.lst ((splitC 32 (actL nm ps)).map D.str)])
    rw [hk] at ne
    rw [← e] at il
    generalize actL nm ps = L at *
    generalize actD nm ps = T at *
    generalize (ps.map (·.1)).map D.str = ks at *
    generalize (splitC 32 L).map D.str = ws at *
    simp only [Bool.not_false] at ne
    simp [vg0, vg1, vs0, vs1, fget, fput, cmpR_eq', cmpR_ne', eqR_def, memR_def, dlook, dput, mod_ok, fdiv_ok, gset_eq, gset_ne, -s__act_of_4, -s__act_of_5, -s__act_of_6, -s__act_of_7, mOk_split1, sp, ix, dl, ne, il, i1', t]
end Mu
end

section
set_option maxRecDepth 10000
set_option linter.all false
set_option maxHeartbeats 4000000
namespace Mu
theorem eq_plain (h : Hp) {d : D} (p : Plain 50 d) : cmpR .eq h d d = .ok (.bl true) h := by
  rw [cmpR_eq', eqR_plain p p, pyEq_self 50 d p]
  rfl
theorem act_line_ok (k : Nat) (h : Hp) {nm : List Nat} {ps : List (List Nat × D)} (A : ActV nm ps) : ∃ g, callN prog (k + 19) "act_line" [actD nm ps] h = .ok (.str (actL nm ps)) (h ++ g) := by
  have e1 : callN prog (k + 18) "check_act" [actD nm ps] h = .ok .non h := check_ok (k + 16) h A
  obtain ⟨g, e2⟩ := line_ok (k + 8) h A
  rw [show 6 + (k + 8) + 4 = k + 18 by omega] at e2
  obtain ⟨g2, e3⟩ := act_ok k (h ++ g) A (.int 0)
  rw [show 2 * 6 + k + 6 = k + 18 by omega] at e3
  have ce := eq_plain (h ++ (g ++ g2)) ((act_plain A).mono (by omega))
  refine ⟨g ++ g2, ?_⟩
  rw [call_act_line]
  generalize actL nm ps = L at *
  generalize actD nm ps = T at *
  rw [List.append_assoc] at e3
  simp [vg0, vg1, vs0, vs1, fget, fput, cmpR_eq', cmpR_ne', eqR_def, memR_def, dlook, dput, mod_ok, fdiv_ok, gset_eq, gset_ne, e1, e2, e3, ce, tryK]
/-! ### rows -/
/-- a row that says nothing -/
def Skip (r : List Nat) : Prop := okStr r ∧ (r = [] ∨ ∃ t, r = 35 :: t) ∧ r.length ≤ 100
/-- the rows behind the group line, from the line n on, and the acts that they tell -/
inductive Rows : Nat → List (List Nat) → List D → Prop
  | nil (n : Nat) : Rows n [] []
  | skip (n : Nat) (r : List Nat) (rs : List (List Nat)) (ds : List D) : Skip r → Rows (n + 1) rs ds → Rows n (r :: rs) ds
  | act (n : Nat) {nm : List Nat} {ps : List (List Nat × D)} (A : ActV nm ps) (rs : List (List Nat)) (ds : List D) : Rows (n + 1) rs ds → Rows n (actL nm ps :: rs) (.tup [.int ((n + 1 : Nat) : Int), actD nm ps] :: ds)
theorem Rows.snoc_skip {r : List Nat} (s : Skip r) : ∀ {n : Nat} {rs : List (List Nat)} {ds : List D}, Rows n rs ds → Rows n (rs ++ [r]) ds
  | _, _, _, .nil n => .skip n r [] [] s (.nil _)
  | _, _, _, .skip n r' rs ds h t => .skip n r' _ _ h (Rows.snoc_skip s t)
  | _, _, _, .act n A rs ds t => .act n A _ _ (Rows.snoc_skip s t)
theorem Rows.snoc_act {nm : List Nat} {ps : List (List Nat × D)} (A : ActV nm ps) : ∀ {n : Nat} {rs : List (List Nat)} {ds : List D}, Rows n rs ds → Rows n (rs ++ [actL nm ps]) (ds ++ [.tup [.int ((n + rs.length + 1 : Nat) : Int), actD nm ps]])
  | _, _, _, .nil n => .act n A [] [] (.nil _)
  | _, _, _, .skip n r' rs ds h t => by
    have := Rows.snoc_act A t
    rw [show n + 1 + rs.length + 1 = n + (r' :: rs).length + 1 by simp; omega] at this
    exact .skip n r' _ _ h this
  | _, _, _, .act n A' rs ds t => by
    have := Rows.snoc_act A t
    rw [show n + 1 + rs.length + 1 = n + (_ :: rs).length + 1 by simp; omega] at this
    exact .act n A' _ _ this
end Mu
end

section
set_option maxRecDepth 10000
set_option linter.all false
set_option maxHeartbeats 4000000
namespace Mu
theorem eq_empty (h : Hp) (r : List Nat) : cmpR .eq h (.str r) (.str (cp "")) = .ok (.bl (decide (r = []))) h := by
  rw [cmpR_eq', eqR_plain (by simp [Plain]) (by simp [Plain]), show cp "" = [] from by decide]
  show R.ok (D.bl (pyEq (.str r) (.str []))) h = _
  cases r <;> simp [pyEq]
theorem sw_hash (h : Hp) (r : List Nat) : bmR .startswith h (.str r) [.str (cp "#")] = .ok (.bl (([35] : List Nat).isPrefixOf r)) h := by
  rw [show cp "#" = [35] from by decide, bmR_str]; rfl
theorem skip_step (k : Nat) (H : Hp) (x0 x1 x2 x3 x4 x5 x6 : Option D) (i : Int) {r : List Nat} (s : Skip r) :
    forK (cxP prog (k + 18)) (.tup [3, 4]) b_parse_schedule_2 (.tup [.int i, .str r]) [x0, x1, x2, x3, x4, x5, x6] H = .ct [x0, x1, x2, some (.int i), some (.str r), some (.int (i + 1)), x6] H := by
  have p := isprint (k + 17) H s.1
  have c1 := eq_empty H r
  have sw := sw_hash H r
  rcases s.2.1 with e | ⟨t, e⟩
  · have d : decide (r = []) = true := by simp [e]
    rw [d] at c1
    simp [vg0, vg1, vs0, vs1, fget, fput, cmpR_eq', cmpR_ne', eqR_def, memR_def, dlook, dput, mod_ok, fdiv_ok, gset_eq, gset_ne, forK_two, p, c1]
  · have d : decide (r = []) = false := by simp [e]
    have d2 : ([35] : List Nat).isPrefixOf r = true := by rw [e]; simp [List.isPrefixOf]
    rw [d] at c1
    rw [d2] at sw
    simp [vg0, vg1, vs0, vs1, fget, fput, cmpR_eq', cmpR_ne', eqR_def, memR_def, dlook, dput, mod_ok, fdiv_ok, gset_eq, gset_ne, forK_two, p, c1, sw]
theorem eq_word (h : Hp) (a b : List Nat) : cmpR .eq h (.str a) (.str b) = .ok (.bl (decide (a = b))) h := by
  rw [cmpR_eq', eqR_plain (by simp [Plain]) (by simp [Plain])]
  show R.ok (D.bl (pyEq (.str a) (.str b))) h = _
  simp [pyEq]
theorem actL_head {nm : List Nat} {ps : List (List Nat × D)} (A : ActV nm ps) : ∃ c t, actL nm ps = c :: t ∧ c ≠ 35 := by
  obtain ⟨c, r, e, hc⟩ := (act_name A.k).2.1.2
  unfold actL actW
  cases ps with
  | nil => exact ⟨c, r, by rw [e]; rfl, hc⟩
  | cons p ps => rw [List.map_cons, joinS_cons, e]; exact ⟨c, _, rfl, hc⟩
theorem act_step (k : Nat) (h : Hp) (acc : List D) (W : AO) (g : Hp) (x0 x3 x4 x5 x6 : Option D) (y : List D) (i : Int) {nm : List Nat} {ps : List (List Nat × D)} (A : ActV nm ps) (hl : acc.length ≤ 1000) :
    ∃ g' x6', forK (cxP prog (k + 18)) (.tup [3, 4]) b_parse_schedule_2 (.tup [.int i, .str (actL nm ps)]) [x0, some (.tup y), some (.obj h.length), x3, x4, x5, x6] (h ++ .lst acc :: W :: g) = .nx [x0, some (.tup y), some (.obj h.length), some (.int i), some (.str (actL nm ps)), some (.int (i + 1)), x6'] (h ++ .lst (acc ++ [.tup [.int (i + 1), actD nm ps]]) :: W :: g') := by
  have p := isprint (k + 17) (h ++ .lst acc :: W :: g) A.line_ok
  have c1 := eq_empty (h ++ .lst acc :: W :: g) (actL nm ps)
  have sw := sw_hash (h ++ .lst acc :: W :: g) (actL nm ps)
  obtain ⟨c, t, e, hc⟩ := actL_head A
  have d : decide (actL nm ps = []) = false := by simp [e]
  have d2 : ([35] : List Nat).isPrefixOf (actL nm ps) = false := by
    rw [e]; simp [List.isPrefixOf]; exact fun z => hc z.symm
  rw [d] at c1
  rw [d2] at sw
  have ll := A.line_len
  have sp := split_ok (h ++ .lst acc :: W :: g) (actL nm ps) 32 (by omega) (by omega)
  have e32 : cp " " = [32] := by decide
  rw [← e32] at sp
  obtain ⟨r, hr⟩ : ∃ r, splitC 32 (actL nm ps) = nm :: r := splitC_head (act_name A.k).1.1 _
  have ix : ixR (h ++ .lst acc :: W :: g ++ [.lst ((splitC 32 (actL nm ps)).map D.str)]) (.obj (h ++ .lst acc :: W :: g).length) (.int 0) = .ok (.str nm) (h ++ .lst acc :: W :: g ++ [.lst ((splitC 32 (actL nm ps)).map D.str)]) := ix_lst0 (ds := r.map D.str) (by rw [hr]; simp)
  have eg := eq_word (h ++ .lst acc :: W :: g ++ [.lst ((splitC 32 (actL nm ps)).map D.str)]) nm (cp "group")
  rw [decide_eq_false (act_name A.k).2.1.1] at eg
  obtain ⟨g2, e3⟩ := act_ok k (h ++ .lst acc :: W :: g ++ [.lst ((splitC 32 (actL nm ps)).map D.str)]) A (.int (i + 1))
  rw [show 2 * 6 + k + 6 = k + 18 by omega] at e3
  have la : acc.length < LIM := lim_lt (by omega)
  have gm := get_mid h (W :: (g ++ .lst ((splitC 32 (actL nm ps)).map D.str) :: g2)) (.lst acc)
  have sm := set_mid h (W :: (g ++ .lst ((splitC 32 (actL nm ps)).map D.str) :: g2)) (.lst acc) (.lst (acc ++ [.tup [.int (i + 1), actD nm ps]]))
  generalize hq : (h ++ .lst acc :: W :: g).length = q at *
  refine ⟨g ++ .lst ((splitC 32 (actL nm ps)).map D.str) :: g2, some (.obj q), ?_⟩
  generalize actL nm ps = L at *
  generalize actD nm ps = T at *
  generalize (splitC 32 L).map D.str = ws at *
  simp only [List.append_assoc, List.cons_append, List.nil_append] at sp ix eg e3 gm sm
  simp [vg0, vg1, vs0, vs1, fget, fput, cmpR_eq', cmpR_ne', eqR_def, memR_def, dlook, dput, mod_ok, fdiv_ok, gset_eq, gset_ne, forK_two, mOk_split1, p, c1, sw, sp, ix, eg, e3, gm, sm, la]
end Mu
end

section
set_option maxRecDepth 10000
set_option linter.all false
set_option maxHeartbeats 4000000
namespace Mu
/-- the group line -/
def groupL (m : Nat) : List Nat := cp "group" ++ 32 :: natDigits m
theorem groupL_ok (m : Nat) : okStr (groupL m) := okStr_app (fun c hc => (by decide : ∀ c ∈ cp "group", 32 ≤ c ∧ c ≤ 126 ∧ c ≠ 37) c hc) (okStr_cons (by omega) (isDig_okStr (natDigits_dig m)))
theorem groupL_split (m : Nat) : splitC 32 (groupL m) = [cp "group", natDigits m] := by
  unfold groupL
  rw [splitC_cons _ (by decide), splitC_free (dig32 m)]
theorem ix_lst1 {h : Hp} {q : Nat} {a b : D} {ds : List D} (e : h[q]? = some (.lst (a :: b :: ds))) : ixR h (.obj q) (.int 1) = .ok b h := by
  have l : (1 : Int) < ((a :: b :: ds).length : Int) := by simp; omega
  simp only [ixR, e, ixN, if_pos l]
  rfl
theorem count_ok (n : Nat) (h : Hp) (q : Nat) (a ln : D) (m : Nat) (hm : m < 1000000000000) (e : h[q]? = some (.lst [a, .str (natDigits m)])) : callN prog (n + 2) "_count_of" [.obj q, ln] h = .ok (.int (m : Int)) h := by
  have e1 := num_ok n h m hm
  have ix := ix_lst1 e
  have lw : lenO h[q]? h = .ok (.int 2) h := by rw [e]; simp [lenO]
  rw [show n + 2 = (n + 1) + 1 from rfl, call__count_of]
  generalize natDigits m = w at *
  simp [vg0, vg1, vs0, vs1, fget, fput, cmpR_eq', cmpR_ne', eqR_def, memR_def, dlook, dput, mod_ok, fdiv_ok, gset_eq, gset_ne, e1, ix, lw]
theorem group_step (k : Nat) (h : Hp) (A W : AO) (g : Hp) (x0 x3 x4 x5 x6 : Option D) (i : Int) (m : Nat) (hm : m < 1000000000000) :
    ∃ g' x6', forK (cxP prog (k + 18)) (.tup [3, 4]) b_parse_schedule_2 (.tup [.int i, .str (groupL m)]) [x0, some .non, some (.obj h.length), x3, x4, x5, x6] (h ++ A :: W :: g) = .nx [x0, some (.tup [.int (i + 1), .int (m : Int)]), some (.obj h.length), some (.int i), some (.str (groupL m)), some (.int (i + 1)), x6'] (h ++ A :: W :: g') := by
  have p := isprint (k + 17) (h ++ A :: W :: g) (groupL_ok m)
  have c1 := eq_empty (h ++ A :: W :: g) (groupL m)
  have sw := sw_hash (h ++ A :: W :: g) (groupL m)
  have e : ∃ t, groupL m = 103 :: t := ⟨_, rfl⟩
  obtain ⟨t, e⟩ := e
  have d : decide (groupL m = []) = false := by simp [e]
  have d2 : ([35] : List Nat).isPrefixOf (groupL m) = false := by rw [e]; simp [List.isPrefixOf]
  rw [d] at c1
  rw [d2] at sw
  have ll : (groupL m).length ≤ 900000 := by unfold groupL; have := dig12 hm; simp [show (cp "group").length = 5 by decide]; omega
  have sp := split_ok (h ++ A :: W :: g) (groupL m) 32 (by omega) ll
  have e32 : cp " " = [32] := by decide
  rw [← e32, groupL_split] at sp
  have hq : (h ++ A :: W :: g ++ [.lst ([cp "group", natDigits m].map D.str)])[(h ++ A :: W :: g).length]? = some (.lst [.str (cp "group"), .str (natDigits m)]) := by simp
  have ix := ix_lst0 hq
  have eg := eq_word (h ++ A :: W :: g ++ [.lst ([cp "group", natDigits m].map D.str)]) (cp "group") (cp "group")
  rw [decide_eq_true rfl] at eg
  have e3 := count_ok (k + 16) _ _ _ (.int (i + 1)) m hm hq
  generalize hq : (h ++ A :: W :: g).length = q at *
  refine ⟨g ++ [.lst ([cp "group", natDigits m].map D.str)], some (.obj q), ?_⟩
  generalize groupL m = L at *
  generalize [cp "group", natDigits m].map D.str = ws at *
  simp only [List.append_assoc, List.cons_append, List.nil_append] at sp ix eg e3
  simp [vg0, vg1, vs0, vs1, fget, fput, cmpR_eq', cmpR_ne', eqR_def, memR_def, dlook, dput, mod_ok, fdiv_ok, gset_eq, gset_ne, forK_two, mOk_split1, p, c1, sw, sp, ix, eg, e3]
theorem enumD_cons (i : Nat) (d : D) (ds : List D) : enumD i (d :: ds) = .tup [.int (i : Int), d] :: enumD (i + 1) ds := rfl
theorem rows_loop (k : Nat) (h h1 : Hp) (R : List D) (hR : h1[h.length + 1]? = some (.lst R)) (x0 : Option D) (y : List D) : ∀ {n : Nat} {rs : List (List Nat)} {ds : List D}, Rows n rs ds → ∀ (acc : List D) (x3 x4 x5 x6 : Option D) (g : Hp), acc.length + rs.length ≤ 1000 →
    ∃ y3 y4 y5 y6 g', forL (fun h' => gdOk h1 h' (some (h.length + 1))) (forK (cxP prog (k + 18)) (.tup [3, 4]) b_parse_schedule_2) (enumD n (rs.map .str)) [x0, some (.tup y), some (.obj h.length), x3, x4, x5, x6] (h ++ .lst acc :: .lst R :: g) =
      .nx [x0, some (.tup y), some (.obj h.length), y3, y4, y5, y6] (h ++ .lst (acc ++ ds) :: .lst R :: g')
  | _, _, _, .nil n, acc, x3, x4, x5, x6, g, _ => ⟨x3, x4, x5, x6, g, by simp [forL, enumD]⟩
  | _, _, _, .skip n r rs ds s t, acc, x3, x4, x5, x6, g, hl => by
    simp only [List.length_cons] at hl
    have st := skip_step k (h ++ .lst acc :: .lst R :: g) x0 (some (.tup y)) (some (.obj h.length)) x3 x4 x5 x6 (n : Int) s
    obtain ⟨y3, y4, y5, y6, g', ih⟩ := rows_loop k h h1 R hR x0 y t acc (some (.int (n : Int))) (some (.str r)) (some (.int ((n : Int) + 1))) x6 g (by omega)
    refine ⟨y3, y4, y5, y6, g', ?_⟩
    have gd := gdOk_obj h1 (h ++ .lst acc :: .lst R :: g) (h.length + 1) R hR (get_mid2 h _ _ _)
    rw [List.map_cons, enumD_cons, forL, st]
    simp only [gd, if_true]
    exact ih
  | _, _, _, .act n (nm := nm) (ps := ps) A rs ds t, acc, x3, x4, x5, x6, g, hl => by
    simp only [List.length_cons] at hl
    obtain ⟨g1, x6', st⟩ := act_step k h acc (.lst R) g x0 x3 x4 x5 x6 y (n : Int) A (by omega)
    obtain ⟨y3, y4, y5, y6, g', ih⟩ := rows_loop k h h1 R hR x0 y t (acc ++ [.tup [.int ((n : Int) + 1), actD nm ps]]) (some (.int (n : Int))) (some (.str (actL nm ps))) (some (.int ((n : Int) + 1))) x6' g1 (by simp; omega)
    refine ⟨y3, y4, y5, y6, g', ?_⟩
    have gd := gdOk_obj h1 (h ++ .lst (acc ++ [.tup [.int ((n : Int) + 1), actD nm ps]]) :: .lst R :: g1) (h.length + 1) R hR (get_mid2 h _ _ _)
    rw [List.map_cons, enumD_cons, forL, st]
    simp only [gd, if_true]
    rw [ih]
    simp
theorem pre_loop (k : Nat) (h h1 : Hp) (R : List D) (hR : h1[h.length + 1]? = some (.lst R)) (x0 : Option D) (m : Nat) (hm : m < 1000000000000) {rs : List (List Nat)} {ds : List D} : ∀ (pre : List (List Nat)) (n : Nat), (∀ r ∈ pre, Skip r) → Rows (n + pre.length + 1) rs ds → ∀ (x3 x4 x5 x6 : Option D) (g : Hp), rs.length ≤ 1000 →
    ∃ y3 y4 y5 y6 g', forL (fun h' => gdOk h1 h' (some (h.length + 1))) (forK (cxP prog (k + 18)) (.tup [3, 4]) b_parse_schedule_2) (enumD n ((pre ++ groupL m :: rs).map .str)) [x0, some .non, some (.obj h.length), x3, x4, x5, x6] (h ++ .lst [] :: .lst R :: g) =
      .nx [x0, some (.tup [.int ((n + pre.length + 1 : Nat) : Int), .int (m : Int)]), some (.obj h.length), y3, y4, y5, y6] (h ++ .lst ds :: .lst R :: g')
  | [], n, _, t, x3, x4, x5, x6, g, hl => by
    obtain ⟨g1, x6', st⟩ := group_step k h (.lst []) (.lst R) g x0 x3 x4 x5 x6 (n : Int) m hm
    obtain ⟨y3, y4, y5, y6, g', ih⟩ := rows_loop k h h1 R hR x0 [.int ((n : Int) + 1), .int (m : Int)] t [] (some (.int (n : Int))) (some (.str (groupL m))) (some (.int ((n : Int) + 1))) x6' g1 (by simpa using hl)
    refine ⟨y3, y4, y5, y6, g', ?_⟩
    have gd := gdOk_obj h1 (h ++ .lst [] :: .lst R :: g1) (h.length + 1) R hR (get_mid2 h _ _ _)
    rw [List.nil_append, List.map_cons, enumD_cons, forL, st]
    simp only [gd, if_true]
    exact ih
  | r :: pre, n, hs, t, x3, x4, x5, x6, g, hl => by
    have st := skip_step k (h ++ .lst [] :: .lst R :: g) x0 (some .non) (some (.obj h.length)) x3 x4 x5 x6 (n : Int) (hs r (List.mem_cons_self ..))
    have en : n + (r :: pre).length + 1 = n + 1 + pre.length + 1 := by simp; omega
    rw [en] at t ⊢
    obtain ⟨y3, y4, y5, y6, g', ih⟩ := pre_loop k h h1 R hR x0 m hm pre (n + 1) (fun q hq => hs q (List.mem_cons_of_mem _ hq)) t (some (.int (n : Int))) (some (.str r)) (some (.int ((n : Int) + 1))) x6 g hl
    refine ⟨y3, y4, y5, y6, g', ?_⟩
    have gd := gdOk_obj h1 (h ++ .lst [] :: .lst R :: g) (h.length + 1) R hR (get_mid2 h _ _ _)
    rw [List.cons_append, List.map_cons, enumD_cons, forL, st]
    simp only [gd, if_true]
    exact ih
end Mu
end

section
set_option maxRecDepth 10000
set_option linter.all false
set_option maxHeartbeats 4000000
namespace Mu
theorem Rows.okStr : ∀ {n : Nat} {rs : List (List Nat)} {ds : List D}, Rows n rs ds → ∀ r ∈ rs, okStr r
  | _, _, _, .nil n, r, h => nomatch h
  | _, _, _, .skip n r' rs ds s t, r, h => by
    rcases List.mem_cons.mp h with rfl | h
    · exact s.1
    · exact Rows.okStr t r h
  | _, _, _, .act n A rs ds t, r, h => by
    rcases List.mem_cons.mp h with rfl | h
    · exact A.line_ok
    · exact Rows.okStr t r h
theorem okStr_no10 {s : List Nat} (h : okStr s) : 10 ∉ s := fun q => by have := (h 10 q).1; omega
theorem parse_ok (k : Nat) (h : Hp) (m : Nat) (hm : m < 1000000000000) (pre rs : List (List Nat)) (ds : List D) (hs : ∀ r ∈ pre, Skip r) (t : Rows (pre.length + 1) rs ds) (hl : rs.length ≤ 1000) (hT : (joinS [10] (pre ++ groupL m :: rs)).length ≤ 900000) :
    ∃ g, callN prog (k + 19) "parse_schedule" [.str (joinS [10] (pre ++ groupL m :: rs))] h = .ok (.tup [.int ((pre.length + 1 : Nat) : Int), .int (m : Int), .obj h.length]) (h ++ .lst ds :: g) := by
  have e10 : cp "\n" = [10] := by decide
  have sj : splitC 10 (joinS [10] (pre ++ groupL m :: rs)) = pre ++ groupL m :: rs := by
    refine splitC_join (by simp) fun w hw => okStr_no10 ?_
    rcases List.mem_append.mp hw with hw | hw
    · exact (hs w hw).1
    · rcases List.mem_cons.mp hw with rfl | hw
      · exact groupL_ok m
      · exact t.okStr w hw
  have sp : bmR .split (h ++ [.lst []]) (.str (joinS [10] (pre ++ groupL m :: rs))) [.str (cp "\n")] = .ok (.obj (h ++ [AO.lst []]).length) (h ++ [AO.lst []] ++ [.lst ((pre ++ groupL m :: rs).map .str)]) := by
    have := split_ok (h ++ [.lst []]) (joinS [10] (pre ++ groupL m :: rs)) 10 (by omega) hT
    rw [sj] at this
    rw [e10]
    exact this
  have l1 : (h ++ [AO.lst []]).length = h.length + 1 := by simp
  have e2 : h ++ [AO.lst []] ++ [.lst ((pre ++ groupL m :: rs).map .str)] = h ++ .lst [] :: .lst ((pre ++ groupL m :: rs).map .str) :: [] := by simp
  rw [l1, e2] at sp
  have hR : (h ++ .lst [] :: .lst ((pre ++ groupL m :: rs).map .str) :: [])[h.length + 1]? = some (.lst ((pre ++ groupL m :: rs).map .str)) := get_mid2 h _ _ _
  have t' : Rows (0 + pre.length + 1) rs ds := by rw [Nat.zero_add]; exact t
  obtain ⟨y3, y4, y5, y6, g', lp⟩ := pre_loop k h (h ++ .lst [] :: .lst ((pre ++ groupL m :: rs).map .str) :: []) ((pre ++ groupL m :: rs).map .str) hR (some (.str (joinS [10] (pre ++ groupL m :: rs)))) m hm pre 0 hs t' none none none none [] hl
  rw [Nat.zero_add] at lp
  have ek : enmK (.obj (h.length + 1)) (h ++ .lst [] :: .lst ((pre ++ groupL m :: rs).map .str) :: []) = .ok (enumD 0 ((pre ++ groupL m :: rs).map .str), some (h.length + 1)) (h ++ .lst [] :: .lst ((pre ++ groupL m :: rs).map .str) :: []) := by
    simp only [enmK, hR]
  have ef := ex_for (c := cxP prog (k + 18)) (σ := [some (.str (joinS [10] (pre ++ groupL m :: rs))), some .non, some (.obj h.length), none, none, none, none]) (h := h ++ [.lst []]) (h1 := h ++ .lst [] :: .lst ((pre ++ groupL m :: rs).map .str) :: []) (t := .tup [3, 4]) (it := (.enm (.bm (.v 0) .split (.cons (.str "\n") .nil)))) (b := b_parse_schedule_2) (ds := enumD 0 ((pre ++ groupL m :: rs).map .str)) (g := some (h.length + 1)) (by
    generalize joinS [10] (pre ++ groupL m :: rs) = T at *
    generalize (pre ++ groupL m :: rs).map D.str = ws at *
    generalize enumD 0 ws = zs at *
    simp [vg0, vg1, vs0, vs1, fget, fput, cmpR_eq', cmpR_ne', eqR_def, memR_def, dlook, dput, mod_ok, fdiv_ok, gset_eq, gset_ne, mOk_split1, sp, ek])
  have es : exec (cxP prog (k + 18)) [some (.str (joinS [10] (pre ++ groupL m :: rs))), some .non, some (.obj h.length), none, none, none, none] (h ++ [.lst []]) s_parse_schedule_2 = _ := ef.trans lp
  refine ⟨.lst ((pre ++ groupL m :: rs).map .str) :: g', ?_⟩
  rw [call_parse_schedule]
  generalize joinS [10] (pre ++ groupL m :: rs) = T at *
  generalize (pre ++ groupL m :: rs).map D.str = ws at *
  generalize ((pre.length + 1 : Nat) : Int) = ln at *
  simp [vg0, vg1, vs0, vs1, fget, fput, cmpR_eq', cmpR_ne', eqR_def, memR_def, dlook, dput, mod_ok, fdiv_ok, gset_eq, gset_ne, -s_parse_schedule_2, es]
end Mu
end

section
set_option maxRecDepth 10000
set_option linter.all false
set_option maxHeartbeats 4000000
namespace Mu
/-- an item of a list by a drawn index -/
theorem pick_at {h : Hp} {q : Nat} {ds : List D} (e : h[q]? = some (.lst ds)) {r : Int} (r0 : 0 ≤ r) (r1 : r < (ds.length : Int)) : ∃ d, d ∈ ds ∧ ixR h (.obj q) (.int r) = .ok d h := by
  have hi : r.toNat < ds.length := by omega
  refine ⟨ds[r.toNat], List.getElem_mem hi, ?_⟩
  have hg : ds[r.toNat]? = some ds[r.toNat] := List.getElem?_eq_getElem hi
  simp only [ixR, e, ixN, if_pos r0, if_pos r1, Option.bind_some, hg, opt]
theorem pick_new {b : Nat} {h h1 : Hp} (l : Loc b h h1) (ds : List D) {r : Int} (r0 : 0 ≤ r) (r1 : r < (ds.length : Int)) : ∃ d, d ∈ ds ∧ ixR (h1 ++ [.lst ds]) (.obj h.length) (.int r) = .ok d (h1 ++ [.lst ds]) :=
  pick_at (by rw [← l.eql]; simp) r0 r1
def chars : List Nat := cp " !\"#$&'()*+,-./0123456789:;<=>?@ABCDEFGHIJKLMNOPQRSTUVWXYZ[\\]^_`abcdefghijklmnopqrstuvwxyz{|}~"
theorem chars_len : chars.length = 94 := by rfl
theorem chars_ok : ∀ c ∈ chars, (32 ≤ c ∧ c ≤ 126 ∧ c ≠ 37) := by
  have : chars.all (fun c => decide (32 ≤ c) && decide (c ≤ 126) && c != 37) = true := by rfl
  intro c hc
  have := List.all_eq_true.mp this c hc
  simpa [and_assoc] using this
def Txt (d : D) : Prop := ∃ s, d = .str s ∧ okStr s ∧ s.length ≤ 60
theorem okStr_dec {s : List Nat} (h : s.all (fun c => decide (32 ≤ c) && decide (c ≤ 126) && c != 37) = true) : okStr s := by
  intro c hc
  have := List.all_eq_true.mp h c hc
  simpa [and_assoc] using this
theorem ix_st2 (h : Hp) (s : List Nat) (i : Int) : ixR h (.str s) (.int i) = opt (((ixN i s.length).bind fun k => s[k]?).map fun c => .str [c]) h := rfl
theorem size_of {d : D} (h : d ∈ [D.int 0, .int 1, .int 2, .int 5, .int 30, .int 31, .int 60]) : ∃ v : Int, d = .int v ∧ 0 ≤ v ∧ v ≤ 60 := by
  simp only [List.mem_cons, List.not_mem_nil, or_false] at h
  rcases h with rfl | rfl | rfl | rfl | rfl | rfl | rfl <;> exact ⟨_, rfl, by decide, by decide⟩
theorem txt_of {d : D} (h : d ∈ [D.str (cp ""), .str (cp "a"), .str (cp " "), .str (cp "5:it is"), .str (cp "a b  c"), .str (cp "#1"), .str (cp "(0;)")]) : Txt d := by
  simp only [List.mem_cons, List.not_mem_nil, or_false] at h
  rcases h with rfl | rfl | rfl | rfl | rfl | rfl | rfl <;> exact ⟨_, rfl, okStr_dec (by decide), by decide⟩
theorem ltext_ok (n : Nat) {b : Nat} {h : Hp} (B : Bag b h) : Ok (fun d h' => Txt d ∧ Ex b h h') (callN prog (n + 2) "_law_text" [.obj b] h) := by
  rw [call__law_text]
  have hcs : cp " !\"#$&'()*+,-./0123456789:;<=>?@ABCDEFGHIJKLMNOPQRSTUVWXYZ[\\]^_`abcdefghijklmnopqrstuvwxyz{|}~" = chars := rfl
  obtain ⟨r1, h1, a0, a1, l1, e1⟩ := draw_loc n B 7 (by decide) (by decide)
  obtain ⟨sz, hs, ix⟩ := pick_new l1 [D.int 0, .int 1, .int 2, .int 5, .int 30, .int 31, .int 60] a0 (by simpa using a1)
  obtain ⟨v, rfl, v0, v1⟩ := size_of hs
  have e1 := e1 [.lst [D.int 0, .int 1, .int 2, .int 5, .int 30, .int 31, .int 60]]
  have B1 : Bag b (h1 ++ [.lst [D.int 0, .int 1, .int 2, .int 5, .int 30, .int 31, .int 60]]) := l1.bag.app
  have E1 : Ex b h (h1 ++ [.lst [D.int 0, .int 1, .int 2, .int 5, .int 30, .int 31, .int 60]]) := l1.toEx.app _
  generalize h1 ++ [AO.lst [D.int 0, .int 1, .int 2, .int 5, .int 30, .int 31, .int 60]] = H1 at *
  obtain ⟨r2, h2, b0, b1, l2, e2⟩ := draw_loc n B1 2 (by decide) (by decide)
  have e2 := e2 []
  simp only [List.append_nil] at e2
  have E2 := E1.trans l2.toEx
  by_cases q : r2 = 0
  · subst q
    have rk := fun h => rngK1_ok h v (by omega) (by omega)
    have hlc := lcL_run (g := fun _ => true) (step := lcS0 (cxP prog (n + 1)) [some (.obj b), some (.str chars), some (.int v), none] (.one 3) (.ix (.v 1) (.call "_law_draw" (.cons (.v 0) (.cons (.int 94) .nil)))))
      (fun ds acc h' => acc.length + ds.length ≤ 60 ∧ (∃ cs : List Nat, acc = (cs.map fun c => [c]).map D.str ∧ ∀ c ∈ cs, c ∈ chars) ∧ Ex b h2 h') (fun d r acc h' i => by
        obtain ⟨hl, ⟨cs, rfl, hc⟩, E⟩ := i
        simp only [List.length_cons] at hl
        refine ⟨lim_lt (by omega), .inl ?_⟩
        obtain ⟨r3, h3, c0, c1, l3, e3⟩ := draw_loc n E.bag 94 (by decide) (by decide)
        have e3 := e3 []
        simp only [List.append_nil] at e3
        have hix : r3.toNat < chars.length := by rw [chars_len]; omega
        have hg : chars[r3.toNat]? = some chars[r3.toNat] := List.getElem?_eq_getElem hix
        have hr : r3 < (chars.length : Int) := by rw [chars_len]; omega
        refine ⟨.str [chars[r3.toNat]], h3, ?_, rfl, ?_⟩
        · rw [lcS0_one]
          simp [vg0, vg1, vs0, vs1, fget, fput, cmpR_eq', cmpR_ne', eqR_def, memR_def, dlook, dput, mod_ok, fdiv_ok, gset_eq, gset_ne, e3, c0, hr, hg, ix_st2]
        · exact ⟨by simp at hl ⊢; omega, ⟨cs ++ [chars[r3.toNat]], by simp, fun c hc' => by
            rcases List.mem_append.mp hc' with hc' | hc'
            · exact hc c hc'
            · simp at hc'; rw [hc']; exact List.getElem_mem hix⟩, E.trans l3.toEx⟩) (rangeD 0 v) [] h2 ⟨by simp [rangeD]; omega, ⟨[], rfl, by simp⟩, Ex.refl l2.bag⟩
    obtain ⟨ys, h3, e4, hl, ⟨cs, rfl, hc⟩, E⟩ := hlc
    have hfl : (cs.map fun c => [c]).flatten = cs := by
      clear hl hc e4
      induction cs with
      | nil => rfl
      | cons c cs ih => simp at ih ⊢; exact ih
    have jo := join_ok h3 (cs.map fun c => [c]) (by rw [hfl]; simp at hl; omega)
    rw [hfl] at jo
    have fin : Txt (.str cs) ∧ Ex b h (h3 ++ [.lst ((cs.map fun c => [c]).map D.str)]) :=
      ⟨⟨cs, rfl, fun c hc' => chars_ok c (hc c hc'), by simp at hl; omega⟩, (E2.trans E).app _⟩
    generalize (cs.map fun c => [c]).map D.str = zs at *
    simp [vg0, vg1, vs0, vs1, fget, fput, cmpR_eq', cmpR_ne', eqR_def, memR_def, dlook, dput, mod_ok, fdiv_ok, gset_eq, gset_ne, hcs, e1, ix, e2, rk, e4, jo]
    simpa using fin
  · obtain ⟨r3, h3, c0, c1, l3, e3⟩ := draw_loc n l2.bag 7 (by decide) (by decide)
    obtain ⟨t, ht, ix3⟩ := pick_new l3 [D.str (cp ""), .str (cp "a"), .str (cp " "), .str (cp "5:it is"), .str (cp "a b  c"), .str (cp "#1"), .str (cp "(0;)")] c0 (by simpa using c1)
    have e3 := e3 [.lst [D.str (cp ""), .str (cp "a"), .str (cp " "), .str (cp "5:it is"), .str (cp "a b  c"), .str (cp "#1"), .str (cp "(0;)")]]
    have fin : Txt t ∧ Ex b h (h3 ++ [.lst [D.str (cp ""), .str (cp "a"), .str (cp " "), .str (cp "5:it is"), .str (cp "a b  c"), .str (cp "#1"), .str (cp "(0;)")]]) := ⟨txt_of ht, (E2.trans l3.toEx).app _⟩
    simp [vg0, vg1, vs0, vs1, fget, fput, cmpR_eq', cmpR_ne', eqR_def, memR_def, dlook, dput, mod_ok, fdiv_ok, gset_eq, gset_ne, hcs, e1, ix, e2, q, e3, ix3]
    exact fin
end Mu
end

section
set_option maxRecDepth 10000
set_option linter.all false
set_option maxHeartbeats 4000000
namespace Mu
theorem Ex.set {b : Nat} {h h' : Hp} (E : Ex b h h') (B : Bag b h) {p : Nat} (hp : h.length ≤ p) (o : AO) : Ex b h (h'.set p o) := by
  obtain ⟨x, y, z, e⟩ := B
  have hb := lt_of_get e
  obtain ⟨x', y', z', e'⟩ := E.bag
  refine ⟨by simpa using E.len, ⟨x', y', z', by rw [gset_ne h' _ (by omega)]; exact e'⟩, fun i hi hne => ?_⟩
  rw [gset_ne h' _ (by omega)]; exact E.old i hi hne
def Num (d : D) : Prop := ∃ m : Nat, d = .int (m : Int) ∧ m < 1000000000000
theorem lnum_ok (n : Nat) {b : Nat} {h : Hp} (B : Bag b h) : Ok (fun d h' => Num d ∧ Ex b h h') (callN prog (n + 2) "_law_number" [.obj b] h) := by
  rw [call__law_number]
  obtain ⟨r1, h1, a0, a1, l1, e1⟩ := draw_loc n B 4 (by decide) (by decide)
  have e1 := e1 []
  simp only [List.append_nil] at e1
  by_cases q : r1 = 0
  · subst q
    obtain ⟨r2, h2, b0, b1, l2, e2⟩ := draw_loc n l1.bag 1000000000000 (by decide) (by decide)
    have e2 := e2 []
    simp only [List.append_nil] at e2
    have fin : Num (.int r2) ∧ Ex b h h2 := ⟨⟨r2.toNat, by rw [Int.toNat_of_nonneg b0], by omega⟩, (l1.trans l2).toEx⟩
    simp [vg0, vg1, vs0, vs1, fget, fput, cmpR_eq', cmpR_ne', eqR_def, memR_def, dlook, dput, mod_ok, fdiv_ok, gset_eq, gset_ne, e1, pow_ok, e2]
    exact fin
  · obtain ⟨r2, h2, b0, b1, l2, e2⟩ := draw_loc n l1.bag 30 (by decide) (by decide)
    have e2 := e2 []
    simp only [List.append_nil] at e2
    have fin : Num (.int r2) ∧ Ex b h h2 := ⟨⟨r2.toNat, by rw [Int.toNat_of_nonneg b0], by omega⟩, (l1.trans l2).toEx⟩
    simp [vg0, vg1, vs0, vs1, fget, fput, cmpR_eq', cmpR_ne', eqR_def, memR_def, dlook, dput, mod_ok, fdiv_ok, gset_eq, gset_ne, e1, q, e2]
    exact fin
theorem skip_of {d : D} (h : d ∈ [D.str (cp ""), .str (cp "#"), .str (cp "# group 1"), .str (cp "#tick 1"), .str (cp "# ")]) : ∃ s, d = .str s ∧ Skip s := by
  simp only [List.mem_cons, List.not_mem_nil, or_false] at h
  rcases h with rfl | rfl | rfl | rfl | rfl
  · exact ⟨_, rfl, okStr_dec (by decide), .inl (by decide), by decide⟩
  all_goals exact ⟨_, rfl, okStr_dec (by decide), .inr ⟨_, rfl⟩, by decide⟩
theorem lskip_ok (n : Nat) {b : Nat} {h : Hp} (B : Bag b h) : Ok (fun d h' => (∃ s, d = .str s ∧ Skip s) ∧ Ex b h h') (callN prog (n + 2) "_law_skipped" [.obj b] h) := by
  rw [call__law_skipped]
  obtain ⟨r1, h1, a0, a1, l1, e1⟩ := draw_loc n B 5 (by decide) (by decide)
  obtain ⟨d, hs, ix⟩ := pick_new l1 [D.str (cp ""), .str (cp "#"), .str (cp "# group 1"), .str (cp "#tick 1"), .str (cp "# ")] a0 (by simpa using a1)
  have e1 := e1 [.lst [D.str (cp ""), .str (cp "#"), .str (cp "# group 1"), .str (cp "#tick 1"), .str (cp "# ")]]
  have fin : (∃ s, d = .str s ∧ Skip s) ∧ Ex b h (h1 ++ [.lst [D.str (cp ""), .str (cp "#"), .str (cp "# group 1"), .str (cp "#tick 1"), .str (cp "# ")]]) := ⟨skip_of hs, l1.toEx.app _⟩
  simp [vg0, vg1, vs0, vs1, fget, fput, cmpR_eq', cmpR_ne', eqR_def, memR_def, dlook, dput, mod_ok, fdiv_ok, gset_eq, gset_ne, e1, ix]
  exact fin
/-- a plain value of so many levels whose text is so long at most -/
def Vl (L B : Nat) (d : D) : Prop := Tv L d ∧ (enc d).length ≤ B
theorem vl_str {s : List Nat} (h : okStr s) (hl : s.length ≤ 5) (L : Nat) : Vl L 7 (.str s) := by
  refine ⟨by cases L <;> exact ⟨h, by omega⟩, ?_⟩
  rw [enc_str]
  have := natDigits_len (n := s.length) (k := 1) (by decide) (by omega)
  simp; omega
theorem vl_small {i : Int} (h0 : -100 < i) (h : i < 100) (L : Nat) : Vl L 7 (.int i) := by
  refine ⟨by cases L <;> (show i.natAbs ≤ _; omega), ?_⟩
  rw [enc_int]
  have := natDigits_len (n := i.natAbs) (k := 2) (by decide) (by omega)
  unfold intText
  split
  · simp; omega
  · omega
theorem Vl.mono {L M B C : Nat} {d : D} (h : L ≤ M) (k : B ≤ C) (w : Vl L B d) : Vl M C d := ⟨w.1.mono h, Nat.le_trans w.2 k⟩
theorem encs_le {B : Nat} : ∀ {ds : List D}, (∀ d ∈ ds, (enc d).length ≤ B) → (encs ds).length ≤ ds.length * (B + 1)
  | [], _ => by rw [encs_nil]; simp
  | d :: ds, k => by
    rw [encs_cons]
    have h1 := k d (List.mem_cons_self ..)
    have h2 := encs_le fun x hx => k x (List.mem_cons_of_mem d hx)
    simp [Nat.add_mul]; omega
theorem vl_tup {L B : Nat} {ds : List D} (h : ∀ d ∈ ds, Vl L B d) : Vl (L + 1) (ds.length * (B + 1) + 2) (.tup ds) := by
  refine ⟨by rw [Tv]; exact fun d hd => (h d hd).1, ?_⟩
  rw [enc_tup]
  have := encs_le fun d hd => (h d hd).2
  simp; omega
theorem vl_nil (L : Nat) : Vl (L + 1) 2 (.tup []) := vl_tup (B := 0) (fun _ h => nomatch h)
theorem vl_one {L B : Nat} {d : D} (w : Vl L B d) : Vl (L + 1) (1 * (B + 1) + 2) (.tup [d]) := vl_tup fun x hx => by rw [List.mem_singleton.mp hx]; exact w
theorem vl_two {L B : Nat} {d e : D} (w : Vl L B d) (v : Vl L B e) : Vl (L + 1) (2 * (B + 1) + 2) (.tup [d, e]) := vl_tup fun x hx => by
  simp only [List.mem_cons, List.not_mem_nil, or_false] at hx
  rcases hx with rfl | rfl
  · exact w
  · exact v
def Grp (d : D) : Prop := ∃ ds, d = .tup ds ∧ Tv 6 (.tup ds) ∧ (enc (.tup ds)).length ≤ 2000
theorem grp_of {L B : Nat} {ds : List D} (hl : L ≤ 6) (hb : B ≤ 2000) (w : Vl L B (.tup ds)) : Grp (.tup ds) := ⟨ds, rfl, w.1.mono hl, by have := w.2; omega⟩
def lits : List D := [.tup [], .tup [.tup []], .tup [.int 5, .int 2], .tup [.tup [.str (cp "a")], .int (-3)], .tup [.tup [.int 0, .int 0]], .tup [.tup [.tup [.tup [.int 1]]]], .tup [.str (cp ""), .str (cp " x")]]
theorem grp_lit {d : D} (h : d ∈ lits) : Grp d := by
  simp only [lits, List.mem_cons, List.not_mem_nil, or_false] at h
  rcases h with rfl | rfl | rfl | rfl | rfl | rfl | rfl
  · exact grp_of (by omega) (by omega) (vl_nil 0)
  · exact grp_of (by omega) (by omega) (vl_one (vl_nil 0))
  · exact grp_of (by omega) (by omega) (vl_two (vl_small (by omega) (by omega) 0) (vl_small (by omega) (by omega) 0))
  · exact grp_of (by omega) (by omega) (vl_two ((vl_one (vl_str (okStr_dec (by decide)) (by decide) 0)).mono (Nat.le_refl 1) (Nat.le_refl 10)) ((vl_small (by omega) (by omega) 1).mono (Nat.le_refl 1) (show 7 ≤ 10 by omega)))
  · exact grp_of (by omega) (by omega) (vl_one (vl_two (vl_small (by omega) (by omega) 0) (vl_small (by omega) (by omega) 0)))
  · exact grp_of (by omega) (by omega) (vl_one (vl_one (vl_one (vl_one (vl_small (by omega) (by omega) 0)))))
  · exact grp_of (by omega) (by omega) (vl_two (vl_str (okStr_dec (by decide)) (by decide) 0) (vl_str (okStr_dec (by decide)) (by decide) 0))
end Mu
end

section
set_option maxRecDepth 10000
set_option linter.all false
set_option maxHeartbeats 4000000
namespace Mu
def SmT (d : D) : Prop := ∃ is : List D, d = .tup is ∧ is.length ≤ 4 ∧ ∀ i ∈ is, Vl 0 7 i
theorem sm_vl {d : D} (s : SmT d) : Vl 1 34 d := by
  obtain ⟨is, rfl, l, k⟩ := s
  exact (vl_tup k).mono (Nat.le_refl _) (by omega)
theorem grp_sm {ds : List D} (l : ds.length ≤ 3) (k : ∀ d ∈ ds, SmT d) : Grp (.tup ds) := by
  have := vl_tup fun d hd => sm_vl (k d hd)
  exact grp_of (by omega) (show ds.length * (34 + 1) + 2 ≤ 2000 by omega) this
theorem sm_draw (n : Nat) {b : Nat} {h : Hp} (B : Bag b h) (σ : Fr) (h0 : σ = [some (.obj b), σ.getD 1 none, σ.getD 2 none, σ.getD 3 none, none]) (r : Int) (r0 : 0 ≤ r) (r1 : r < 4) :
    ∃ ys h', lcL (fun _ => true) (lcS0 (cxP prog (n + 1)) σ (.one 4) (.call "_law_draw" (.cons (.v 0) (.cons (.int 12) .nil)))) (rangeD 0 (1 + r)) [] h = .ok ys h' ∧ ys.length ≤ 4 ∧ (∀ i ∈ ys, Vl 0 7 i) ∧ Ex b h h' := by
  have hlc := lcL_run (g := fun _ => true) (step := lcS0 (cxP prog (n + 1)) σ (.one 4) (.call "_law_draw" (.cons (.v 0) (.cons (.int 12) .nil))))
    (fun ds acc h' => acc.length + ds.length ≤ 4 ∧ (∀ i ∈ acc, Vl 0 7 i) ∧ Ex b h h') (fun d r acc h' i => by
      obtain ⟨hl, hc, E⟩ := i
      simp only [List.length_cons] at hl
      refine ⟨lim_lt (by omega), .inl ?_⟩
      obtain ⟨r3, h3, c0, c1, l3, e3⟩ := draw_loc n E.bag 12 (by decide) (by decide)
      have e3 := e3 []
      simp only [List.append_nil] at e3
      refine ⟨.int r3, h3, ?_, rfl, ?_⟩
      · rw [lcS0_one, h0]
        simp [vg0, vg1, vs0, vs1, fget, fput, cmpR_eq', cmpR_ne', eqR_def, memR_def, dlook, dput, mod_ok, fdiv_ok, gset_eq, gset_ne, e3]
      · refine ⟨by simp at hl ⊢; omega, ?_, E.trans l3.toEx⟩
        intro i hi
        rcases List.mem_append.mp hi with hi | hi
        · exact hc i hi
        · rw [List.mem_singleton.mp hi]; exact vl_small (by omega) (by omega) 0) (rangeD 0 (1 + r)) [] h ⟨by simp [rangeD]; omega, (fun _ z => nomatch z), Ex.refl B⟩
  obtain ⟨ys, h', e, hl, hc, E⟩ := hlc
  exact ⟨ys, h', e, by simpa using hl, hc, E⟩
theorem lgroups_ok (n : Nat) {b : Nat} {h : Hp} (B : Bag b h) : Ok (fun d h' => Grp d ∧ Ex b h h') (callN prog (n + 2) "_law_groups" [.obj b] h) := by
  rw [call__law_groups]
  obtain ⟨r1, h1, a0, a1, l1, e1⟩ := draw_loc n B 4 (by decide) (by decide)
  have e1 := e1 []
  simp only [List.append_nil] at e1
  by_cases q : r1 = 0
  · subst q
    obtain ⟨r2, h2, b0, b1, l2, e2⟩ := draw_loc n l1.bag 7 (by decide) (by decide)
    obtain ⟨d, hs, ix⟩ := pick_new l2 lits b0 (by simpa [lits] using b1)
    have e2 := e2 [.lst lits]
    have fin : Grp d ∧ Ex b h (h2 ++ [.lst lits]) := ⟨grp_lit hs, (l1.trans l2).toEx.app _⟩
    have el : lits = [.tup [], .tup [.tup []], .tup [.int 5, .int 2], .tup [.tup [.str (cp "a")], .int (-3)], .tup [.tup [.int 0, .int 0]], .tup [.tup [.tup [.tup [.int 1]]]], .tup [.str (cp ""), .str (cp " x")]] := rfl
    rw [el] at e2 ix fin
    simp [vg0, vg1, vs0, vs1, fget, fput, cmpR_eq', cmpR_ne', eqR_def, memR_def, dlook, dput, mod_ok, fdiv_ok, gset_eq, gset_ne, e1, e2, ix]
    exact fin
  · have rk := fun h => rngK1_ok h r1 (by omega) (by omega)
    have lp := forL_run (g := fun _ => true) (step := forK (cxP prog (n + 1)) (.one 3) b__law_groups_3) (fun ds σ h' => ∃ acc x3, σ = [some (.obj b), some (.int r1), some (.obj h1.length), x3, none] ∧ h'[h1.length]? = some (.lst acc) ∧ acc.length + ds.length ≤ 3 ∧ (∀ d ∈ acc, SmT d) ∧ Ex b h1 h') (fun d ds σ h' i => by
      obtain ⟨acc, x3, rfl, hq, hl, hc, E⟩ := i
      simp only [List.length_cons] at hl
      obtain ⟨r2, h2, b0, b1, l2, e2⟩ := draw_loc n E.bag 4 (by decide) (by decide)
      have e2 := e2 []
      simp only [List.append_nil] at e2
      obtain ⟨ys, h3, e3, yl, yc, E3⟩ := sm_draw n l2.bag [some (.obj b), some (.int r1), some (.obj h1.length), some d, none] rfl r2 b0 b1
      have rk2 := fun h => rngK1_ok h (1 + r2) (by omega) (by omega)
      obtain ⟨x, y, z, eb⟩ := l1.bag
      have hb := lt_of_get eb
      have nb : h1.length ≠ b := by omega
      have q2 := l2.toEx.get hq nb
      have q3 := E3.get q2 nb
      have q4 : (h3 ++ [.lst ys])[h1.length]? = some (.lst acc) := get_app q3
      have la : acc.length < LIM := lim_lt (by omega)
      refine ⟨[some (.obj b), some (.int r1), some (.obj h1.length), some d, none], (h3 ++ [AO.lst ys]).set h1.length (AO.lst (acc ++ [D.tup ys])), ?_, rfl, acc ++ [D.tup ys], some d, rfl, ?_, by simp; omega, ?_, ?_⟩
      · simp [vg0, vg1, vs0, vs1, fget, fput, cmpR_eq', cmpR_ne', eqR_def, memR_def, dlook, dput, mod_ok, fdiv_ok, gset_eq, gset_ne, forK_one, e2, rk2, e3, hq, q3, q4, la]
      · rw [gset_eq, q4]; rfl
      · intro d hd
        rcases List.mem_append.mp hd with hd | hd
        · exact hc d hd
        · rw [List.mem_singleton.mp hd]; exact ⟨ys, rfl, yl, yc⟩
      · exact (((E.trans l2.toEx).trans E3).app _).set l1.bag (Nat.le_refl _) _) (rangeD 0 r1) [some (.obj b), some (.int r1), some (.obj h1.length), none, none] (h1 ++ [.lst []]) ⟨[], none, rfl, by simp, by simp [rangeD]; omega, (fun _ z => nomatch z), Ex.new l1.bag _⟩
    obtain ⟨σ', h', e3, acc, x3, rfl, hq, hl, hc, E⟩ := lp
    have ef := ex_for (c := cxP prog (n + 1)) (σ := [some (.obj b), some (.int r1), some (.obj h1.length), none, none]) (h := h1 ++ [.lst []]) (h1 := h1 ++ [.lst []]) (t := .one 3) (it := (.rng1 (.v 1))) (b := b__law_groups_3) (ds := rangeD 0 r1) (g := none) (by simp [vg0, vg1, vs0, vs1, fget, fput, cmpR_eq', cmpR_ne', eqR_def, memR_def, dlook, dput, mod_ok, fdiv_ok, gset_eq, gset_ne, rk])
    have es : exec (cxP prog (n + 1)) [some (.obj b), some (.int r1), some (.obj h1.length), none, none] (h1 ++ [.lst []]) s__law_groups_3 = _ := ef.trans e3
    have fin : Grp (.tup acc) ∧ Ex b h h' := ⟨grp_sm (by simpa using hl) hc, l1.toEx.trans E⟩
    simp [vg0, vg1, vs0, vs1, fget, fput, cmpR_eq', cmpR_ne', eqR_def, memR_def, dlook, dput, mod_ok, fdiv_ok, gset_eq, gset_ne, -s__law_groups_3, e1, q, es, hq]
    exact fin
end Mu
end

section
set_option maxRecDepth 10000
set_option linter.all false
set_option maxHeartbeats 4000000
namespace Mu
def lkinds : List D := [.str (cp "tick"), .str (cp "calm"), .str (cp "round"), .str (cp "deliver"), .str (cp "lose"), .str (cp "double"), .str (cp "move"), .str (cp "cast"), .str (cp "part"), .str (cp "heal"), .str (cp "crash"), .str (cp "start"), .str (cp "arm"), .str (cp "cast")]
/-- how an act of the name is drawn -/
inductive Drw : List Nat → Prop
  | zero (nm : List Nat) : (nm = cp "round" ∨ ¬ nm = cp "round" ∧ nm = cp "heal") → (nm, []) ∈ actK → Drw nm
  | ticks (nm : List Nat) : ¬ nm = cp "round" → ¬ nm = cp "heal" → (nm = cp "tick" ∨ ¬ nm = cp "tick" ∧ nm = cp "calm") → (nm, [cp "ticks"]) ∈ actK → Drw nm
  | cast (nm : List Nat) : ¬ nm = cp "round" → ¬ nm = cp "heal" → ¬ nm = cp "tick" → ¬ nm = cp "calm" → nm = cp "cast" → (nm, [cp "process", cp "payload"]) ∈ actK → Drw nm
  | part (nm : List Nat) : ¬ nm = cp "round" → ¬ nm = cp "heal" → ¬ nm = cp "tick" → ¬ nm = cp "calm" → ¬ nm = cp "cast" → nm = cp "part" → (nm, [cp "groups"]) ∈ actK → Drw nm
  | arm (nm : List Nat) : ¬ nm = cp "round" → ¬ nm = cp "heal" → ¬ nm = cp "tick" → ¬ nm = cp "calm" → ¬ nm = cp "cast" → ¬ nm = cp "part" → nm = cp "arm" → (nm, [cp "process", cp "number", cp "number"]) ∈ actK → Drw nm
  | one (nm k : List Nat) : ¬ nm = cp "round" → ¬ nm = cp "heal" → ¬ nm = cp "tick" → ¬ nm = cp "calm" → ¬ nm = cp "cast" → ¬ nm = cp "part" → ¬ nm = cp "arm" → (k = cp "number" ∨ k = cp "process") → (nm, [k]) ∈ actK → Drw nm
theorem drw_of {d : D} (h : d ∈ lkinds) : ∃ nm, d = .str nm ∧ Drw nm := by
  simp only [lkinds, List.mem_cons, List.not_mem_nil, or_false] at h
  rcases h with rfl | rfl | rfl | rfl | rfl | rfl | rfl | rfl | rfl | rfl | rfl | rfl | rfl | rfl
  · exact ⟨_, rfl, .ticks _ (by decide) (by decide) (by decide) (by decide)⟩
  · exact ⟨_, rfl, .ticks _ (by decide) (by decide) (by decide) (by decide)⟩
  · exact ⟨_, rfl, .zero _ (by decide) (by decide)⟩
  · exact ⟨_, rfl, .one _ (cp "number") (by decide) (by decide) (by decide) (by decide) (by decide) (by decide) (by decide) (by decide) (by decide)⟩
  · exact ⟨_, rfl, .one _ (cp "number") (by decide) (by decide) (by decide) (by decide) (by decide) (by decide) (by decide) (by decide) (by decide)⟩
  · exact ⟨_, rfl, .one _ (cp "number") (by decide) (by decide) (by decide) (by decide) (by decide) (by decide) (by decide) (by decide) (by decide)⟩
  · exact ⟨_, rfl, .one _ (cp "number") (by decide) (by decide) (by decide) (by decide) (by decide) (by decide) (by decide) (by decide) (by decide)⟩
  · exact ⟨_, rfl, .cast _ (by decide) (by decide) (by decide) (by decide) (by decide) (by decide)⟩
  · exact ⟨_, rfl, .part _ (by decide) (by decide) (by decide) (by decide) (by decide) (by decide) (by decide)⟩
  · exact ⟨_, rfl, .zero _ (by decide) (by decide)⟩
  · exact ⟨_, rfl, .one _ (cp "process") (by decide) (by decide) (by decide) (by decide) (by decide) (by decide) (by decide) (by decide) (by decide)⟩
  · exact ⟨_, rfl, .one _ (cp "process") (by decide) (by decide) (by decide) (by decide) (by decide) (by decide) (by decide) (by decide) (by decide)⟩
  · exact ⟨_, rfl, .arm _ (by decide) (by decide) (by decide) (by decide) (by decide) (by decide) (by decide) (by decide)⟩
  · exact ⟨_, rfl, .cast _ (by decide) (by decide) (by decide) (by decide) (by decide) (by decide)⟩
def ActI (b : Nat) (h : Hp) (d : D) (h' : Hp) : Prop := (∃ nm ps, ActV nm ps ∧ d = actD nm ps) ∧ Ex b h h'
theorem lact_ok (n : Nat) {b : Nat} {h : Hp} (B : Bag b h) : Ok (ActI b h) (callN prog (n + 3) "_law_act" [.obj b] h) := by
  rw [show n + 3 = (n + 2) + 1 from rfl, call__law_act]
  have Bk : Bag b (h ++ [.lst lkinds]) := B.app
  obtain ⟨r1, h1, a0, a1, l1, e1⟩ := draw_loc (n + 1) Bk 14 (by decide) (by decide)
  have e1 := e1 []
  simp only [List.append_nil] at e1
  obtain ⟨x, y, z, eb⟩ := B
  have hb := lt_of_get eb
  have hk : h1[h.length]? = some (.lst lkinds) := l1.toEx.get (by simp) (by omega)
  obtain ⟨d, hd, ix⟩ := pick_at hk a0 (by simpa [lkinds] using a1)
  obtain ⟨nm, rfl, w⟩ := drw_of hd
  have E1 : Ex b h h1 := (Ex.new ⟨x, y, z, eb⟩ _).trans l1.toEx
  have el : lkinds = [.str (cp "tick"), .str (cp "calm"), .str (cp "round"), .str (cp "deliver"), .str (cp "lose"), .str (cp "double"), .str (cp "move"), .str (cp "cast"), .str (cp "part"), .str (cp "heal"), .str (cp "crash"), .str (cp "start"), .str (cp "arm"), .str (cp "cast")] := rfl
  rw [el] at e1
  clear hk hd
  cases w with
  | zero q k =>
    have fin : ActI b h (.tup [.str nm]) h1 := ⟨⟨nm, [], ⟨k, fun _ z => nomatch z⟩, rfl⟩, E1⟩
    rcases q with q | ⟨q0, q⟩
    · have q := eq_true q
      simp [vg0, vg1, vs0, vs1, fget, fput, cmpR_eq', cmpR_ne', eqR_def, memR_def, dlook, dput, mod_ok, fdiv_ok, gset_eq, gset_ne, e1, ix, q]
      exact fin
    · have q := eq_true q
      simp [vg0, vg1, vs0, vs1, fget, fput, cmpR_eq', cmpR_ne', eqR_def, memR_def, dlook, dput, mod_ok, fdiv_ok, gset_eq, gset_ne, e1, ix, q0, q]
      exact fin
  | ticks n1 n2 q k =>
    obtain ⟨r2, h2, b0, b1, l2, e2⟩ := draw_loc (n + 1) l1.bag 1000 (by decide) (by decide)
    have e2 := e2 []
    simp only [List.append_nil] at e2
    have fin : ActI b h (.tup [.str nm, .int (1 + r2)]) h2 := by
      refine ⟨⟨nm, [(cp "ticks", .int ((1 + r2).toNat : Int))], ⟨k, fun p hp => ?_⟩, ?_⟩, E1.trans l2.toEx⟩
      · rw [List.mem_singleton.mp hp]; exact .ticks _ (by omega) (by omega)
      · simp only [actD, List.map_cons, List.map_nil]; rw [Int.toNat_of_nonneg (by omega)]
    rcases q with q | ⟨q0, q⟩
    · have q := eq_true q
      simp [vg0, vg1, vs0, vs1, fget, fput, cmpR_eq', cmpR_ne', eqR_def, memR_def, dlook, dput, mod_ok, fdiv_ok, gset_eq, gset_ne, e1, ix, n1, n2, q, e2]
      exact fin
    · have q := eq_true q
      simp [vg0, vg1, vs0, vs1, fget, fput, cmpR_eq', cmpR_ne', eqR_def, memR_def, dlook, dput, mod_ok, fdiv_ok, gset_eq, gset_ne, e1, ix, n1, n2, q0, q, e2]
      exact fin
  | cast n1 n2 n3 n4 q k =>
    obtain ⟨_, h2, e2, ⟨m, rfl, hm⟩, E2⟩ := lnum_ok n l1.bag
    obtain ⟨_, h3, e3, ⟨s, rfl, s1, s2⟩, E3⟩ := ltext_ok n E2.bag
    have fin : ActI b h (.tup [.str nm, .int (m : Int), .str s]) h3 := by
      refine ⟨⟨nm, [(cp "process", .int (m : Int)), (cp "payload", .str s)], ⟨k, fun p hp => ?_⟩, rfl⟩, (E1.trans E2).trans E3⟩
      simp only [List.mem_cons, List.not_mem_nil, or_false] at hp
      rcases hp with rfl | rfl
      · exact .process _ hm
      · exact .payload _ s1 s2
    have q := eq_true q
    simp [vg0, vg1, vs0, vs1, fget, fput, cmpR_eq', cmpR_ne', eqR_def, memR_def, dlook, dput, mod_ok, fdiv_ok, gset_eq, gset_ne, e1, ix, n1, n2, n3, n4, q, e2, e3]
    exact fin
  | part n1 n2 n3 n4 n5 q k =>
    obtain ⟨_, h2, e2, ⟨gs, rfl, g1, g2⟩, E2⟩ := lgroups_ok n l1.bag
    have fin : ActI b h (.tup [.str nm, .tup gs]) h2 := by
      refine ⟨⟨nm, [(cp "groups", .tup gs)], ⟨k, fun p hp => ?_⟩, rfl⟩, E1.trans E2⟩
      rw [List.mem_singleton.mp hp]; exact .groups _ g1 g2
    have q := eq_true q
    simp [vg0, vg1, vs0, vs1, fget, fput, cmpR_eq', cmpR_ne', eqR_def, memR_def, dlook, dput, mod_ok, fdiv_ok, gset_eq, gset_ne, e1, ix, n1, n2, n3, n4, n5, q, e2]
    exact fin
  | arm n1 n2 n3 n4 n5 n6 q k =>
    obtain ⟨_, h2, e2, ⟨m, rfl, hm⟩, E2⟩ := lnum_ok n l1.bag
    obtain ⟨_, h3, e3, ⟨m2, rfl, hm2⟩, E3⟩ := lnum_ok n E2.bag
    obtain ⟨_, h4, e4, ⟨m3, rfl, hm3⟩, E4⟩ := lnum_ok n E3.bag
    have fin : ActI b h (.tup [.str nm, .int (m : Int), .int (m2 : Int), .int (m3 : Int)]) h4 := by
      refine ⟨⟨nm, [(cp "process", .int (m : Int)), (cp "number", .int (m2 : Int)), (cp "number", .int (m3 : Int))], ⟨k, fun p hp => ?_⟩, rfl⟩, ((E1.trans E2).trans E3).trans E4⟩
      simp only [List.mem_cons, List.not_mem_nil, or_false] at hp
      rcases hp with rfl | rfl | rfl
      · exact .process _ hm
      · exact .number _ hm2
      · exact .number _ hm3
    have q := eq_true q
    simp [vg0, vg1, vs0, vs1, fget, fput, cmpR_eq', cmpR_ne', eqR_def, memR_def, dlook, dput, mod_ok, fdiv_ok, gset_eq, gset_ne, e1, ix, n1, n2, n3, n4, n5, n6, q, e2, e3, e4]
    exact fin
  | one kk n1 n2 n3 n4 n5 n6 n7 hk k =>
    obtain ⟨_, h2, e2, ⟨m, rfl, hm⟩, E2⟩ := lnum_ok n l1.bag
    have fin : ActI b h (.tup [.str nm, .int (m : Int)]) h2 := by
      refine ⟨⟨nm, [(kk, .int (m : Int))], ⟨k, fun p hp => ?_⟩, rfl⟩, E1.trans E2⟩
      rw [List.mem_singleton.mp hp]
      rcases hk with rfl | rfl
      · exact .number _ hm
      · exact .process _ hm
    simp [vg0, vg1, vs0, vs1, fget, fput, cmpR_eq', cmpR_ne', eqR_def, memR_def, dlook, dput, mod_ok, fdiv_ok, gset_eq, gset_ne, e1, ix, n1, n2, n3, n4, n5, n6, n7, e2]
    exact fin
end Mu
end

section
set_option maxRecDepth 10000
set_option linter.all false
set_option maxHeartbeats 8000000
namespace Mu
theorem ne_word (h : Hp) (a : List Nat) : cmpR .ne h (.str a) (.str a) = .ok (.bl false) h := by
  rw [cmpR_ne', eqR_plain (by simp [Plain]) (by simp [Plain])]
  show (opt (some (pyEq (.str a) (.str a))) h).bind kCmpN = _
  simp [pyEq]
theorem law_rest (H : Hp) {b q u : Nat} {ws : List (List Nat)} {ds : List D} (B : Bag b H) (hq : H[q]? = some (.lst (ws.map .str))) (hu : H[u]? = some (.lst ds)) (n1 : q ≠ u) (n2 : q ≠ b) (n3 : u ≠ b) (lw : ws.length ≤ 500) (ld : ds.length ≤ 500) (v0 v1 v2 v4 v5 w10 w11 : Option D) :
    ∃ nm ps h', ActV nm ps ∧ execs (cxP prog 30) [v0, v1, v2, some (.obj q), v4, v5, some (.obj u), none, none, some (.obj b), w10, w11] H (.cons s_law_7_2 (.cons s_law_7_3 (.cons s_law_7_4 (.cons s_law_7_5 (.cons s_law_7_6 .nil))))) = .nx [v0, v1, v2, some (.obj q), v4, v5, some (.obj u), none, none, some (.obj b), some (actD nm ps), some (.str (actL nm ps))] h' ∧ h'[q]? = some (.lst ((ws ++ [actL nm ps]).map .str)) ∧ h'[u]? = some (.lst (ds ++ [.tup [.int ((ws.length + 1 : Nat) : Int), actD nm ps]])) := by
  obtain ⟨_, H5, e1, ⟨⟨nm, ps, A, rfl⟩, E⟩⟩ := lact_ok 27 B
  have e1 : callN prog 30 "_law_act" [.obj b] H = .ok (actD nm ps) H5 := e1
  obtain ⟨g1, e2⟩ := act_line_ok 11 H5 A
  have e2 : callN prog 30 "act_line" [actD nm ps] H5 = .ok (.str (actL nm ps)) (H5 ++ g1) := e2
  obtain ⟨g2, e3⟩ := lline_ok 20 (H5 ++ g1) A
  have e3 : callN prog 30 "_law_line" [actD nm ps] (H5 ++ g1) = .ok (.str (actL nm ps)) (H5 ++ g1 ++ g2) := e3
  have e4 : callN prog 30 "check_act" [actD nm ps] (H5 ++ g1 ++ g2) = .ok .non (H5 ++ g1 ++ g2) := check_ok 28 (H5 ++ g1 ++ g2) A
  have hq7 : (H5 ++ g1 ++ g2)[q]? = some (.lst (ws.map .str)) := get_app (get_app (E.get hq n2))
  have hu7 : (H5 ++ g1 ++ g2)[u]? = some (.lst ds) := get_app (get_app (E.get hu n3))
  generalize H5 ++ g1 ++ g2 = H7 at *
  generalize H5 ++ g1 = H6 at *
  have nw := ne_word H7 (actL nm ps)
  have ia : isaR H6 (.str (actL nm ps)) .str = some true := rfl
  have hq8 : (H7.set q (.lst (ws.map D.str ++ [.str (actL nm ps)])))[q]? = some (.lst (ws.map D.str ++ [.str (actL nm ps)])) := by rw [gset_eq, hq7]; rfl
  have hu8 : (H7.set q (.lst (ws.map D.str ++ [.str (actL nm ps)])))[u]? = some (.lst ds) := by rw [gset_ne _ _ n1]; exact hu7
  have l8 : lenO (H7.set q (.lst (ws.map D.str ++ [.str (actL nm ps)])))[q]? (H7.set q (.lst (ws.map D.str ++ [.str (actL nm ps)]))) = .ok (.int ((ws.length + 1 : Nat) : Int)) (H7.set q (.lst (ws.map D.str ++ [.str (actL nm ps)]))) := by rw [hq8]; simp [lenO]
  have lq : (ws.map D.str).length < LIM := lim_lt (by simp; omega)
  have lu : ds.length < LIM := lim_lt (by omega)
  refine ⟨nm, ps, (H7.set q (.lst (ws.map D.str ++ [.str (actL nm ps)]))).set u (.lst (ds ++ [.tup [.int ((ws.length + 1 : Nat) : Int), actD nm ps]])), A, ?_, ?_, ?_⟩
  · generalize ((ws.length + 1 : Nat) : Int) = ln at *
    generalize actD nm ps = T at *
    generalize actL nm ps = L at *
    generalize ws.map D.str = wl at *
    generalize hH8 : H7.set q (.lst (wl ++ [.str L])) = H8 at *
    simp [vg0, vg1, vs0, vs1, fget, fput, cmpR_eq', cmpR_ne', eqR_def, memR_def, dlook, dput, mod_ok, fdiv_ok, gset_eq, gset_ne, e1, e2, e3, e4, nw, ia, hq7, lq, hH8, l8, hu8, lu]
  · rw [gset_ne _ _ n1.symm, hq8]; simp
  · rw [gset_eq, hu8]; rfl
end Mu
end

section
set_option maxRecDepth 10000
set_option linter.all false
set_option maxHeartbeats 8000000
namespace Mu
theorem Nx_cons {c : Cx} {σ σ' : Fr} {h h' : Hp} {s : S} {ss : Ss} {Q : Fr → Hp → Prop} (e : exec c σ h s = .nx σ' h') (r : Nx Q (execs c σ' h' ss)) : Nx Q (execs c σ h (.cons s ss)) := by
  rw [execs, e, RS.seq_nx]; exact r
abbrev scr (ns : List Int) : Option D := some (.lst (ns.map .int))
/-- between two turns of the law -/
def LawI (ns : List Int) (b0 q u : Nat) (pre : List (List Nat)) (m : Nat) (at_ : D) (j : Nat) (σ : Fr) (h : Hp) : Prop :=
  ∃ rs ds x4 x9 x10 x11, σ = [scr ns, some (.obj b0), some (.int (m : Int)), some (.obj q), x4, some at_, some (.obj u), none, none, x9, x10, x11] ∧ h[q]? = some (.lst ((pre ++ groupL m :: rs).map .str)) ∧ h[u]? = some (.lst ds) ∧ Rows (pre.length + 1) rs ds ∧ rs.length + 2 * j ≤ 124 ∧ ds.length ≤ rs.length
theorem Rows.ds_le : ∀ {n : Nat} {rs : List (List Nat)} {ds : List D}, Rows n rs ds → ds.length ≤ rs.length
  | _, _, _, .nil n => Nat.le_refl _
  | _, _, _, .skip n r rs ds s t => by have := Rows.ds_le t; simp; omega
  | _, _, _, .act n A rs ds t => by have := Rows.ds_le t; simp; omega
theorem law_step (ns : List Int) {b0 q u : Nat} {pre : List (List Nat)} {m : Nat} {at_ : D} {j : Nat} (hp : pre.length ≤ 2) (n1 : q ≠ u) {k : Int} (k0 : 0 ≤ k) (σ : Fr) (h : Hp) (I : LawI ns b0 q u pre m at_ (j + 1) σ h) : ∃ σ' h', forK (cxP prog 30) (.one 4) b_law_7 (.int k) σ h = .nx σ' h' ∧ LawI ns b0 q u pre m at_ j σ' h' := by
  obtain ⟨rs, ds, x4, x9, x10, x11, rfl, hq, hu, R, l1, l2⟩ := I
  rw [forK_one]
  show Nx (LawI ns b0 q u pre m at_ j) (execs (cxP prog 30) [scr ns, some (.obj b0), some (.int (m : Int)), some (.obj q), some (.int k), some at_, some (.obj u), none, none, x9, x10, x11] h b_law_7)
  obtain ⟨d, h1, e1, rfl, x, y, z, rfl⟩ := bag_ok 29 ns k k0 h
  have e1 : callN prog 30 "_law_bag" [.lst (ns.map .int), .int k] h = .ok (.obj h.length) (h ++ [.lst [.int x, .int y, .int z]]) := e1
  have B1 : Bag h.length (h ++ [.lst [.int x, .int y, .int z]]) := ⟨x, y, z, by simp⟩
  have s0 : exec (cxP prog 30) [scr ns, some (.obj b0), some (.int (m : Int)), some (.obj q), some (.int k), some at_, some (.obj u), none, none, x9, x10, x11] h s_law_7_0 = .nx [scr ns, some (.obj b0), some (.int (m : Int)), some (.obj q), some (.int k), some at_, some (.obj u), none, none, some (.obj h.length), x10, x11] (h ++ [.lst [.int x, .int y, .int z]]) := by simp [vg0, vg1, vs0, vs1, fget, fput, cmpR_eq', cmpR_ne', eqR_def, memR_def, dlook, dput, mod_ok, fdiv_ok, gset_eq, gset_ne, e1]
  refine Nx_cons s0 ?_
  have n2 : q ≠ h.length := by have := lt_of_get hq; omega
  have n3 : u ≠ h.length := by have := lt_of_get hu; omega
  have hq1 : (h ++ [AO.lst [.int x, .int y, .int z]])[q]? = _ := get_app hq
  have hu1 : (h ++ [AO.lst [.int x, .int y, .int z]])[u]? = _ := get_app hu
  clear s0 e1 hq hu
  generalize h ++ [AO.lst [.int x, .int y, .int z]] = h1 at *
  generalize h.length = b at *
  obtain ⟨r2, h2, b0', b1, L2, e2⟩ := draw_loc 29 B1 5 (by decide) (by decide)
  have e2 := e2 []
  simp only [List.append_nil] at e2
  have e2 : callN prog 30 "_law_draw" [.obj b, .int 5] h1 = .ok (.int r2) h2 := e2
  have hq2 := L2.toEx.get hq1 n2
  have hu2 := L2.toEx.get hu1 n3
  have mid : ∃ rs' h4, (rs' = rs ∨ ∃ s, Skip s ∧ rs' = rs ++ [s]) ∧ exec (cxP prog 30) [scr ns, some (.obj b0), some (.int (m : Int)), some (.obj q), some (.int k), some at_, some (.obj u), none, none, some (.obj b), x10, x11] h1 s_law_7_1 = .nx [scr ns, some (.obj b0), some (.int (m : Int)), some (.obj q), some (.int k), some at_, some (.obj u), none, none, some (.obj b), x10, x11] h4 ∧ Bag b h4 ∧ h4[q]? = some (.lst ((pre ++ groupL m :: rs').map .str)) ∧ h4[u]? = some (.lst ds) := by
    by_cases z : r2 = 0
    · subst z
      obtain ⟨_, h3, e3, ⟨s, rfl, hs⟩, E3⟩ := lskip_ok 28 L2.bag
      have e3 : callN prog 30 "_law_skipped" [.obj b] h2 = .ok (.str s) h3 := e3
      have hq3 := E3.get hq2 n2
      have hu3 := E3.get hu2 n3
      have lq : ((pre ++ groupL m :: rs).map D.str).length < LIM := lim_lt (by simp; omega)
      obtain ⟨x', y', z', eb⟩ := E3.bag
      refine ⟨rs ++ [s], h3.set q (.lst ((pre ++ groupL m :: rs).map D.str ++ [.str s])), .inr ⟨s, hs, rfl⟩, ?_, ⟨x', y', z', by rw [gset_ne _ _ n2]; exact eb⟩, ?_, by rw [gset_ne _ _ n1]; exact hu3⟩
      · generalize (pre ++ groupL m :: rs).map D.str = wl at *
        simp [vg0, vg1, vs0, vs1, fget, fput, cmpR_eq', cmpR_ne', eqR_def, memR_def, dlook, dput, mod_ok, fdiv_ok, gset_eq, gset_ne, e2, e3, hq2, hq3, lq]
      · rw [gset_eq, hq3]; simp
    · refine ⟨rs, h2, .inl rfl, ?_, L2.bag, hq2, hu2⟩
      simp [vg0, vg1, vs0, vs1, fget, fput, cmpR_eq', cmpR_ne', eqR_def, memR_def, dlook, dput, mod_ok, fdiv_ok, gset_eq, gset_ne, e2, z]
  obtain ⟨rs', h4, hr, s1, B4, hq4, hu4⟩ := mid
  refine Nx_cons s1 ?_
  have R' : Rows (pre.length + 1) rs' ds := by
    rcases hr with rfl | ⟨s, hs, rfl⟩
    · exact R
    · exact R.snoc_skip hs
  have l3 : rs'.length ≤ rs.length + 1 := by
    rcases hr with rfl | ⟨s, hs, rfl⟩
    · omega
    · simp
  obtain ⟨nm, ps, h5, A, e5, hq5, hu5⟩ := law_rest h4 B4 hq4 hu4 n1 n2 n3 (by simp; omega) (by omega) (scr ns) (some (.obj b0)) (some (.int (m : Int))) (some (.int k)) (some at_) x10 x11
  refine ⟨_, h5, e5, rs' ++ [actL nm ps], _, _, _, _, _, rfl, ?_, hu5, ?_, by simp; omega, ?_⟩
  · rw [hq5]; simp
  · have := R'.snoc_act A
    rw [show pre.length + 1 + rs'.length + 1 = (pre ++ groupL m :: rs').length + 1 by simp; omega] at this
    exact this
  · have := R'.ds_le
    simp; omega
end Mu
end

section
set_option maxRecDepth 10000
set_option linter.all false
set_option maxHeartbeats 8000000
namespace Mu
theorem eq_lists {h : Hp} {p q : Nat} {ds : List D} (e1 : h[p]? = some (.lst ds)) (e2 : h[q]? = some (.lst ds)) (k : ∀ d ∈ ds, Plain 40 d) : eqR h (.obj p) (.obj q) = some true := by
  have m : mapO (dat h 49) ds = some ds := mapO_id fun d hd => dat_plain h 49 d ((k d hd).mono (by omega))
  rw [eqR_def, dat_lst h 49 p ds e1, dat_lst h 49 q ds e2, m]
  simp only [Option.map_some, Option.bind_some, pyEq]
  rw [pyEqs_self 40 ds k]
theorem Rows.plain : ∀ {n : Nat} {rs : List (List Nat)} {ds : List D}, Rows n rs ds → ∀ d ∈ ds, Plain 40 d ∧ ∃ a b, d = .tup [.int a, .tup b]
  | _, _, _, .nil n, d, h => nomatch h
  | _, _, _, .skip n r rs ds s t, d, h => Rows.plain t d h
  | _, _, _, .act n (nm := nm) (ps := ps) A rs ds t, d, h => by
    rcases List.mem_cons.mp h with rfl | h
    · refine ⟨?_, _, _, rfl⟩
      rw [Plain]
      intro x hx
      simp only [List.mem_cons, List.not_mem_nil, or_false] at hx
      rcases hx with rfl | rfl
      · simp [Plain]
      · exact (act_plain A).mono (by omega)
    · exact Rows.plain t d h
theorem Rows.lens : ∀ {n : Nat} {rs : List (List Nat)} {ds : List D}, Rows n rs ds → ∀ r ∈ rs, r.length ≤ 7000
  | _, _, _, .nil n, d, h => nomatch h
  | _, _, _, .skip n r rs ds s t, d, h => by
    rcases List.mem_cons.mp h with rfl | h
    · have := s.2.2; omega
    · exact Rows.lens t d h
  | _, _, _, .act n (nm := nm) (ps := ps) A rs ds t, d, h => by
    rcases List.mem_cons.mp h with rfl | h
    · exact A.line_len
    · exact Rows.lens t d h
theorem sum_le {B : Nat} : ∀ {ws : List (List Nat)}, (∀ w ∈ ws, w.length ≤ B) → (ws.map List.length).sum ≤ ws.length * B
  | [], _ => by simp
  | w :: ws, k => by
    have h1 := k w (List.mem_cons_self ..)
    have h2 := sum_le fun x hx => k x (List.mem_cons_of_mem w hx)
    simp [Nat.add_mul]; omega
def Rtt (r : RS) : Prop := ∃ h, r = .rt (.bl true) h
theorem Rtt_cons {c : Cx} {σ σ' : Fr} {h h' : Hp} {s : S} {ss : Ss} (e : exec c σ h s = .nx σ' h') (r : Rtt (execs c σ' h' ss)) : Rtt (execs c σ h (.cons s ss)) := by
  rw [execs, e, RS.seq_nx]; exact r
/-- the last looks -/
theorem law_end (H : Hp) {p u : Nat} {ds : List D} (hp : H[p]? = some (.lst ds)) (hu : H[u]? = some (.lst ds)) (k : ∀ d ∈ ds, Plain 40 d ∧ ∃ a b, d = .tup [.int a, .tup b]) (a m : Int) (v0 v1 v3 v4 v9 v10 v11 : Option D) :
    Rtt (execs (cxP prog 30) [v0, v1, some (.int m), v3, v4, some (.int a), some (.obj u), some (.tup [.int a, .int m, .obj p]), none, v9, v10, v11] H (.cons s_law_9 (.cons s_law_10 (.cons s_law_11 (.cons s_law_12 .nil))))) := by
  have f2 : endI (.int 2) = some 2 := endI_ok (by omega) (by omega)
  have ct : cutR H (.tup [.int a, .int m, .obj p]) none (some 2) = .ok (.tup [.int a, .int m]) H := rfl
  have ne : cmpR .ne H (.tup [.int a, .int m]) (.tup [.int a, .int m]) = .ok (.bl false) H := by
    have pl : Plain 50 (.tup [.int a, .int m]) := by
      rw [Plain]; intro d hd
      simp only [List.mem_cons, List.not_mem_nil, or_false] at hd
      rcases hd with rfl | rfl <;> simp [Plain]
    rw [cmpR_ne', eqR_plain pl pl, pyEq_self 50 _ pl]; rfl
  have s9 : exec (cxP prog 30) [v0, v1, some (.int m), v3, v4, some (.int a), some (.obj u), some (.tup [.int a, .int m, .obj p]), none, v9, v10, v11] H s_law_9 = .nx [v0, v1, some (.int m), v3, v4, some (.int a), some (.obj u), some (.tup [.int a, .int m, .obj p]), none, v9, v10, v11] H := by
    simp [vg0, vg1, vs0, vs1, fget, fput, cmpR_eq', cmpR_ne', eqR_def, memR_def, dlook, dput, mod_ok, fdiv_ok, gset_eq, gset_ne, f2, ct, ne]
  refine Rtt_cons s9 ?_
  have s10 : exec (cxP prog 30) [v0, v1, some (.int m), v3, v4, some (.int a), some (.obj u), some (.tup [.int a, .int m, .obj p]), none, v9, v10, v11] H s_law_10 = .nx [v0, v1, some (.int m), v3, v4, some (.int a), some (.obj u), some (.tup [.int a, .int m, .obj p]), none, v9, v10, v11] H := by
    have ia : isaR H (.obj p) .list = some true := by simp [isaR, hp]
    simp [vg0, vg1, vs0, vs1, fget, fput, cmpR_eq', cmpR_ne', eqR_def, memR_def, dlook, dput, mod_ok, fdiv_ok, gset_eq, gset_ne, ia, hp]
  refine Rtt_cons s10 ?_
  have gd := gdOk_obj H H p ds hp hp
  have lp := forL_run (g := fun h' => gdOk H h' (some p)) (step := forK (cxP prog 30) (.one 8) b_law_11) (fun es σ h' => (∃ x8, σ = [v0, v1, some (.int m), v3, v4, some (.int a), some (.obj u), some (.tup [.int a, .int m, .obj p]), x8, v9, v10, v11]) ∧ h' = H ∧ ∀ d ∈ es, ∃ a b, d = .tup [.int a, .tup b]) (fun d es σ h' i => by
      obtain ⟨⟨x8, rfl⟩, rfl, ke⟩ := i
      obtain ⟨c, e, rfl⟩ := ke d (List.mem_cons_self ..)
      refine ⟨_, h', ?_, gd, ⟨some (.tup [.int c, .tup e]), rfl⟩, rfl, fun x hx => ke x (List.mem_cons_of_mem _ hx)⟩
      simp [vg0, vg1, vs0, vs1, fget, fput, cmpR_eq', cmpR_ne', eqR_def, memR_def, dlook, dput, mod_ok, fdiv_ok, gset_eq, gset_ne, forK_one]) ds [v0, v1, some (.int m), v3, v4, some (.int a), some (.obj u), some (.tup [.int a, .int m, .obj p]), none, v9, v10, v11] H ⟨⟨none, rfl⟩, rfl, fun d hd => (k d hd).2⟩
  obtain ⟨σ', h', e3, ⟨x8, rfl⟩, rfl, _⟩ := lp
  have ef := ex_for (c := cxP prog 30) (σ := [v0, v1, some (.int m), v3, v4, some (.int a), some (.obj u), some (.tup [.int a, .int m, .obj p]), none, v9, v10, v11]) (h := h') (h1 := h') (t := .one 8) (it := (.seq (.ix (.v 7) (.int 2)))) (b := b_law_11) (ds := ds) (g := some p) (by simp [vg0, vg1, vs0, vs1, fget, fput, cmpR_eq', cmpR_ne', eqR_def, memR_def, dlook, dput, mod_ok, fdiv_ok, gset_eq, gset_ne, hp])
  have s11 : exec (cxP prog 30) [v0, v1, some (.int m), v3, v4, some (.int a), some (.obj u), some (.tup [.int a, .int m, .obj p]), none, v9, v10, v11] h' s_law_11 = _ := ef.trans e3
  refine Rtt_cons s11 ?_
  have eq : cmpR .eq h' (.obj p) (.obj u) = .ok (.bl true) h' := by
    rw [cmpR_eq', eq_lists hp hu fun d hd => (k d hd).1]; rfl
  exact ⟨h', by simp [vg0, vg1, vs0, vs1, fget, fput, cmpR_eq', cmpR_ne', eqR_def, memR_def, dlook, dput, mod_ok, fdiv_ok, gset_eq, gset_ne, eq]⟩
end Mu
end

section
set_option maxRecDepth 10000
set_option linter.all false
set_option maxHeartbeats 8000000
namespace Mu
theorem law_fin (ns : List Int) (hl : ns.length ≤ 63) : ∃ ah, callN prog (30 + 1) "law" [.lst (ns.map .int)] [] = .ok (.bl true) ah := by
  rw [call_law]
  suffices key : Rtt (execs (cxP prog 30) [scr ns, none, none, none, none, none, none, none, none, none, none, none] [] b_law) by
    obtain ⟨h, e⟩ := key
    exact ⟨h, by rw [e]; rfl⟩
  obtain ⟨d, h1, e1, rfl, x, y, z, rfl⟩ := bag_ok 29 ns 0 (by omega) []
  have e1 : callN prog 30 "_law_bag" [.lst (ns.map .int), .int 0] [] = .ok (.obj 0) [.lst [.int x, .int y, .int z]] := e1
  have B1 : Bag 0 [.lst [.int x, .int y, .int z]] := ⟨x, y, z, by simp⟩
  have s0 : exec (cxP prog 30) [scr ns, none, none, none, none, none, none, none, none, none, none, none] [] s_law_0 = .nx [scr ns, some (.obj 0), none, none, none, none, none, none, none, none, none, none] [.lst [.int x, .int y, .int z]] := by simp [vg0, vg1, vs0, vs1, fget, fput, cmpR_eq', cmpR_ne', eqR_def, memR_def, dlook, dput, mod_ok, fdiv_ok, gset_eq, gset_ne, e1]
  refine Rtt_cons s0 ?_
  have hl1 : ([.lst [.int x, .int y, .int z]] : Hp).length = 1 := rfl
  clear s0 e1
  generalize ([.lst [.int x, .int y, .int z]] : Hp) = h1 at *
  obtain ⟨_, h2, e2, ⟨m, rfl, hm⟩, E2⟩ := lnum_ok 28 B1
  have e2 : callN prog 30 "_law_number" [.obj 0] h1 = .ok (.int (m : Int)) h2 := e2
  have s1 : exec (cxP prog 30) [scr ns, some (.obj 0), none, none, none, none, none, none, none, none, none, none] h1 s_law_1 = .nx [scr ns, some (.obj 0), some (.int (m : Int)), none, none, none, none, none, none, none, none, none] h2 := by simp [vg0, vg1, vs0, vs1, fget, fput, cmpR_eq', cmpR_ne', eqR_def, memR_def, dlook, dput, mod_ok, fdiv_ok, gset_eq, gset_ne, e2]
  refine Rtt_cons s1 ?_
  have l2 := E2.len
  have B2 := E2.bag
  clear s1 e2
  have s2 : exec (cxP prog 30) [scr ns, some (.obj 0), some (.int (m : Int)), none, none, none, none, none, none, none, none, none] h2 s_law_2 = .nx [scr ns, some (.obj 0), some (.int (m : Int)), some (.obj h2.length), none, none, none, none, none, none, none, none] (h2 ++ [.lst []]) := by simp [vg0, vg1, vs0, vs1, fget, fput, cmpR_eq', cmpR_ne', eqR_def, memR_def, dlook, dput, mod_ok, fdiv_ok, gset_eq, gset_ne]
  refine Rtt_cons s2 ?_
  have n0 : h2.length ≠ 0 := by omega
  have B3 : Bag 0 (h2 ++ [.lst []]) := B2.app
  have q3 : (h2 ++ [AO.lst []])[h2.length]? = some (.lst []) := by simp
  clear s2
  generalize h2 ++ [AO.lst []] = h3 at *
  generalize h2.length = q at *
  obtain ⟨r, h4, r0, r1, L4, e4⟩ := draw_loc 29 B3 3 (by decide) (by decide)
  have e4 := e4 []
  simp only [List.append_nil] at e4
  have e4 : callN prog 30 "_law_draw" [.obj 0, .int 3] h3 = .ok (.int r) h4 := e4
  have q4 := L4.toEx.get q3 n0
  have rk := fun h => rngK1_ok h r (by omega) (by omega)
  have lp := forL_run (g := fun _ => true) (step := forK (cxP prog 30) (.one 4) b_law_3) (fun ds σ h' => ∃ pre x4, σ = [scr ns, some (.obj 0), some (.int (m : Int)), some (.obj q), x4, none, none, none, none, none, none, none] ∧ h'[q]? = some (.lst (pre.map .str)) ∧ (∀ s ∈ pre, Skip s) ∧ pre.length + ds.length ≤ 2 ∧ Bag 0 h') (fun d ds σ h' i => by
    obtain ⟨pre, x4, rfl, hq, hs, hl, B⟩ := i
    simp only [List.length_cons] at hl
    obtain ⟨_, h5, e5, ⟨s, rfl, ss⟩, E5⟩ := lskip_ok 28 B
    have e5 : callN prog 30 "_law_skipped" [.obj 0] h' = .ok (.str s) h5 := e5
    have hq5 := E5.get hq n0
    have lq : (pre.map D.str).length < LIM := lim_lt (by simp; omega)
    obtain ⟨x', y', z', eb⟩ := E5.bag
    refine ⟨_, h5.set q (.lst (pre.map D.str ++ [.str s])), ?_, rfl, pre ++ [s], some d, rfl, ?_, ?_, by simp; omega, ⟨x', y', z', by rw [gset_ne _ _ n0]; exact eb⟩⟩
    · generalize pre.map D.str = wl at *
      simp [vg0, vg1, vs0, vs1, fget, fput, cmpR_eq', cmpR_ne', eqR_def, memR_def, dlook, dput, mod_ok, fdiv_ok, gset_eq, gset_ne, forK_one, e5, hq, hq5, lq]
    · rw [gset_eq, hq5]; simp
    · intro t ht
      rcases List.mem_append.mp ht with ht | ht
      · exact hs t ht
      · rw [List.mem_singleton.mp ht]; exact ss) (rangeD 0 r) [scr ns, some (.obj 0), some (.int (m : Int)), some (.obj q), none, none, none, none, none, none, none, none] h4 ⟨[], none, rfl, q4, (fun _ z => nomatch z), by simp [rangeD]; omega, L4.bag⟩
  obtain ⟨σ', h5, e5, pre, x4, rfl, q5, hs, hpl, B5⟩ := lp
  have hpl : pre.length ≤ 2 := by simpa using hpl
  have ef := ex_for (c := cxP prog 30) (σ := [scr ns, some (.obj 0), some (.int (m : Int)), some (.obj q), none, none, none, none, none, none, none, none]) (h := h3) (h1 := h4) (t := .one 4) (it := (.rng1 (.call "_law_draw" (.cons (.v 1) (.cons (.int 3) .nil))))) (b := b_law_3) (ds := rangeD 0 r) (g := none) (by simp [vg0, vg1, vs0, vs1, fget, fput, cmpR_eq', cmpR_ne', eqR_def, memR_def, dlook, dput, mod_ok, fdiv_ok, gset_eq, gset_ne, e4, rk])
  have s3 : exec (cxP prog 30) [scr ns, some (.obj 0), some (.int (m : Int)), some (.obj q), none, none, none, none, none, none, none, none] h3 s_law_3 = _ := ef.trans e5
  refine Rtt_cons s3 ?_
  have st := strn h5 hm
  rw [enc_nat] at st
  have gl : cp "group " ++ natDigits m = groupL m := rfl
  have ad : binR .add h5 (.str (cp "group ")) (.str (natDigits m)) = .ok (.str (groupL m)) h5 := by
    rw [← gl]
    exact add_str h5 _ _ (by have := dig12 hm; simp [show (cp "group ").length = 6 by decide]; omega)
  have lq : (pre.map D.str).length < LIM := lim_lt (by simp; omega)
  have s4 : exec (cxP prog 30) [scr ns, some (.obj 0), some (.int (m : Int)), some (.obj q), x4, none, none, none, none, none, none, none] h5 s_law_4 = .nx [scr ns, some (.obj 0), some (.int (m : Int)), some (.obj q), x4, none, none, none, none, none, none, none] (h5.set q (.lst (pre.map D.str ++ [.str (groupL m)]))) := by
    generalize groupL m = L at *
    generalize natDigits m = w at *
    generalize pre.map D.str = wl at *
    simp [vg0, vg1, vs0, vs1, fget, fput, cmpR_eq', cmpR_ne', eqR_def, memR_def, dlook, dput, mod_ok, fdiv_ok, gset_eq, gset_ne, st, ad, q5, lq]
  refine Rtt_cons s4 ?_
  have q6 : (h5.set q (.lst (pre.map D.str ++ [.str (groupL m)])))[q]? = some (.lst ((pre ++ [groupL m]).map .str)) := by rw [gset_eq, q5]; simp
  clear s3 s4 ef e5 ad st gl
  generalize h5.set q (.lst (pre.map D.str ++ [.str (groupL m)])) = h6 at *
  have l6 : lenO h6[q]? h6 = .ok (.int ((pre.length + 1 : Nat) : Int)) h6 := by rw [q6]; simp [lenO]
  have s5 : exec (cxP prog 30) [scr ns, some (.obj 0), some (.int (m : Int)), some (.obj q), x4, none, none, none, none, none, none, none] h6 s_law_5 = .nx [scr ns, some (.obj 0), some (.int (m : Int)), some (.obj q), x4, some (.int ((pre.length + 1 : Nat) : Int)), none, none, none, none, none, none] h6 := by
    generalize ((pre.length + 1 : Nat) : Int) = ln at *
    simp [vg0, vg1, vs0, vs1, fget, fput, cmpR_eq', cmpR_ne', eqR_def, memR_def, dlook, dput, mod_ok, fdiv_ok, gset_eq, gset_ne, l6]
  refine Rtt_cons s5 ?_
  have s6 : exec (cxP prog 30) [scr ns, some (.obj 0), some (.int (m : Int)), some (.obj q), x4, some (.int ((pre.length + 1 : Nat) : Int)), none, none, none, none, none, none] h6 s_law_6 = .nx [scr ns, some (.obj 0), some (.int (m : Int)), some (.obj q), x4, some (.int ((pre.length + 1 : Nat) : Int)), some (.obj h6.length), none, none, none, none, none] (h6 ++ [.lst []]) := by
    generalize ((pre.length + 1 : Nat) : Int) = ln at *
    simp [vg0, vg1, vs0, vs1, fget, fput, cmpR_eq', cmpR_ne', eqR_def, memR_def, dlook, dput, mod_ok, fdiv_ok, gset_eq, gset_ne]
  refine Rtt_cons s6 ?_
  have qu : q ≠ h6.length := by have := lt_of_get q6; omega
  have I0 : LawI ns 0 q h6.length pre m (.int ((pre.length + 1 : Nat) : Int)) (rangeD 1 ns.length).length [scr ns, some (.obj 0), some (.int (m : Int)), some (.obj q), x4, some (.int ((pre.length + 1 : Nat) : Int)), some (.obj h6.length), none, none, none, none, none] (h6 ++ [.lst []]) :=
    ⟨[], [], _, _, _, _, rfl, get_app q6, by simp, .nil _, by simp [rangeD]; omega, Nat.le_refl _⟩
  generalize hat : ((pre.length + 1 : Nat) : Int) = at_ at *
  have lp7 := forL_run (g := fun _ => true) (step := forK (cxP prog 30) (.one 4) b_law_7) (fun ds σ h' => (∀ d ∈ ds, ∃ k : Int, d = .int k ∧ 0 ≤ k) ∧ LawI ns 0 q h6.length pre m (.int at_) ds.length σ h') (fun d ds σ h' i => by
    obtain ⟨hd, I⟩ := i
    obtain ⟨k, rfl, k0⟩ := hd d (List.mem_cons_self ..)
    obtain ⟨σ2, h2, e, I2⟩ := law_step ns hpl qu k0 σ h' I
    exact ⟨σ2, h2, e, rfl, fun x hx => hd x (List.mem_cons_of_mem _ hx), I2⟩) (rangeD 1 ns.length) _ _ ⟨fun d hd => by
      unfold rangeD at hd
      obtain ⟨i, hi, rfl⟩ := List.mem_map.mp hd
      exact ⟨_, rfl, by omega⟩, I0⟩
  obtain ⟨σ7, h7, e7, _, rs, ds, y4, y9, y10, y11, rfl, q7, u7, R7, b1, b2⟩ := lp7
  have rk2 := fun h => rngK2_ok h 1 (ns.length : Int) (by omega) (by omega) (by omega) (by omega)
  have ef7 := ex_for (c := cxP prog 30) (σ := [scr ns, some (.obj 0), some (.int (m : Int)), some (.obj q), x4, some (.int at_), some (.obj h6.length), none, none, none, none, none]) (h := h6 ++ [.lst []]) (h1 := h6 ++ [.lst []]) (t := .one 4) (it := (.rng2 (.int 1) (.blt .len (.cons (.v 0) .nil)))) (b := b_law_7) (ds := rangeD 1 ns.length) (g := none) (by simp [vg0, vg1, vs0, vs1, fget, fput, cmpR_eq', cmpR_ne', eqR_def, memR_def, dlook, dput, mod_ok, fdiv_ok, gset_eq, gset_ne, rk2])
  have s7 : exec (cxP prog 30) [scr ns, some (.obj 0), some (.int (m : Int)), some (.obj q), x4, some (.int at_), some (.obj h6.length), none, none, none, none, none] (h6 ++ [.lst []]) s_law_7 = _ := ef7.trans e7
  refine Rtt_cons s7 ?_
  have hlen : ∀ w ∈ pre ++ groupL m :: rs, w.length ≤ 7000 := by
    intro w hw
    rcases List.mem_append.mp hw with hw | hw
    · have := (hs w hw).2.2; omega
    · rcases List.mem_cons.mp hw with rfl | hw
      · have := dig12 hm; unfold groupL; simp [show (cp "group").length = 5 by decide]; omega
      · exact R7.lens w hw
  have hsum := sum_le hlen
  have hlw : (pre ++ groupL m :: rs).length ≤ 127 := by simp at b1 ⊢; omega
  have hmul : (pre ++ groupL m :: rs).length * 7000 ≤ 127 * 7000 := Nat.mul_le_mul_right _ hlw
  have jl := joinS_len [10] (pre ++ groupL m :: rs)
  have jn := joinS_ok h7 q [10] (pre ++ groupL m :: rs) q7 (by simp only [List.length_singleton]; omega)
  obtain ⟨g, e8⟩ := parse_ok 11 h7 m hm pre rs ds hs R7 (by simp at b1; omega) (by simp only [List.length_singleton] at jl; omega)
  have e8 : callN prog 30 "parse_schedule" [.str (joinS [10] (pre ++ groupL m :: rs))] h7 = .ok (.tup [.int at_, .int (m : Int), .obj h7.length]) (h7 ++ .lst ds :: g) := by rw [← hat]; exact e8
  have e10 : cp "\n" = [10] := by decide
  have s8 : exec (cxP prog 30) [scr ns, some (.obj 0), some (.int (m : Int)), some (.obj q), y4, some (.int at_), some (.obj h6.length), none, none, y9, y10, y11] h7 s_law_8 = .nx [scr ns, some (.obj 0), some (.int (m : Int)), some (.obj q), y4, some (.int at_), some (.obj h6.length), some (.tup [.int at_, .int (m : Int), .obj h7.length]), none, y9, y10, y11] (h7 ++ .lst ds :: g) := by
    generalize joinS [10] (pre ++ groupL m :: rs) = T at *
    rw [← e10] at jn
    simp [vg0, vg1, vs0, vs1, fget, fput, cmpR_eq', cmpR_ne', eqR_def, memR_def, dlook, dput, mod_ok, fdiv_ok, gset_eq, gset_ne, jn, e8]
  refine Rtt_cons s8 ?_
  exact law_end (h7 ++ .lst ds :: g) (get_mid h7 g _) (by rw [List.getElem?_append_left (lt_of_get u7)]; exact u7) (fun d hd => R7.plain d hd) at_ (m : Int) _ _ _ _ _ _ _
end Mu
end

section
set_option Elab.async false
set_option linter.all false
set_option maxRecDepth 100000
set_option maxHeartbeats 0

namespace Law
theorem mu_law (ns : List Int) (hl : ns.length ≤ 63) : ∃ ah, Mu.callN (Mu.mkProg Mu.fnTab Mu.globTab Mu.gdTab) (30 + 1) "law" [.lst (ns.map .int)] [] = .ok (.bl true) ah := Mu.law_fin ns hl
end Law
end
set_option Elab.async false
set_option linter.all false
set_option maxRecDepth 100000
set_option maxHeartbeats 0
open PySem PySem.W PySem.Calls PyProof.Rows
theorem PySem.Challenge.cw_mustercall_k52_schedules_read_back_holds : PySem.Challenge.rw_mustercall_k52_schedules_read_back.Holds := by
  w_on; o_law
  refine HandSHeadRun.head_any (r := Law.R) (q := view Law.R.prog [44]) (H := Law.hk) (ob := Law.ob) (M := 20000) (loose := (["MusterError", "BadText", "BadSchedule", "MOST_NUMBER", "MOST_DIGITS", "MOST_DEPTH", "MOST_LENGTH", "DIGITS_texts", "PERCENT", "GREATEST", "is_printable", "is_integer", "_text_of", "encode", "_read_integer", "_read_tuple", "_read", "decode", "MOST_TICKS", "ACTS", "check_act", "MOST_FIGURES", "DIGITS_schedule", "number_of", "_value_of"] : List PySem.Str) ++ (["_item_of", "_act_of", "_count_of", "parse_schedule", "_line_of", "act_line", "_law_bag", "_law_draw", "_law_text", "_law_groups", "_law_number", "_law_act", "_law_line", "_law_skipped"] : List PySem.Str)) (d := HandSHeadRun.topDef Law.R.prog 44) (kwd := []) Law.ob_eq
    (by kernel_rfl) (fun s => by kernel_rfl) Law.run (by kernel_rfl) (by kernel_rfl) (by kernel_rfl) (by rfl) (by first | assumption | decide +kernel) (by decide +kernel) ⟨rfl, rfl, rfl, rfl, rfl, by decide +kernel⟩ ?promised ?told
  case promised => w_witness2
  case told =>
    refine L2.walk_ofE (l := PySem.Challenge.rw_mustercall_k52_schedules_read_back) (n := 63) (k := 2 * (30 + 1) + 2) (x := Ad.nm "_law_script") (CX := L2.CX0) rfl (by decide) (by kernel_rfl) ⟨rfl, by decide, by decide⟩ ?F (fun _ _ _ _ z => z)
    intro w mg fa h Y G hm0
    obtain ⟨K, KX, c⟩ := Y
    have hm : mg (Ad.nm "law") = some (.ref fa) := by
      have e : (HandSHeadRun.topDef Law.R.prog 44).name = Ad.nm "law" := by kernel_rfl
      rw [← e]
      exact hm0
    obtain ⟨fd, hb, hs, hF⟩ := Ad.law_facts (P := (PySem.Challenge.rw_mustercall_k52_schedules_read_back).prog) (w := w) (S := Law.sg) (tab := Law.tab) (gds := Mu.gdTab) (n := 30) (x := Ad.nm "_law_script") KX G hm c Law.chkb Law.bdok Law.chk Law.binds (by kernel_rfl) Law.mu_law
    exact ⟨K, fd, Ad.spL K, KX, hb, hs, hF⟩
