import PyProof.Rows.All
import Wide.All
import OpenK.AllK
import Wide.FinOn
import HandS.ForMost
import HandS.Exc
import HandS.ExcOwn
import HandS.TupAny
import HandS.Deep
import HandS.More
import HandS.CallSlots
import HandS.ForExc
import HandS.RevTup
import HandS.Iter
import HandS.IsInst
import HandS.Conv
import HandS.Text
import PyProof.Rows.StrSplitAre
import HandS.TryOnly
import HandS.Ends
import PySem.Challenge.RW_duskbook_k59_papers_read
set_option Elab.async false
section SDKSem
set_option Elab.async false
set_option linter.all false
/-! DKSem: pure data, an abstract store, and the meaning of the pieces of Python that the program uses, as plain Lean functions. -/
namespace DK
open PySem

/-- the greatest length of a text or a list -/
def LINE : Nat := 16777216

inductive P where
  | d (x : PyData)
  | r (i : Nat)

/-- own exception classes, own classes of objects -/
inductive Xc where | NoBook | NoHands | Over | NoLight | NoneSettled | NoTable | NoPage | NoPaper
  deriving DecidableEq
inductive Kc where | Watch | Words | Settler | Rowed | Papered
  deriving DecidableEq

inductive Cell where
  | lst (l : List P)
  | fz (l : List P)
  | dct (l : List (PyData × P))
  | ins (c : Kc) (fs : List (Str × P))
abbrev Sto := List Cell
inductive Out (α : Type) where
  | ok (a : α) (S : Sto)
  | ex (c : Xc) (S : Sto)
  | bad
def Out.bind {α β : Type} (o : Out α) (k : α → Sto → Out β) : Out β := match o with
  | .ok a S => k a S
  | .ex c S => .ex c S
  | .bad => .bad
abbrev Env := List (Option P)
abbrev Ex := Env → Sto → Out P
abbrev Exs := Env → Sto → Out (List P)
abbrev Tx := Env → Sto → Out Bool
abbrev Fn := List P → Sto → Out P
inductive SR where
  | nx (ρ : Env) (S : Sto)
  | rt (p : P) (S : Sto)
  | ex (c : Xc) (ρ : Env) (S : Sto)
  | bad
abbrev Sx := Env → Sto → SR

/-! ### data -/
abbrev vN : P := .d .none
abbrev vB (b : Bool) : P := .d (.bool b)
abbrev vI (i : Int) : P := .d (.int i)
abbrev vS (x : Str) : P := .d (.str x)
abbrev vT (l : List PyData) : P := .d (.tuple l)
abbrev vL (l : List PyData) : P := .d (.list l)

def allD : List P → Option (List PyData)
  | [] => some []
  | .d x :: l => match allD l with
    | some r => some (x :: r)
    | none => none
  | .r _ :: _ => none
theorem allD_map (l : List PyData) : allD (l.map .d) = some l := by
  induction l with
  | nil => rfl
  | cons x l ih => simp [allD, ih]
/-- depth at most n, no dict -/
def dep : Nat → PyData → Bool
  | n + 1, .list l => l.all (dep n)
  | n + 1, .tuple l => l.all (dep n)
  | _, .none => true
  | _, .bool _ => true
  | _, .int _ => true
  | _, .str _ => true
  | _, _ => false
/-- the data at a value: a cell's list as it stands now -/
def rdD (S : Sto) : P → Option PyData
  | .d x => some x
  | .r i => match S[i]? with
    | some (.lst l) => (allD l).map .list
    | some (.fz l) => (allD l).map .list
    | _ => none
/-- a list cell is frozen -/
def Cell.frz : Cell → Cell
  | .lst l => .fz l
  | c => c
def frzS (S : Sto) (i : Nat) : Sto := S.modify i Cell.frz
/-- to data: flat cells at once; a cell of cells by its items -/
def toDs (S : Sto) : List P → Option (List PyData × Sto)
  | [] => some ([], S)
  | .d x :: l => match toDs S l with
    | some (r, S') => some (x :: r, S')
    | none => none
  | .r i :: l => match rdD S (.r i) with
    | some x => match toDs (frzS S i) l with
      | some (r, S') => some (x :: r, S')
      | none => none
    | none => none
def toD (S : Sto) : P → Option (PyData × Sto)
  | .d x => some (x, S)
  | .r i => match S[i]? with
    | some (.lst l) => match toDs (frzS S i) l with
      | some (r, S') => some (.list r, S')
      | none => none
    | some (.fz l) => match toDs S l with
      | some (r, S') => some (.list r, S')
      | none => none
    | _ => none
def toDall (S : Sto) : List P → Option (List PyData × Sto)
  | [] => some ([], S)
  | p :: l => match toD S p with
    | some (x, S1) => match toDall S1 l with
      | some (r, S2) => some (x :: r, S2)
      | none => none
    | none => none
/-- the items of a list or tuple -/
def items (S : Sto) : P → Option (List P)
  | .d (.list l) => some (l.map .d)
  | .d (.tuple l) => some (l.map .d)
  | .r i => match S[i]? with
    | some (.lst l) => some l
    | some (.fz l) => some l
    | _ => none
  | _ => none
/-- the items of a list -/
def litems (S : Sto) : P → Option (List P)
  | .d (.list l) => some (l.map .d)
  | .r i => match S[i]? with
    | some (.lst l) => some l
    | some (.fz l) => some l
    | _ => none
  | _ => none
/-- a new list: a cell (c), or frozen at once -/
abbrev Res := Option (P × Sto)
def newL (c : Bool) (l : List P) (S : Sto) : Res := match c with
  | true => some (.r S.length, S ++ [.lst l])
  | false => match allD l with
    | some ds => some (vL ds, S)
    | none => none

/-! ### operators, by values -/
abbrev Op1 := P → Sto → Res
abbrev Op2 := P → P → Sto → Res
def okOr {α : Type} (o : Option α) (k : α → Res) : Res := match o with
  | some a => k a
  | none => none
def oAdd (c : Bool) : Op2
  | .d (.int i), .d (.int j), S => some (vI (i + j), S)
  | .d (.str x), .d (.str y), S => if x.length + y.length ≤ LINE then some (vS (x ++ y), S) else none
  | .d (.tuple xs), .d (.tuple ys), S => if xs.length + ys.length ≤ LINE then some (vT (xs ++ ys), S) else none
  | p, q, S => okOr (litems S p) fun xs => okOr (litems S q) fun ys => if xs.length + ys.length ≤ LINE then newL c (xs ++ ys) S else none
def oSub : Op2
  | .d (.int i), .d (.int j), S => some (vI (i - j), S)
  | _, _, _ => none
def oMul : Op2
  | .d (.int i), .d (.int j), S => if (-(2 ^ 64) < i ∧ i < 2 ^ 64) ∨ (-(2 ^ 64) < j ∧ j < 2 ^ 64) then some (vI (i * j), S) else none
  | _, _, _ => none
def oFdiv : Op2
  | .d (.int i), .d (.int j), S => if j ≠ 0 ∧ j.natAbs < 1073741824 then some (vI (i.fdiv j), S) else none
  | _, _, _ => none
def oMod : Op2
  | .d (.int i), .d (.int j), S => if j ≠ 0 then some (vI (i.fmod j), S) else none
  | _, _, _ => none
def oNeg : Op1
  | .d (.int i), S => some (vI (-i), S)
  | _, _ => none
/-! comparisons -/
def oLt : Op2
  | .d (.int i), .d (.int j), S => some (vB (decide (i < j)), S)
  | _, _, _ => none
def oLe : Op2
  | .d (.int i), .d (.int j), S => some (vB (decide (i ≤ j)), S)
  | _, _, _ => none
def oGt : Op2
  | .d (.int i), .d (.int j), S => some (vB (decide (j < i)), S)
  | _, _, _ => none
def oGe : Op2
  | .d (.int i), .d (.int j), S => some (vB (decide (j ≤ i)), S)
  | _, _, _ => none
/-- == of data -/
def eqD (p q : P) (S : Sto) (k : Bool → Bool) : Res :=
  okOr (rdD S p) fun x => okOr (rdD S q) fun y => if (dep 60 x && dep 60 y) = true then some (vB (k (PyData.eqv x y)), S) else none
def oEq : Op2 := fun p q S => eqD p q S id
def oNe : Op2 := fun p q S => eqD p q S not
/-- in a list or tuple -/
def inD (p q : P) (S : Sto) (k : Bool → Bool) : Res :=
  okOr (rdD S p) fun x => okOr (rdD S q) fun y => match y with
    | .list ys => if (dep 60 x && ys.all (dep 60)) = true then some (vB (k (ys.any fun z => PyData.eqv z x)), S) else none
    | .tuple ys => if (dep 60 x && ys.all (dep 60)) = true then some (vB (k (ys.any fun z => PyData.eqv z x)), S) else none
    | _ => none
def oIn : Op2 := fun p q S => inD p q S id
def oNotIn : Op2 := fun p q S => inD p q S not
/-- is None -/
def oIsN : Op1
  | .d .none, S => some (vB true, S)
  | _, S => some (vB false, S)
def oNotN : Op1
  | .d .none, S => some (vB false, S)
  | _, S => some (vB true, S)
/-! subscripts, calls of built-ins -/
def oIx : Op2
  | .d (.str x), .d (.int i), S => okOr (L2.atI x.cps.toList i) fun c => some (vS ⟨#[c]⟩, S)
  | p, .d (.int i), S => okOr (items S p) fun l => okOr (L2.atI l i) fun x => some (x, S)
  | _, _, _ => none
def oLen : Op1
  | .d (.str x), S => some (vI x.length, S)
  | p, S => okOr (items S p) fun l => some (vI l.length, S)
/-- a number's text -/
def nS (i : Int) : Str := Str.ofString (toString i)
def oStr : Op1
  | .d (.int i), S => if 0 ≤ i ∧ i < 1000 then some (vS (nS i), S) else none
  | _, _ => none
/-- int(True) -/
def oInt : Op1
  | .d (.bool b), S => some (vI (if b then 1 else 0), S)
  | .d (.int i), S => some (vI i, S)
  | _, _ => none
def oList (c : Bool) : Op1 := fun p S => okOr (items S p) fun l => newL c l S
/-- list(reversed(x)) of a list -/
def oListRev (c : Bool) : Op1 := fun p S => okOr (litems S p) fun l => newL c l.reverse S
def oTuple : Op1
  | .d (.tuple l), S => some (vT l, S)
  | p, S => okOr (litems S p) fun l => okOr (allD l) fun ds => some (vT ds, S)
def txts : List P → Option (List Str)
  | [] => some []
  | .d (.str x) :: l => match txts l with
    | some r => some (x :: r)
    | none => none
  | _ :: _ => none
theorem txts_map (l : List Str) : txts (l.map fun x => vS x) = some l := by
  induction l with
  | nil => rfl
  | cons x l ih => simp [txts, ih]
def oJoin : Op2
  | .d (.str a), p, S => okOr (litems S p) fun l => okOr (txts l) fun ys => if (ys.map (·.length)).sum + ys.length * a.length ≤ LINE then some (vS (Txt.join a ys), S) else none
  | _, _, _ => none
inductive Ty where | int | str | bool | tuple
  deriving DecidableEq
def isI (t : Ty) : PyData → Bool
  | .bool _ => t == .int || t == .bool
  | .int _ => t == .int
  | .str _ => t == .str
  | .tuple _ => t == .tuple
  | _ => false
def oIsI (t : Ty) : Op1
  | .d x, S => some (vB (isI t x), S)
  | .r i, S => match S[i]? with
    | some (.lst _) => some (vB false, S)
    | some (.fz _) => some (vB false, S)
    | _ => none
/-! methods of a list's cell -/
def oAppend : Op2
  | .r i, q, S => match S[i]? with
    | some (.lst l) => if l.length < LINE then some (vN, S.set i (.lst (l ++ [q]))) else none
    | _ => none
  | _, _, _ => none
def oPop : Op1
  | .r i, S => match S[i]? with
    | some (.lst l) => okOr l.getLast? fun x => some (x, S.set i (.lst l.dropLast))
    | _ => none
  | _, _ => none

/-! ### expressions -/
def eVar (i : Nat) : Ex := fun ρ S => match ρ[i]? with
  | some (some p) => .ok p S
  | _ => .bad
def eC (p : P) : Ex := fun _ S => .ok p S
/-- not reached -/
def eBad : Ex := fun _ _ => .bad
def Out.of : Res → Out P
  | some (p, S) => .ok p S
  | none => .bad
def eOp1 (o : Op1) (a : Ex) : Ex := fun ρ S => (a ρ S).bind fun p S1 => .of (o p S1)
def eOp2 (o : Op2) (a b : Ex) : Ex := fun ρ S => (a ρ S).bind fun p S1 => (b ρ S1).bind fun q S2 => .of (o p q S2)
def eNil : Exs := fun _ S => .ok [] S
def eCons (a : Ex) (b : Exs) : Exs := fun ρ S => (a ρ S).bind fun p S1 => (b ρ S1).bind fun l S2 => .ok (p :: l) S2
def eArgs : List Ex → Exs
  | [] => eNil
  | a :: l => eCons a (eArgs l)
def eTup (l : List Ex) : Ex := fun ρ S => (eArgs l ρ S).bind fun ps S1 => match toDall S1 ps with
  | some (ds, S2) => .ok (vT ds) S2
  | none => .bad
/-- [..]: data frozen at once -/
def eLst (l : List Ex) : Ex := fun ρ S => (eArgs l ρ S).bind fun ps S1 => match toDall S1 ps with
  | some (ds, S2) => .ok (vL ds) S2
  | none => .bad
/-- [..]: a cell -/
def eLstC (l : List Ex) : Ex := fun ρ S => (eArgs l ρ S).bind fun ps S1 => .ok (.r S1.length) (S1 ++ [.lst ps])
def eAndV (a b : Ex) : Ex := fun ρ S => (a ρ S).bind fun p S1 => match p with
  | .d (.bool true) => b ρ S1
  | .d (.bool false) => .ok (vB false) S1
  | _ => .bad
def eOrV (a b : Ex) : Ex := fun ρ S => (a ρ S).bind fun p S1 => match p with
  | .d (.bool true) => .ok (vB true) S1
  | .d (.bool false) => b ρ S1
  | _ => .bad
def eNotV (a : Ex) : Ex := fun ρ S => (a ρ S).bind fun p S1 => match p with
  | .d (.bool b) => .ok (vB (!b)) S1
  | _ => .bad
/-- tests -/
def tE (a : Ex) : Tx := fun ρ S => (a ρ S).bind fun p S1 => match p with
  | .d (.bool b) => .ok b S1
  | _ => .bad
def tAnd (a b : Tx) : Tx := fun ρ S => (a ρ S).bind fun c S1 => if c = true then b ρ S1 else .ok false S1
def tOr (a b : Tx) : Tx := fun ρ S => (a ρ S).bind fun c S1 => if c = true then .ok true S1 else b ρ S1
def tNot (a : Tx) : Tx := fun ρ S => (a ρ S).bind fun c S1 => .ok (!c) S1
def eIf (t : Tx) (a b : Ex) : Ex := fun ρ S => (t ρ S).bind fun c S1 => if c = true then a ρ S1 else b ρ S1
/-! calls -/
/-- isolated: data in, data out -/
def callI (g : Fn) (ds : List PyData) : Option (Xc ⊕ PyData) := match g (ds.map .d) [] with
  | .ok p S' => (rdD S' p).map .inr
  | .ex c _ => some (.inl c)
  | .bad => none
def eCallI (g : Fn) (l : List Ex) : Ex := fun ρ S => (eArgs l ρ S).bind fun ps S1 => match toDall S1 ps with
  | some (ds, S2) => match callI g ds with
    | some (.inr x) => .ok (.d x) S2
    | some (.inl c) => .ex c S2
    | none => .bad
  | none => .bad
/-- no reference from n on -/
def P.below (n : Nat) : P → Bool
  | .d _ => true
  | .r i => decide (i < n)
def Cell.below (n : Nat) : Cell → Bool
  | .lst l => l.all (P.below n)
  | .fz l => l.all (P.below n)
  | .dct l => l.all fun p => p.2.below n
  | .ins _ fs => fs.all fun p => p.2.below n
/-- with the caller's cells; data out -/
def callS (g : Fn) (ps : List P) (S : Sto) : Out P := match g ps S with
  | .ok (.d x) S' => if (S'.take S.length).all (Cell.below S.length) = true then .ok (.d x) (S'.take S.length) else .bad
  | .ok (.r i) S' => if (S'.take S.length).all (Cell.below S.length) = true ∧ S.length ≤ i then (match rdD S' (.r i) with
    | some x => .ok (.d x) (S'.take S.length)
    | none => .bad) else .bad
  | .ex c S' => if (S'.take S.length).all (Cell.below S.length) = true then .ex c (S'.take S.length) else .bad
  | .bad => .bad
def eCallS (g : Fn) (l : List Ex) : Ex := fun ρ S => (eArgs l ρ S).bind fun ps S1 => callS g ps S1
/-! what is walked -/
def iSeq (a : Ex) : Exs := fun ρ S => (a ρ S).bind fun p S1 => match p with
  | .d (.list l) => .ok (l.map .d) S1
  | .d (.tuple l) => .ok (l.map .d) S1
  | .r i => match S1[i]? with
    | some (.lst l) => .ok l (frzS S1 i)
    | some (.fz l) => .ok l S1
    | _ => .bad
  | _ => .bad
def rng (lo : Int) (n : Nat) : List P := (List.range n).map fun k : Nat => vI (lo + (k : Int))
def small (i : Int) : Prop := -(2 ^ 62) ≤ i ∧ i < 2 ^ 62
instance (i : Int) : Decidable (small i) := by unfold small; infer_instance
def iRng1 (a : Ex) : Exs := fun ρ S => (a ρ S).bind fun p S1 => match p with
  | .d (.int j) => if small j then .ok (rng 0 j.toNat) S1 else .bad
  | _ => .bad
def iRng2 (a b : Ex) : Exs := fun ρ S => (a ρ S).bind fun p S1 => (b ρ S1).bind fun q S2 => match p, q with
  | .d (.int i), .d (.int j) => if small i ∧ small j then .ok (rng i (j - i).toNat) S2 else .bad
  | _, _ => .bad
/-! targets -/
abbrev Tg := P → Env → Option Env
def gN (i : Nat) : Tg := fun p ρ => some (ρ.set i (some p))
def gTs : List Nat → List P → Env → Option Env
  | [], [], ρ => some ρ
  | i :: is, p :: ps, ρ => gTs is ps (ρ.set i (some p))
  | _, _, _ => none
/-- a tuple is unpacked -/
def gT (is : List Nat) : Tg := fun p ρ => match p with
  | .d (.tuple l) => gTs is (l.map .d) ρ
  | _ => none
/-! comprehensions -/
def wipe (ρ : Env) : List Nat → Env
  | [] => ρ
  | v :: vs => (wipe ρ vs).set v none
def lcL (g : Tg) (t : Tx) (e : Ex) (ρ : Env) : List P → List PyData → Sto → Out (List PyData)
  | [], acc, S => .ok acc S
  | x :: xs, acc, S => match g x ρ with
    | none => .bad
    | some ρ' => (t ρ' S).bind fun c S1 =>
      if c = true then (e ρ' S1).bind fun p S2 => match toD S2 p with
        | some (y, S3) => if acc.length < LINE then lcL g t e ρ xs (acc ++ [y]) S3 else .bad
        | none => .bad
      else lcL g t e ρ xs acc S1
def tYes : Tx := fun _ S => .ok true S
def eLc (c : Bool) (own : List Nat) (it : Exs) (g : Tg) (t : Tx) (e : Ex) : Ex := fun ρ S => (it ρ S).bind fun xs S1 =>
  (lcL g t e (wipe ρ own) xs [] S1).bind fun acc S2 => .of (newL c (acc.map .d) S2)

/-- a comprehension raises nothing -/
def noEx {α : Type} : Out α → Out α
  | .ex _ _ => .bad
  | o => o
/-- as eLc, without exceptions out of its turns -/
def eLcN (c : Bool) (own : List Nat) (it : Exs) (g : Tg) (t : Tx) (e : Ex) : Ex := fun ρ S => (it ρ S).bind fun xs S1 =>
  (noEx (lcL g t e (wipe ρ own) xs [] S1)).bind fun acc S2 => .of (newL c (acc.map .d) S2)
/-! methods of built-in types: the receiver's kind is looked at first -/
inductive Rc where | list | str
def Rc.nm : Rc → String
  | .list => "list"
  | .str => "str"
def Rc.ok : Rc → Sto → P → Bool
  | .str, _, .d (.str _) => true
  | .list, _, .d (.list _) => true
  | .list, S, .r i => match S[i]? with
    | some (.lst _) => true
    | some (.fz _) => true
    | _ => false
  | _, _, _ => false
def eMt0 (c : Rc) (o : Op1) (a : Ex) : Ex := fun ρ S => (a ρ S).bind fun p S1 => if c.ok S1 p = true then .of (o p S1) else .bad
def eMt1 (c : Rc) (o : Op2) (a b : Ex) : Ex := fun ρ S => (a ρ S).bind fun p S1 => if c.ok S1 p = true then (b ρ S1).bind fun q S2 => .of (o p q S2) else .bad
/-! texts, slices -/
def oSplit : Op2
  | .d (.str a), .d (.str b), S => if (b.length == 0) = false ∧ a.length + 2 ≤ LINE then some (vL ((Txt.split a b).map .str), S) else none
  | _, _, _ => none
/-- one sign in a text -/
def oInS (k : Bool → Bool) : Op2
  | .d (.str c), .d (.str z), S => match c.cps.toList with
    | [x] => some (vB (k (decide (x ∈ z.cps.toList))), S)
    | _ => none
  | _, _, _ => none
def oIntS : Op1
  | .d (.str a), S => if a.length ≤ 640 then okOr (PySem.intText? a) fun n => some (vI n, S) else none
  | _, _ => none
def blsOf : List P → Option (List Bool)
  | [] => some []
  | .d (.bool x) :: l => match blsOf l with
    | some r => some (x :: r)
    | none => none
  | _ :: _ => none
theorem blsOf_map (l : List Bool) : blsOf (l.map fun x => vB x) = some l := by
  induction l with
  | nil => rfl
  | cons x l ih => simp [blsOf, ih]
def oAll : Op1 := fun p S => okOr (litems S p) fun l => okOr (blsOf l) fun bs => some (vB (bs.all id), S)
def oAny : Op1 := fun p S => okOr (litems S p) fun l => okOr (blsOf l) fun bs => some (vB (bs.any id), S)
def txK (p : P) (S : Sto) : Out (List P) := match p with
  | .d (.str x) => .ok (x.cps.toList.map fun c => vS ⟨#[c]⟩) S
  | _ => .bad
def iTxt (a : Ex) : Exs := fun ρ S => (a ρ S).bind txK
def cutP {α : Type} (l : List α) (lo hi : Option Int) : List α := (l.drop (HT.sIx l.length 0 lo)).take (HT.sIx l.length l.length hi - HT.sIx l.length 0 lo)
def oSl (c : Bool) (lo hi : Option Int) : Op1
  | .d (.str z), S => some (vS (L2.cutS z lo hi), S)
  | p, S => okOr (litems S p) fun l => newL c (cutP l lo hi) S
def kPart (p : P) (S : Sto) : Out (Option Int) := match p with
  | .d (.int i) => .ok (some i) S
  | _ => .bad
def ePart : Option Ex → Env → Sto → Out (Option Int)
  | none, _, S => .ok none S
  | some e, ρ, S => (e ρ S).bind kPart
def kSl3 (c : Bool) (p : P) (lo hi : Option Int) (S : Sto) : Out P := .of (oSl c lo hi p S)
def kSl2 (c : Bool) (hi : Option Ex) (ρ : Env) (p : P) (lo : Option Int) (S : Sto) : Out P := (ePart hi ρ S).bind (kSl3 c p lo)
def kSl (c : Bool) (lo hi : Option Ex) (ρ : Env) (p : P) (S : Sto) : Out P := (ePart lo ρ S).bind (kSl2 c hi ρ p)
def eSl (c : Bool) (a : Ex) (lo hi : Option Ex) : Ex := fun ρ S => (a ρ S).bind (kSl c lo hi ρ)
/-! objects -/
def lookF (f : Str) : List (Str × P) → Option P
  | [] => none
  | (g, x) :: r => if g = f then some x else lookF f r
def putFs (f : Str) (v : P) : List (Str × P) → List (Str × P)
  | [] => [(f, v)]
  | (g, x) :: r => if g = f then (g, v) :: r else (g, x) :: putFs f v r
/-- the fields of an object of class k -/
def flds (k : Kc) (S : Sto) : P → Option (Nat × List (Str × P))
  | .r i => match S[i]? with
    | some (.ins c fs) => if c = k then some (i, fs) else none
    | _ => none
  | _ => none
def gFld (k : Kc) (f : Str) (p : P) (S : Sto) : Out P := match flds k S p with
  | some (_, fs) => match lookF f fs with
    | some v => .ok v S
    | none => .bad
  | none => .bad
def eFld (k : Kc) (f : Str) (a : Ex) : Ex := fun ρ S => (a ρ S).bind (gFld k f)
/-- a method, by the caller's cells -/
def gMeth (k : Kc) (m : Str) (g : Fn) (l : List Ex) (ρ : Env) (p : P) (S1 : Sto) : Out P := match flds k S1 p with
  | some (_, fs) => if (lookF m fs).isNone = true then (eArgs l ρ S1).bind fun ps S2 => callS g (p :: ps) S2 else .bad
  | none => .bad
def eMeth (k : Kc) (m : Str) (g : Fn) (a : Ex) (l : List Ex) : Ex := fun ρ S => (a ρ S).bind (gMeth k m g l ρ)
/-- a new object -/
def mkO (k : Kc) (g : Fn) (ps : List P) (S : Sto) : Out P := match g (.r S.length :: ps) (S ++ [.ins k []]) with
  | .ok (.d .none) S' => .ok (.r S.length) S'
  | .ok _ _ => .bad
  | .ex c S' => .ex c S'
  | .bad => .bad
def eMake (k : Kc) (g : Fn) (l : List Ex) : Ex := fun ρ S => (eArgs l ρ S).bind (mkO k g)
/-! ### statements -/
def Out.then {α : Type} (o : Out α) (ρ : Env) (k : α → Sto → SR) : SR := match o with
  | .ok a S => k a S
  | .ex c S => .ex c ρ S
  | .bad => .bad
def sSkip : Sx := fun ρ S => .nx ρ S
def sSeq (a b : Sx) : Sx := fun ρ S => match a ρ S with
  | .nx ρ' S' => b ρ' S'
  | r => r
def sBlk : List Sx → Sx
  | [] => sSkip
  | [a] => a
  | a :: l => sSeq a (sBlk l)
def sAsg (g : Tg) (e : Ex) : Sx := fun ρ S => (e ρ S).then ρ fun p S1 => match g p ρ with
  | some ρ' => .nx ρ' S1
  | none => .bad
def sExpr (e : Ex) : Sx := fun ρ S => (e ρ S).then ρ fun _ S1 => .nx ρ S1
def sRet (e : Ex) : Sx := fun ρ S => (e ρ S).then ρ fun p S1 => .rt p S1
def sRetN : Sx := fun _ S => .rt vN S
def sIf (t : Tx) (a b : Sx) : Sx := fun ρ S => (t ρ S).then ρ fun c S1 => if c = true then a ρ S1 else b ρ S1
def forL (g : Tg) (b : Sx) : List P → Env → Sto → SR
  | [], ρ, S => .nx ρ S
  | x :: xs, ρ, S => match g x ρ with
    | none => .bad
    | some ρ' => match b ρ' S with
      | .nx ρ2 S2 => forL g b xs ρ2 S2
      | r => r
def sFor (it : Exs) (g : Tg) (b : Sx) : Sx := fun ρ S => (it ρ S).then ρ fun xs S1 => forL g b xs ρ S1
def whileN (t : Tx) (b : Sx) : Nat → Env → Sto → SR
  | 0, _, _ => .bad
  | n + 1, ρ, S => (t ρ S).then ρ fun c S1 => if c = true then (match b ρ S1 with
    | .nx ρ2 S2 => whileN t b n ρ2 S2
    | r => r) else .nx ρ S1
def FUEL : Nat := 1000000
def sWhile (t : Tx) (b : Sx) : Sx := whileN t b FUEL
/-- o.f = e -/
def putO (k : Kc) (f : Str) (v p : P) (S : Sto) : Option Sto := match flds k S p with
  | some (i, fs) => if fs.length < 1000 then some (S.set i (.ins k (putFs f v fs))) else none
  | none => none
def sFldK (k : Kc) (f : Str) (ρ : Env) (v p : P) (S : Sto) : SR := match putO k f v p S with
  | some S' => .nx ρ S'
  | none => .bad
def sStore (k : Kc) (f : Str) (o e : Ex) : Sx := fun ρ S => (e ρ S).then ρ fun v S1 => (o ρ S1).then ρ (sFldK k f ρ v)
def sBad : Sx := fun _ _ => .bad
def sRaise (c : Xc) : Sx := fun ρ S => .ex c ρ S
/-- the slots at is are forgotten -/
def sDrop (b : Sx) (is : List Nat) : Sx := fun ρ S => match b ρ S with
  | .nx ρ' S' => .nx (wipe ρ' is) S'
  | r => r
/-- a def: its parameters come first, then m empty slots -/
def fnOf (m : Nat) (b : Sx) : Fn := fun ps S => match b (ps.map some ++ List.replicate m none) S with
  | .nx _ S' => .ok vN S'
  | .rt p S' => .ok p S'
  | .ex c _ S' => .ex c S'
  | .bad => .bad
end DK

end SDKSem

section SDKRel
set_option Elab.async false
set_option linter.all false
set_option autoImplicit false
/-! DKRel: how pure data and the abstract store lie in HandS's heap; a step of the heap. -/
namespace DK
open PySem PySem.Spec PyProof.Rows L2

/-- what the layer knows of the module -/
structure Md where
  K : PySem.W.Frag
  mg : Str → Option Value

def strName (k : Kc) : Str := match k with
  | .Watch => "Watch" | .Words => "Words" | .Settler => "Settler" | .Rowed => "Rowed" | .Papered => "Papered"
def excName (k : Xc) : Str := match k with
  | .NoBook => "NoBook" | .NoHands => "NoHands" | .Over => "Over" | .NoLight => "NoLight" | .NoneSettled => "NoneSettled" | .NoTable => "NoTable" | .NoPage => "NoPage" | .NoPaper => "NoPaper"
/-- the class of an exception as a value -/
def Md.xv (M : Md) (c : Xc) : Value := (M.mg (excName c)).getD .none

/-- a list, a tuple that stays: its address is none of L's -/
def Lq (K : PySem.W.Frag) (L : Addr → Prop) (H : Hp) (a : Addr) (xs : List V) : Prop :=
  (Rd H a (.lst xs) ∧ ¬ L a) ∨ ∃ (o : Obj) (its : Array Value) (n : Nat), K.lookup a = some o ∧ o.cls = .type "list" ∧ o.dict = none ∧ o.data = .seq its n ∧ its.size ≤ sizeLine ∧ Vals xs its.toList
def Tq (K : PySem.W.Frag) (L : Addr → Prop) (H : Hp) (a : Addr) (xs : List V) : Prop :=
  (Rd H a (.tup xs) ∧ ¬ L a) ∨ ∃ (o : Obj) (its : Array Value) (n : Nat), K.lookup a = some o ∧ o.cls = .type "tuple" ∧ o.data = .seq its n ∧ its.size ≤ sizeLine ∧ Vals xs its.toList
theorem Lq.seq {K : PySem.W.Frag} {L : Addr → Prop} {H : Hp} {a : Addr} {xs : List V} (h : Lq K L H a xs) : SqL K H a xs := Or.imp (fun z => z.1) (fun z => z) h
theorem Tq.seq {K : PySem.W.Frag} {L : Addr → Prop} {H : Hp} {a : Addr} {xs : List V} (h : Tq K L H a xs) : SqT K H a xs := Or.imp (fun z => z.1) (fun z => z) h

mutual
inductive Rp (K : PySem.W.Frag) (L : Addr → Prop) (H : Hp) : PyData → V → Prop
  | non : Rp K L H .none .non
  | bl (b : Bool) : Rp K L H (.bool b) (.bl b)
  | int (i : Int) : Rp K L H (.int i) (.int i)
  | str (x : Str) : x.length ≤ LINE → PyData.strOk x = true → Rp K L H (.str x) (.str x)
  | lst {a : Addr} {xs : List V} {ds : List PyData} : Lq K L H a xs → RpA K L H ds xs → Rp K L H (.list ds) (.ref a)
  | tup {a : Addr} {xs : List V} {ds : List PyData} : Tq K L H a xs → RpA K L H ds xs → Rp K L H (.tuple ds) (.ref a)
inductive RpA (K : PySem.W.Frag) (L : Addr → Prop) (H : Hp) : List PyData → List V → Prop
  | nil : RpA K L H [] []
  | cons {x : PyData} {v : V} {ds : List PyData} {vs : List V} : Rp K L H x v → RpA K L H ds vs → RpA K L H (x :: ds) (v :: vs)
end

section
variable {K : PySem.W.Frag} {L L' : Addr → Prop} {H H' : Hp}
theorem RpA.length {ds : List PyData} {vs : List V} (h : RpA K L H ds vs) : ds.length = vs.length := by
  induction ds generalizing vs with
  | nil => cases h; rfl
  | cons d ds ih => cases h with | cons _ t => simp [ih t]
theorem RpA.get {ds : List PyData} {vs : List V} (h : RpA K L H ds vs) : ∀ {i : Nat} {d : PyData}, ds[i]? = some d → ∃ v, vs[i]? = some v ∧ Rp K L H d v := by
  induction ds generalizing vs with
  | nil => intro i d e; simp at e
  | cons d ds ih =>
    cases h with
    | cons r t =>
      intro i x e
      cases i with
      | zero => simp at e; subst e; exact ⟨_, rfl, r⟩
      | succ i => exact ih t (by simpa using e)
theorem RpA.append {ds es : List PyData} {vs ws : List V} (h : RpA K L H ds vs) (g : RpA K L H es ws) : RpA K L H (ds ++ es) (vs ++ ws) := by
  induction ds generalizing vs with
  | nil => cases h; exact g
  | cons d ds ih => cases h with | cons r t => exact .cons r (ih t)
/-- what the descriptions lean on -/
theorem Lq.mono (st : ∀ b o, H b = some o → ¬ L b → H' b = some o) (lv : ∀ b o, H b = some o → ¬ L b → ¬ L' b) {a : Addr} {xs : List V} (h : Lq K L H a xs) : Lq K L' H' a xs := by
  rcases h with ⟨r, n⟩ | h
  · rcases r with r | ⟨o, r⟩
    · exact .inl ⟨.inl (st _ _ r n), lv _ _ r n⟩
    · exact .inl ⟨.inr ⟨o, st _ _ r n⟩, lv _ _ r n⟩
  · exact .inr h
theorem Tq.mono (st : ∀ b o, H b = some o → ¬ L b → H' b = some o) (lv : ∀ b o, H b = some o → ¬ L b → ¬ L' b) {a : Addr} {xs : List V} (h : Tq K L H a xs) : Tq K L' H' a xs := by
  rcases h with ⟨r, n⟩ | h
  · rcases r with r | ⟨o, r⟩
    · exact .inl ⟨.inl (st _ _ r n), lv _ _ r n⟩
    · exact .inl ⟨.inr ⟨o, st _ _ r n⟩, lv _ _ r n⟩
  · exact .inr h
mutual
theorem Rp.mono (st : ∀ b o, H b = some o → ¬ L b → H' b = some o) (lv : ∀ b o, H b = some o → ¬ L b → ¬ L' b) : ∀ {x : PyData} {v : V}, Rp K L H x v → Rp K L' H' x v
  | _, _, .non => .non
  | _, _, .bl b => .bl b
  | _, _, .int i => .int i
  | _, _, .str x h g => .str x h g
  | _, _, .lst h g => .lst (h.mono st lv) (RpA.mono st lv g)
  | _, _, .tup h g => .tup (h.mono st lv) (RpA.mono st lv g)
theorem RpA.mono (st : ∀ b o, H b = some o → ¬ L b → H' b = some o) (lv : ∀ b o, H b = some o → ¬ L b → ¬ L' b) : ∀ {ds : List PyData} {vs : List V}, RpA K L H ds vs → RpA K L' H' ds vs
  | _, _, .nil => .nil
  | _, _, .cons r t => .cons (Rp.mono st lv r) (RpA.mono st lv t)
end
mutual
theorem Rp.dp : ∀ {x : PyData} {v : V}, Rp K L H x v → Dp K H v x
  | _, _, .non => .non
  | _, _, .bl b => .bl b
  | _, _, .int i => .int i
  | _, _, .str x _ _ => .str x
  | _, _, .lst h g => .lst h.seq (RpA.dp g)
  | _, _, .tup h g => .tup h.seq (RpA.dp g)
theorem RpA.dp : ∀ {ds : List PyData} {vs : List V}, RpA K L H ds vs → DpAll K H vs ds
  | _, _, .nil => .nil
  | _, _, .cons r t => .cons (Rp.dp r) (RpA.dp t)
end
mutual
theorem Rp.lay : ∀ {x : PyData} {v : V}, Rp K L H x v → x.canLay0 = true
  | _, _, .non => by simp [PyData.canLay0]
  | _, _, .bl b => by simp [PyData.canLay0]
  | _, _, .int i => by simp [PyData.canLay0]
  | _, _, .str x _ h => by simpa [PyData.canLay0] using h
  | _, _, .lst _ g => by simpa [PyData.canLay0] using RpA.lay g
  | _, _, .tup _ g => by simpa [PyData.canLay0] using RpA.lay g
theorem RpA.lay : ∀ {ds : List PyData} {vs : List V}, RpA K L H ds vs → PyData.canLayAll0 ds = true
  | _, _, .nil => by simp [PyData.canLayAll0]
  | _, _, .cons r t => by simp [PyData.canLayAll0, Rp.lay r, RpA.lay t]
end
end

mutual
theorem dep_depth : ∀ (x : PyData) (n : Nat), dep n x = true → x.depth ≤ n
  | .none, n, _ => by simp [PyData.depth]
  | .bool _, n, _ => by simp [PyData.depth]
  | .int _, n, _ => by simp [PyData.depth]
  | .str _, n, _ => by simp [PyData.depth]
  | .list l, 0, h => by simp [dep] at h
  | .tuple l, 0, h => by simp [dep] at h
  | .list l, n + 1, h => by
    have := dep_depthAll l n (by simpa [dep] using h)
    simp only [PyData.depth]; omega
  | .tuple l, n + 1, h => by
    have := dep_depthAll l n (by simpa [dep] using h)
    simp only [PyData.depth]; omega
  | .dict l, 0, h => by simp [dep] at h
  | .dict l, n + 1, h => by simp [dep] at h
theorem dep_depthAll : ∀ (l : List PyData) (n : Nat), (∀ x ∈ l, dep n x = true) → PyData.depthAll l ≤ n
  | [], n, _ => by simp [PyData.depthAll]
  | x :: l, n, h => by
    have h1 := dep_depth x n (h x (by simp))
    have h2 := dep_depthAll l n fun y hy => h y (by simp [hy])
    simp only [PyData.depthAll]
    omega
end
theorem shaped_of {K : PySem.W.Frag} {L : Addr → Prop} {H : Hp} {x : PyData} {v : V} (h : Rp K L H x v) (d : dep 60 x = true) : SeqAt.shaped x = true := by
  have := dep_depth x 60 d
  simp only [SeqAt.shaped, h.lay, Bool.true_and, decide_eq_true_eq]
  omega

/-! ### the store -/
def Cell.live : Cell → Bool
  | .fz _ => false
  | _ => true
/-- the addresses of live cells -/
def Lv (μ : List Addr) (S : Sto) (b : Addr) : Prop := ∃ (i : Nat) (c : Cell), μ[i]? = some b ∧ S[i]? = some c ∧ c.live = true
/-- the state of affairs: F are addresses that belong to someone else -/
structure Sit where
  M : Md
  F : Addr → Prop
  μ : List Addr
  S : Sto
  H : Hp
namespace Sit
variable (Z : Sit)
def L (b : Addr) : Prop := Z.F b ∨ Lv Z.μ Z.S b
def R (x : PyData) (v : V) : Prop := Rp Z.M.K Z.L Z.H x v
def RA (ds : List PyData) (vs : List V) : Prop := RpA Z.M.K Z.L Z.H ds vs
end Sit
def Sit.P (Z : Sit) : P → V → Prop
  | .d x, v => Z.R x v
  | .r i, v => ∃ a, Z.μ[i]? = some a ∧ v = .ref a
abbrev Sit.PA (Z : Sit) : List DK.P → List V → Prop := Paired Z.P
def Sit.C (Z : Sit) (a : Addr) : Cell → Prop
  | .lst l => ∃ xs, Z.H a = some (.lst xs) ∧ Z.PA l xs
  | .fz l => ∃ xs, Z.H a = some (.lst xs) ∧ Z.PA l xs
  | .dct kvs => ∃ ks, Z.H a = some (.dK ks) ∧ Paired (fun (p : PyData × DK.P) (q : Key × V) => Z.R p.1 (kV q.1) ∧ Z.P p.2 q.2) kvs ks
  | .ins c fs => ∃ C dx vs, Z.M.mg (strName c) = some (.ref C) ∧ Z.H a = some (.ins C dx vs) ∧ Paired (fun (p : Str × DK.P) (q : Str × V) => q.1 = p.1 ∧ Z.P p.2 q.2) fs vs
structure Sit.Ok (Z : Sit) : Prop where
  len : Z.μ.length = Z.S.length
  nd : Z.μ.Nodup
  fd : ∀ b ∈ Z.μ, ¬ Z.F b
  fs : ∀ b, Z.F b → Z.H b ≠ none
  c : ∀ (i : Nat) (a : Addr) (c : Cell), Z.μ[i]? = some a → Z.S[i]? = some c → Z.C a c

theorem Sit.Ok.here' {Z : Sit} (ok : Z.Ok) {b : Addr} (h : b ∈ Z.μ) : Z.H b ≠ none := fun hn => by
  obtain ⟨i, hi⟩ := List.getElem?_of_mem h
  have hl := (List.getElem?_eq_some_iff.mp hi).1
  rw [ok.len] at hl
  have z := ok.c i b _ hi (List.getElem?_eq_getElem hl)
  cases e : Z.S[i] with
  | lst l => rw [e] at z; obtain ⟨xs, e, _⟩ := z; rw [hn] at e; cases e
  | fz l => rw [e] at z; obtain ⟨xs, e, _⟩ := z; rw [hn] at e; cases e
  | dct l => rw [e] at z; obtain ⟨xs, e, _⟩ := z; rw [hn] at e; cases e
  | ins k l => rw [e] at z; obtain ⟨_, _, xs, _, e, _⟩ := z; rw [hn] at e; cases e
/-- a step: what is not live stays; the cells stay, new ones come -/
structure Stp (Z Z' : Sit) : Prop where
  M : Z'.M = Z.M
  fsub : ∀ b, Z.F b → Z'.F b
  fnew : ∀ b, Z'.F b → Z.F b ∨ Z.H b = none
  pre : Z.μ <+: Z'.μ
  new : ∀ b ∈ Z'.μ, b ∈ Z.μ ∨ Z.H b = none
  lv : ∀ b, Lv Z'.μ Z'.S b → Lv Z.μ Z.S b ∨ Z.H b = none
  kp : ∀ b o, Z.H b = some o → ¬ Lv Z.μ Z.S b → Z'.H b = some o
  ok : Z'.Ok

section
variable {Z Z1 Z2 : Sit}
theorem Lv.mem {μ : List Addr} {S : Sto} {b : Addr} (h : Lv μ S b) : b ∈ μ := by
  obtain ⟨i, c, e, _⟩ := h
  exact List.mem_of_getElem? e
theorem Stp.refl (ok : Z.Ok) : Stp Z Z := ⟨rfl, fun _ h => h, fun _ h => .inl h, List.prefix_refl _, fun _ h => .inl h, fun _ h => .inl h, fun _ _ e _ => e, ok⟩
theorem Stp.nn (s : Stp Z Z1) {b : Addr} (h : Z1.H b = none) : Z.H b = none ∨ Lv Z.μ Z.S b := by
  cases e : Z.H b with
  | none => exact .inl rfl
  | some o =>
    by_cases l : Lv Z.μ Z.S b
    · exact .inr l
    · rw [s.kp b o e l] at h; cases h
theorem Stp.trans (s : Stp Z Z1) (t : Stp Z1 Z2) : Stp Z Z2 where
  M := t.M.trans s.M
  fsub := fun b h => t.fsub b (s.fsub b h)
  fnew := fun b h => by
    rcases t.fnew b h with h | h
    · exact s.fnew b h
    · rcases s.nn h with h' | h'
      · exact .inr h'
      · obtain ⟨u, e⟩ := s.pre
        have : b ∈ Z1.μ := by rw [← e]; exact List.mem_append_left _ h'.mem
        exact absurd h (s.ok.here' this)
  pre := s.pre.trans t.pre
  new := fun b hb => by
    rcases t.new b hb with h | h
    · exact s.new b h
    · rcases s.nn h with h | h
      · exact .inr h
      · exact .inl h.mem
  lv := fun b hb => by
    rcases t.lv b hb with h | h
    · exact s.lv b h
    · rcases s.nn h with h | h
      · exact .inr h
      · exact .inl h
  kp := fun b o e n => t.kp b o (s.kp b o e n) fun h => by
    rcases s.lv b h with h | h
    · exact n h
    · rw [e] at h; cases h
  ok := t.ok
theorem Stp.kpL (s : Stp Z Z1) : ∀ b o, Z.H b = some o → ¬ Z.L b → Z1.H b = some o := fun b o e n => s.kp b o e fun h => n (.inr h)
theorem Stp.lvL (s : Stp Z Z1) : ∀ b o, Z.H b = some o → ¬ Z.L b → ¬ Z1.L b := fun b o e n h => by
  rcases h with h | h
  · rcases s.fnew b h with h | h
    · exact n (.inl h)
    · rw [e] at h; cases h
  · rcases s.lv b h with h | h
    · exact n (.inr h)
    · rw [e] at h; cases h
theorem Stp.R (s : Stp Z Z1) {x : PyData} {v : V} (h : Z.R x v) : Z1.R x v := by
  unfold Sit.R; rw [s.M]; exact Rp.mono s.kpL s.lvL h
theorem Stp.RA (s : Stp Z Z1) {x : List PyData} {v : List V} (h : Z.RA x v) : Z1.RA x v := by
  unfold Sit.RA; rw [s.M]; exact RpA.mono s.kpL s.lvL h
theorem Stp.ix (s : Stp Z Z1) {i : Nat} {a : Addr} (h : Z.μ[i]? = some a) : Z1.μ[i]? = some a := by
  obtain ⟨t, e⟩ := s.pre
  rw [← e]
  have := (List.getElem?_eq_some_iff.mp h).1
  rw [List.getElem?_append_left this]; exact h
theorem Stp.P (s : Stp Z Z1) : ∀ {p : DK.P} {v : V}, Z.P p v → Z1.P p v
  | .d _, _, h => s.R h
  | .r _, _, ⟨a, e, h⟩ => ⟨a, s.ix e, h⟩
theorem Stp.PA (s : Stp Z Z1) : ∀ {p : List DK.P} {v : List V}, Z.PA p v → Z1.PA p v
  | _, _, .nil => .nil
  | _, _, .cons r t => .cons (s.P r) (Stp.PA s t)
end

/-! ### the kinds of steps -/
section
variable {Z : Sit}
theorem Sit.Ok.live (ok : Z.Ok) {i : Nat} {a : Addr} {c : Cell} (e : Z.μ[i]? = some a) (f : Z.S[i]? = some c) (l : c.live = true) : Z.L a := .inr ⟨i, c, e, f, l⟩
theorem Sit.Ok.at (ok : Z.Ok) {i : Nat} {a : Addr} (e : Z.μ[i]? = some a) : ∃ c, Z.S[i]? = some c ∧ Z.C a c := by
  have h := (List.getElem?_eq_some_iff.mp e).1
  rw [ok.len] at h
  exact ⟨_, List.getElem?_eq_getElem h, ok.c i a _ e (List.getElem?_eq_getElem h)⟩
theorem Sit.Ok.addr (ok : Z.Ok) {i : Nat} {c : Cell} (e : Z.S[i]? = some c) : ∃ a, Z.μ[i]? = some a ∧ Z.C a c := by
  have h := (List.getElem?_eq_some_iff.mp e).1
  rw [← ok.len] at h
  exact ⟨_, List.getElem?_eq_getElem h, ok.c i _ _ (List.getElem?_eq_getElem h) e⟩
theorem Sit.C.some {a : Addr} {c : Cell} (h : Z.C a c) : ∃ o, Z.H a = some o := by
  cases c with
  | lst l => obtain ⟨xs, e, _⟩ := h; exact ⟨_, e⟩
  | fz l => obtain ⟨xs, e, _⟩ := h; exact ⟨_, e⟩
  | dct l => obtain ⟨xs, e, _⟩ := h; exact ⟨_, e⟩
  | ins k l => obtain ⟨_, _, xs, _, e, _⟩ := h; exact ⟨_, e⟩
theorem Sit.Ok.here (ok : Z.Ok) {b : Addr} (h : b ∈ Z.μ) : ∃ o, Z.H b = some o := by
  obtain ⟨i, hi⟩ := List.getElem?_of_mem h
  obtain ⟨c, _, hc⟩ := ok.at hi
  exact hc.some
theorem Sit.C.mono {Z1 : Sit} {a : Addr} {c : Cell} (h : Z.C a c) (hM : Z1.M = Z.M) (hR : ∀ {x v}, Z.R x v → Z1.R x v) (hP : ∀ {p v}, Z.P p v → Z1.P p v) (hH : Z1.H a = Z.H a) : Z1.C a c := by
  have hPA : ∀ {p : List DK.P} {v : List V}, Z.PA p v → Z1.PA p v := fun {p v} q => L2.Paired.mapP q fun _ _ => hP
  cases c with
  | lst l => obtain ⟨xs, e, q⟩ := h; exact ⟨xs, hH.trans e, hPA q⟩
  | fz l => obtain ⟨xs, e, q⟩ := h; exact ⟨xs, hH.trans e, hPA q⟩
  | dct l => obtain ⟨ks, e, q⟩ := h; exact ⟨ks, hH.trans e, L2.Paired.mapP q fun _ _ z => ⟨hR z.1, hP z.2⟩⟩
  | ins k l => obtain ⟨C, dx, vs, c, e, q⟩ := h; exact ⟨C, dx, vs, by rw [hM]; exact c, hH.trans e, L2.Paired.mapP q fun _ _ z => ⟨z.1, hP z.2⟩⟩

/-- another heap in which all that is not live stands as before, and the cells too -/
def Sit.withH (Z : Sit) (H' : Hp) : Sit := { Z with H := H' }
theorem Sit.Ok.toH (ok : Z.Ok) {H' : Hp} (k : ∀ b o, Z.H b = some o → H' b = some o) : Stp Z (Z.withH H') := by
  have hR : ∀ {x v}, Z.R x v → (Z.withH H').R x v := fun {x v} h => Rp.mono (fun b o e _ => k b o e) (fun b o _ n => n) h
  have hP : ∀ {p v}, Z.P p v → (Z.withH H').P p v := fun {p v} h => by
    cases p with
    | d x => exact hR h
    | r i => exact h
  refine ⟨rfl, fun _ h => h, fun _ h => .inl h, List.prefix_refl _, fun _ h => .inl h, fun _ h => .inl h, fun b o e _ => k b o e, ⟨ok.len, ok.nd, ok.fd, fun b hb e => ?_, fun i a c e f => ?_⟩⟩
  · cases q : Z.H b with
    | none => exact ok.fs b hb q
    | some o =>
      have e' : H' b = none := e
      rw [k b o q] at e'; cases e'
  · have h := ok.c i a c e f
    obtain ⟨o, ho⟩ := h.some
    exact h.mono rfl hR hP (show H' a = Z.H a by rw [k a o ho, ho])
/-- a new object, not a cell -/
theorem Sit.Ok.put (ok : Z.Ok) {p : Addr} {o : HO} (h : Z.H p = none) : Stp Z (Z.withH (upd Z.H p o)) := ok.toH fun b u e => by
  rw [upd_ne (ne_of_none e h)]; exact e
theorem Sit.Ok.notL (ok : Z.Ok) {p : Addr} (h : Z.H p = none) : ¬ Z.L p := fun l => by
  rcases l with l | l
  · exact ok.fs p l h
  · obtain ⟨o, e⟩ := ok.here l.mem
    rw [h] at e; cases e

/-- a new cell, the new address p -/
def Sit.push (Z : Sit) (p : Addr) (o : HO) (c : Cell) : Sit := { Z with μ := Z.μ ++ [p], S := Z.S ++ [c], H := upd Z.H p o }
theorem lv_push (hl : Z.μ.length = Z.S.length) {p b : Addr} {o : HO} {c : Cell} (h : Lv (Z.push p o c).μ (Z.push p o c).S b) : Lv Z.μ Z.S b ∨ b = p := by
  obtain ⟨i, k, e, f, l⟩ := h
  have e : (Z.μ ++ [p])[i]? = some b := e
  have f : (Z.S ++ [c])[i]? = some k := f
  by_cases hi : i < Z.μ.length
  · rw [List.getElem?_append_left hi] at e
    rw [List.getElem?_append_left (by omega)] at f
    exact .inl ⟨i, k, e, f, l⟩
  · rw [List.getElem?_append_right (by omega)] at e
    have := (List.getElem?_eq_some_iff.mp e)
    obtain ⟨h1, h2⟩ := this
    have : i - Z.μ.length = 0 := by simpa using h1
    simp [this] at h2
    exact .inr h2.symm
theorem Sit.Ok.push (ok : Z.Ok) {p : Addr} {o : HO} {c : Cell} (h : Z.H p = none) (hc : ∀ Z' : Sit, Stp Z Z' ∨ True → (Z.push p o c) = Z' → (∀ {q v}, Z.P q v → Z'.P q v) → (∀ {x v}, Z.R x v → Z'.R x v) → Z'.C p c) : Stp Z (Z.push p o c) := by
  have np : p ∉ Z.μ := fun hm => by
    obtain ⟨o, e⟩ := ok.here hm
    rw [h] at e; cases e
  have kp : ∀ b u, Z.H b = some u → (upd Z.H p o) b = some u := fun b u e => by rw [upd_ne (ne_of_none e h)]; exact e
  have lvL : ∀ b u, Z.H b = some u → ¬ Z.L b → ¬ (Z.push p o c).L b := fun b u e n l => by
    rcases l with l | l
    · exact n (.inl l)
    · rcases lv_push ok.len l with l | l
      · exact n (.inr l)
      · rw [l, h] at e; cases e
  have hR : ∀ {x v}, Z.R x v → (Z.push p o c).R x v := fun {x v} q => Rp.mono (fun b u e _ => kp b u e) lvL q
  have hP : ∀ {q v}, Z.P q v → (Z.push p o c).P q v := fun {q v} z => by
    cases q with
    | d x => exact hR z
    | r i =>
      obtain ⟨a, e, z⟩ := z
      refine ⟨a, ?_, z⟩
      show (Z.μ ++ [p])[i]? = _
      rw [List.getElem?_append_left (List.getElem?_eq_some_iff.mp e).1]; exact e
  refine ⟨rfl, fun _ h => h, fun _ h => .inl h, List.prefix_append _ _, fun b hb => ?_, fun b hb => ?_, fun b u e _ => kp b u e, ⟨?_, ?_, fun b hb => ?_, fun b hb e => ?_, fun i a k e f => ?_⟩⟩
  · rcases List.mem_append.mp hb with hb | hb
    · exact .inl hb
    · have : b = p := by simpa using hb
      exact .inr (by rw [this]; exact h)
  · rcases lv_push ok.len hb with hb | hb
    · exact .inl hb
    · exact .inr (by rw [hb]; exact h)
  · show (Z.μ ++ [p]).length = (Z.S ++ [c]).length
    simp [ok.len]
  · show (Z.μ ++ [p]).Nodup
    rw [List.nodup_append]
    refine ⟨ok.nd, by simp, fun a ha b hb => ?_⟩
    have : b = p := by simpa using hb
    rw [this]
    exact fun e => np (by rw [← e]; exact ha)
  · rcases List.mem_append.mp hb with hb | hb
    · exact ok.fd b hb
    · have : b = p := by simpa using hb
      rw [this]
      exact fun f => ok.fs p f h
  · cases q : Z.H b with
    | none => exact ok.fs b hb q
    | some u =>
      have e' : (upd Z.H p o) b = none := e
      rw [kp b u q] at e'; cases e'
  · have e : (Z.μ ++ [p])[i]? = some a := e
    have f : (Z.S ++ [c])[i]? = some k := f
    by_cases hi : i < Z.μ.length
    · rw [List.getElem?_append_left hi] at e
      rw [List.getElem?_append_left (by rw [← ok.len]; exact hi)] at f
      have z := ok.c i a k e f
      obtain ⟨u, hu⟩ := z.some
      exact z.mono rfl hR hP (show (upd Z.H p o) a = Z.H a by rw [kp a u hu, hu])
    · have hl := ok.len
      rw [List.getElem?_append_right (by omega)] at e f
      have h1 := (List.getElem?_eq_some_iff.mp e).1
      have e0 : i - Z.μ.length = 0 := by simpa using h1
      have e1 : i - Z.S.length = 0 := by omega
      rw [e0] at e; rw [e1] at f
      have ea : p = a := by simpa using e
      have ek : c = k := by simpa using f
      subst ea ek
      exact hc _ (.inr trivial) rfl hP hR

/-- a live cell is written -/
def Sit.wr (Z : Sit) (i : Nat) (a : Addr) (o : HO) (c : Cell) : Sit := { Z with S := Z.S.set i c, H := upd Z.H a o }
theorem lv_set {μ : List Addr} {S : Sto} {i : Nat} {c c' : Cell} (f : S[i]? = some c) (l : c'.live = true → c.live = true) {b : Addr} (h : Lv μ (S.set i c') b) : Lv μ S b := by
  obtain ⟨j, k, e, g, lk⟩ := h
  by_cases hj : j = i
  · subst hj
    have hlt := (List.getElem?_eq_some_iff.mp f).1
    rw [List.getElem?_set_self hlt] at g
    cases g
    exact ⟨j, c, e, f, l lk⟩
  · rw [List.getElem?_set_ne (Ne.symm hj)] at g
    exact ⟨j, k, e, g, lk⟩
theorem Sit.Ok.wr (ok : Z.Ok) {i : Nat} {a : Addr} {c c' : Cell} {o : HO} (e : Z.μ[i]? = some a) (f : Z.S[i]? = some c) (l : c.live = true) (hc : (∀ {q v}, Z.P q v → (Z.wr i a o c').P q v) → (∀ {x v}, Z.R x v → (Z.wr i a o c').R x v) → (Z.wr i a o c').C a c') : Stp Z (Z.wr i a o c') := by
  have la : Lv Z.μ Z.S a := ⟨i, c, e, f, l⟩
  have kp : ∀ b u, Z.H b = some u → ¬ Lv Z.μ Z.S b → (upd Z.H a o) b = some u := fun b u h n => by
    rw [upd_ne (fun z => n (by rw [z]; exact la))]; exact h
  have lvL : ∀ b, ¬ Z.L b → ¬ (Z.wr i a o c').L b := fun b n h => by
    rcases h with h | h
    · exact n (.inl h)
    · exact n (.inr (lv_set f (fun _ => l) h))
  have hR : ∀ {x v}, Z.R x v → (Z.wr i a o c').R x v := fun {x v} q => Rp.mono (fun b u h n => kp b u h fun z => n (.inr z)) (fun b _ _ n => lvL b n) q
  have hP : ∀ {q v}, Z.P q v → (Z.wr i a o c').P q v := fun {q v} z => by
    cases q with
    | d x => exact hR z
    | r j => exact z
  refine ⟨rfl, fun _ h => h, fun _ h => .inl h, List.prefix_refl _, fun _ h => .inl h, fun b hb => .inl (lv_set f (fun _ => l) hb), fun b u h n => kp b u h n, ⟨by show Z.μ.length = (Z.S.set i c').length; simp [ok.len], ok.nd, ok.fd, fun b hb q => ?_, fun j b k ej fj => ?_⟩⟩
  · by_cases hba : b = a
    · exact ok.fd a (List.mem_of_getElem? e) (by rw [← hba]; exact hb)
    · have q' : (upd Z.H a o) b = none := q
      rw [upd_ne hba] at q'
      exact ok.fs b hb q'
  · have ej : Z.μ[j]? = some b := ej
    have fj : (Z.S.set i c')[j]? = some k := fj
    by_cases hj : j = i
    · subst hj
      have hlt := (List.getElem?_eq_some_iff.mp f).1
      have fj' : (Z.S.set j c')[j]? = some k := fj
      rw [List.getElem?_set_self hlt] at fj'
      cases fj'
      have ej' : Z.μ[j]? = some b := ej
      rw [e] at ej'; cases ej'
      exact hc hP hR
    · rw [List.getElem?_set_ne (Ne.symm hj)] at fj
      have z := ok.c j b k ej fj
      have nb : b ≠ a := fun hb => by
        subst hb
        obtain ⟨h1, e1⟩ := List.getElem?_eq_some_iff.mp e
        obtain ⟨h2, e2⟩ := List.getElem?_eq_some_iff.mp ej
        exact hj ((List.getElem_inj ok.nd).mp (e2.trans e1.symm))
      exact z.mono rfl hR hP (show (upd Z.H a o) b = Z.H b from upd_ne nb)

/-- a list cell is frozen -/
theorem frzS_get {S : Sto} {i j : Nat} : (frzS S i)[j]? = if i = j then S[j]?.map Cell.frz else S[j]? := by
  unfold frzS
  rw [List.getElem?_modify]
  by_cases h : i = j
  · simp [h]
  · simp [h]
theorem Cell.frz_live {c : Cell} (h : c.frz.live = true) : c.live = true := by cases c <;> first | rfl | exact h
theorem lv_frz {μ : List Addr} {S : Sto} {i : Nat} {b : Addr} (h : Lv μ (frzS S i) b) : Lv μ S b := by
  obtain ⟨j, c, e, f, l⟩ := h
  rw [frzS_get] at f
  split at f
  · cases q : S[j]? with
    | none => rw [q] at f; cases f
    | some k =>
      rw [q] at f
      have : k.frz = c := by simpa using f
      exact ⟨j, k, e, q, Cell.frz_live (by rw [this]; exact l)⟩
  · exact ⟨j, c, e, f, l⟩
def Sit.fr (Z : Sit) (i : Nat) : Sit := { Z with S := frzS Z.S i }
theorem Sit.Ok.fr (ok : Z.Ok) (i : Nat) : Stp Z (Z.fr i) := by
  have lvL : ∀ b, ¬ Z.L b → ¬ (Z.fr i).L b := fun b n h => by
    rcases h with h | h
    · exact n (.inl h)
    · exact n (.inr (lv_frz h))
  have hR : ∀ {x v}, Z.R x v → (Z.fr i).R x v := fun {x v} q => Rp.mono (fun b u h n => h) (fun b _ _ n => lvL b n) q
  have hP : ∀ {q v}, Z.P q v → (Z.fr i).P q v := fun {q v} z => by
    cases q with
    | d x => exact hR z
    | r j => exact z
  refine ⟨rfl, fun _ h => h, fun _ h => .inl h, List.prefix_refl _, fun _ h => .inl h, fun b hb => .inl (lv_frz hb), fun b u h n => h, ⟨by show Z.μ.length = (frzS Z.S i).length; simp [frzS, ok.len], ok.nd, ok.fd, ok.fs, fun j b k ej fj => ?_⟩⟩
  have ej : Z.μ[j]? = some b := ej
  have fj : (frzS Z.S i)[j]? = some k := fj
  rw [frzS_get] at fj
  split at fj
  · cases q : Z.S[j]? with
    | none => rw [q] at fj; cases fj
    | some c =>
      rw [q] at fj
      have hk : c.frz = k := by simpa using fj
      have z : (Z.fr i).C b c := (ok.c j b c ej q).mono rfl hR hP rfl
      subst hk
      cases c <;> exact z
  · exact (ok.c j b k ej fj).mono rfl hR hP rfl
/-- a frozen cell's address is not live -/
theorem Sit.Ok.frNot (ok : Z.Ok) {i : Nat} {a : Addr} (e : Z.μ[i]? = some a) {l : List DK.P} (f : Z.S[i]? = some (.fz l)) : ¬ Z.L a := fun h => by
  rcases h with h | ⟨j, c, ej, fj, lj⟩
  · exact ok.fd a (List.mem_of_getElem? e) h
  · obtain ⟨h1, e1⟩ := List.getElem?_eq_some_iff.mp e
    obtain ⟨h2, e2⟩ := List.getElem?_eq_some_iff.mp ej
    have := (List.getElem_inj ok.nd).mp (e2.trans e1.symm)
    subst this
    rw [f] at fj; cases fj; cases lj

/-- an address of someone else's is written -/
theorem Sit.Ok.upF (ok : Z.Ok) {D : Addr} (hF : Z.F D) {o : HO} : (Z.withH (upd Z.H D o)).Ok ∧ (∀ {x v}, Z.R x v → (Z.withH (upd Z.H D o)).R x v) ∧ (∀ {p v}, Z.P p v → (Z.withH (upd Z.H D o)).P p v) := by
  have kp : ∀ b u, Z.H b = some u → ¬ Z.L b → (upd Z.H D o) b = some u := fun b u e n => by
    rw [upd_ne (fun z => n (by rw [z]; exact .inl hF))]; exact e
  have hR : ∀ {x v}, Z.R x v → (Z.withH (upd Z.H D o)).R x v := fun {x v} h => Rp.mono kp (fun b _ _ n => n) h
  have hP : ∀ {p v}, Z.P p v → (Z.withH (upd Z.H D o)).P p v := fun {p v} h => by
    cases p with
    | d x => exact hR h
    | r i => exact h
  refine ⟨⟨ok.len, ok.nd, ok.fd, fun b hb e => ?_, fun i a c e f => ?_⟩, hR, hP⟩
  · have e' : (upd Z.H D o) b = none := e
    by_cases h : b = D
    · rw [h, upd_same] at e'; cases e'
    · rw [upd_ne h] at e'; exact ok.fs b hb e'
  · have h := ok.c i a c e f
    have nD : a ≠ D := fun z => ok.fd a (List.mem_of_getElem? e) (by rw [z]; exact hF)
    exact h.mono rfl hR hP (show (upd Z.H D o) a = Z.H a from upd_ne nD)
/-- fewer addresses are someone else's -/
def Sit.withF (Z : Sit) (F : Addr → Prop) : Sit := { Z with F := F }
theorem Sit.Ok.lessF (ok : Z.Ok) {F : Addr → Prop} (h : ∀ b, F b → Z.F b) : (Z.withF F).Ok ∧ (∀ {x v}, Z.R x v → (Z.withF F).R x v) ∧ (∀ {p v}, Z.P p v → (Z.withF F).P p v) := by
  have lv : ∀ b, ¬ Z.L b → ¬ (Z.withF F).L b := fun b n l => n (l.imp (h b) id)
  have hR : ∀ {x v}, Z.R x v → (Z.withF F).R x v := fun {x v} q => Rp.mono (fun b u e _ => e) (fun b _ _ n => lv b n) q
  have hP : ∀ {p v}, Z.P p v → (Z.withF F).P p v := fun {p v} q => by
    cases p with
    | d x => exact hR q
    | r i => exact q
  exact ⟨⟨ok.len, ok.nd, fun b hb f => ok.fd b hb (h b f), fun b hb => ok.fs b (h b hb), fun i a c e f => (ok.c i a c e f).mono rfl hR hP rfl⟩, hR, hP⟩
/-- a new object that is someone else's -/
def Sit.guard (Z : Sit) (D : Addr) (o : HO) : Sit := { Z with F := fun b => Z.F b ∨ b = D, H := upd Z.H D o }
theorem Sit.Ok.guard (ok : Z.Ok) {D : Addr} {o : HO} (h : Z.H D = none) : Stp Z (Z.guard D o) := by
  have kp : ∀ b u, Z.H b = some u → (upd Z.H D o) b = some u := fun b u e => by rw [upd_ne (ne_of_none e h)]; exact e
  have lv : ∀ b u, Z.H b = some u → ¬ Z.L b → ¬ (Z.guard D o).L b := fun b u e n l => by
    rcases l with l | l
    · rcases l with l | l
      · exact n (.inl l)
      · rw [l, h] at e; cases e
    · exact n (.inr l)
  have hR : ∀ {x v}, Z.R x v → (Z.guard D o).R x v := fun {x v} q => Rp.mono (fun b u e _ => kp b u e) lv q
  have hP : ∀ {p v}, Z.P p v → (Z.guard D o).P p v := fun {p v} q => by
    cases p with
    | d x => exact hR q
    | r i => exact q
  refine ⟨rfl, fun _ h => .inl h, fun b hb => hb.imp id fun e => by rw [e]; exact h, List.prefix_refl _, fun _ h => .inl h, fun _ h => .inl h, fun b u e _ => kp b u e, ⟨ok.len, ok.nd, fun b hb f => ?_, fun b hb e => ?_, fun i a c e f => ?_⟩⟩
  · rcases f with f | f
    · exact ok.fd b hb f
    · exact ok.here' hb (by rw [f]; exact h)
  · have e' : (upd Z.H D o) b = none := e
    by_cases hbD : b = D
    · rw [hbD, upd_same] at e'; cases e'
    · rw [upd_ne hbD] at e'
      rcases hb with hb | hb
      · exact ok.fs b hb e'
      · exact hbD hb
  · have z := ok.c i a c e f
    obtain ⟨u, hu⟩ := z.some
    exact z.mono rfl hR hP (show (upd Z.H D o) a = Z.H a by rw [kp a u hu, hu])
/-- an object that was someone else's becomes a cell -/
def Sit.adopt (Z : Sit) (F : Addr → Prop) (D : Addr) (c : Cell) : Sit := { Z with F := F, μ := Z.μ ++ [D], S := Z.S ++ [c] }
theorem Sit.Ok.adopt (ok : Z.Ok) {F : Addr → Prop} {D : Addr} {c : Cell} (hF : Z.F D) (h : ∀ b, F b → Z.F b) (nF : ¬ F D) (hc : ∀ Z' : Sit, Z.adopt F D c = Z' → (∀ {q v}, Z.P q v → Z'.P q v) → (∀ {x v}, Z.R x v → Z'.R x v) → Z'.C D c) :
    (Z.adopt F D c).Ok ∧ (∀ b, Lv (Z.adopt F D c).μ (Z.adopt F D c).S b → Lv Z.μ Z.S b ∨ b = D) := by
  have nD : D ∉ Z.μ := fun hm => ok.fd D hm hF
  have lvp : ∀ b, Lv (Z.adopt F D c).μ (Z.adopt F D c).S b → Lv Z.μ Z.S b ∨ b = D := fun b l => lv_push (Z := Z) (p := D) (o := .lst []) (c := c) ok.len l
  have lv : ∀ b, ¬ Z.L b → ¬ (Z.adopt F D c).L b := fun b n l => by
    rcases l with l | l
    · exact n (.inl (h b l))
    · rcases lvp b l with l | l
      · exact n (.inr l)
      · exact n (by rw [l]; exact .inl hF)
  have hR : ∀ {x v}, Z.R x v → (Z.adopt F D c).R x v := fun {x v} q => Rp.mono (fun b u e _ => e) (fun b _ _ n => lv b n) q
  have hP : ∀ {q v}, Z.P q v → (Z.adopt F D c).P q v := fun {q v} z => by
    cases q with
    | d x => exact hR z
    | r i =>
      obtain ⟨a, e, z⟩ := z
      refine ⟨a, ?_, z⟩
      show (Z.μ ++ [D])[i]? = _
      rw [List.getElem?_append_left (List.getElem?_eq_some_iff.mp e).1]; exact e
  refine ⟨⟨?_, ?_, fun b hb f => ?_, fun b hb => ok.fs b (h b hb), fun i a k e f => ?_⟩, lvp⟩
  · show (Z.μ ++ [D]).length = (Z.S ++ [c]).length
    simp [ok.len]
  · show (Z.μ ++ [D]).Nodup
    rw [List.nodup_append]
    refine ⟨ok.nd, by simp, fun a ha b hb => ?_⟩
    have : b = D := by simpa using hb
    rw [this]
    exact fun e => nD (by rw [← e]; exact ha)
  · rcases List.mem_append.mp hb with hb | hb
    · exact ok.fd b hb (h b f)
    · have : b = D := by simpa using hb
      exact nF (by rw [← this]; exact f)
  · have e : (Z.μ ++ [D])[i]? = some a := e
    have f : (Z.S ++ [c])[i]? = some k := f
    by_cases hi : i < Z.μ.length
    · rw [List.getElem?_append_left hi] at e
      rw [List.getElem?_append_left (by rw [← ok.len]; exact hi)] at f
      exact (ok.c i a k e f).mono rfl hR hP rfl
    · have hl := ok.len
      rw [List.getElem?_append_right (by omega)] at e f
      have h1 := (List.getElem?_eq_some_iff.mp e).1
      have e0 : i - Z.μ.length = 0 := by simpa using h1
      have e1 : i - Z.S.length = 0 := by omega
      rw [e0] at e; rw [e1] at f
      have ea : D = a := by simpa using e
      have ek : c = k := by simpa using f
      subst ea ek
      exact hc _ rfl hP hR

/-- the store is cut -/
def Sit.cut (Z : Sit) (n : Nat) : Sit := { Z with μ := Z.μ.take n, S := Z.S.take n }
theorem lv_cut {μ : List Addr} {S : Sto} {n : Nat} {b : Addr} (h : Lv (μ.take n) (S.take n) b) : Lv μ S b := by
  obtain ⟨i, c, e, f, l⟩ := h
  refine ⟨i, c, ?_, ?_, l⟩
  · rw [List.getElem?_take] at e
    split at e
    · exact e
    · cases e
  · rw [List.getElem?_take] at f
    split at f
    · exact f
    · cases f
end
/-- only data lies in the store -/
def flat (S : Sto) (n : Nat) : Prop := ∀ (i : Nat) (c : Cell), i < n → S[i]? = some c → True
end DK

end SDKRel

section SDKRule
set_option Elab.async false
set_option linter.all false
set_option autoImplicit false
set_option maxHeartbeats 1000000
/-! DKRule: the pieces of DKSem are what the model does: HandS's judgements at the readings tM, tT, tA .. -/
namespace DK
open PySem PySem.Spec PyProof.Rows L2
abbrev Slots := L2.St

/-! ### what follows an outcome -/
def Aft {α : Type} (Z : Sit) (E : Value → Option Addr → Hp → Prop) (o : Out α) (R : α → Sit → Prop) : Prop := match o with
  | .ok a S' => ∀ Z', Stp Z Z' → Z'.S = S' → R a Z'
  | .ex c S' => ∀ Z', Stp Z Z' → Z'.S = S' → E (Z.M.xv c) none Z'.H
  | .bad => False
/-- .. an operation's -/
def AftO (Z : Sit) (o : Res) (R : DK.P → Sit → Prop) : Prop := match o with
  | some (p, S') => ∀ Z', Stp Z Z' → Z'.S = S' → R p Z'
  | none => False
section
variable {α β : Type} {Z Z1 : Sit} {E : Value → Option Addr → Hp → Prop} {o : Out α} {R R' : α → Sit → Prop}
theorem Aft.step (s : Stp Z Z1) (h : Aft Z E o R) : Aft Z1 E o R := by
  cases o with
  | ok a S' => exact fun Z' t e => h Z' (s.trans t) e
  | ex c S' => exact fun Z' t e => by rw [s.M]; exact h Z' (s.trans t) e
  | bad => exact h
theorem Aft.mono (h : Aft Z E o R) (k : ∀ a Z', Stp Z Z' → R a Z' → R' a Z') : Aft Z E o R' := by
  cases o with
  | ok a S' => exact fun Z' t e => k a Z' t (h Z' t e)
  | ex c S' => exact h
  | bad => exact h
theorem Aft.bind {k : α → Sto → Out β} {R : β → Sit → Prop} (h : Aft Z E (o.bind k) R) : Aft Z E o fun a Z1 => Aft Z1 E (k a Z1.S) R := by
  cases o with
  | ok a S' => exact fun Z' t e => by show Aft Z' E (k a Z'.S) R; rw [e]; exact Aft.step t h
  | ex c S' => exact h
  | bad => exact h
theorem Aft.ok {a : α} {S' : Sto} (h : Aft Z E (.ok a S') R) (s : Stp Z Z1) (e : Z1.S = S') : R a Z1 := h Z1 s e
/-- no step -/
theorem Aft.now {a : α} (ok : Z.Ok) (h : Aft Z E (.ok a Z.S) R) : R a Z := h Z (.refl ok) rfl
theorem Aft.of {res : Res} {R : DK.P → Sit → Prop} (h : Aft Z E (Out.of res) R) : AftO Z res R := by
  cases res with
  | none => exact h
  | some x => exact h
theorem AftO.some {res : Res} {R : DK.P → Sit → Prop} (h : AftO Z res R) : ∃ p S', res = .some (p, S') ∧ ∀ Z', Stp Z Z' → Z'.S = S' → R p Z' := by
  cases res with
  | none => exact h.elim
  | some x => exact ⟨x.1, x.2, rfl, h⟩
theorem AftO.okOr {τ : Type} {x : Option τ} {k : τ → Res} {R : DK.P → Sit → Prop} (h : AftO Z (DK.okOr x k) R) : ∃ a, x = .some a ∧ AftO Z (k a) R := by
  cases x with
  | none => exact h.elim
  | some a => exact ⟨a, rfl, h⟩
theorem AftO.ite {c : Prop} [Decidable c] {a : Res} {R : DK.P → Sit → Prop} (h : AftO Z (if c then a else none) R) : c ∧ AftO Z a R := by
  by_cases hc : c
  · rw [if_pos hc] at h; exact ⟨hc, h⟩
  · rw [if_neg hc] at h; exact h.elim
theorem AftO.now {p : DK.P} {R : DK.P → Sit → Prop} (ok : Z.Ok) (h : AftO Z (.some (p, Z.S)) R) : R p Z := h Z (.refl ok) rfl
end

/-! ### readings -/
def Sit.E (Z : Sit) (σ : Slots) (ρ : Env) : Prop := ρ.length = σ.length ∧ ∀ (i : Nat) (p : DK.P), ρ[i]? = some (some p) → ∃ v, σ[i]? = some (some v) ∧ Z.P p v
theorem Stp.E {Z Z1 : Sit} (s : Stp Z Z1) {σ : Slots} {ρ : Env} (h : Z.E σ ρ) : Z1.E σ ρ :=
  ⟨h.1, fun i p e => let ⟨v, a, b⟩ := h.2 i p e; ⟨v, a, s.P b⟩⟩
/-- the start of a reading -/
structure At (M : Md) (Z : Sit) (σ : Slots) (ρ : Env) (H : Hp) : Prop where
  M : Z.M = M
  ok : Z.Ok
  H : Z.H = H
  E : Z.E σ ρ
theorem At.next {M : Md} {Z Z1 : Sit} {σ : Slots} {ρ : Env} {H : Hp} (a : At M Z σ ρ H) (s : Stp Z Z1) : At M Z1 σ ρ Z1.H := ⟨s.M.trans a.M, s.ok, rfl, s.E a.E⟩
def tM (M : Md) (W : WX) (f : Ex) : TE := fun σ H Q => ∃ Z ρ, At M Z σ ρ H ∧ Aft Z (fun c d H' => W c d σ H') (f ρ Z.S) fun p Z' => ∀ v, Z'.P p v → Q v Z'.H
def tT (M : Md) (W : WX) (f : Tx) : TT := fun σ H Q => ∃ Z ρ, At M Z σ ρ H ∧ Aft Z (fun c d H' => W c d σ H') (f ρ Z.S) fun b Z' => Q b Z'.H
def tA (M : Md) (W : WX) (f : Exs) : TA := fun σ H Q => ∃ Z ρ, At M Z σ ρ H ∧ Aft Z (fun c d H' => W c d σ H') (f ρ Z.S) fun ps Z' => ∀ vs, Z'.PA ps vs → Q vs Z'.H
abbrev md (X : Cx) : Md := ⟨X.K, X.mg⟩
abbrev FE (X : Cx) (W : WX) (e : Expr) (f : Ex) : Prop := PE X e (tM (md X) W f)
abbrev FT (X : Cx) (W : WX) (e : Expr) (f : Tx) : Prop := PT X e (tT (md X) W f)
abbrev FW (X : Cx) (W : WX) (e : Expr) (f : Tx) : Prop := PW X e (tT (md X) W f)
abbrev FA (X : Cx) (W : WX) (es : List Expr) (f : Exs) : Prop := PA X es (tA (md X) W f)

section
variable {X : Cx} {e : Expr} {es : List Expr} {st : Stmt} {sts : List Stmt}
theorem pe_weak {t t' : TE} (h : PE X e t) (k : ∀ σ H Q, t' σ H Q → t σ H Q) : PE X e t' := ⟨fun pins s σ H Q I q => h.run pins s σ H Q I (k σ H Q q)⟩
theorem pt_weak {t t' : TT} (h : PT X e t) (k : ∀ σ H Q, t' σ H Q → t σ H Q) : PT X e t' := ⟨fun pins s σ H Q I q => h.run pins s σ H Q I (k σ H Q q)⟩
theorem pw_weak {t t' : TT} (h : PW X e t) (k : ∀ σ H Q, t' σ H Q → t σ H Q) : PW X e t' := ⟨fun wh pins s σ H Q I q => h.run wh pins s σ H Q I (k σ H Q q)⟩
theorem pa_weak {t t' : TA} (h : PA X es t) (k : ∀ σ H Q, t' σ H Q → t σ H Q) : PA X es t' := ⟨fun pos pins s σ H Q I q => h.run pos pins s σ H Q I (k σ H Q q)⟩
theorem ps_weak {t t' : TS} (h : PS X st t) (k : ∀ D σ H, t' D σ H → t D σ H) : PS X st t' := ⟨fun pins s σ H D I q => h.run pins s σ H D I (k D σ H q)⟩
theorem pss_weak {t t' : TS} (h : PSs X sts t) (k : ∀ D σ H, t' D σ H → t D σ H) : PSs X sts t' := ⟨fun pins s σ H D I q => h.run pins s σ H D I (k D σ H q)⟩
end

/-! ### names, constants -/
section
variable {X : Cx} {W : WX} {a b : Expr} {fa fb : Ex} {pos : Pos}
theorem fe_var (i : Nat) {x : Str} (hN : X.N[i]? = some x := by rfl) (hv : Vis X.env.scope x := by first | exact Or.inl rfl | exact Or.inr (Or.inl rfl) | exact Or.inr (Or.inr rfl)) (hd : (x == ("__debug__" : Str)) = false := by decide)
    (hcd : (x == ("__classdict__" : Str)) = false := by decide) : FE X W (.Name x pos) (eVar i) := pe_weak (pe_var hN hv hd hcd) fun σ H Q ⟨Z, ρ, a, h⟩ => by
  unfold eVar at h
  cases e : ρ[i]? with
  | none => rw [e] at h; exact h.elim
  | some o =>
    cases o with
    | none => rw [e] at h; exact h.elim
    | some p =>
      rw [e] at h
      obtain ⟨v, ev, r⟩ := a.E.2 i p e
      refine ⟨v, ev, ?_⟩
      rw [← a.H]
      exact Aft.now a.ok h v r
theorem fe_int {i : Int} {j : Nat} : FE X W (.Constant (.int i) j pos) (eC (vI i)) := pe_weak pe_int fun σ H Q ⟨Z, ρ, a, h⟩ => by
  show Q _ _; rw [← a.H]; exact Aft.now a.ok h _ (.int i)
theorem fe_bl {i : Bool} {j : Nat} : FE X W (.Constant (.bool i) j pos) (eC (vB i)) := pe_weak pe_bl fun σ H Q ⟨Z, ρ, a, h⟩ => by
  show Q _ _; rw [← a.H]; exact Aft.now a.ok h _ (.bl i)
theorem fe_non {j : Nat} : FE X W (.Constant .none j pos) (eC vN) := pe_weak pe_non fun σ H Q ⟨Z, ρ, a, h⟩ => by
  show Q _ _; rw [← a.H]; exact Aft.now a.ok h _ .non
theorem fe_str {x : Str} {j : Nat} (h1 : x.length ≤ LINE := by decide +kernel) (h2 : PyData.strOk x = true := by decide +kernel) : FE X W (.Constant (.str x) j pos) (eC (vS x)) := pe_weak pe_str fun σ H Q ⟨Z, ρ, a, h⟩ => by
  show Q _ _; rw [← a.H]; exact Aft.now a.ok h _ (.str x h1 h2)
/-- a module's constant -/
theorem fe_glob {x : Str} {d : PyData} {v : V} {u : Value} (hg : Gl X x) (hm : X.mg x = some u) (r : RelV v u) (hr : ∀ L H, Rp X.K L H d v) (hd : (x == ("__debug__" : Str)) = false := by decide) : FE X W (.Name x pos) (eC (.d d)) := pe_weak (pe_glob hg hm r hd) fun σ H Q ⟨Z, ρ, a, h⟩ => by
  show Q _ _; rw [← a.H]
  refine Aft.now a.ok h _ ?_
  show Rp Z.M.K _ _ _ _
  rw [a.M]; exact hr _ _

/-! ### operators -/
def r1 (M : Md) (o : Op1) : V → Hp → VK → Prop := fun x H Q => ∃ Z p, Z.M = M ∧ Z.Ok ∧ Z.H = H ∧ Z.P p x ∧ AftO Z (o p Z.S) fun r Z' => ∀ v, Z'.P r v → Q v Z'.H
def r2 (M : Md) (o : Op2) : R2 := fun x y H Q => ∃ Z p q, Z.M = M ∧ Z.Ok ∧ Z.H = H ∧ Z.P p x ∧ Z.P q y ∧ AftO Z (o p q Z.S) fun r Z' => ∀ v, Z'.P r v → Q v Z'.H
theorem tm_op1 {M : Md} {o : Op1} {σ : Slots} {H : Hp} {Q : VK} (h : tM M W (eOp1 o fa) σ H Q) : tM M W fa σ H fun x H1 => r1 M o x H1 Q := by
  obtain ⟨Z, ρ, a, h⟩ := h
  exact ⟨Z, ρ, a, h.bind.mono fun p Z1 s h1 v hv => ⟨Z1, p, s.M.trans a.M, s.ok, rfl, hv, h1.of⟩⟩
theorem tm_op2 {M : Md} {o : Op2} {σ : Slots} {H : Hp} {Q : VK} (h : tM M W (eOp2 o fa fb) σ H Q) : tM M W fa σ H fun x H1 => tM M W fb σ H1 fun y H2 => r2 M o x y H2 Q := by
  obtain ⟨Z, ρ, a, h⟩ := h
  refine ⟨Z, ρ, a, h.bind.mono fun p Z1 s h1 v hv => ⟨Z1, ρ, a.next s, h1.bind.mono fun q Z2 s2 h2 w hw => ?_⟩⟩
  exact ⟨Z2, p, q, s2.M.trans (s.M.trans a.M), s2.ok, rfl, s2.P hv, hw, h2.of⟩
abbrev OpM (X : Cx) (f : Value → Value → Sem Value) (o : Op2) : Prop := OpR X f (r2 (md X) o)
abbrev UnM (X : Cx) (f : Value → Sem Value) (o : Op1) : Prop := UnR X f (r1 (md X) o)
/-- a call of one, two values -/
def c1 (M : Md) (o : Op1) : List V → Hp → VK → Prop := fun xs H Q => ∃ x, xs = [x] ∧ r1 M o x H Q
def c2 (M : Md) (o : Op2) : List V → Hp → VK → Prop := fun xs H Q => ∃ x y, xs = [x, y] ∧ r2 M o x y H Q
abbrev CaM1 (X : Cx) (f : Value) (o : Op1) : Prop := CallR X f (c1 (md X) o)
abbrev CaM2 (X : Cx) (f : Value) (o : Op2) : Prop := CallR X f (c2 (md X) o)
abbrev IxM (X : Cx) (o : Op2) : Prop := IxR X (r2 (md X) o)

theorem fe_bin {op : Operator} {o : Op2} (ho : OpM X (binaryOp op) o) (ha : FE X W a fa) (hb : FE X W b fb) : FE X W (.BinOp a op b pos) (eOp2 o fa fb) := pe_weak (pe_op ho ha hb) fun _ _ _ h => tm_op2 h
theorem fe_un {op : UnaryOp} {o : Op1} (ho : UnM X (unaryOp op) o) (ha : FE X W a fa) : FE X W (.UnaryOp op a pos) (eOp1 o fa) := pe_weak (pe_un ho ha) fun _ _ _ h => tm_op1 h
theorem fe_cmp {op : CmpOp} {o : Op2} (ho : OpM X (compareOp op) o) (ha : FE X W a fa) (hb : FE X W b fb) (hm : behindInMarks op b = false := by rfl) : FE X W (.Compare a [op] [b] pos) (eOp2 o fa fb) := pe_weak (pe_cmpR ho ha hb hm) fun _ _ _ h => tm_op2 h
theorem fe_ix {o : Op2} (ho : IxM X o) (ha : FE X W a fa) (hb : FE X W b fb) (hs : PlainIx b := by intro _ _; rfl) : FE X W (.Subscript a b pos) (eOp2 o fa fb) := pe_weak (pe_ix ho ha hb hs) fun _ _ _ h => tm_op2 h
/-- is None -/
theorem fe_isN {j : Nat} {pos' : Pos} (ha : FE X W a fa) : FE X W (.Compare a [.Is] [.Constant .none j pos'] pos) (eOp1 oIsN fa) := pe_weak (pe_cmp (pc_isN ha) rfl) fun σ H Q h => by
  obtain ⟨Z, ρ, a, h⟩ := tm_op1 h
  refine ⟨Z, ρ, a, h.mono fun p Z1 s h1 v hv => ?_⟩
  obtain ⟨Z2, q, hM, ok, hH, hp, h2⟩ := h1 v hv
  rw [← hH]
  cases q with
  | d x =>
    have hp : Z2.R x v := hp
    cases x <;> cases hp <;> exact AftO.now ok h2 _ (.bl _)
  | r i =>
    obtain ⟨b, _, rfl⟩ := hp
    exact AftO.now ok h2 _ (.bl _)
theorem fe_notN {j : Nat} {pos' : Pos} (ha : FE X W a fa) : FE X W (.Compare a [.IsNot] [.Constant .none j pos'] pos) (eOp1 oNotN fa) := pe_weak (pe_cmp (pc_notN ha) rfl) fun σ H Q h => by
  obtain ⟨Z, ρ, a, h⟩ := tm_op1 h
  refine ⟨Z, ρ, a, h.mono fun p Z1 s h1 v hv => ?_⟩
  obtain ⟨Z2, q, hM, ok, hH, hp, h2⟩ := h1 v hv
  rw [← hH]
  cases q with
  | d x =>
    have hp : Z2.R x v := hp
    cases x <;> cases hp <;> exact AftO.now ok h2 _ (.bl _)
  | r i =>
    obtain ⟨b, _, rfl⟩ := hp
    exact AftO.now ok h2 _ (.bl _)

/-! ### argument lists, displays -/
theorem fa_nil : FA X W [] eNil := pa_weak pa_nil fun σ H Q ⟨Z, ρ, a, h⟩ => by
  show Q _ _; rw [← a.H]; exact Aft.now a.ok h _ .nil
theorem fa_cons {e : Expr} {es : List Expr} {f : Ex} {g : Exs} (he : FE X W e f) (hr : FA X W es g) (hs : starEach (e :: es) X.env = (false, eval e X.env) :: starEach es X.env := by rfl) : FA X W (e :: es) (eCons f g) := pa_weak (pa_cons he hr hs) fun σ H Q ⟨Z, ρ, a, h⟩ => by
  refine ⟨Z, ρ, a, h.bind.mono fun p Z1 s h1 v hv => ⟨Z1, ρ, a.next s, h1.bind.mono fun ps Z2 s2 h2 vs hvs => ?_⟩⟩
  exact Aft.now s2.ok h2 _ (.cons (s2.P hv) hvs)
end

/-! ### data of values -/
section
variable {Z : Sit}
theorem allD_RA : ∀ {l : List DK.P} {ds : List PyData} {vs : List V}, allD l = some ds → Z.PA l vs → Z.RA ds vs
  | [], ds, _, e, .nil => by cases e; exact .nil
  | .d x :: l, ds, _, e, .cons r t => by
    simp only [allD] at e
    split at e
    · rename_i q hq; cases e; exact .cons r (allD_RA hq t)
    · cases e
  | .r _ :: _, _, _, e, _ => by cases e
theorem RA_map : ∀ {ds : List PyData} {vs : List V}, Z.RA ds vs → Z.PA (ds.map .d) vs
  | _, _, .nil => .nil
  | _, _, .cons r t => .cons r (RA_map t)
/-- a new list laid at p -/
theorem newL_ok {c : Bool} {l : List DK.P} {xs : List V} {p : Addr} {Q : VK} (ok : Z.Ok) (hp : Z.PA l xs) (hn : Z.H p = none) (h : AftO Z (newL c l Z.S) fun r Z' => ∀ v, Z'.P r v → Q v Z'.H) : Q (.ref p) (upd Z.H p (.lst xs)) := by
  cases c with
  | true =>
    have st : Stp Z (Z.push p (.lst xs) (.lst l)) := ok.push hn fun Z' _ e hP hR => by
      subst e
      exact ⟨xs, upd_same, L2.Paired.mapP hp fun _ _ => hP⟩
    refine h _ st rfl _ ⟨p, ?_, rfl⟩
    show (Z.μ ++ [p])[Z.S.length]? = some p
    rw [← ok.len]; simp
  | false =>
    unfold newL at h
    simp only at h
    split at h
    · rename_i ds e
      have st := ok.put (o := .lst xs) hn
      refine h _ st rfl _ ?_
      exact .lst (.inl ⟨.inl upd_same, fun l => ok.notL hn l⟩) (st.RA (allD_RA e hp))
    · exact h.elim
/-- a new tuple laid at p -/
theorem newT_ok {ds : List PyData} {xs : List V} {p : Addr} {Q : VK} (ok : Z.Ok) (hp : Z.RA ds xs) (hn : Z.H p = none) (h : AftO Z (some (vT ds, Z.S)) fun r Z' => ∀ v, Z'.P r v → Q v Z'.H) : Q (.ref p) (upd Z.H p (.tup xs)) := by
  have st := ok.put (o := .tup xs) hn
  exact h _ st rfl _ (.tup (.inl ⟨.inl upd_same, fun l => ok.notL hn l⟩) (st.RA hp))
theorem litems_ok {p : DK.P} {l : List DK.P} {v : V} (ok : Z.Ok) (e : litems Z.S p = some l) (h : Z.P p v) : ∃ a xs, v = .ref a ∧ SqL Z.M.K Z.H a xs ∧ Z.PA l xs := by
  cases p with
  | d x =>
    cases x <;> try (cases e; done)
    cases e
    cases h with
    | lst hs ha => exact ⟨_, _, rfl, hs.seq, RA_map ha⟩
  | r i =>
    obtain ⟨a, ea, rfl⟩ := h
    simp only [litems] at e
    split at e
    · rename_i k hk
      cases e
      obtain ⟨c, hc, z⟩ := ok.at ea
      rw [hk] at hc; cases hc
      obtain ⟨xs, hx, hp⟩ := z
      exact ⟨a, xs, rfl, .of hx, hp⟩
    · rename_i k hk
      cases e
      obtain ⟨c, hc, z⟩ := ok.at ea
      rw [hk] at hc; cases hc
      obtain ⟨xs, hx, hp⟩ := z
      exact ⟨a, xs, rfl, .of hx, hp⟩
    · cases e
theorem items_ok {p : DK.P} {l : List DK.P} {v : V} (ok : Z.Ok) (e : items Z.S p = some l) (h : Z.P p v) : ∃ a xs, v = .ref a ∧ (SqL Z.M.K Z.H a xs ∨ SqT Z.M.K Z.H a xs) ∧ Z.PA l xs := by
  have viaL : litems Z.S p = some l → ∃ a xs, v = .ref a ∧ (SqL Z.M.K Z.H a xs ∨ SqT Z.M.K Z.H a xs) ∧ Z.PA l xs := fun e' => by
    obtain ⟨a, xs, h1, h2, h3⟩ := litems_ok ok e' h
    exact ⟨a, xs, h1, .inl h2, h3⟩
  cases p with
  | d x =>
    cases x with
    | list l' => exact viaL e
    | tuple l' =>
      cases e
      cases h with
      | tup hs ha => exact ⟨_, _, rfl, .inr hs.seq, RA_map ha⟩
    | _ => cases e
  | r i => exact viaL e
theorem allD_DpA {l : List DK.P} {ds : List PyData} {vs : List V} (e : allD l = some ds) (h : Z.PA l vs) : DpAll Z.M.K Z.H vs ds := (allD_RA e h).dp
/-- the data that is read at a value, as HandS has it -/
theorem rdD_ok {p : DK.P} {x : PyData} {v : V} (ok : Z.Ok) (e : rdD Z.S p = some x) (h : Z.P p v) : Dp Z.M.K Z.H v x ∧ x.canLay0 = true := by
  cases p with
  | d y => cases e; exact ⟨Rp.dp h, Rp.lay h⟩
  | r i =>
    obtain ⟨a, ea, rfl⟩ := h
    have fin : ∀ l ds, Z.S[i]? = some (.lst l) ∨ Z.S[i]? = some (.fz l) → allD l = some ds → Dp Z.M.K Z.H (.ref a) (.list ds) ∧ (PyData.list ds).canLay0 = true := fun l ds hk hd => by
      obtain ⟨c, hc, z⟩ := ok.at ea
      have z' : ∃ xs, Z.H a = some (.lst xs) ∧ Z.PA l xs := by
        rcases hk with hk | hk <;> (rw [hk] at hc; cases hc; exact z)
      obtain ⟨xs, hx, hp⟩ := z'
      have r := allD_RA hd hp
      exact ⟨.lst (.of hx) r.dp, by simpa [PyData.canLay0] using r.lay⟩
    simp only [rdD] at e
    split at e
    · rename_i l hk
      cases q : allD l with
      | none => rw [q] at e; cases e
      | some ds => rw [q] at e; cases e; exact fin l ds (.inl hk) q
    · rename_i l hk
      cases q : allD l with
      | none => rw [q] at e; cases e
      | some ds => rw [q] at e; cases e; exact fin l ds (.inr hk) q
    · cases e
theorem PA_get : ∀ {l : List DK.P} {vs : List V} {i : Nat} {p : DK.P}, Z.PA l vs → l[i]? = some p → ∃ v, vs[i]? = some v ∧ Z.P p v
  | _, _, _, _, .nil, e => by simp at e
  | _, _, 0, _, .cons r _, e => by simp at e; subst e; exact ⟨_, rfl, r⟩
  | _, _, i + 1, _, .cons _ t, e => by
    obtain ⟨v, h1, h2⟩ := PA_get (i := i) t (by simpa using e)
    exact ⟨v, by simpa using h1, h2⟩
theorem PA_atI {l : List DK.P} {vs : List V} {i : Int} {p : DK.P} (h : Z.PA l vs) (e : atI l i = some p) : ∃ v, atI vs i = some v ∧ Z.P p v := by
  have hl : l.length = vs.length := h.length
  unfold atI at e ⊢
  rw [hl] at e
  cases q : ixN vs.length i with
  | none => rw [q] at e; cases e
  | some j =>
    rw [q] at e
    exact PA_get (i := j) h e
theorem PA.append : ∀ {l m : List DK.P} {vs ws : List V}, Z.PA l vs → Z.PA m ws → Z.PA (l ++ m) (vs ++ ws)
  | _, _, _, _, .nil, h => h
  | _, _, _, _, .cons r t, h => .cons r (PA.append t h)
theorem PA.reverse {l : List DK.P} {vs : List V} (h : Z.PA l vs) : Z.PA l.reverse vs.reverse := by
  induction h with
  | nil => exact .nil
  | cons r t ih => rw [List.reverse_cons, List.reverse_cons]; exact PA.append ih (.cons r .nil)
end

/-! ### the operators -/
theorem LINE_eq : LINE = sizeLine := by rw [sizeLine_eq]; rfl
theorem strOk_append {x y : Str} (h : PyData.strOk x = true) (g : PyData.strOk y = true) : PyData.strOk (x ++ y) = true := by
  have e : (x ++ y : Str).cps = x.cps ++ y.cps := rfl
  unfold PyData.strOk at *
  rw [e, Array.all_append, h, g] <;> rfl
theorem length_append (x y : Str) : (x ++ y : Str).length = x.length + y.length := by
  have e : (x ++ y : Str).cps = x.cps ++ y.cps := rfl
  unfold Str.length
  rw [e, Array.size_append]
section
variable {X : Cx}
/-- a list and a list, whatever they are -/
theorem op_catS : OpR X (binaryOp .Add) fun x y H Q => ∃ l b xs zs, x = .ref l ∧ y = .ref b ∧ SqL X.K H l xs ∧ SqL X.K H b zs ∧ xs.length + zs.length ≤ sizeLine ∧ ∀ p, H p = none → Q (.ref p) (upd H p (.lst (xs ++ zs))) := by
  intro pins s σ H x y v u Q I rx ry h
  obtain ⟨l, b, xs, zs, rfl, rfl, hH, hB, hz, q⟩ := h
  cases rx
  cases ry
  obtain ⟨its, r, ⟨⟨cls, dd, data, sl⟩, n, e, hc, hd, hs⟩, z⟩ := I.list hH
  obtain ⟨its2, r2, ⟨⟨cls2, dd2, data2, sl2⟩, n2, e2, hc2, hd2, hs2⟩, z2⟩ := I.list hB
  simp only at hc hd hs hc2 hd2 hs2
  subst hc hd hs hc2 hd2 hs2
  have l1 := r.length
  have l2 := r2.length
  refine concat_meets ⟨_, e, rfl⟩ ⟨_, e2, rfl⟩ noFill_list_add seq_list_add PySem.F.slot_list_add PySem.F.entry_list_add (PySem.F.args_list_add_2 _ _) (list_addW l b its.toArray its2.toArray n n2 none none sl sl2 (by simp; omega)) ⟨e, e2, ?_⟩
  have ea : its.toArray ++ its2.toArray = (its ++ its2).toArray := by simp
  rw [ea]
  exact ⟨.ref _, _, I.lnew (t' := s.toks) (r.append r2) (by rw [List.length_append]; omega), rfl, q _ I.fresh⟩
end
end DK

end SDKRule

section SDKOps
set_option Elab.async false
set_option linter.all false
set_option autoImplicit false
set_option maxHeartbeats 1000000
/-! DKOps: the operators of DKSem over HandS's rules by values. -/
namespace DK
open PySem PySem.Spec PyProof.Rows L2
section
variable {X : Cx}
theorem AftO.int {Z : Sit} {j : Int} {Q : VK} (ok : Z.Ok) (h : AftO Z (Option.some (vI j, Z.S)) fun r Z' => ∀ v, Z'.P r v → Q v Z'.H) : Q (.int j) Z.H := AftO.now ok h _ (.int _)
theorem AftO.bl {Z : Sit} {j : Bool} {Q : VK} (ok : Z.Ok) (h : AftO Z (Option.some (vB j, Z.S)) fun r Z' => ∀ v, Z'.P r v → Q v Z'.H) : Q (.bl j) Z.H := AftO.now ok h _ (.bl _)
/-- an operation of two ints: the reading's cases -/
theorem i2 {Z : Sit} {p q : DK.P} {o : Op2} {x y : V} {R : DK.P → Sit → Prop} (no : ∀ p q S, o p q S ≠ none → ∃ i j, p = vI i ∧ q = vI j) (hp : Z.P p x) (hq : Z.P q y) (h : AftO Z (o p q Z.S) R) :
    ∃ i j, p = vI i ∧ q = vI j ∧ x = .int i ∧ y = .int j := by
  obtain ⟨r, S', e, _⟩ := h.some
  obtain ⟨i, j, rfl, rfl⟩ := no p q Z.S (by rw [e]; exact fun z => nomatch z)
  cases hp; cases hq
  exact ⟨i, j, rfl, rfl, rfl, rfl⟩
theorem only2 {o : Op2} (h : ∀ p q S, (¬ ∃ i j, p = vI i ∧ q = vI j) → o p q S = none) : ∀ p q S, o p q S ≠ none → ∃ i j, p = vI i ∧ q = vI j := fun p q S n => by
  by_cases c : ∃ i j, p = vI i ∧ q = vI j
  · exact c
  · exact absurd (h p q S c) n


theorem om_sub : OpM X (binaryOp .Sub) oSub := fun pins s σ H x y v u Q I rx ry ⟨Z, p, q, hM, ok, hH, hp, hq, h⟩ => by
  obtain ⟨i, j, rfl, rfl, rfl, rfl⟩ := i2 (only2 (by (intro p q S n; cases p <;> cases q <;> first | rfl | (rename_i x y; cases x <;> cases y <;> first | rfl | exact absurd ⟨_, _, rfl, rfl⟩ n) | (rename_i x y; cases x <;> rfl) | (rename_i x y; cases y <;> rfl)))) hp hq h
  subst hH
  exact op_sub pins s σ _ _ _ v u Q I rx ry ⟨i, j, rfl, rfl, AftO.int ok h⟩
theorem om_mul : OpM X (binaryOp .Mult) oMul := fun pins s σ H x y v u Q I rx ry ⟨Z, p, q, hM, ok, hH, hp, hq, h⟩ => by
  obtain ⟨i, j, rfl, rfl, rfl, rfl⟩ := i2 (only2 (by (intro p q S n; cases p <;> cases q <;> first | rfl | (rename_i x y; cases x <;> cases y <;> first | rfl | exact absurd ⟨_, _, rfl, rfl⟩ n) | (rename_i x y; cases x <;> rfl) | (rename_i x y; cases y <;> rfl)))) hp hq h
  subst hH
  obtain ⟨c, h⟩ := AftO.ite h
  exact op_mul pins s σ _ _ _ v u Q I rx ry ⟨i, j, rfl, rfl, c, AftO.int ok h⟩
theorem om_fdiv : OpM X (binaryOp .FloorDiv) oFdiv := fun pins s σ H x y v u Q I rx ry ⟨Z, p, q, hM, ok, hH, hp, hq, h⟩ => by
  obtain ⟨i, j, rfl, rfl, rfl, rfl⟩ := i2 (only2 (by (intro p q S n; cases p <;> cases q <;> first | rfl | (rename_i x y; cases x <;> cases y <;> first | rfl | exact absurd ⟨_, _, rfl, rfl⟩ n) | (rename_i x y; cases x <;> rfl) | (rename_i x y; cases y <;> rfl)))) hp hq h
  subst hH
  obtain ⟨c, h⟩ := AftO.ite h
  exact op_fdivN pins s σ _ _ _ v u Q I rx ry ⟨i, j, rfl, rfl, c, AftO.int ok h⟩
theorem om_mod : OpM X (binaryOp .Mod) oMod := fun pins s σ H x y v u Q I rx ry ⟨Z, p, q, hM, ok, hH, hp, hq, h⟩ => by
  obtain ⟨i, j, rfl, rfl, rfl, rfl⟩ := i2 (only2 (by (intro p q S n; cases p <;> cases q <;> first | rfl | (rename_i x y; cases x <;> cases y <;> first | rfl | exact absurd ⟨_, _, rfl, rfl⟩ n) | (rename_i x y; cases x <;> rfl) | (rename_i x y; cases y <;> rfl)))) hp hq h
  subst hH
  obtain ⟨c, h⟩ := AftO.ite h
  exact op_modN pins s σ _ _ _ v u Q I rx ry ⟨i, j, rfl, rfl, c, AftO.int ok h⟩
theorem om_lt : OpM X (compareOp .Lt) oLt := fun pins s σ H x y v u Q I rx ry ⟨Z, p, q, hM, ok, hH, hp, hq, h⟩ => by
  obtain ⟨i, j, rfl, rfl, rfl, rfl⟩ := i2 (only2 (by (intro p q S n; cases p <;> cases q <;> first | rfl | (rename_i x y; cases x <;> cases y <;> first | rfl | exact absurd ⟨_, _, rfl, rfl⟩ n) | (rename_i x y; cases x <;> rfl) | (rename_i x y; cases y <;> rfl)))) hp hq h
  subst hH
  exact op_lt pins s σ _ _ _ v u Q I rx ry ⟨i, j, rfl, rfl, AftO.bl ok h⟩
theorem om_le : OpM X (compareOp .LtE) oLe := fun pins s σ H x y v u Q I rx ry ⟨Z, p, q, hM, ok, hH, hp, hq, h⟩ => by
  obtain ⟨i, j, rfl, rfl, rfl, rfl⟩ := i2 (only2 (by (intro p q S n; cases p <;> cases q <;> first | rfl | (rename_i x y; cases x <;> cases y <;> first | rfl | exact absurd ⟨_, _, rfl, rfl⟩ n) | (rename_i x y; cases x <;> rfl) | (rename_i x y; cases y <;> rfl)))) hp hq h
  subst hH
  exact op_le pins s σ _ _ _ v u Q I rx ry ⟨i, j, rfl, rfl, AftO.bl ok h⟩
theorem om_gt : OpM X (compareOp .Gt) oGt := fun pins s σ H x y v u Q I rx ry ⟨Z, p, q, hM, ok, hH, hp, hq, h⟩ => by
  obtain ⟨i, j, rfl, rfl, rfl, rfl⟩ := i2 (only2 (by (intro p q S n; cases p <;> cases q <;> first | rfl | (rename_i x y; cases x <;> cases y <;> first | rfl | exact absurd ⟨_, _, rfl, rfl⟩ n) | (rename_i x y; cases x <;> rfl) | (rename_i x y; cases y <;> rfl)))) hp hq h
  subst hH
  exact op_gt pins s σ _ _ _ v u Q I rx ry ⟨i, j, rfl, rfl, AftO.bl ok h⟩
theorem om_ge : OpM X (compareOp .GtE) oGe := fun pins s σ H x y v u Q I rx ry ⟨Z, p, q, hM, ok, hH, hp, hq, h⟩ => by
  obtain ⟨i, j, rfl, rfl, rfl, rfl⟩ := i2 (only2 (by (intro p q S n; cases p <;> cases q <;> first | rfl | (rename_i x y; cases x <;> cases y <;> first | rfl | exact absurd ⟨_, _, rfl, rfl⟩ n) | (rename_i x y; cases x <;> rfl) | (rename_i x y; cases y <;> rfl)))) hp hq h
  subst hH
  exact op_ge pins s σ _ _ _ v u Q I rx ry ⟨i, j, rfl, rfl, AftO.bl ok h⟩
theorem um_neg : UnM X (unaryOp .USub) oNeg := fun pins s σ H x v Q I rx ⟨Z, p, hM, ok, hH, hp, h⟩ => by
  subst hH
  cases p with
  | r i => exact h.elim
  | d x =>
    cases x with
    | int i =>
      cases hp
      exact un_neg pins s σ _ _ v Q I rx ⟨i, rfl, AftO.int ok h⟩
    | _ => exact h.elim
/-- + of lists, by their items -/
theorem add_litems {c : Bool} {Z : Sit} {p q : DK.P} {pins : List (Addr × Obj)} {s : Shared} {σ : Slots} {x y : V} {v u : Value} {Q : VK} (I : Inv X pins σ Z.H s) (rx : RelV x v) (ry : RelV y u) (hM : Z.M = md X) (ok : Z.Ok) (hp : Z.P p x) (hq : Z.P q y)
    (h : AftO Z (okOr (litems Z.S p) fun xs => okOr (litems Z.S q) fun ys => if xs.length + ys.length ≤ LINE then newL c (xs ++ ys) Z.S else none) fun r Z' => ∀ v, Z'.P r v → Q v Z'.H) :
    wpAny (model X.prog X.w) X.A (binaryOp .Add v u) (EP X pins σ Q) X.xe s := by
  obtain ⟨xs, e1, h⟩ := h.okOr
  obtain ⟨ys, e2, h⟩ := h.okOr
  obtain ⟨hz, h⟩ := h.ite
  obtain ⟨a, as, rfl, ha, pa⟩ := litems_ok ok e1 hp
  obtain ⟨b, bs, rfl, hb, pb⟩ := litems_ok ok e2 hq
  have hK : Z.M.K = X.K := by rw [hM]
  rw [hK] at ha hb
  have l1 := pa.length
  have l2 := pb.length
  rw [LINE_eq] at hz
  exact op_catS pins s σ _ _ _ v u Q I rx ry ⟨a, b, as, bs, rfl, rfl, ha, hb, by omega, fun p hn => newL_ok ok (PA.append pa pb) hn h⟩
theorem om_add {c : Bool} : OpM X (binaryOp .Add) (oAdd c) := fun pins s σ H x y v u Q I rx ry ⟨Z, p, q, hM, ok, hH, hp, hq, h⟩ => by
  subst hH
  unfold oAdd at h
  split at h
  · rename_i i j
    cases hp; cases hq
    exact op_add pins s σ _ _ _ v u Q I rx ry ⟨i, j, rfl, rfl, AftO.int ok h⟩
  · rename_i a b
    cases hp with
    | str _ a1 a2 =>
      cases hq with
      | str _ b1 b2 =>
        obtain ⟨hz, h⟩ := h.ite
        refine op_add_str pins s σ _ _ _ v u Q I rx ry ⟨a, b, rfl, rfl, by rw [← LINE_eq]; exact hz, AftO.now ok h _ (.str _ (by rw [length_append]; exact hz) (strOk_append a2 b2))⟩
  · rename_i xs ys
    cases hp with
    | @tup a as _ h1 g1 =>
      cases hq with
      | @tup b bs _ h2 g2 =>
        obtain ⟨hz, h⟩ := h.ite
        have l1 := g1.length
        have l2 := g2.length
        have hK : Z.M.K = X.K := by rw [hM]
        have q1 := h1.seq
        have q2 := h2.seq
        rw [hK] at q1 q2
        rw [LINE_eq] at hz
        have keepB : xs = [] → Q (.ref b) Z.H := fun e => by
          subst e
          rw [List.nil_append] at h
          exact AftO.now ok h _ (.tup h2 g2)
        have keepA : ys = [] → Q (.ref a) Z.H := fun e => by
          subst e
          rw [List.append_nil] at h
          exact AftO.now ok h _ (.tup h1 g1)
        refine op_catA pins s σ _ _ _ v u Q I rx ry ⟨a, b, as, bs, rfl, rfl, q1, q2, by omega, fun e => ?_, fun _ e => ?_, fun _ _ p hn => newT_ok ok (g1.append g2) hn h⟩
        · subst e
          exact keepB (List.eq_nil_of_length_eq_zero (by simpa using l1))
        · subst e
          exact keepA (List.eq_nil_of_length_eq_zero (by simpa using l2))
  · exact add_litems I rx ry hM ok hp hq h
theorem shaped_mk {x : PyData} (l : x.canLay0 = true) (d : dep 60 x = true) : SeqAt.shaped x = true := by
  have := dep_depth x 60 d
  simp only [SeqAt.shaped, l, Bool.true_and, decide_eq_true_eq]
  omega
theorem om_eqD {op : CmpOp} {k : Bool → Bool} (rule : OpR X (compareOp op) fun x y H Q => ∃ d e, Dp X.K H x d ∧ Dp X.K H y e ∧ SeqAt.shaped d = true ∧ SeqAt.shaped e = true ∧ Q (.bl (k (PyData.eqv d e))) H) : OpM X (compareOp op) (fun p q S => eqD p q S k) := fun pins s σ H x y v u Q I rx ry ⟨Z, p, q, hM, ok, hH, hp, hq, h⟩ => by
  subst hH
  unfold eqD at h
  obtain ⟨d, e1, h⟩ := h.okOr
  obtain ⟨e, e2, h⟩ := h.okOr
  obtain ⟨hd, h⟩ := h.ite
  obtain ⟨d1, c1⟩ := rdD_ok ok e1 hp
  obtain ⟨d2, c2⟩ := rdD_ok ok e2 hq
  rw [Bool.and_eq_true] at hd
  have hK : Z.M.K = X.K := by rw [hM]
  rw [hK] at d1 d2
  exact rule pins s σ _ _ _ v u Q I rx ry ⟨d, e, d1, d2, shaped_mk c1 hd.1, shaped_mk c2 hd.2, AftO.bl ok h⟩
theorem om_eq (hu : X.A.units + 64 < cLine) : OpM X (compareOp .Eq) oEq := om_eqD (k := id) (op_eqD hu)
theorem om_ne (hu : X.A.units + 64 < cLine) : OpM X (compareOp .NotEq) oNe := om_eqD (k := not) (op_neD hu)
theorem op_inDT (hu : X.A.units + 65 < cLine) : OpR X (compareOp .In) fun x y H Q => ∃ d ds, Dp X.K H x d ∧ Dp X.K H y (.tuple ds) ∧ SeqAt.shaped d = true ∧ SeqAt.shaped (.tuple ds) = true ∧ Q (.bl (ds.any fun z => PyData.eqv z d)) H := by
  intro pins s σ H x y v u Q I rx ry h
  obtain ⟨d, ds, hd, he, sd, se, q⟩ := h
  obtain ⟨as, r1⟩ := Dp.reads I d x v hd rx
  obtain ⟨bs, r2⟩ := Dp.reads I (.tuple ds) y u he ry
  exact SeqAt.in_tuple_reads r2 r1 (SeqAt.canLay_of_shaped se) (SeqAt.canLay_of_shaped sd) (room_in_shaped sd hu) ⟨.bl _, H, I, rfl, q⟩
theorem op_notInDT (hu : X.A.units + 65 < cLine) : OpR X (compareOp .NotIn) fun x y H Q => ∃ d ds, Dp X.K H x d ∧ Dp X.K H y (.tuple ds) ∧ SeqAt.shaped d = true ∧ SeqAt.shaped (.tuple ds) = true ∧ Q (.bl (!ds.any fun z => PyData.eqv z d)) H := by
  intro pins s σ H x y v u Q I rx ry h
  obtain ⟨d, ds, hd, he, sd, se, q⟩ := h
  obtain ⟨as, r1⟩ := Dp.reads I d x v hd rx
  obtain ⟨bs, r2⟩ := Dp.reads I (.tuple ds) y u he ry
  exact SeqAt.notIn_tuple_reads r2 r1 (SeqAt.canLay_of_shaped se) (SeqAt.canLay_of_shaped sd) (room_in_shaped sd hu) ⟨.bl _, H, I, rfl, q⟩
theorem dep_list {ys : List PyData} {n : Nat} (h : ys.all (dep n) = true) : dep (n + 1) (.list ys) = true := by simpa [dep] using h
theorem shaped_l {ys : List PyData} (l : (PyData.list ys).canLay0 = true) (h : ys.all (dep 60) = true) : SeqAt.shaped (.list ys) = true := by
  have := dep_depth (.list ys) 61 (by simpa [dep] using h)
  simp only [SeqAt.shaped, l, Bool.true_and, decide_eq_true_eq]; omega
theorem shaped_t {ys : List PyData} (l : (PyData.tuple ys).canLay0 = true) (h : ys.all (dep 60) = true) : SeqAt.shaped (.tuple ys) = true := by
  have := dep_depth (.tuple ys) 61 (by simpa [dep] using h)
  simp only [SeqAt.shaped, l, Bool.true_and, decide_eq_true_eq]; omega
theorem om_inD {op : CmpOp} {k : Bool → Bool} (rl : OpR X (compareOp op) fun x y H Q => ∃ d ds, Dp X.K H x d ∧ Dp X.K H y (.list ds) ∧ SeqAt.shaped d = true ∧ SeqAt.shaped (.list ds) = true ∧ Q (.bl (k (ds.any fun z => PyData.eqv z d))) H)
    (rt : OpR X (compareOp op) fun x y H Q => ∃ d ds, Dp X.K H x d ∧ Dp X.K H y (.tuple ds) ∧ SeqAt.shaped d = true ∧ SeqAt.shaped (.tuple ds) = true ∧ Q (.bl (k (ds.any fun z => PyData.eqv z d))) H) : OpM X (compareOp op) (fun p q S => inD p q S k) := fun pins s σ H x y v u Q I rx ry ⟨Z, p, q, hM, ok, hH, hp, hq, h⟩ => by
  subst hH
  unfold inD at h
  obtain ⟨d, e1, h⟩ := h.okOr
  obtain ⟨e, e2, h⟩ := h.okOr
  obtain ⟨d1, c1⟩ := rdD_ok ok e1 hp
  obtain ⟨d2, c2⟩ := rdD_ok ok e2 hq
  have hK : Z.M.K = X.K := by rw [hM]
  rw [hK] at d1 d2
  split at h
  · rename_i ys
    obtain ⟨hd, h⟩ := h.ite
    rw [Bool.and_eq_true] at hd
    exact rl pins s σ _ _ _ v u Q I rx ry ⟨d, ys, d1, d2, shaped_mk c1 hd.1, shaped_l c2 hd.2, AftO.bl ok h⟩
  · rename_i ys
    obtain ⟨hd, h⟩ := h.ite
    rw [Bool.and_eq_true] at hd
    exact rt pins s σ _ _ _ v u Q I rx ry ⟨d, ys, d1, d2, shaped_mk c1 hd.1, shaped_t c2 hd.2, AftO.bl ok h⟩
  · exact h.elim
theorem om_in (hu : X.A.units + 65 < cLine) : OpM X (compareOp .In) oIn := om_inD (k := id) (op_inD hu) (op_inDT hu)
theorem om_notIn (hu : X.A.units + 65 < cLine) : OpM X (compareOp .NotIn) oNotIn := om_inD (k := not) (op_notInD hu) (op_notInDT hu)

/-! subscripts -/
theorem strOk_get {x : Str} (h : PyData.strOk x = true) {c : Nat} (m : c ∈ x.cps.toList) : PyData.strOk ⟨#[c]⟩ = true := by
  unfold PyData.strOk at *
  rw [Array.all_eq_true'] at h
  have := h c (by simpa using m)
  simp at this
  simp [this]
theorem atI_mem {α : Type} {l : List α} {i : Int} {x : α} (h : atI l i = some x) : x ∈ l := by
  obtain ⟨j, _, e, _⟩ := atI_get h
  exact List.mem_of_getElem? e
theorem xm_ix : IxM X oIx := fun value slice pins s σ H x y v u Q I rx ry ⟨Z, p, q, hM, ok, hH, hp, hq, h⟩ hs => by
  subst hH
  have hK : Z.M.K = X.K := by rw [hM]
  unfold oIx at h
  split at h
  · rename_i z i
    obtain ⟨c, e, h⟩ := h.okOr
    cases hq
    cases hp with
    | str _ a1 a2 =>
      exact ix_seq value slice pins s σ _ _ _ v u Q I rx ry (.inr (.inr ⟨z, i, c, rfl, rfl, by rw [← LINE_eq]; exact a1, e, AftO.now ok h _ (.str _ (by show 1 ≤ LINE; decide) (strOk_get a2 (atI_mem e)))⟩)) hs
  · rename_i i _
    obtain ⟨l, e, h⟩ := h.okOr
    obtain ⟨r, e2, h⟩ := h.okOr
    cases hq
    obtain ⟨a, xs, rfl, sq, pa⟩ := items_ok ok e hp
    obtain ⟨w, e3, hw⟩ := PA_atI pa e2
    rw [hK] at sq
    rcases sq with sq | sq
    · exact ix_seq value slice pins s σ _ _ _ v u Q I rx ry (.inl ⟨a, xs, i, w, rfl, rfl, sq, e3, AftO.now ok h _ hw⟩) hs
    · exact ix_seq value slice pins s σ _ _ _ v u Q I rx ry (.inr (.inl ⟨a, xs, i, w, rfl, rfl, sq, e3, AftO.now ok h _ hw⟩)) hs
  · exact h.elim

/-! calls of built-ins -/
theorem cm_len : CaM1 X (.builtin "len") oLen := fun pins s σ H xs us Q I rs ⟨x, e, Z, p, hM, ok, hH, hp, h⟩ => by
  subst e hH
  have hK : Z.M.K = X.K := by rw [hM]
  unfold oLen at h
  split at h
  · cases hp with
    | str _ a1 a2 => exact call_len_str pins s σ _ _ us Q I rs ⟨_, rfl, by rw [← LINE_eq]; exact a1, AftO.int ok h⟩
  · obtain ⟨l, e, h⟩ := h.okOr
    obtain ⟨a, xs, rfl, sq, pa⟩ := items_ok ok e hp
    rw [hK] at sq
    refine call_len_seq pins s σ _ _ us Q I rs ⟨a, xs, rfl, sq, ?_⟩
    rw [← pa.length]
    exact AftO.int ok h
theorem nS_ok : ∀ n : Nat, n < 1000 → (nS n).length ≤ 3 ∧ PyData.strOk (nS n) = true := by decide +kernel
theorem cm_str : CaM1 X (.type "str") oStr := fun pins s σ H xs us Q I rs ⟨x, e, Z, p, hM, ok, hH, hp, h⟩ => by
  subst e hH
  unfold oStr at h
  split at h
  · rename_i i
    obtain ⟨c, h⟩ := h.ite
    cases hp
    obtain ⟨n, rfl⟩ : ∃ n : Nat, i = n := ⟨i.toNat, by omega⟩
    have hn := nS_ok n (by omega)
    refine call_str_int pins s σ _ _ us Q I rs ⟨n, rfl, ?_, AftO.now ok h _ (.str _ (Nat.le_trans hn.1 (by decide)) hn.2)⟩
    show (n : Int).natAbs.log2 < 1920
    have : ((n : Int).natAbs) = n := by simp
    rw [this]
    have : n.log2 ≤ n := Nat.log2_le_self n
    omega
  · exact h.elim
theorem cm_int : CaM1 X (.type "int") oInt := fun pins s σ H xs us Q I rs ⟨x, e, Z, p, hM, ok, hH, hp, h⟩ => by
  subst e hH
  unfold oInt at h
  split at h
  · rename_i b
    cases hp
    refine call_int1 pins s σ _ _ us Q I rs (.inr ⟨b, rfl, AftO.int ok h⟩)
  · rename_i i
    cases hp
    refine call_int1 pins s σ _ _ us Q I rs (.inl ⟨i, rfl, AftO.int ok h⟩)
  · exact h.elim
theorem cm_list {c : Bool} : CaM1 X (.type "list") (oList c) := fun pins s σ H xs us Q I rs ⟨x, e, Z, p, hM, ok, hH, hp, h⟩ => by
  subst e hH
  have hK : Z.M.K = X.K := by rw [hM]
  obtain ⟨l, e, h⟩ := AftO.okOr h
  obtain ⟨a, xs, rfl, sq, pa⟩ := items_ok ok e hp
  rw [hK] at sq
  exact call_list_of pins s σ _ _ us Q I rs ⟨a, xs, rfl, sq, fun l hn => newL_ok ok pa hn h⟩
theorem cm_tuple : CaM1 X (.type "tuple") oTuple := fun pins s σ H xs us Q I rs ⟨x, e, Z, p, hM, ok, hH, hp, h⟩ => by
  subst e hH
  have hK : Z.M.K = X.K := by rw [hM]
  unfold oTuple at h
  split at h
  · cases hp with
    | tup h1 g1 =>
      have q1 := h1.seq
      rw [hK] at q1
      exact call_tuple_of pins s σ _ _ us Q I rs ⟨_, _, rfl, .inr ⟨q1, AftO.now ok h _ (.tup h1 g1)⟩⟩
  · obtain ⟨l, e, h⟩ := AftO.okOr h
    obtain ⟨ds, e2, h⟩ := AftO.okOr h
    obtain ⟨a, xs, rfl, sq, pa⟩ := litems_ok ok e hp
    rw [hK] at sq
    exact call_tuple_of pins s σ _ _ us Q I rs ⟨a, xs, rfl, .inl ⟨sq, fun l hn => newT_ok ok (allD_RA e2 pa) hn h⟩⟩
end
end DK

end SDKOps

section SDKMore
set_option Elab.async false
set_option linter.all false
set_option autoImplicit false
set_option maxHeartbeats 1000000
/-! DKMore: displays, tests, methods, calls of the text's own defs. -/
namespace DK
open PySem PySem.Spec PyProof.Rows L2

/-! ### to data -/
section
variable {Z : Sit}
theorem cell_L {i : Nat} {a : Addr} {l : List DK.P} (ok : Z.Ok) (ea : Z.μ[i]? = some a) (e : Z.S[i]? = some (.lst l) ∨ Z.S[i]? = some (.fz l)) : ∃ xs, Z.H a = some (.lst xs) ∧ Z.PA l xs := by
  obtain ⟨c, hc, z⟩ := ok.at ea
  rcases e with e | e <;> (rw [hc] at e; cases e; exact z)
theorem fr_at {i : Nat} {l : List DK.P} (e : Z.S[i]? = some (.lst l) ∨ Z.S[i]? = some (.fz l)) : (Z.fr i).S[i]? = some (.fz l) := by
  show (frzS Z.S i)[i]? = _
  rw [frzS_get, if_pos rfl]
  rcases e with e | e <;> (rw [e]; rfl)
theorem rdD_cell {S : Sto} {i : Nat} {x : PyData} (e : rdD S (.r i) = some x) : ∃ l ds, (S[i]? = some (.lst l) ∨ S[i]? = some (.fz l)) ∧ allD l = some ds ∧ x = .list ds := by
  simp only [rdD] at e
  split at e
  · rename_i l hk
    cases q : allD l with
    | none => rw [q] at e; cases e
    | some ds => rw [q] at e; cases e; exact ⟨l, ds, .inl hk, q, rfl⟩
  · rename_i l hk
    cases q : allD l with
    | none => rw [q] at e; cases e
    | some ds => rw [q] at e; cases e; exact ⟨l, ds, .inr hk, q, rfl⟩
  · cases e
/-- a flat cell, frozen, is data -/
theorem fr_R {i : Nat} {a : Addr} {x : PyData} (ok : Z.Ok) (ea : Z.μ[i]? = some a) (e : rdD Z.S (.r i) = some x) : (Z.fr i).R x (.ref a) := by
  obtain ⟨l, ds, hk, hd, rfl⟩ := rdD_cell e
  obtain ⟨xs, hx, hp⟩ := cell_L ok ea hk
  have st := ok.fr i
  exact .lst (.inl ⟨.inl hx, st.ok.frNot ea (fr_at hk)⟩) (st.RA (allD_RA hd hp))
theorem toDs_ok : ∀ {l : List DK.P} {Z : Sit} {ds : List PyData} {S' : Sto} {vs : List V}, Z.Ok → toDs Z.S l = some (ds, S') → Z.PA l vs → ∃ Z', Stp Z Z' ∧ Z'.S = S' ∧ Z'.H = Z.H ∧ Z'.RA ds vs
  | [], Z, ds, S', _, ok, e, .nil => by
    cases e
    exact ⟨Z, .refl ok, rfl, rfl, .nil⟩
  | .d x :: l, Z, ds, S', _, ok, e, .cons r t => by
    simp only [toDs] at e
    split at e
    · rename_i q S2 hq
      cases e
      obtain ⟨Z', st, hS, hH, ra⟩ := toDs_ok ok hq t
      exact ⟨Z', st, hS, hH, .cons (st.R r) ra⟩
    · cases e
  | .r i :: l, Z, ds, S', _, ok, e, .cons r t => by
    obtain ⟨a, ea, rfl⟩ := r
    simp only [toDs] at e
    split at e
    · rename_i x hx
      split at e
      · rename_i q S2 hq
        cases e
        have st := ok.fr i
        obtain ⟨Z', st2, hS, hH, ra⟩ := toDs_ok (Z := Z.fr i) st.ok hq (st.PA t)
        exact ⟨Z', st.trans st2, hS, hH, .cons (st2.R (fr_R ok ea hx)) ra⟩
      · cases e
    · cases e
theorem toD_ok {p : DK.P} {x : PyData} {S' : Sto} {v : V} (ok : Z.Ok) (e : toD Z.S p = some (x, S')) (h : Z.P p v) : ∃ Z', Stp Z Z' ∧ Z'.S = S' ∧ Z'.H = Z.H ∧ Z'.R x v := by
  cases p with
  | d y => cases e; exact ⟨Z, .refl ok, rfl, rfl, h⟩
  | r i =>
    obtain ⟨a, ea, rfl⟩ := h
    simp only [toD] at e
    split at e
    · rename_i l hk
      split at e
      · rename_i q S2 hq
        cases e
        obtain ⟨xs, hx, hp⟩ := cell_L ok ea (.inl hk)
        have st := ok.fr i
        obtain ⟨Z', st2, hS, hH, ra⟩ := toDs_ok (Z := Z.fr i) st.ok hq (st.PA hp)
        refine ⟨Z', st.trans st2, hS, hH, .lst ?_ ra⟩
        have n := st.ok.frNot ea (fr_at (.inl hk))
        have h2 : (Z.fr i).H a = some (.lst xs) := hx
        exact .inl ⟨.inl (st2.kpL a _ h2 n), st2.lvL a _ h2 n⟩
      · cases e
    · rename_i l hk
      split at e
      · rename_i q S2 hq
        cases e
        obtain ⟨xs, hx, hp⟩ := cell_L ok ea (.inr hk)
        obtain ⟨Z', st2, hS, hH, ra⟩ := toDs_ok ok hq hp
        refine ⟨Z', st2, hS, hH, .lst ?_ ra⟩
        have n := ok.frNot ea hk
        exact .inl ⟨.inl (st2.kpL a _ hx n), st2.lvL a _ hx n⟩
      · cases e
    · cases e
theorem toDall_ok : ∀ {l : List DK.P} {Z : Sit} {ds : List PyData} {S' : Sto} {vs : List V}, Z.Ok → toDall Z.S l = some (ds, S') → Z.PA l vs → ∃ Z', Stp Z Z' ∧ Z'.S = S' ∧ Z'.H = Z.H ∧ Z'.RA ds vs
  | [], Z, ds, S', _, ok, e, .nil => by
    cases e
    exact ⟨Z, .refl ok, rfl, rfl, .nil⟩
  | p :: l, Z, ds, S', _, ok, e, .cons r t => by
    simp only [toDall] at e
    split at e
    · rename_i x S1 hx
      split at e
      · rename_i q S2 hq
        cases e
        obtain ⟨Z1, s1, hS1, hH1, r1⟩ := toD_ok ok hx r
        subst hS1
        obtain ⟨Z', s2, hS, hH, ra⟩ := toDall_ok s1.ok hq (s1.PA t)
        exact ⟨Z', s1.trans s2, hS, hH.trans hH1, .cons (s2.R r1) ra⟩
      · cases e
    · cases e
end

/-! ### displays -/
theorem args_len : ∀ {fs : List Ex} {ρ : Env} {S : Sto} {ps : List DK.P} {S' : Sto}, fs.length ≤ LINE → eArgs fs ρ S = .ok ps S' → ps.length ≤ LINE := by
  have key : ∀ (fs : List Ex) (ρ : Env) (S : Sto) (ps : List DK.P) (S' : Sto), eArgs fs ρ S = .ok ps S' → ps.length = fs.length := by
    intro fs
    induction fs with
    | nil => intro ρ S ps S' e; cases e; rfl
    | cons f fs ih =>
      intro ρ S ps S' e
      simp only [eArgs, eCons] at e
      cases h1 : f ρ S with
      | bad => rw [h1] at e; cases e
      | ex c S1 => rw [h1] at e; cases e
      | ok p S1 =>
        rw [h1] at e
        simp only [Out.bind] at e
        cases h2 : eArgs fs ρ S1 with
        | bad => rw [h2] at e; cases e
        | ex c S2 => rw [h2] at e; cases e
        | ok l S2 =>
          rw [h2] at e
          cases e
          simp [ih _ _ _ _ h2]
  intro fs ρ S ps S' h e
  rw [key _ _ _ _ _ e]; exact h

section
variable {X : Cx} {W : WX} {es : List Expr} {fs : List Ex} {pos : Pos}
theorem LINE_le {n : Nat} (h : n ≤ LINE) : n ≤ sizeLine := by rw [← LINE_eq]; exact h
theorem fe_tup {x1} (h : FA X W es (eArgs fs)) (hf : fs.length ≤ LINE := by decide +kernel) : FE X W (.Tuple es x1 pos) (eTup fs) := pe_weak (pe_tup h) fun σ H Q ⟨Z, ρ, a, h⟩ => by
  refine ⟨Z, ρ, a, ?_⟩
  unfold eTup at h
  cases e : eArgs fs ρ Z.S with
  | bad => rw [e] at h; exact h.elim
  | ex c S' => rw [e] at h; exact h
  | ok ps S1 =>
    rw [e] at h
    have h := h.bind
    refine fun Z1 s1 hS1 vs hvs => ?_
    have h1 := h Z1 s1 hS1
    dsimp only at h1
    refine ⟨by rw [← hvs.length]; exact LINE_le (args_len hf e), fun p hp => ?_⟩
    split at h1
    · rename_i ds S2 hd
      obtain ⟨Z2, s2, hS2, hH2, ra⟩ := toDall_ok s1.ok hd hvs
      rw [← hH2] at hp ⊢
      have h2 := Aft.step s2 h1
      rw [← hS2] at h2
      have st := s2.ok.put (o := .tup vs) hp
      exact h2 _ st rfl _ (.tup (.inl ⟨.inl upd_same, fun l => s2.ok.notL hp l⟩) (st.RA ra))
    · exact h1.elim
theorem fe_lst (h : FA X W es (eArgs fs)) (hf : fs.length ≤ LINE := by decide +kernel) : FE X W (.List es pos) (eLst fs) := pe_weak (pe_lst h) fun σ H Q ⟨Z, ρ, a, h⟩ => by
  refine ⟨Z, ρ, a, ?_⟩
  unfold eLst at h
  cases e : eArgs fs ρ Z.S with
  | bad => rw [e] at h; exact h.elim
  | ex c S' => rw [e] at h; exact h
  | ok ps S1 =>
    rw [e] at h
    have h := h.bind
    refine fun Z1 s1 hS1 vs hvs => ?_
    have h1 := h Z1 s1 hS1
    dsimp only at h1
    refine ⟨by rw [← hvs.length]; exact LINE_le (args_len hf e), fun p hp => ?_⟩
    split at h1
    · rename_i ds S2 hd
      obtain ⟨Z2, s2, hS2, hH2, ra⟩ := toDall_ok s1.ok hd hvs
      rw [← hH2] at hp ⊢
      have h2 := Aft.step s2 h1
      rw [← hS2] at h2
      have st := s2.ok.put (o := .lst vs) hp
      exact h2 _ st rfl _ (.lst (.inl ⟨.inl upd_same, fun l => s2.ok.notL hp l⟩) (st.RA ra))
    · exact h1.elim
theorem fe_lstC (h : FA X W es (eArgs fs)) (hf : fs.length ≤ LINE := by decide +kernel) : FE X W (.List es pos) (eLstC fs) := pe_weak (pe_lst h) fun σ H Q ⟨Z, ρ, a, h⟩ => by
  refine ⟨Z, ρ, a, ?_⟩
  unfold eLstC at h
  cases e : eArgs fs ρ Z.S with
  | bad => rw [e] at h; exact h.elim
  | ex c S' => rw [e] at h; exact h
  | ok ps S1 =>
    rw [e] at h
    have h := h.bind
    refine fun Z1 s1 hS1 vs hvs => ?_
    have h1 := h Z1 s1 hS1
    dsimp only at h1
    refine ⟨by rw [← hvs.length]; exact LINE_le (args_len hf e), fun p hp => ?_⟩
    have st : Stp Z1 (Z1.push p (.lst vs) (.lst ps)) := s1.ok.push hp fun Z' _ e hP hR => by
      subst e
      exact ⟨vs, upd_same, L2.Paired.mapP hvs fun _ _ => hP⟩
    refine h1 _ st rfl _ ⟨p, ?_, rfl⟩
    show (Z1.μ ++ [p])[Z1.S.length]? = some p
    rw [← s1.ok.len]; simp
end
end DK

end SDKMore

section SDKStm
set_option Elab.async false
set_option linter.all false
set_option autoImplicit false
set_option maxHeartbeats 1000000
/-! DKStm: tests, loops, comprehensions, statements, defs. -/
namespace DK
open PySem PySem.Spec PyProof.Rows L2

section
variable {X : Cx} {W : WX} {a b e : Expr} {es rest : List Expr} {fa fb f : Ex} {ta tb : Tx} {pos : Pos}
/-! ### tests -/
theorem tT_tE {M : Md} {σ : Slots} {H : Hp} {Q : Bool → Hp → Prop} (h : tT M W (tE f) σ H Q) : tM M W f σ H fun x H1 => ∃ c, x = .bl c ∧ Q c H1 := by
  obtain ⟨Z, ρ, a, h⟩ := h
  refine ⟨Z, ρ, a, h.bind.mono fun p Z1 s h1 v hv => ?_⟩
  split at h1
  · rename_i c
    cases hv
    exact ⟨c, rfl, Aft.now s.ok h1⟩
  · exact h1.elim
theorem ft_val (h : FE X W e f) (he : ∀ whole, isTrue e X.env whole = (do let v ← whole; standAt e.pos; holding [v] (truthy v)) := by intro _; rfl) : FT X W e (tE f) := pt_weak (pt_val h he) fun _ _ _ q => tT_tE q
theorem ft_cmp {op : CmpOp} {o : Op2} (ho : OpM X (compareOp op) o) (ha : FE X W a fa) (hb : FE X W b fb) (hm : behindInMarks op b = false := by rfl) : FT X W (.Compare a [op] [b] pos) (tE (eOp2 o fa fb)) := pt_weak (pt_cmpR ho ha hb hm) fun _ _ _ h => tm_op2 (tT_tE h)
theorem ft_pc {op : CmpOp} {t : TE} (h : PC X op a b t) (k : ∀ σ H Q, tM (md X) W f σ H Q → t σ H Q) (h1 : behindInMarks op b = false := by first | exact nobehind _ (by decide) (by decide) | rfl) : FT X W (.Compare a [op] [b] pos) (tE f) := pt_weak (pt_cmp h h1) fun _ _ _ q => k _ _ _ (tT_tE q)
theorem isN_weak {M : Md} {σ : Slots} {H : Hp} {Q : VK} (h : tM M W (eOp1 oIsN fa) σ H Q) : tIsN (tM M W fa) σ H Q := by
  obtain ⟨Z, ρ, a, h⟩ := tm_op1 h
  refine ⟨Z, ρ, a, h.mono fun p Z1 s h1 v hv => ?_⟩
  obtain ⟨Z2, q, hM, ok, hH, hp, h2⟩ := h1 v hv
  rw [← hH]
  cases q with
  | d x =>
    have hp : Z2.R x v := hp
    cases x <;> cases hp <;> exact AftO.now ok h2 _ (.bl _)
  | r i =>
    obtain ⟨b, _, rfl⟩ := hp
    exact AftO.now ok h2 _ (.bl _)
theorem notN_weak {M : Md} {σ : Slots} {H : Hp} {Q : VK} (h : tM M W (eOp1 oNotN fa) σ H Q) : tNotN (tM M W fa) σ H Q := by
  obtain ⟨Z, ρ, a, h⟩ := tm_op1 h
  refine ⟨Z, ρ, a, h.mono fun p Z1 s h1 v hv => ?_⟩
  obtain ⟨Z2, q, hM, ok, hH, hp, h2⟩ := h1 v hv
  rw [← hH]
  cases q with
  | d x =>
    have hp : Z2.R x v := hp
    cases x <;> cases hp <;> exact AftO.now ok h2 _ (.bl _)
  | r i =>
    obtain ⟨b, _, rfl⟩ := hp
    exact AftO.now ok h2 _ (.bl _)
theorem ft_isN {j : Nat} {pos' : Pos} (ha : FE X W a fa) : FT X W (.Compare a [.Is] [.Constant .none j pos'] pos) (tE (eOp1 oIsN fa)) := ft_pc (pc_isN ha) (fun _ _ _ h => isN_weak h) rfl
theorem ft_notN {j : Nat} {pos' : Pos} (ha : FE X W a fa) : FT X W (.Compare a [.IsNot] [.Constant .none j pos'] pos) (tE (eOp1 oNotN fa)) := ft_pc (pc_notN ha) (fun _ _ _ h => notN_weak h) rfl
theorem ft_w (h : FW X W a ta) : FT X W a ta := h.pt
theorem fw_and1 (ha : FT X W a ta) : FW X W (.BoolOp .And [a] pos) ta := pw_and1 ha
theorem fw_or1 (ha : FT X W a ta) : FW X W (.BoolOp .Or [a] pos) ta := pw_or1 ha
theorem fw_and (ha : FT X W a ta) (hb : FW X W (.BoolOp .And (b :: rest) pos) tb) : FW X W (.BoolOp .And (a :: b :: rest) pos) (tAnd ta tb) := pw_weak (pw_and ha hb) fun σ H Q ⟨Z, ρ, a, h⟩ => by
  refine ⟨Z, ρ, a, h.bind.mono fun c Z1 s h1 => ?_⟩
  cases c with
  | true => exact ⟨Z1, ρ, a.next s, h1⟩
  | false => exact Aft.now s.ok h1
theorem fw_or (ha : FT X W a ta) (hb : FW X W (.BoolOp .Or (b :: rest) pos) tb) : FW X W (.BoolOp .Or (a :: b :: rest) pos) (tOr ta tb) := pw_weak (pw_or ha hb) fun σ H Q ⟨Z, ρ, a, h⟩ => by
  refine ⟨Z, ρ, a, h.bind.mono fun c Z1 s h1 => ?_⟩
  cases c with
  | false => exact ⟨Z1, ρ, a.next s, h1⟩
  | true => exact Aft.now s.ok h1
theorem ft_not (ha : FT X W a ta) : FT X W (.UnaryOp .Not a pos) (tNot ta) := pt_weak (pt_not ha) fun σ H Q ⟨Z, ρ, a, h⟩ => ⟨Z, ρ, a, h.bind.mono fun c Z1 s h1 => Aft.now s.ok h1⟩
/-! .. as values -/
theorem fe_one {op : BoolOp} (h : FE X W a f) : FE X W (.BoolOp op [a] pos) f := pe_one h
theorem fe_and (ha : FE X W a fa) (hb : FE X W (.BoolOp .And (b :: rest) pos) fb) : FE X W (.BoolOp .And (a :: b :: rest) pos) (eAndV fa fb) := pe_weak (pe_and ha hb) fun σ H Q ⟨Z, ρ, a, h⟩ => by
  refine ⟨Z, ρ, a, h.bind.mono fun p Z1 s h1 v hv => ?_⟩
  split at h1
  · cases hv; exact ⟨true, rfl, Z1, ρ, a.next s, h1⟩
  · cases hv; exact ⟨false, rfl, Aft.now s.ok h1 _ (.bl false)⟩
  · exact h1.elim
theorem fe_or (ha : FE X W a fa) (hb : FE X W (.BoolOp .Or (b :: rest) pos) fb) : FE X W (.BoolOp .Or (a :: b :: rest) pos) (eOrV fa fb) := pe_weak (pe_or ha hb) fun σ H Q ⟨Z, ρ, a, h⟩ => by
  refine ⟨Z, ρ, a, h.bind.mono fun p Z1 s h1 v hv => ?_⟩
  split at h1
  · cases hv; exact ⟨true, rfl, Aft.now s.ok h1 _ (.bl true)⟩
  · cases hv; exact ⟨false, rfl, Z1, ρ, a.next s, h1⟩
  · exact h1.elim
theorem fe_not (ha : FE X W a fa) : FE X W (.UnaryOp .Not a pos) (eNotV fa) := pe_weak (pe_not ha) fun σ H Q ⟨Z, ρ, a, h⟩ => by
  refine ⟨Z, ρ, a, h.bind.mono fun p Z1 s h1 v hv => ?_⟩
  split at h1
  · rename_i c
    cases hv
    exact ⟨c, rfl, Aft.now s.ok h1 _ (.bl _)⟩
  · exact h1.elim
theorem fe_if {c : Expr} (hc : FT X W c ta) (ha : FE X W a fa) (hb : FE X W b fb) : FE X W (.IfExp c a b pos) (eIf ta fa fb) := pe_weak (pe_ifExp hc ha hb) fun σ H Q ⟨Z, ρ, a, h⟩ => by
  refine ⟨Z, ρ, a, h.bind.mono fun c Z1 s h1 => ?_⟩
  cases c with
  | true => exact ⟨Z1, ρ, a.next s, h1⟩
  | false => exact ⟨Z1, ρ, a.next s, h1⟩

/-! ### calls of built-ins -/
theorem one_argM {M : Md} {o : Op1} {σ : Slots} {H : Hp} {Q : VK} (h : tM M W (eOp1 o f) σ H Q) : tA M W (eCons f eNil) σ H fun vs H1 => c1 M o vs H1 Q := by
  obtain ⟨Z, ρ, a, h⟩ := h
  refine ⟨Z, ρ, a, ?_⟩
  unfold eOp1 at h
  unfold eCons eNil
  cases e : f ρ Z.S with
  | bad => rw [e] at h; exact h.elim
  | ex c S' => rw [e] at h; exact h
  | ok p S' =>
    rw [e] at h
    refine fun Z1 s hS vs hvs => ?_
    cases hvs with
    | cons r t =>
      cases t
      refine ⟨_, rfl, Z1, p, s.M.trans a.M, s.ok, rfl, r, ?_⟩
      exact (h.bind Z1 s hS).of
variable {x : Str} {p : Pos}
theorem fe_callB {id : String} {o : Op1} (ho : CaM1 X (.builtin id) o) (hg : Gl X x) (hm : X.mg x = none) (hv : bootBuiltins x = some (.builtin id)) (ha : FE X W e f) (hn : x ≠ "__name__" := by decide) (hdb : (x == ("__debug__" : Str)) = false := by decide)
    (he : starEach (e :: []) X.env = (false, eval e X.env) :: starEach [] X.env := by rfl) : FE X W (.Call (.Name x p) [e] [] pos) (eOp1 o f) := pe_weak (pe_callB ho hg hm hv (fa_cons ha fa_nil he) hn hdb he rfl) fun _ _ _ h => one_argM h
theorem fe_callT {T : String} {o : Op1} (ho : CaM1 X (.type T) o) (hg : Gl X x) (hm : X.mg x = none) (hv : bootBuiltins x = some (.type T)) (ha : FE X W e f) (hn : x ≠ "__name__" := by decide) (hdb : (x == ("__debug__" : Str)) = false := by decide)
    (he : starEach (e :: []) X.env = (false, eval e X.env) :: starEach [] X.env := by rfl) : FE X W (.Call (.Name x p) [e] [] pos) (eOp1 o f) := pe_weak (pe_callTy ho hg hm hv (fa_cons ha fa_nil he) hn hdb he rfl) fun _ _ _ h => one_argM h
end

/-! ### methods of built-in types -/
theorem Rc.tyV {c : Rc} {Z : Sit} {p : DK.P} {v : V} (ok : Z.Ok) (h : c.ok Z.S p = true) (hp : Z.P p v) : L2.tyV Z.M.K c.nm v Z.H := by
  unfold Rc.ok at h
  split at h
  · cases hp; rfl
  · cases hp with
    | lst h1 _ => exact .inl ⟨rfl, _, h1.seq⟩
  · rename_i i
    obtain ⟨a, ea, rfl⟩ := hp
    split at h
    · rename_i l hl
      obtain ⟨xs, hx, _⟩ := cell_L ok ea (.inl hl)
      exact .inl ⟨rfl, xs, .of hx⟩
    · rename_i l hl
      obtain ⟨xs, hx, _⟩ := cell_L ok ea (.inr hl)
      exact .inl ⟨rfl, xs, .of hx⟩
    · cases h
  · cases h
section
variable {X : Cx} {W : WX} {a b e : Expr} {fa fb : Ex} {apos cpos : Pos} {id : String} {name : Str} {c : Rc}
abbrev MtM1 (X : Cx) (id : String) (o : Op2) : Prop := MtR X id fun x xs H Q => ∃ y, xs = [y] ∧ r2 (md X) o x y H Q
abbrev MtM0 (X : Cx) (id : String) (o : Op1) : Prop := MtR X id fun x xs H Q => xs = [] ∧ r1 (md X) o x H Q
theorem fe_mt1 {o : Op2} (pa : PlainAttrs c.nm) (slot : Slot c.nm name id) (hty : typeOf (.builtin id) = pure (.type "method_descriptor")) (hm : MtM1 X id o) (ho : FE X W a fa) (hb : FE X W b fb)
    (hbase : attributeBase a name X.env (eval a X.env) = eval a X.env := by rfl)
    (hfew : ((backTo cpos (starEach (b :: []) X.env)).all (fun x => !x.1) && (backToKw cpos (keywordEach [] X.env)).all (fun x => x.1.isSome)
      && decide ((b :: ([] : List Expr)).length + ([] : List Keyword).length + (if ([] : List Keyword).isEmpty then 0 else 1) < 30)) = true := by rfl)
    (hline : (apos.endLine == cpos.line) = true := by rfl) (hs : starEach (b :: []) X.env = (false, eval b X.env) :: starEach [] X.env := by rfl) : FE X W (.Call (.Attribute a name apos) [b] [] cpos) (eMt1 c o fa fb) :=
  pe_weak (pe_bm pa slot hty hm ho (fa_cons hb fa_nil hs) hbase hfew hline hs rfl) fun σ H Q ⟨Z, ρ, at_, h⟩ => by
    refine ⟨Z, ρ, at_, h.bind.mono fun p Z1 s h1 v hv => ?_⟩
    by_cases hc : c.ok Z1.S p = true
    · rw [if_pos hc] at h1
      have hK : Z1.M.K = X.K := by rw [s.M, at_.M]
      refine ⟨by rw [← hK]; exact Rc.tyV s.ok hc hv, Z1, ρ, at_.next s, ?_⟩
      unfold eCons eNil
      cases e : fb ρ Z1.S with
      | bad => rw [e] at h1; exact h1.elim
      | ex c S' => rw [e] at h1; exact h1
      | ok q S' =>
        rw [e] at h1
        refine fun Z2 s2 hS vs hvs => ?_
        cases hvs with
        | cons r t =>
          cases t
          exact ⟨_, rfl, Z2, p, q, s2.M.trans (s.M.trans at_.M), s2.ok, rfl, s2.P hv, r, (h1.bind Z2 s2 hS).of⟩
    · rw [if_neg hc] at h1; exact h1.elim
theorem fe_mt0 {o : Op1} (pa : PlainAttrs c.nm) (slot : Slot c.nm name id) (hty : typeOf (.builtin id) = pure (.type "method_descriptor")) (hm : MtM0 X id o) (ho : FE X W a fa)
    (hbase : attributeBase a name X.env (eval a X.env) = eval a X.env := by rfl) (hline : (apos.endLine == cpos.line) = true := by rfl) : FE X W (.Call (.Attribute a name apos) [] [] cpos) (eMt0 c o fa) :=
  pe_weak (pe_bm0 pa slot hty hm ho hbase hline) fun σ H Q ⟨Z, ρ, at_, h⟩ => by
    refine ⟨Z, ρ, at_, h.bind.mono fun p Z1 s h1 v hv => ?_⟩
    by_cases hc : c.ok Z1.S p = true
    · rw [if_pos hc] at h1
      have hK : Z1.M.K = X.K := by rw [s.M, at_.M]
      exact ⟨by rw [← hK]; exact Rc.tyV s.ok hc hv, rfl, Z1, p, s.M.trans at_.M, s.ok, rfl, hv, h1.of⟩
    · rw [if_neg hc] at h1; exact h1.elim
theorem mm_append : MtM1 X "list.append" oAppend := fun pins s σ H x xs v us Q I rx rs ⟨y, e, Z, p, q, hM, ok, hH, hp, hq, h⟩ => by
  subst e hH
  cases p with
  | d _ => exact h.elim
  | r i =>
    obtain ⟨a, ea, rfl⟩ := hp
    unfold oAppend at h
    dsimp only at h
    cases hl : Z.S[i]? with
    | none => rw [hl] at h; exact h.elim
    | some c =>
      rw [hl] at h
      cases c with
      | lst l =>
        obtain ⟨hz, h⟩ := AftO.ite h
        obtain ⟨xs, hx, pa⟩ := cell_L ok ea (.inl hl)
        refine mt_append pins s σ _ _ _ v us Q I rx rs ⟨a, xs, y, rfl, rfl, hx, by rw [← pa.length, ← LINE_eq]; exact hz, ?_⟩
        have st : Stp Z (Z.wr i a (.lst (xs ++ [y])) (.lst (l ++ [q]))) := ok.wr ea hl rfl fun hP hR => ⟨_, upd_same, PA.append (L2.Paired.mapP pa fun _ _ => hP) (.cons (hP hq) .nil)⟩
        exact h _ st rfl _ .non
      | _ => exact h.elim
theorem PA.dropLast {Z : Sit} {l : List DK.P} {vs : List V} (h : Z.PA l vs) : Z.PA l.dropLast vs.dropLast := by
  induction h with
  | nil => exact .nil
  | cons r t ih =>
    cases t with
    | nil => exact .nil
    | cons q t' => exact .cons r ih
theorem mm_pop : MtM0 X "list.pop" oPop := fun pins s σ H x xs v us Q I rx rs ⟨e, Z, p, hM, ok, hH, hp, h⟩ => by
  subst e hH
  unfold oPop at h
  split at h
  · rename_i i
    obtain ⟨a, ea, rfl⟩ := hp
    split at h
    · rename_i l hl
      obtain ⟨r, hr, h⟩ := h.okOr
      obtain ⟨xs, hx, pa⟩ := cell_L ok ea (.inl hl)
      rw [List.getLast?_eq_getElem?] at hr
      obtain ⟨w, hw, rw_⟩ := PA_get pa hr
      have e1 := pa.length
      refine mt_pop pins s σ _ _ _ v us Q I rx rs ⟨a, xs, w, rfl, rfl, hx, by rw [← e1]; exact hw, ?_⟩
      have st : Stp Z (Z.wr i a (.lst xs.dropLast) (.lst l.dropLast)) := ok.wr ea hl rfl fun hP hR => ⟨_, upd_same, PA.dropLast (L2.Paired.mapP pa fun _ _ => hP)⟩
      exact h _ st rfl _ (st.P rw_)
    · exact h.elim
  · exact h.elim
theorem txts_ok {Z : Sit} : ∀ {l : List DK.P} {vs : List V} {ys : List Str}, txts l = some ys → Z.PA l vs → vs = ys.map V.str ∧ ∀ y ∈ ys, PyData.strOk y = true
  | [], _, _, e, .nil => by cases e; exact ⟨rfl, by simp⟩
  | .d (.str x) :: l, _, _, e, .cons r t => by
    simp only [txts] at e
    split at e
    · rename_i q hq
      cases e
      obtain ⟨h1, h2⟩ := txts_ok hq t
      cases r with
      | str _ a1 a2 =>
        subst h1
        exact ⟨rfl, fun y hy => by
          rcases List.mem_cons.mp hy with rfl | hy
          · exact a2
          · exact h2 y hy⟩
    · cases e
  | .d .none :: _, _, _, e, _ => by cases e
  | .d (.bool _) :: _, _, _, e, _ => by cases e
  | .d (.int _) :: _, _, _, e, _ => by cases e
  | .d (.list _) :: _, _, _, e, _ => by cases e
  | .d (.tuple _) :: _, _, _, e, _ => by cases e
  | .d (.dict _) :: _, _, _, e, _ => by cases e
  | .r _ :: _, _, _, e, _ => by cases e
theorem join_cps (a : Str) (ys : List Str) : (Txt.join a ys).cps = (ys.drop 1).foldl (fun acc p => acc ++ a.cps ++ p.cps) (ys.headD Str.empty).cps := rfl
theorem join_fold_ok {a : Str} : ∀ (ys : List Str) (acc : Array Nat), PyData.strOk a = true → (∀ y ∈ ys, PyData.strOk y = true) → acc.all (· < 0x110000) = true → (ys.foldl (fun acc p => acc ++ a.cps ++ p.cps) acc).all (· < 0x110000) = true ∧
    (ys.foldl (fun acc p => acc ++ a.cps ++ p.cps) acc).size = acc.size + (ys.map (·.length)).sum + ys.length * a.length
  | [], acc, _, _, h => ⟨h, by simp⟩
  | y :: ys, acc, ha, hy, h => by
    have h1 : (acc ++ a.cps ++ y.cps).all (· < 0x110000) = true := by
      rw [Array.all_append, Array.all_append, h, show a.cps.all (· < 0x110000) = true from ha, show y.cps.all (· < 0x110000) = true from hy y (by simp)] <;> rfl
    obtain ⟨h2, h3⟩ := join_fold_ok ys (acc ++ a.cps ++ y.cps) ha (fun z hz => hy z (by simp [hz])) h1
    refine ⟨h2, ?_⟩
    rw [List.foldl_cons, h3]
    simp only [Array.size_append, List.map_cons, List.sum_cons, List.length_cons, Str.length, Nat.succ_mul]
    omega
theorem join_ok {a : Str} {ys : List Str} (ha : PyData.strOk a = true) (hy : ∀ y ∈ ys, PyData.strOk y = true) (hz : (ys.map (·.length)).sum + ys.length * a.length ≤ LINE) : (Txt.join a ys).length ≤ LINE ∧ PyData.strOk (Txt.join a ys) = true := by
  cases ys with
  | nil => exact ⟨by show (0 : Nat) ≤ LINE; exact Nat.zero_le _, show PyData.strOk Str.empty = true by decide +kernel⟩
  | cons y ys =>
    obtain ⟨h2, h3⟩ := join_fold_ok ys y.cps ha (fun z hz => hy z (by simp [hz])) (show y.cps.all (· < 0x110000) = true from hy y (by simp))
    constructor
    · show (Txt.join a (y :: ys)).cps.size ≤ LINE
      rw [join_cps]
      show (ys.foldl (fun acc p => acc ++ a.cps ++ p.cps) y.cps).size ≤ LINE
      rw [h3]
      simp only [List.map_cons, List.sum_cons, List.length_cons, Nat.succ_mul, Str.length] at hz ⊢
      omega
    · show (Txt.join a (y :: ys)).cps.all _ = true
      rw [join_cps]; exact h2
theorem mm_join : MtM1 X "str.join" oJoin := fun pins s σ H x xs v us Q I rx rs ⟨y, e, Z, p, q, hM, ok, hH, hp, hq, h⟩ => by
  subst e hH
  unfold oJoin at h
  split at h
  · obtain ⟨l, e, h⟩ := h.okOr
    obtain ⟨ys, e2, h⟩ := h.okOr
    obtain ⟨hz, h⟩ := h.ite
    obtain ⟨a, xs, rfl, sq, pa⟩ := litems_ok ok e hq
    obtain ⟨rfl, hy⟩ := txts_ok e2 pa
    have hK : Z.M.K = X.K := by rw [hM]
    rw [hK] at sq
    cases hp with
    | str _ a1 a2 =>
      have j := join_ok a2 hy hz
      exact mt_join pins s σ _ _ _ v us Q I rx rs ⟨_, a, ys, rfl, rfl, .inl sq, hz, AftO.now ok h _ (.str _ j.1 j.2)⟩
  · exact h.elim
end
end DK

end SDKStm

section SDKRun
set_option Elab.async false
set_option linter.all false
set_option autoImplicit false
set_option maxHeartbeats 1000000
/-! DKRun: what is walked, comprehensions, calls of the text's own defs, statements, defs. -/
namespace DK
open PySem PySem.Spec PyProof.Rows L2

/-! ### what is walked -/
def Walk (J : It) (Z : Sit) (ps : List DK.P) : Prop := ∀ Z', Stp Z Z' → ∀ i : Nat,
  (∀ p, ps[i]? = some p → J.go i Z'.H ∧ ∀ x H', J.yld i Z'.H x H' → ∃ Z'', Stp Z' Z'' ∧ Z''.S = Z'.S ∧ Z''.H = H' ∧ Z''.P p x) ∧ (ps[i]? = none → J.stop i Z'.H)
def tI (M : Md) (W : WX) (f : Exs) : TI := fun σ H R => ∃ Z ρ, At M Z σ ρ H ∧ Aft Z (fun c d H' => W c d σ H') (f ρ Z.S) fun ps Z1 => ∀ J, Walk J Z1 ps → R J Z1.H
theorem Walk.step {J : It} {Z Z1 : Sit} {ps : List DK.P} (h : Walk J Z ps) (s : Stp Z Z1) : Walk J Z1 ps := fun Z' s' => h Z' (s.trans s')
theorem walk_list {Z : Sit} {a : Addr} {xs : List V} {ps : List DK.P} (h : Lq Z.M.K Z.L Z.H a xs) (hp : Z.PA ps xs) : Walk (Itl Z.M.K a) Z ps := fun Z' s i => by
  have h' : SqL Z.M.K Z'.H a xs := (h.mono s.kpL s.lvL).seq
  have hp' := s.PA hp
  refine ⟨fun p e => ?_, fun e => ⟨xs, h', by rw [← hp'.length]; exact List.getElem?_eq_none_iff.mp e⟩⟩
  obtain ⟨v, hv, r⟩ := PA_get hp' e
  exact ⟨⟨xs, v, h', hv⟩, fun x H' ⟨e1, e2⟩ => ⟨Z', .refl s.ok, rfl, e1.symm, by
    have := e2 xs h'
    rw [hv] at this
    cases this
    exact r⟩⟩
theorem walk_tup {Z : Sit} {a : Addr} {xs : List V} {ps : List DK.P} (h : Tq Z.M.K Z.L Z.H a xs) (hp : Z.PA ps xs) : Walk (Itt Z.M.K a) Z ps := fun Z' s i => by
  have h' : SqT Z.M.K Z'.H a xs := (h.mono s.kpL s.lvL).seq
  have hp' := s.PA hp
  refine ⟨fun p e => ?_, fun e => ⟨xs, h', by rw [← hp'.length]; exact List.getElem?_eq_none_iff.mp e⟩⟩
  obtain ⟨v, hv, r⟩ := PA_get hp' e
  exact ⟨⟨xs, v, h', hv⟩, fun x H' ⟨e1, e2⟩ => ⟨Z', .refl s.ok, rfl, e1.symm, by
    have := e2 xs h'
    rw [hv] at this
    cases this
    exact r⟩⟩
theorem rng_get {lo : Int} {n i : Nat} : (rng lo n)[i]? = if i < n then some (vI (lo + (i : Int))) else none := by
  unfold rng
  rw [List.getElem?_map]
  by_cases h : i < n
  · rw [if_pos h, List.getElem?_range h]; rfl
  · rw [if_neg h, List.getElem?_eq_none (by simp; omega)]; rfl
theorem walk_rng {Z : Sit} {lo : Int} {n : Nat} : Walk (Itr lo n) Z (rng lo n) := fun Z' s i => by
  rw [rng_get]
  by_cases h : i < n
  · rw [if_pos h]
    refine ⟨fun p e => ?_, fun e => nomatch e⟩
    injection e with e
    subst e
    exact ⟨h, fun x H' ⟨e1, e2⟩ => ⟨Z', .refl s.ok, rfl, e1.symm, by rw [e2]; exact Rp.int _⟩⟩
  · rw [if_neg h]
    exact ⟨fun p e => (nomatch e), fun _ => by show n ≤ i; omega⟩
section
variable {X : Cx} {W : WX} {a b l : Expr} {fa fb f : Ex} {tg : Expr} {pos p : Pos}
/-- a list or tuple, by its value -/
theorem pi_both {tl : TE} (hl : PE X l tl) : PI X tg l fun σ H R => tl σ H fun x H1 => (∃ a xs, x = .ref a ∧ SqL X.K H1 a xs ∧ R (Itl X.K a) H1) ∨ (∃ a xs, x = .ref a ∧ SqT X.K H1 a xs ∧ R (Itt X.K a) H1) := by
  refine ⟨fun pins s σ H R I h => ?_⟩
  refine thn (hl.run pins s σ H _ I h) fun v s1 ⟨x, H1, I1, r1, q1⟩ => ?_
  rcases q1 with ⟨a, xs, e, hq, q⟩ | ⟨a, xs, e, hq, q⟩
  · subst e
    cases r1
    obtain ⟨its, rv, p, hz⟩ := I1.list hq
    refine wpAny_pyIter_list p.isList ?_
    refine ⟨s1.heap.objs.size, [s1.heap.objs.size], _, _, H1, rfl, I1.kept (t' := s1.toks) fun b o e => Heap.get?_push_of_some _ e, turn_list a _, ⟨_, Heap.get?_push_size _ rfl, rfl, rfl⟩, fun b hb => ?_, q⟩
    have e : b = s1.heap.objs.size := by simpa using hb
    subst e
    exact I1.fpOk (Nat.le_refl _) (I1.hok.fresh (Nat.le_refl _))
  · subst e
    cases r1
    obtain ⟨its, rv, p, hz⟩ := I1.tuple hq
    refine wpAny_pyIter_tuple (show s1.heap.IsTuple a its.toArray from p) ?_
    refine ⟨s1.heap.objs.size, [s1.heap.objs.size], _, _, H1, rfl, I1.kept (t' := s1.toks) fun b o e => Heap.get?_push_of_some _ e, turn_tuple a _, ⟨_, Heap.get?_push_size _ rfl, rfl, rfl⟩, fun b hb => ?_, q⟩
    have e : b = s1.heap.objs.size := by simpa using hb
    subst e
    exact I1.fpOk (Nat.le_refl _) (I1.hok.fresh (Nat.le_refl _))
theorem pi_weak {wi wi' : TI} (h : PI X tg l wi) (k : ∀ σ H R, wi' σ H R → wi σ H R) : PI X tg l wi' := ⟨fun pins s σ H R I q => h.run pins s σ H R I (k σ H R q)⟩
abbrev FI (X : Cx) (W : WX) (tg l : Expr) (f : Exs) : Prop := PI X tg l (tI (md X) W f)
theorem fi_seq (hl : FE X W l f) : FI X W tg l (iSeq f) := pi_weak (pi_both hl) fun σ H R ⟨Z, ρ, at_, h⟩ => by
  refine ⟨Z, ρ, at_, h.bind.mono fun p Z1 s h1 v hv => ?_⟩
  have hK : Z1.M.K = X.K := by rw [s.M, at_.M]
  cases p with
  | d x =>
    cases x with
    | list ds =>
      cases hv with
      | @lst a xs _ hq ra =>
        refine .inl ⟨a, xs, rfl, by rw [← hK]; exact hq.seq, ?_⟩
        rw [← hK]
        exact Aft.now s.ok h1 _ (walk_list hq (RA_map ra))
    | tuple ds =>
      cases hv with
      | @tup a xs _ hq ra =>
        refine .inr ⟨a, xs, rfl, by rw [← hK]; exact hq.seq, ?_⟩
        rw [← hK]
        exact Aft.now s.ok h1 _ (walk_tup hq (RA_map ra))
    | _ => exact h1.elim
  | r i =>
    obtain ⟨a, ea, rfl⟩ := hv
    dsimp only at h1
    cases hl : Z1.S[i]? with
    | none => rw [hl] at h1; exact h1.elim
    | some c =>
      rw [hl] at h1
      cases c with
      | lst l =>
        obtain ⟨xs, hx, pa⟩ := cell_L s.ok ea (.inl hl)
        refine .inl ⟨a, xs, rfl, .of hx, ?_⟩
        have st := s.ok.fr i
        rw [← hK]
        exact h1 _ st rfl _ (walk_list (Z := Z1.fr i) (.inl ⟨.inl hx, st.ok.frNot ea (fr_at (.inl hl))⟩) (st.PA pa))
      | fz l =>
        obtain ⟨xs, hx, pa⟩ := cell_L s.ok ea (.inr hl)
        refine .inl ⟨a, xs, rfl, .of hx, ?_⟩
        rw [← hK]
        exact Aft.now s.ok h1 _ (walk_list (.inl ⟨.inl hx, s.ok.frNot ea hl⟩) pa)
      | _ => exact h1.elim
theorem fi_rng1 (hg : Gl X "range") (hm : X.mg "range" = none) (ha : FE X W a fa) (hs : starEach [a] X.env = [(false, eval a X.env)] := by rfl) : FI X W tg (.Call (.Name "range" p) [a] [] pos) (iRng1 fa) := pi_weak (pi_range1 hg hm (fa_cons ha fa_nil (by rw [hs]; rfl)) hs) fun σ H R ⟨Z, ρ, at_, h⟩ => by
  refine ⟨Z, ρ, at_, ?_⟩
  unfold iRng1 at h
  unfold eCons eNil
  cases e : fa ρ Z.S with
  | bad => rw [e] at h; exact h.elim
  | ex c S' => rw [e] at h; exact h
  | ok q S' =>
    rw [e] at h
    refine fun Z2 s2 hS vs hvs => ?_
    have h1 := h.bind Z2 s2 hS
    dsimp only at h1
    cases hvs with
    | cons r t =>
      cases t
      split at h1
      · cases r
        split at h1
        · rename_i j hj
          exact ⟨_, rfl, hj.1, hj.2, Aft.now s2.ok h1 _ walk_rng⟩
        · exact h1.elim
      · exact h1.elim
theorem fi_rng2 (hg : Gl X "range") (hm : X.mg "range" = none) (ha : FE X W a fa) (hb : FE X W b fb) (hs : starEach [a, b] X.env = [(false, eval a X.env), (false, eval b X.env)] := by rfl) (hs2 : starEach [b] X.env = [(false, eval b X.env)] := by rfl) : FI X W tg (.Call (.Name "range" p) [a, b] [] pos) (iRng2 fa fb) := pi_weak (pi_range2 hg hm (fa_cons ha (fa_cons hb fa_nil (by rw [hs2]; rfl)) (by rw [hs, hs2])) hs hs2) fun σ H R ⟨Z, ρ, at_, h⟩ => by
  refine ⟨Z, ρ, at_, ?_⟩
  unfold iRng2 at h
  unfold eCons eNil
  cases e : fa ρ Z.S with
  | bad => rw [e] at h; exact h.elim
  | ex c S' => rw [e] at h; exact h
  | ok q S' =>
    rw [e] at h
    dsimp only [Out.bind] at h ⊢
    cases e2 : fb ρ S' with
    | bad => rw [e2] at h; exact h.elim
    | ex c S' => rw [e2] at h; exact h
    | ok q2 S2 =>
      rw [e2] at h
      dsimp only [Out.bind] at h ⊢
      refine fun Z2 s2 hS vs hvs => ?_
      subst hS
      have h1 := Aft.step s2 h
      cases hvs with
      | cons r t =>
        cases t with
        | cons r2 t =>
          cases t
          split at h1
          · cases r; cases r2
            split at h1
            · rename_i i j hj
              exact ⟨_, _, rfl, ⟨hj.1.1, hj.1.2, hj.2.1, hj.2.2⟩, Aft.now s2.ok h1 _ walk_rng⟩
            · exact h1.elim
          · exact h1.elim
end

/-! ### targets -/
def tG (M : Md) (is : List Nat) (g : Tg) : TG := fun v σ H Q => ∃ Z ρ p ρ', At M Z σ ρ H ∧ Z.P p v ∧ g p ρ = some ρ' ∧ ∀ σ', Z.E σ' ρ' → (∀ vs, (∀ i ∈ is, i ∈ vs) → L2.wipe σ' vs = L2.wipe σ vs) → Q σ' H
def tGs (M : Md) (is : List Nat) : TGs := fun vs σ H Q => ∃ Z ρ ps ρ', At M Z σ ρ H ∧ Z.PA ps vs ∧ gTs is ps ρ = some ρ' ∧ ∀ σ', Z.E σ' ρ' → (∀ vs, (∀ i ∈ is, i ∈ vs) → L2.wipe σ' vs = L2.wipe σ vs) → Q σ' H
theorem Sit.E.set {Z : Sit} {σ : Slots} {ρ : Env} (h : Z.E σ ρ) {p : DK.P} {v : V} (r : Z.P p v) (i : Nat) : Z.E (σ.set i (some v)) (ρ.set i (some p)) := by
  refine ⟨by simp [h.1], fun j q e => ?_⟩
  by_cases hj : i = j
  · subst hj
    by_cases hi : i < ρ.length
    · rw [List.getElem?_set_self hi] at e
      cases e
      exact ⟨v, by rw [List.getElem?_set_self (by rw [← h.1]; exact hi)], r⟩
    · rw [List.getElem?_eq_none (by simpa using hi)] at e
      cases e
  · rw [List.getElem?_set_ne hj] at e
    obtain ⟨w, h1, h2⟩ := h.2 j q e
    exact ⟨w, by rw [List.getElem?_set_ne hj]; exact h1, h2⟩
theorem set_none_set {α : Type} (l : List (Option α)) (i : Nat) (x : Option α) : (l.set i x).set i none = l.set i none := by
  apply List.ext_getElem?
  intro j
  by_cases h : i = j
  · subst h
    by_cases hl : i < l.length
    · rw [List.getElem?_set_self (by simpa using hl), List.getElem?_set_self hl]
    · rw [List.getElem?_eq_none (by simpa using hl), List.getElem?_eq_none (by simpa using hl)]
  · rw [List.getElem?_set_ne h, List.getElem?_set_ne h, List.getElem?_set_ne h]
theorem wipe_set {σ : Slots} {i : Nat} {x : Option V} : ∀ {vs : List Nat}, i ∈ vs → L2.wipe (σ.set i x) vs = L2.wipe σ vs
  | v :: vs, h => by
    show (L2.wipe (σ.set i x) vs).set v _ = (L2.wipe σ vs).set v _
    by_cases hv : i ∈ vs
    · rw [wipe_set hv]
    · have hi : i = v := by
        rcases List.mem_cons.mp h with h | h
        · exact h
        · exact absurd h hv
      subst hi
      have key : ∀ us : List Nat, i ∉ us → L2.wipe (σ.set i x) us = (L2.wipe σ us).set i x := by
        intro us
        induction us with
        | nil => intro _; rfl
        | cons u us ih =>
          intro hu
          have h1 : i ≠ u := fun e => hu (by simp [e])
          have h2 : i ∉ us := fun e => hu (by simp [e])
          show (L2.wipe (σ.set i x) us).set u _ = ((L2.wipe σ us).set u _).set i x
          rw [ih h2, List.set_comm _ _ h1]
      rw [key vs hv, set_none_set]
theorem wipe_wipe (σ : Slots) : ∀ (vs us : List Nat), (∀ i ∈ us, i ∈ vs) → L2.wipe (L2.wipe σ us) vs = L2.wipe σ vs
  | vs, [], _ => rfl
  | vs, u :: us, h => by
    show L2.wipe ((L2.wipe σ us).set u _) vs = _
    rw [wipe_set (h u (by simp)), wipe_wipe σ vs us fun i hi => h i (by simp [hi])]
theorem Sit.E.none {Z : Sit} {σ : Slots} {ρ : Env} (h : Z.E σ ρ) (i : Nat) : Z.E (σ.set i Option.none) (ρ.set i Option.none) := by
  refine ⟨by simp [h.1], fun j q e => ?_⟩
  by_cases hj : i = j
  · subst hj
    by_cases hi : i < ρ.length
    · rw [List.getElem?_set_self hi] at e
      cases e
    · rw [List.getElem?_eq_none (by simpa using hi)] at e
      cases e
  · rw [List.getElem?_set_ne hj] at e
    obtain ⟨w, h1, h2⟩ := h.2 j q e
    exact ⟨w, by rw [List.getElem?_set_ne hj]; exact h1, h2⟩
theorem Sit.E.wipe {Z : Sit} {σ : Slots} {ρ : Env} (h : Z.E σ ρ) : ∀ vs : List Nat, Z.E (L2.wipe σ vs) (DK.wipe ρ vs)
  | [] => h
  | v :: vs => (Sit.E.wipe h vs).none v
/-- slots that the reading has forgotten -/
theorem Sit.E.forget {Z : Sit} {σ : Slots} {ρ : Env} (h : Z.E σ ρ) (i : Nat) : Z.E σ (ρ.set i Option.none) := by
  refine ⟨by simp [h.1], fun j q e => ?_⟩
  by_cases hj : i = j
  · subst hj
    by_cases hi : i < ρ.length
    · rw [List.getElem?_set_self hi] at e
      cases e
    · rw [List.getElem?_eq_none (by simpa using hi)] at e
      cases e
  · rw [List.getElem?_set_ne hj] at e
    exact h.2 j q e
theorem Sit.E.forgets {Z : Sit} {σ : Slots} {ρ : Env} (h : Z.E σ ρ) : ∀ vs : List Nat, Z.E σ (DK.wipe ρ vs)
  | [] => h
  | v :: vs => (Sit.E.forgets h vs).forget v
section
variable {X : Cx} {pos : Pos}
abbrev FG (X : Cx) (tg : Expr) (is : List Nat) (g : Tg) : Prop := PG X tg (tG (md X) is g)
theorem pg_weak {tg : Expr} {t t' : TG} (h : PG X tg t) (k : ∀ v σ H Q, t' v σ H Q → t v σ H Q) : PG X tg t' := ⟨fun pins s σ H v u Q I r q => h.run pins s σ H v u Q I r (k v σ H Q q)⟩
theorem pgs_weak {ts : List Expr} {t t' : TGs} (h : PGs X ts t) (k : ∀ v σ H Q, t' v σ H Q → t v σ H Q) : PGs X ts t' := ⟨fun pins s σ H v u Q I r q => h.run pins s σ H v u Q I r (k v σ H Q q)⟩
theorem fg_name {i : Nat} {x : Str} (hN : X.N.Nodup) (hi : X.N[i]? = some x) (hx : Loc X.env.scope x) (hf : X.fn x = true ∨ X.env.scope.names.lookup x = some .local := by first | exact .inl rfl | exact .inr rfl | assumption) : FG X (.Name x pos) [i] (gN i) := pg_weak (pg_name hN hi hx hf) fun v σ H Q ⟨Z, ρ, p, ρ', a, hp, e, q⟩ => by
  cases e
  exact q _ (a.E.set hp i) fun vs h => wipe_set (h i (by simp))
theorem fgs_nil : PGs X [] (tGs (md X) []) := pgs_weak pgs_nil fun vs σ H Q ⟨Z, ρ, ps, ρ', a, hp, e, q⟩ => by
  cases hp with
  | nil => cases e; exact ⟨rfl, q _ a.E fun _ _ => rfl⟩
  | cons r t => cases e
theorem fgs_cons {t : Expr} {ts : List Expr} {i : Nat} {is : List Nat} (h1 : FG X t [i] (gN i)) (h2 : PGs X ts (tGs (md X) is)) (hs : (assignEach (t :: ts) X.env).map (·.2) = assign t X.env :: (assignEach ts X.env).map (·.2) := by rfl) : PGs X (t :: ts) (tGs (md X) (i :: is)) := pgs_weak (pgs_cons h1 h2 hs) fun vs σ H Q ⟨Z, ρ, ps, ρ', a, hp, e, q⟩ => by
  cases hp with
  | nil => cases e
  | @cons p v ps vs r t =>
    refine ⟨v, vs, rfl, Z, ρ, p, ρ.set i (some p), a, r, rfl, fun σ' hE hw => ⟨Z, _, ps, ρ', ⟨a.M, a.ok, a.H, hE⟩, t, e, fun σ2 hE2 hw2 => q σ2 hE2 fun us hu => ?_⟩⟩
    rw [hw2 us fun j hj => hu j (by simp [hj]), hw us fun j hj => hu j (by simpa using List.mem_cons.mpr (.inl (by simpa using hj)))]
theorem gTs_len : ∀ {is : List Nat} {ps : List DK.P} {ρ ρ' : Env}, gTs is ps ρ = some ρ' → ps.length = is.length
  | [], [], _, _, _ => rfl
  | _ :: is, _ :: ps, _, _, e => by
    have := gTs_len (is := is) (ps := ps) e
    simp [this]
  | [], _ :: _, _, _, e => nomatch e
  | _ :: _, [], _, _, e => nomatch e
theorem fg_tup {es : List Expr} {k : Nat} {is : List Nat} (hc : X.calm = true) (h : PGs X es (tGs (md X) is)) (hn : (assignEach es X.env).length = is.length := by rfl) (hst : (assignEach es X.env).findIdx? (·.1) = none := by rfl) : FG X (.Tuple es k pos) is (gT is) := pg_weak (pg_tup hc h hn hst) fun v σ H Q ⟨Z, ρ, p, ρ', a, hp, e, q⟩ => by
  unfold gT at e
  split at e
  · cases hp with
    | @tup b xs _ hq ra =>
      have hK : Z.M.K = X.K := by rw [a.M]
      have pa := RA_map ra
      refine ⟨b, xs, rfl, ?_, ?_, Z, ρ, _, ρ', a, pa, e, q⟩
      · rw [← a.H, ← hK]; exact hq.seq
      · rw [← pa.length]; exact gTs_len e
  · cases e
end

/-! ### comprehensions -/
theorem lcL_nil {g : Tg} {t : Tx} {e : Ex} {ρ : Env} {acc : List PyData} {S : Sto} : lcL g t e ρ [] acc S = .ok acc S := rfl
section
variable {X : Cx} {W : WX} {elt tg iter : Expr} {ifs : List Expr} {scope : Scope} {own : List (Str × Nat)} {pos spos : Pos} {it : Exs} {g : Tg} {t : Tx} {f : Ex}
abbrev FTs (X : Cx) (W : WX) (ifs : List Expr) (t : Tx) : Prop := PTs X ifs (tT (md X) W t)
theorem fts_nil : FTs X W [] tYes := ⟨fun pins s σ H Q I ⟨Z, ρ, a, h⟩ => pts_nil.run pins s σ H Q I (by show Q true H; rw [← a.H]; exact Aft.now a.ok h)⟩
theorem fts_one {c : Expr} (h : FT X W c t) : FTs X W [c] t := pts_one h
abbrev W0 : WX := fun _ _ _ _ => False
theorem W0_ex {α : Type} {Z : Sit} {E : Value → Option Addr → Hp → Prop} {o : Out α} {R : α → Sit → Prop} (n : ∀ c S', o ≠ .ex c S') (h : Aft Z E o R) : Aft Z (fun _ _ _ => False) o R := by
  cases o with
  | ok a S' => exact h
  | ex c S' => exact absurd rfl (n c S')
  | bad => exact h
theorem noEx_ok {α : Type} {o : Out α} {a : α} {S : Sto} (h : noEx o = .ok a S) : o = .ok a S := by cases o <;> first | exact h | cases h
theorem lc_read {M : Md} {σ : Slots} {ρ : Env} {Z1 : Sit} {ps : List DK.P} {J : It} {own is : List Nat} {Q : VK} {c : Bool} (hM : Z1.M = M) (hE : Z1.E σ ρ) (ok1 : Z1.Ok) (hJ : Walk J Z1 ps) (his : ∀ i ∈ is, i ∈ own) {E : Value → Option Addr → Hp → Prop}
    (hn : Aft Z1 E ((noEx (lcL g t f (wipe ρ own) ps [] Z1.S)).bind fun acc S2 => .of (newL c (acc.map .d) S2)) fun r Z' => ∀ v, Z'.P r v → Q v Z'.H) :
    ∀ D, Z1.H D = none → ∃ Wn : Nat → Nat → Hp → Prop, (∃ m, Wn 0 m (upd Z1.H D (.lst []))) ∧ ∀ i m H, Wn i m H →
      (J.stop i H ∧ Q (.ref D) H) ∨ (J.go i H ∧ ∃ Nx : Hp → Prop, (∀ H', Nx H' → ∃ m', m' < m ∧ Wn (i + 1) m' H') ∧ ∀ x H', J.yld i H x H' → tG M is g x (L2.wipe σ own) H' fun σ2 H2 => L2.wipe σ2 own = L2.wipe σ own ∧ tT M W0 t σ2 H2 fun b H3 =>
        if b = true then tM M W0 f σ2 H3 fun y H4 => ∃ acc, H4 D = some (.lst acc) ∧ acc.length < sizeLine ∧ Nx (upd H4 D (.lst (acc ++ [y]))) else Nx H3) := by
  intro D hD
  -- the run's end
  obtain ⟨accF, S2, run, hn⟩ : ∃ accF S2, lcL g t f (wipe ρ own) ps [] Z1.S = .ok accF S2 ∧ Aft Z1 E (.of (newL c (accF.map .d) S2)) fun r Z' => ∀ v, Z'.P r v → Q v Z'.H := by
    cases e : lcL g t f (wipe ρ own) ps [] Z1.S with
    | bad => rw [e] at hn; exact hn.elim
    | ex c S' => rw [e] at hn; exact hn.elim
    | ok acc S2 => rw [e] at hn; exact ⟨acc, S2, rfl, hn⟩
  refine ⟨fun i m H => m = ps.length - i ∧ i ≤ ps.length ∧ ∃ Z acc vs, Z.M = M ∧ Z.H = H ∧ Z.E (L2.wipe σ own) (wipe ρ own) ∧ Stp Z1 Z ∧ Z.F D ∧ H D = some (.lst vs) ∧ Z.RA acc vs ∧ lcL g t f (wipe ρ own) (ps.drop i) acc Z.S = .ok accF S2,
    ⟨ps.length, by simp, Nat.zero_le _, Z1.guard D (.lst []), [], [], hM, rfl, (ok1.guard hD).E (hE.wipe own), ok1.guard hD, .inr rfl, upd_same, .nil, run⟩, ?_⟩
  rintro i m H ⟨rfl, hi, Z, acc, vs, zM, rfl, zE, st, zF, hD', ra, eq⟩
  have ok := st.ok
  have nLv : ¬ Lv Z.μ Z.S D := fun l => ok.fd D l.mem zF
  have fsub : ∀ b, Z1.F b → Z.F b := st.fsub
  have nF1 : ¬ Z1.F D := fun h => ok1.fs D h hD
  cases hp : ps[i]? with
  | none =>
    refine .inl ⟨(hJ Z st i).2 hp, ?_⟩
    have hl : ps.length ≤ i := List.getElem?_eq_none_iff.mp hp
    rw [List.drop_eq_nil_of_le hl] at eq
    cases eq
    obtain ⟨r, S', e, q⟩ := hn.of.some
    obtain ⟨okF, hR, hP⟩ := ok.lessF (F := Z1.F) fsub
    cases c with
    | false =>
      simp only [newL] at e
      rw [allD_map] at e
      cases e
      have stF : Stp Z1 (Z.withF Z1.F) := ⟨st.M, fun _ h => h, fun _ h => .inl h, st.pre, st.new, st.lv, st.kp, okF⟩
      refine q _ stF rfl _ (.lst (.inl ⟨.inl hD', fun l => ?_⟩) (RpA.mono (fun b o e _ => e) (fun b _ _ n l => n (l.imp (fsub b) id)) ra))
      rcases l with l | l
      · exact nF1 l
      · exact nLv l
    | true =>
      simp only [newL] at e
      cases e
      obtain ⟨okA, lvA⟩ := ok.adopt (c := .lst (accF.map .d)) zF fsub nF1 fun Z' e hP hR => by
        subst e
        exact ⟨vs, hD', L2.Paired.mapP (RA_map ra) (fun _ _ => hP)⟩
      have stA : Stp Z1 (Z.adopt Z1.F D (.lst (accF.map .d))) := by
        refine ⟨st.M, fun _ h => h, fun _ h => .inl h, st.pre.trans (List.prefix_append _ _), fun b hb => ?_, fun b hb => ?_, st.kp, okA⟩
        · rcases List.mem_append.mp hb with hb | hb
          · exact st.new b hb
          · have : b = D := by simpa using hb
            exact .inr (by rw [this]; exact hD)
        · rcases lvA b hb with hb | hb
          · exact st.lv b hb
          · exact .inr (by rw [hb]; exact hD)
      refine q _ stA rfl _ ⟨D, ?_, rfl⟩
      show (Z.μ ++ [D])[Z.S.length]? = some D
      rw [← ok.len]; simp
  | some p =>
    obtain ⟨hgo, hy⟩ := (hJ Z st i).1 p hp
    have hlt : i < ps.length := (List.getElem?_eq_some_iff.mp hp).1
    have hdrop : ps.drop i = p :: ps.drop (i + 1) := by
      rw [List.drop_eq_getElem_cons hlt]
      have : ps[i] = p := Option.some.inj ((List.getElem?_eq_getElem hlt).symm.trans hp)
      rw [this]
    rw [hdrop] at eq
    simp only [lcL] at eq
    refine .inr ⟨hgo, fun H' => ∃ Z acc vs, Z.M = M ∧ Z.H = H' ∧ Z.E (L2.wipe σ own) (wipe ρ own) ∧ Stp Z1 Z ∧ Z.F D ∧ H' D = some (.lst vs) ∧ Z.RA acc vs ∧ lcL g t f (wipe ρ own) (ps.drop (i + 1)) acc Z.S = .ok accF S2,
      fun H' h => ⟨ps.length - (i + 1), by omega, rfl, hlt, h⟩, fun x H' y => ?_⟩
    obtain ⟨Za, sa, eS, eH, hpx⟩ := hy x H' y
    cases eg : g p (wipe ρ own) with
    | none => rw [eg] at eq; cases eq
    | some ρ' =>
      rw [eg] at eq
      dsimp only at eq
      subst eH
      refine ⟨Za, wipe ρ own, p, ρ', ⟨sa.M.trans zM, sa.ok, rfl, sa.E zE⟩, hpx, eg, fun σ2 hE2 hw => ⟨?_, Za, ρ', ⟨sa.M.trans zM, sa.ok, rfl, hE2⟩, ?_⟩⟩
      · rw [hw own his]
        exact wipe_wipe σ own own fun _ h => h
      · rw [eS]
        cases et : t ρ' Z.S with
        | bad => rw [et] at eq; cases eq
        | ex c S' => rw [et] at eq; cases eq
        | ok b S3 =>
          rw [et] at eq
          dsimp only [Out.bind] at eq
          refine fun Zb sb hSb => ?_
          subst hSb
          have sab : Stp Z Zb := sa.trans sb
          cases b with
          | false =>
            rw [if_neg (by decide)] at eq
            dsimp only
            rw [if_neg (by decide)]
            exact ⟨Zb, acc, vs, sab.M.trans zM, rfl, sab.E zE, st.trans sab, sab.fsub D zF, sab.kp D _ hD' nLv, sab.RA ra, eq⟩
          | true =>
            rw [if_pos rfl] at eq
            dsimp only
            rw [if_pos rfl]
            refine ⟨Zb, ρ', ⟨sab.M.trans zM, sab.ok, rfl, sb.E hE2⟩, ?_⟩
            cases ef : f ρ' Zb.S with
            | bad => rw [ef] at eq; cases eq
            | ex c S' => rw [ef] at eq; cases eq
            | ok q S4 =>
              rw [ef] at eq
              dsimp only [Out.bind] at eq
              refine fun Zc sc hSc v hv => ?_
              subst hSc
              have sac : Stp Z Zc := sab.trans sc
              have hDc := sac.kp D _ hD' nLv
              split at eq
              · rename_i y S5 hy5
                split at eq
                · rename_i hlen
                  obtain ⟨Zd, sd, hSd, hHd, rd⟩ := toD_ok sc.ok hy5 hv
                  have sad : Stp Z Zd := sac.trans sd
                  obtain ⟨okU, uR, uP⟩ := sd.ok.upF (sad.fsub D zF) (o := .lst (vs ++ [v]))
                  have rav := (sad.RA ra).length
                  refine ⟨vs, hDc, by rw [← rav, ← LINE_eq]; exact hlen, Zd.withH (upd Zd.H D (.lst (vs ++ [v]))), acc ++ [y], vs ++ [v], sad.M.trans zM, by rw [← hHd]; rfl, ?_, ?_, sad.fsub D zF, upd_same, ?_, by rw [← hSd] at eq; exact eq⟩
                  · exact ⟨(sad.E zE).1, fun j q e => let ⟨w, h1, h2⟩ := (sad.E zE).2 j q e; ⟨w, h1, uP h2⟩⟩
                  · have s1d := st.trans sad
                    exact ⟨s1d.M, s1d.fsub, s1d.fnew, s1d.pre, s1d.new, s1d.lv, fun b o e n => by
                      show (upd Zd.H D _) b = _
                      rw [upd_ne (ne_of_none e hD)]
                      exact s1d.kp b o e n, okU⟩
                  · have := L2.Paired.mapP (PA.append (RA_map (sad.RA ra)) (.cons (show Zd.P (.d y) v from rd) .nil)) (fun _ _ => uP)
                    have e2 : (acc.map DK.P.d ++ [DK.P.d y]) = (acc ++ [y]).map .d := by simp
                    rw [e2] at this
                    exact allD_RA (allD_map _) this
                · cases eq
              · cases eq
theorem fe_lc {is : List Nat} {c : Bool} (hc : X.calm = true) (hN : X.N.Nodup) (hi : FI X W tg iter it) (ok : BlkOk X.N X.env.scope scope own)
    (hg : ∀ (s : Shared) (H : Hp) (C : Addr) (cl : List (Str × Addr)) (fp : List Addr), FG (X.blk s H scope (compEnvC scope cl C X.env) fp) tg is g)
    (ht : ∀ (s : Shared) (H : Hp) (C : Addr) (cl : List (Str × Addr)) (fp : List Addr), FTs (X.blk s H scope (compEnvC scope cl C X.env) fp) W0 ifs t)
    (he : ∀ (s : Shared) (H : Hp) (C : Addr) (cl : List (Str × Addr)) (fp : List Addr), FE (X.blk s H scope (compEnvC scope cl C X.env) fp) W0 elt f)
    (his : ∀ i ∈ is, i ∈ own.map (·.2) := by decide) (hs : ∀ x, foldedSetIterable iter X.env x = pure x := by intro _; rfl) : FE X W (.ListComp elt [⟨tg, iter, ifs, 0⟩] scope pos) (eLcN c (own.map (·.2)) it g t f) :=
  pe_weak (pe_lc hc hN hi ok hg ht he hs) fun σ H Q ⟨Z, ρ, a, h⟩ => by
    refine ⟨Z, ρ, a, h.bind.mono fun ps Z1 s h1 J hJ => ?_⟩
    exact lc_read (s.M.trans a.M) (s.E a.E) s.ok hJ his h1
theorem fs_asgLc_read {is : List Nat} {c : Bool} {σ : Slots} {H : Hp} {Q : VK} (his : ∀ i ∈ is, i ∈ own.map (·.2)) (h : tM (md X) W (eLcN c (own.map (·.2)) it g t f) σ H Q) : tLc (tI (md X) W it) (tG (md X) is g) (tT (md X) W0 t) (tM (md X) W0 f) (own.map (·.2)) σ H Q := by
  obtain ⟨Z, ρ, a, h⟩ := h
  refine ⟨Z, ρ, a, h.bind.mono fun ps Z1 s h1 J hJ => ?_⟩
  exact lc_read (s.M.trans a.M) (s.E a.E) s.ok hJ his h1
end
end DK

end SDKRun

section SDKFn
set_option Elab.async false
set_option linter.all false
set_option autoImplicit false
set_option maxHeartbeats 1000000
/-! DKFn: statements; defs and their calls. -/
namespace DK
open PySem PySem.Spec PyProof.Rows L2

/-! ### statements -/
def AftS (Z : Sit) (W : WX) (r : SR) (D : Ends) : Prop := match r with
  | .nx ρ' S' => ∀ Z' σ', Stp Z Z' → Z'.S = S' → Z'.E σ' ρ' → D.nx σ' Z'.H
  | .rt p S' => ∀ Z' v, Stp Z Z' → Z'.S = S' → Z'.P p v → D.rt v Z'.H
  | .ex c ρ' S' => ∀ Z' σ', Stp Z Z' → Z'.S = S' → Z'.E σ' ρ' → W (Z.M.xv c) none σ' Z'.H
  | .bad => False
def tS (M : Md) (W : WX) (f : Sx) : TS := fun D σ H => ∃ Z ρ, At M Z σ ρ H ∧ AftS Z W (f ρ Z.S) D
theorem AftS.step {Z Z1 : Sit} {W : WX} {r : SR} {D : Ends} (s : Stp Z Z1) (h : AftS Z W r D) : AftS Z1 W r D := by
  cases r with
  | nx ρ' S' => exact fun Z' σ' t e => h Z' σ' (s.trans t) e
  | rt p S' => exact fun Z' v t e => h Z' v (s.trans t) e
  | ex c ρ' S' => exact fun Z' σ' t e => by rw [s.M]; exact h Z' σ' (s.trans t) e
  | bad => exact h
theorem AftS.then {α : Type} {Z : Sit} {W : WX} {σ : Slots} {ρ : Env} {o : Out α} {k : α → Sto → SR} {D : Ends} (hE : Z.E σ ρ) (h : AftS Z W (o.then ρ k) D) : Aft Z (fun c d H' => W c d σ H') o fun a Z1 => AftS Z1 W (k a Z1.S) D := by
  cases o with
  | ok a S' => exact fun Z' t e => by show AftS Z' W (k a Z'.S) D; rw [e]; exact AftS.step t h
  | ex c S' => exact fun Z' t e => h Z' σ t e (t.E hE)
  | bad => exact h
theorem AftS.nx {Z : Sit} {W : WX} {σ : Slots} {ρ : Env} {D : Ends} (ok : Z.Ok) (h : AftS Z W (.nx ρ Z.S) D) (hE : Z.E σ ρ) : D.nx σ Z.H := h Z σ (.refl ok) rfl hE
section
variable {X : Cx} {W : WX} {st : Stmt} {sts body : List Stmt} {e tg iter c : Expr} {f : Ex} {t : Tx} {it : Exs} {a b : Sx} {g : Tg} {is : List Nat} {pos : Pos}
abbrev FS (X : Cx) (W : WX) (st : Stmt) (f : Sx) : Prop := PS X st (tS (md X) W f)
abbrev FSs (X : Cx) (W : WX) (sts : List Stmt) (f : Sx) : Prop := PSs X sts (tS (md X) W f)
theorem fss_nil : FSs X W [] sSkip := pss_weak pss_nil fun D σ H ⟨Z, ρ, at_, h⟩ => by
  show D.nx σ H; rw [← at_.H]; exact h.nx at_.ok at_.E
theorem fss_one (h : FS X W st a) : FSs X W [st] a := pss_one h
theorem seq_at {Z : Sit} {D : Ends} {ρ : Env} (h : AftS Z W (sSeq a b ρ Z.S) D) : AftS Z W (a ρ Z.S) { D with nx := tS Z.M W b D } := by
  unfold sSeq at h
  cases e : a ρ Z.S with
  | nx ρ' S' =>
    rw [e] at h
    refine fun Z' σ' s hS hE => ⟨Z', ρ', ⟨s.M, s.ok, rfl, hE⟩, ?_⟩
    rw [hS]
    exact AftS.step s h
  | rt p S' => rw [e] at h; exact h
  | ex c ρ' S' => rw [e] at h; exact h
  | bad => rw [e] at h; exact h
theorem fss_cons (h1 : FS X W st a) (h2 : FSs X W sts b) : FSs X W (st :: sts) (sSeq a b) := pss_weak (pss_cons h1 h2) fun D σ H ⟨Z, ρ, at_, h⟩ => by
  refine ⟨Z, ρ, at_, ?_⟩
  have := seq_at h
  rw [at_.M] at this
  exact this
theorem fs_expr (h : FE X W e f) (hs : swapsWith e none pos.line X.env = pure false := by rfl) : FS X W (.Expr e pos) (sExpr f) := ps_weak (ps_expr h hs) fun D σ H ⟨Z, ρ, at_, h⟩ => ⟨Z, ρ, at_, (h.then at_.E).mono fun p Z1 s h1 v hv => h1.nx s.ok (s.E at_.E)⟩
theorem fs_ret (h : FE X W e f) : FS X W (.Return (some e) pos) (sRet f) := ps_weak (ps_ret h) fun D σ H ⟨Z, ρ, at_, h⟩ => ⟨Z, ρ, at_, (h.then at_.E).mono fun p Z1 s h1 v hv => h1 Z1 v (.refl s.ok) rfl hv⟩
theorem fs_retN : FS X W (.Return none pos) sRetN := ps_weak ps_retN fun D σ H ⟨Z, ρ, at_, h⟩ => by
  show D.rt .non H; rw [← at_.H]; exact h Z .non (.refl at_.ok) rfl .non
theorem fs_pass : FS X W (.Pass pos) sSkip := ps_weak ps_pass fun D σ H ⟨Z, ρ, at_, h⟩ => by
  show D.nx σ H; rw [← at_.H]; exact h.nx at_.ok at_.E
theorem fs_if {x y : List Stmt} (hc : FT X W c t) (ha : FSs X W x a) (hb : FSs X W y b) : FS X W (.If c x y pos) (sIf t a b) := ps_weak (ps_if hc ha hb) fun D σ H ⟨Z, ρ, at_, h⟩ => by
  refine ⟨Z, ρ, at_, (h.then at_.E).mono fun c Z1 s h1 => ?_⟩
  cases c with
  | true => exact ⟨Z1, ρ, at_.next s, h1⟩
  | false => exact ⟨Z1, ρ, at_.next s, h1⟩
theorem fs_asg (h : FE X W e f) (hg : FG X tg is g) (hs : swapsWithSole [tg] e pos.line X.env = pure false := by rfl) (hw : swappedStores [tg] e X.env = pure none := by rfl) (h1 : (assignEach [tg] X.env).map (·.2) = [assign tg X.env] := by rfl) : FS X W (.Assign [tg] e pos) (sAsg g f) := ps_weak (ps_asg h hg hs hw h1) fun D σ H ⟨Z, ρ, at_, h⟩ => by
  refine ⟨Z, ρ, at_, (h.then at_.E).mono fun p Z1 s h1 v hv => ?_⟩
  cases eg : g p ρ with
  | none => rw [eg] at h1; exact h1.elim
  | some ρ' =>
    rw [eg] at h1
    exact ⟨Z1, ρ, p, ρ', at_.next s, hv, eg, fun σ' hE _ => h1.nx s.ok hE⟩
theorem fs_set {i : Nat} {x : Str} {pos' : Pos} (hN : X.N.Nodup) (hi : X.N[i]? = some x) (hx : Loc X.env.scope x) (h : FE X W e f) (hs : swapsWith e (some (.Name x pos')) pos.line X.env = pure false := by rfl) (hf : X.fn x = true ∨ X.env.scope.names.lookup x = some .local := by first | exact .inl rfl | exact .inr rfl | assumption) : FS X W (.Assign [.Name x pos'] e pos) (sAsg (gN i) f) := ps_weak (ps_set hN hi hx h hs hf) fun D σ H ⟨Z, ρ, at_, h⟩ => by
  refine ⟨Z, ρ, at_, (h.then at_.E).mono fun p Z1 s h1 v hv => ?_⟩
  exact h1.nx s.ok ((s.E at_.E).set hv i)
theorem fs_setLc {i : Nat} {y : Str} {py : Pos} {elt : Expr} {ifs : List Expr} {scope : Scope} {own : List (Str × Nat)} {spos : Pos} {cc : Bool} (hc : X.calm = true) (hN : X.N.Nodup) (hy : X.N[i]? = some y) (hyl : X.env.scope.names.lookup y = some .local)
    (hsw : swapsWith (.ListComp elt [⟨tg, iter, ifs, 0⟩] scope pos) (some (.Name y py)) spos.line X.env = pure true) (hi : FI X W tg iter it) (ok : BlkOk X.N X.env.scope scope own)
    (hg : ∀ (s : Shared) (H : Hp) (C : Addr) (cl : List (Str × Addr)) (fp : List Addr), FG (X.blk s H scope (compEnvC scope cl C X.env) fp) tg is g)
    (ht : ∀ (s : Shared) (H : Hp) (C : Addr) (cl : List (Str × Addr)) (fp : List Addr), FTs (X.blk s H scope (compEnvC scope cl C X.env) fp) W0 ifs t)
    (he : ∀ (s : Shared) (H : Hp) (C : Addr) (cl : List (Str × Addr)) (fp : List Addr), FE (X.blk s H scope (compEnvC scope cl C X.env) fp) W0 elt f)
    (his : ∀ i ∈ is, i ∈ own.map (·.2) := by decide) (hs : ∀ x, foldedSetIterable iter X.env x = pure x := by intro _; rfl) : FS X W (.Assign [.Name y py] (.ListComp elt [⟨tg, iter, ifs, 0⟩] scope pos) spos) (sAsg (gN i) (eLcN cc (own.map (·.2)) it g t f)) :=
  ps_weak (ps_setLc hc hN hy hyl hsw hi ok hg ht he hs) fun D σ H ⟨Z, ρ, at_, h⟩ => by
    show tLc _ _ _ _ _ σ H fun x H1 => gName i x σ H1 D.nx
    refine fs_asgLc_read his ⟨Z, ρ, at_, (h.then at_.E).mono fun p Z1 s h1 v hv => ?_⟩
    exact h1.nx s.ok ((s.E at_.E).set hv i)
/-- slots that aren't needed are forgotten -/
theorem fs_drop {is : List Nat} (h : FS X W st a) : FS X W st (sDrop a is) := ps_weak h fun D σ H ⟨Z, ρ, at_, h⟩ => by
  refine ⟨Z, ρ, at_, ?_⟩
  unfold sDrop at h
  cases e : a ρ Z.S with
  | nx ρ' S' =>
    rw [e] at h
    exact fun Z' σ' s hS hE => h Z' σ' s hS (hE.forgets is)
  | rt p S' => rw [e] at h; exact h
  | ex c ρ' S' => rw [e] at h; exact h
  | bad => rw [e] at h; exact h
theorem fss_drop {is : List Nat} (h : FSs X W sts a) : FSs X W sts (sDrop a is) := pss_weak h fun D σ H ⟨Z, ρ, at_, h⟩ => by
  refine ⟨Z, ρ, at_, ?_⟩
  unfold sDrop at h
  cases e : a ρ Z.S with
  | nx ρ' S' =>
    rw [e] at h
    exact fun Z' σ' s hS hE => h Z' σ' s hS (hE.forgets is)
  | rt p S' => rw [e] at h; exact h
  | ex c ρ' S' => rw [e] at h; exact h
  | bad => rw [e] at h; exact h
theorem fs_for (hp : PassesOwn (model X.prog X.w) X.A X.env X.xe) (hc : X.calm = true) (hi : FI X W tg iter it) (hg : FG X tg is g) (hb : FSs X W body b) (hs : ∀ x, foldedSetIterable iter X.env x = pure x := by intro _; rfl) : FS X W (.For tg iter body [] pos) (sFor it g b) := ps_weak (ps_for hp hc hi hg hb hs) fun D σ H ⟨Z, ρ, at_, h⟩ => by
  refine ⟨Z, ρ, at_, (h.then at_.E).mono fun ps Z1 s h1 J hJ => ?_⟩
  refine ⟨fun i m σ H => m = ps.length - i ∧ i ≤ ps.length ∧ ∃ Z ρ, At (md X) Z σ ρ H ∧ Stp Z1 Z ∧ AftS Z W (forL g b (ps.drop i) ρ Z.S) D, ⟨ps.length, by simp, Nat.zero_le _, Z1, ρ, at_.next s, .refl s.ok, h1⟩, ?_⟩
  rintro i m σ H ⟨rfl, hi, Z, ρ, at_, st, h⟩
  cases hp : ps[i]? with
  | none =>
    have hl : ps.length ≤ i := List.getElem?_eq_none_iff.mp hp
    rw [List.drop_eq_nil_of_le hl] at h
    refine .inl ⟨?_, ?_⟩
    · rw [← at_.H]; exact (hJ Z st i).2 hp
    · rw [← at_.H]; exact h.nx at_.ok at_.E
  | some p =>
    obtain ⟨hgo, hy⟩ := (hJ Z st i).1 p hp
    have hlt : i < ps.length := (List.getElem?_eq_some_iff.mp hp).1
    have hdrop : ps.drop i = p :: ps.drop (i + 1) := by
      rw [List.drop_eq_getElem_cons hlt]
      have : ps[i] = p := Option.some.inj ((List.getElem?_eq_getElem hlt).symm.trans hp)
      rw [this]
    rw [hdrop] at h
    simp only [forL] at h
    refine .inr ⟨by rw [← at_.H]; exact hgo, fun σ' H' => ∃ Z ρ, At (md X) Z σ' ρ H' ∧ Stp Z1 Z ∧ AftS Z W (forL g b (ps.drop (i + 1)) ρ Z.S) D, fun σ' H' q => ⟨ps.length - (i + 1), by omega, rfl, hlt, q⟩, fun x H' y => ?_⟩
    rw [← at_.H] at y
    obtain ⟨Za, sa, eS, eH, hpx⟩ := hy x H' y
    subst eH
    cases eg : g p ρ with
    | none => rw [eg] at h; exact h.elim
    | some ρ' =>
      rw [eg] at h
      dsimp only at h
      refine ⟨Za, ρ, p, ρ', at_.next sa, hpx, eg, fun σ2 hE2 _ => ⟨Za, ρ', ⟨sa.M.trans at_.M, sa.ok, rfl, hE2⟩, ?_⟩⟩
      rw [eS]
      cases eb : b ρ' Z.S with
      | nx ρ2 S2 =>
        rw [eb] at h
        exact fun Zb σ3 sb hSb hE3 => ⟨Zb, ρ2, ⟨sb.M.trans (sa.M.trans at_.M), sb.ok, rfl, hE3⟩, st.trans (sa.trans sb), by rw [hSb]; exact AftS.step (sa.trans sb) h⟩
      | rt q S2 => rw [eb] at h; exact AftS.step sa h
      | ex c ρ2 S2 => rw [eb] at h; exact AftS.step sa h
      | bad => rw [eb] at h; exact h.elim
theorem fs_while (hp : PassesOwn (model X.prog X.w) X.A X.env X.xe) (hc : FT X W c t) (hb : FSs X W body b) : FS X W (.While c body [] pos) (sWhile t b) := ps_weak (ps_while hp hc hb) fun D σ H ⟨Z, ρ, at_, h⟩ => by
  refine ⟨fun m σ H => ∃ Z ρ, At (md X) Z σ ρ H ∧ AftS Z W (whileN t b m ρ Z.S) D, ⟨FUEL, Z, ρ, at_, h⟩, ?_⟩
  rintro m σ H ⟨Z, ρ, at_, h⟩
  cases m with
  | zero => exact h.elim
  | succ m =>
    refine ⟨Z, ρ, at_, (h.then at_.E).mono fun c Z1 s h1 => ?_⟩
    cases c with
    | false => exact h1.nx s.ok (s.E at_.E)
    | true =>
      dsimp only
      rw [if_pos rfl] at h1 ⊢
      refine ⟨fun σ' H' => ∃ Z ρ, At (md X) Z σ' ρ H' ∧ AftS Z W (whileN t b m ρ Z.S) D, fun σ' H' q => ⟨m, Nat.lt_succ_self _, q⟩, Z1, ρ, at_.next s, ?_⟩
      cases eb : b ρ Z1.S with
      | nx ρ2 S2 =>
        rw [eb] at h1
        exact fun Zb σ3 sb hSb hE3 => ⟨Zb, ρ2, ⟨sb.M.trans (s.M.trans at_.M), sb.ok, rfl, hE3⟩, by rw [hSb]; exact AftS.step sb h1⟩
      | rt q S2 => rw [eb] at h1; exact h1
      | ex c ρ2 S2 => rw [eb] at h1; exact h1
      | bad => rw [eb] at h1; exact h1.elim
end

/-! ### defs -/
/-- what a def promises: it does g -/
def spM (M : Md) (n : Nat) (g : Fn) : Sp := fun vs H Q E => ∃ Z ps, Z.M = M ∧ Z.Ok ∧ Z.H = H ∧ ps.length = n ∧ Z.PA ps vs ∧ Aft Z E (g ps Z.S) fun p Z' => ∀ v, Z'.P p v → Q v Z'.H
/-- a def of the text stands at a name and does g -/
structure Has (P : Program) (w : World) (K : PySem.W.Frag) (mg : Str → Option Value) (k : Nat) (x : Str) (ps : List Str) (g : Fn) : Prop where
  ex : ∃ (f : Addr) (fd : FuncData), mg x = some (.ref f) ∧ PySem.W.keepIn K (.ref f) = true ∧ (∀ (s : Shared) (us : List Value), us.length = ps.length → BindsTo s fd ⟨us, []⟩ (ps.zip us)) ∧ ∀ base, FnOk P w K mg base (L2.CX P w) k f fd ps (spM ⟨K, mg⟩ ps.length g)
theorem binds_of {K : PySem.W.Frag} {fd : FuncData} {ps : List Str} (h : ∀ (s : Shared) (us : List Value), us.length = ps.length → BindsTo s fd ⟨us, []⟩ (ps.zip us)) : Binds K fd ps [] := fun s us _ hl => by
  rw [List.append_nil] at hl ⊢
  exact h s us hl
/-- a def of the text, where it stands -/
structure DefAt (K : PySem.W.Frag) (mg : Str → Option Value) (x qual : Str) (st : Stmt) (ps : List Str) : Prop where
  ex : ∃ (f : Addr) (fd : FuncData), mg x = some (.ref f) ∧ L2.Fun K x qual st f fd ∧ ∀ (s : Shared) (us : List Value), us.length = ps.length → BindsTo s fd ⟨us, []⟩ (ps.zip us)
theorem PA_start {Z : Sit} {ps : List DK.P} {vs : List V} (h : Z.PA ps vs) (m : Nat) : Z.E (vs.map some ++ List.replicate m none) (ps.map some ++ List.replicate m none) := by
  have hl := h.length
  refine ⟨by simp [hl], fun i p e => ?_⟩
  by_cases hi : i < ps.length
  · rw [List.getElem?_append_left (by simpa using hi), List.getElem?_map] at e
    cases q : ps[i]? with
    | none => rw [q] at e; cases e
    | some r =>
      rw [q] at e
      obtain ⟨v, hv, r2⟩ := PA_get h q
      have : r = p := by simpa using e
      subst this
      exact ⟨v, by rw [List.getElem?_append_left (by simp; omega), List.getElem?_map, hv]; rfl, r2⟩
  · rw [List.getElem?_append_right (by simpa using hi), List.getElem?_replicate] at e
    split at e <;> cases e
section
variable {P : Program} {w : World} {K : PySem.W.Frag} {mg : Str → Option Value}
theorem has_def {x qual : Str} {st : Stmt} {f : Addr} {fd : FuncData} {N ps : List Str} {k : Nat} {b : Sx} (F : L2.Fun K x qual st f fd) (hm : mg x = some (.ref f)) (S : FnScope N ps (defScope st)) (hb : ∀ (s : Shared) (us : List Value), us.length = ps.length → BindsTo s fd ⟨us, []⟩ (ps.zip us)) (hN : ps.length ≤ N.length)
    (hbody : ∀ (base : Heap) (cdv : Value) (A : Around) (outer : List PySem.Env) (s : Shared) (H : Hp) (E : XK), Room k (A.deeper (envOfC qual (defScope st) s.heap.objs.size f cdv)) →
      FSs (cxOf (L2.CX P w) P w K mg base N qual (defScope st) f cdv A outer s H E) (fun c d _ H' => E c d H') (defBody st) b) : Has P w K mg (k + 1) x ps (fnOf (N.length - ps.length) b) := by
  refine ⟨f, fd, hm, F.kp, hb, fun base => F.okX S (fun vs H Q E h => ?_) fun cdv A outer s H vs Q E hr h => ?_⟩
  · obtain ⟨Z, qs, _, _, _, hl, hp, _⟩ := h
    rw [← hp.length, hl]
  · obtain ⟨Z, qs, hM, ok, hH, hl, hp, h⟩ := h
    refine ⟨_, hbody base cdv A outer s H E hr, Z, qs.map some ++ List.replicate (N.length - ps.length) none, ⟨hM, ok, hH, ?_⟩, ?_⟩
    · show Z.E (vs.map some ++ List.replicate (N.length - vs.length) none) _
      rw [← hp.length, hl]
      exact PA_start hp _
    · unfold fnOf at h
      cases e : b (qs.map some ++ List.replicate (N.length - ps.length) none) Z.S with
      | nx ρ' S' => rw [e] at h; exact fun Z' σ' s hS _ => h Z' s hS .non .non
      | rt p S' => rw [e] at h; exact fun Z' v s hS hv => h Z' s hS v hv
      | ex c ρ' S' => rw [e] at h; exact fun Z' σ' s hS _ => h Z' s hS
      | bad => rw [e] at h; exact h
end
theorem args_ps {fs : List Ex} {ρ : Env} {S : Sto} {ps : List DK.P} {S' : Sto} (e : eArgs fs ρ S = .ok ps S') : ps.length = fs.length := by
  induction fs generalizing ρ S ps S' with
  | nil => cases e; rfl
  | cons f fs ih =>
    simp only [eArgs, eCons] at e
    cases h1 : f ρ S with
    | bad => rw [h1] at e; cases e
    | ex c S1 => rw [h1] at e; cases e
    | ok p S1 =>
      rw [h1] at e
      simp only [Out.bind] at e
      cases h2 : eArgs fs ρ S1 with
      | bad => rw [h2] at e; cases e
      | ex c S2 => rw [h2] at e; cases e
      | ok l S2 =>
        rw [h2] at e
        cases e
        simp [ih h2]
/-- the callee's own view of a caller's state: nothing is its own -/
def Sit.iso (Z : Sit) : Sit := { Z with F := Z.L, μ := [], S := [] }
section
variable {Z : Sit}
theorem lv_nil {b : Addr} : ¬ Lv [] [] b := fun ⟨_, _, e, _⟩ => by simp at e
theorem Sit.Ok.iso (ok : Z.Ok) : Z.iso.Ok where
  len := rfl
  nd := List.nodup_nil
  fd := fun _ h => nomatch h
  fs := fun b h => by
    rcases h with h | h
    · exact ok.fs b h
    · exact ok.here' h.mem
  c := fun i a c e => by
    have e : ([] : List Addr)[i]? = some a := e
    simp at e
theorem iso_L {b : Addr} : Z.iso.L b ↔ Z.L b := ⟨fun h => h.elim id fun h => absurd h lv_nil, .inl⟩
theorem iso_RA {ds : List PyData} {vs : List V} (h : Z.RA ds vs) : Z.iso.PA (ds.map .d) vs := RA_map (Z := Z.iso) (RpA.mono (fun _ _ e _ => e) (fun b _ _ n l => n (iso_L.mp l)) h)
/-- back from an isolated call -/
theorem iso_back {Z' : Sit} (ok : Z.Ok) (s : Stp Z.iso Z') : Stp Z (Z.withH Z'.H) := ok.toH fun b o e => s.kp b o e lv_nil
theorem iso_R {Z' : Sit} (s : Stp Z.iso Z') {x : PyData} {v : V} (h : Z'.R x v) : (Z.withH Z'.H).R x v := by
  have hK : Z'.M = Z.M := s.M
  show Rp Z.M.K _ _ _ _
  rw [← hK]
  exact Rp.mono (fun _ _ e _ => e) (fun b _ _ n l => n (.inl (s.fsub b l))) h
end
theorem rd_R {Z : Sit} {p : DK.P} {x : PyData} {v : V} (ok : Z.Ok) (e : rdD Z.S p = some x) (h : Z.P p v) : ∃ Z', Stp Z Z' ∧ Z'.H = Z.H ∧ Z'.R x v := by
  cases p with
  | d y => cases e; exact ⟨Z, .refl ok, rfl, h⟩
  | r i =>
    obtain ⟨a, ea, rfl⟩ := h
    exact ⟨Z.fr i, ok.fr i, rfl, fr_R ok ea e⟩
section
variable {X : Cx} {W : WX} {e : Expr} {es : List Expr} {fs : List Ex} {x : Str} {p pos : Pos} {k : Nat} {ps : List Str} {g : Fn}
theorem fe_callI (C : Has X.prog X.w X.K X.mg k x ps g) (hr : Room k X.A) (hg : Gl X x) (tk : Takes X W) (ha : FA X W (e :: es) (eArgs fs)) (hn : fs.length = ps.length := by rfl) (hdb : (x == ("__debug__" : Str)) = false := by decide)
    (he : starEach (e :: es) X.env = (false, eval e X.env) :: starEach es X.env := by rfl) (hpl : (backTo pos (starEach es X.env)).any (·.1) = false := by rfl) : FE X W (.Call (.Name x p) (e :: es) [] pos) (eCallI g fs) := by
  obtain ⟨f, fd, hm, hk, hb, F⟩ := C.ex
  refine pe_weak (pe_callSD (F X.base) hr hg hm hk (binds_of hb) .nil (E := WE W) (fun σ => passAt tk σ) ha hdb he hpl) fun σ H Q ⟨Z, ρ, at_, h⟩ => ⟨Z, ρ, at_, ?_⟩
  unfold eCallI at h
  cases ea : eArgs fs ρ Z.S with
  | bad => rw [ea] at h; exact h.elim
  | ex c S' => rw [ea] at h; exact h
  | ok qs S1 =>
    rw [ea] at h
    refine fun Z1 s1 hS1 vs hvs => ?_
    have h1 := h.bind Z1 s1 hS1
    dsimp only at h1 ⊢
    rw [List.append_nil]
    cases ed : toDall Z1.S qs with
    | none => rw [ed] at h1; exact h1.elim
    | some r =>
      obtain ⟨ds, S2⟩ := r
      rw [ed] at h1
      dsimp only at h1
      obtain ⟨Z2, s2, hS2, hH2, ra⟩ := toDall_ok s1.ok ed hvs
      have h2 := Aft.step s2 h1
      refine ⟨Z2.iso, ds.map .d, s2.M.trans (s1.M.trans at_.M), s2.ok.iso, hH2, ?_, iso_RA ra, ?_⟩
      · rw [List.length_map, ra.length, ← hvs.length, args_ps ea, hn]
      show Aft Z2.iso (WE W σ) (g (ds.map .d) []) _
      unfold callI at h2
      cases eg : g (ds.map .d) [] with
      | bad => rw [eg] at h2; exact h2.elim
      | ex c S' =>
        rw [eg] at h2
        exact fun Z' s' hS' => (h2 (Z2.withH Z'.H) (iso_back s2.ok s') hS2 :)
      | ok q S' =>
        rw [eg] at h2
        refine fun Z' s' hS' v hv => ?_
        subst hS'
        dsimp only at h2
        cases er : rdD Z'.S q with
        | none => rw [er] at h2; exact h2.elim
        | some y =>
          rw [er] at h2
          obtain ⟨Z'', s'', hH'', ry⟩ := rd_R s'.ok er hv
          have := h2 _ (iso_back s2.ok (s'.trans s'')) hS2 v (iso_R (s'.trans s'') ry)
          have e2 : (Z2.withH Z''.H).H = Z'.H := hH''
          rw [e2] at this
          exact this
end
theorem P.below_ix {n i : Nat} (h : P.below n (.r i) = true) : i < n := by simpa [P.below] using h
section
variable {Z Z' : Sit}
/-- the store is cut to its old length -/
theorem cut_ok (s : Stp Z Z') (ok : Z.Ok) (hb : (Z'.S.take Z.S.length).all (Cell.below Z.S.length) = true) : Stp Z (Z'.cut Z.S.length) ∧ (∀ {x v}, Z'.R x v → (Z'.cut Z.S.length).R x v) := by
  have lvs : ∀ b, Lv (Z'.cut Z.S.length).μ (Z'.cut Z.S.length).S b → Lv Z'.μ Z'.S b := fun b l => lv_cut l
  have hR : ∀ {x v}, Z'.R x v → (Z'.cut Z.S.length).R x v := fun {x v} q => Rp.mono (fun _ _ e _ => e) (fun b _ _ n l => n (l.imp id (lvs b))) q
  have hP : ∀ {q v}, P.below Z.S.length q = true → Z'.P q v → (Z'.cut Z.S.length).P q v := fun {q v} hb z => by
    cases q with
    | d x => exact hR z
    | r i =>
      obtain ⟨a, e, z⟩ := z
      refine ⟨a, ?_, z⟩
      show (Z'.μ.take _)[i]? = _
      rw [List.getElem?_take, if_pos (P.below_ix hb)]; exact e
  have hPA : ∀ {l : List DK.P} {vs : List V}, l.all (P.below Z.S.length) = true → Z'.PA l vs → (Z'.cut Z.S.length).PA l vs := by
    intro l vs hb h
    induction h with
    | nil => exact .nil
    | cons r t ih =>
      rw [List.all_cons, Bool.and_eq_true] at hb
      exact .cons (hP hb.1 r) (ih hb.2)
  have hμ : (Z'.cut Z.S.length).μ = Z.μ := by
    obtain ⟨t, e⟩ := s.pre
    show Z'.μ.take Z.S.length = Z.μ
    rw [← e, ← ok.len]; simp
  refine ⟨⟨s.M, s.fsub, s.fnew, by rw [hμ]; exact List.prefix_refl _, fun b hb => .inl (by rw [hμ] at hb; exact hb), fun b l => s.lv b (lvs b l), s.kp, ⟨?_, ?_, fun b hb => s.ok.fd b (List.mem_of_mem_take hb), s.ok.fs, fun i a c e f => ?_⟩⟩, hR⟩
  · show (Z'.μ.take _).length = (Z'.S.take _).length
    rw [List.length_take, List.length_take, s.ok.len]
  · rw [hμ]; exact ok.nd
  · have e : (Z'.μ.take Z.S.length)[i]? = some a := e
    have f' : (Z'.S.take Z.S.length)[i]? = some c := f
    have hc : Cell.below Z.S.length c = true := List.all_eq_true.mp hb c (List.mem_of_getElem? f')
    rw [List.getElem?_take] at e f'
    split at e
    · rename_i hi
      rw [if_pos hi] at f'
      have z := s.ok.c i a c e f'
      cases c with
      | lst l => obtain ⟨xs, e, q⟩ := z; exact ⟨xs, e, hPA hc q⟩
      | fz l => obtain ⟨xs, e, q⟩ := z; exact ⟨xs, e, hPA hc q⟩
      | dct l =>
        obtain ⟨ks, e, q⟩ := z
        refine ⟨ks, e, ?_⟩
        clear e f f'
        have hc : l.all (fun p => p.2.below Z.S.length) = true := hc
        induction q with
        | nil => exact .nil
        | cons r t ih =>
          rw [List.all_cons, Bool.and_eq_true] at hc
          exact .cons ⟨hR r.1, hP hc.1 r.2⟩ (ih hc.2 hc.2)
      | ins k l =>
        obtain ⟨C, dx, vs, c1, e, q⟩ := z
        refine ⟨C, dx, vs, c1, e, ?_⟩
        clear e f f'
        have hc : l.all (fun p => p.2.below Z.S.length) = true := hc
        induction q with
        | nil => exact .nil
        | cons r t ih =>
          rw [List.all_cons, Bool.and_eq_true] at hc
          exact .cons ⟨r.1, hP hc.1 r.2⟩ (ih hc.2 hc.2)
    · cases e
end
section
variable {X : Cx} {W : WX} {e : Expr} {es : List Expr} {fs : List Ex} {x : Str} {p pos : Pos} {k : Nat} {ps : List Str} {g : Fn}
/-- with the caller's cells: what comes back -/
theorem callS_ok {Z : Sit} {ps : List DK.P} {E : Value → Option Addr → Hp → Prop} {Q : VK} (ok : Z.Ok) (h : Aft Z E (callS g ps Z.S) fun p Z' => ∀ v, Z'.P p v → Q v Z'.H) : Aft Z E (g ps Z.S) fun p Z' => ∀ v, Z'.P p v → Q v Z'.H := by
  unfold callS at h
  cases eg : g ps Z.S with
  | bad => rw [eg] at h; exact h.elim
  | ex c S' =>
    rw [eg] at h
    dsimp only at h
    refine fun Z' s' hS' => ?_
    subst hS'
    split at h
    · rename_i hb
      exact (h (Z'.cut Z.S.length) (cut_ok s' ok hb).1 rfl :)
    · exact h.elim
  | ok q S' =>
    rw [eg] at h
    refine fun Z' s' hS' v hv => ?_
    subst hS'
    cases q with
    | d y =>
      dsimp only at h
      split at h
      · rename_i hb
        obtain ⟨sc, hR⟩ := cut_ok s' ok hb
        exact h _ sc rfl v (hR hv)
      · exact h.elim
    | r i =>
      dsimp only at h
      split at h
      · rename_i hb
        obtain ⟨hb, hi⟩ := hb
        cases er : rdD Z'.S (.r i) with
        | none => rw [er] at h; exact h.elim
        | some y =>
          rw [er] at h
          obtain ⟨a, ea, rfl⟩ := hv
          have st := s'.ok.fr i
          have hS : (Z'.fr i).S.take Z.S.length = Z'.S.take Z.S.length := by
            show (frzS Z'.S i).take _ = _
            apply List.ext_getElem?
            intro j
            rw [List.getElem?_take, List.getElem?_take, frzS_get]
            split
            · rw [if_neg (by omega)]
            · rfl
          obtain ⟨sc, hR⟩ := cut_ok (s'.trans st) ok (by rw [hS]; exact hb)
          exact h _ sc hS _ (hR (fr_R s'.ok ea er))
      · exact h.elim
theorem fe_callS (C : Has X.prog X.w X.K X.mg k x ps g) (hr : Room k X.A) (hg : Gl X x) (tk : Takes X W) (ha : FA X W (e :: es) (eArgs fs)) (hn : fs.length = ps.length := by rfl) (hdb : (x == ("__debug__" : Str)) = false := by decide)
    (he : starEach (e :: es) X.env = (false, eval e X.env) :: starEach es X.env := by rfl) (hpl : (backTo pos (starEach es X.env)).any (·.1) = false := by rfl) : FE X W (.Call (.Name x p) (e :: es) [] pos) (eCallS g fs) := by
  obtain ⟨f, fd, hm, hk, hb, F⟩ := C.ex
  refine pe_weak (pe_callSD (F X.base) hr hg hm hk (binds_of hb) .nil (E := WE W) (fun σ => passAt tk σ) ha hdb he hpl) fun σ H Q ⟨Z, ρ, at_, h⟩ => ⟨Z, ρ, at_, ?_⟩
  unfold eCallS at h
  cases ea : eArgs fs ρ Z.S with
  | bad => rw [ea] at h; exact h.elim
  | ex c S' => rw [ea] at h; exact h
  | ok qs S1 =>
    rw [ea] at h
    refine fun Z1 s1 hS1 vs hvs => ?_
    have h1 := h.bind Z1 s1 hS1
    dsimp only at h1 ⊢
    rw [List.append_nil]
    exact ⟨Z1, qs, s1.M.trans at_.M, s1.ok, rfl, (args_ps ea).trans hn, hvs, callS_ok s1.ok h1⟩
end
end DK

end SDKFn

section SDKRev
set_option Elab.async false
set_option linter.all false
set_option autoImplicit false
set_option maxRecDepth 100000
set_option maxHeartbeats 2000000
/-! DKRev: list(reversed(x)), tuple(reversed(x)) of a list; isinstance. -/
namespace DK
open PySem PySem.Spec PyProof.Rows PySem.Calls
section
variable {prog : Program} {w : World} {A : Around} {E : Value → Shared → Prop} {s : Shared}
theorem extend_rev {it l S : Addr} {items : Array Value} {R : Result → Shared → Prop} {res : Value} {c0 : Nat} (hh : A.handled = none) (hit : s.heap.IsRevIter it l ((items.size : Int) - 1)) (hl : s.heap.IsList l items) (hne : l ≠ it) (hSi : S ≠ it) (hSl : S ≠ l) (hS : s.heap.get? S = some { cls := .type "list", data := .seq #[] c0 }) (hn : items.size ≤ sizeLine)
    (hR : ∀ h' tk acc' c', (∀ b o, b ≠ S → b ≠ it → s.heap.get? b = some o → h'.get? b = some o) → h'.get? S = some { cls := .type "list", dict := none, data := .seq acc' c', slots := #[] } → ItemsOf (fun i v => items[items.size - 1 - i]? = some v) acc' items.size → R (.ok (.ret res)) { s with heap := h', toks := tk }) :
    wpAny (model prog w) A.in1 (Builtin.List.listExtendWith (.ref S) (.ref it) res)
      (fun fin s' => match fin with | .done f => R (.ok f) s' | .again c' => c'.quiet = true ∧ codeAny (model prog w) A c' R s') (fun e s' => R (.error e) s') s := by
  have W := (Walks.listRev (prog := prog) (w := w) (A := A.in1) hh it l hne items).toS
  have hSf : S ∉ [it, l] := by simp only [List.mem_cons, List.not_mem_nil, or_false, not_or]; exact ⟨hSi, hSl⟩
  have hT : s.TypeIs (.ref it) "list_reverseiterator" := Heap.IsRevIter.typeIs hit
  have h1 : Builtin.List.listSameRef (.ref S) (.ref it) = false := by simp [Builtin.List.listSameRef, hSi]
  unfold Builtin.List.listExtendWith
  refine wpAny_bind (wpAny_typeOf hT ?_)
  rw [if_neg (by rw [h1]; decide)]
  refine wpAny_bind (wpAny_pyIter_revIter hit ?_)
  refine wpAny_bind (wpAny_holding ?_)
  unfold Builtin.List.listLengthHint
  refine wpAny_bind (wpAny_specialOf hT RT.nolen_lri ?_)
  show wpAny _ A.in1 (specialOf (Value.ref it) (Str.ofString "__length_hint__") >>= _) _ _ _
  refine wpAny_bind (wpAny_specialOf hT RT.hint_lri ?_)
  generalize hid : ("list_reverseiterator.__length_hint__" : String) = id0
  wp_delta
  rw [show splitId id0 = some ("list_reverseiterator", "__length_hint__") from by subst hid; decide +kernel]
  subst hid
  refine wpAny_bind (wpAny_isInstance (b := true) hT (by rw [isSubtype_type]; kernel_rfl) ?_)
  refine wpAny_pure ?_
  rw [if_neg (by decide)]
  have e0 : ((items.size : Nat) : Int) - 1 - ((0 : Nat) : Int) = (items.size : Int) - 1 := by omega
  refine wpAny_pure ⟨plainId_quiet F.plain_extend_loop _, codeAny_extend_loopS W hn _ hSf _ items.size 0 _ _ _ rfl (Nat.zero_le _) ⟨Nat.zero_le _, by rw [e0]; exact hit, hl⟩ hS (ItemsOf.nil _) fun s' acc' c' hm hS' hacc => ?_⟩
  rw [Moved.eq_with hm]
  refine hR s'.heap s'.toks acc' c' (fun b o hb hb2 e => hm.heap b o (fun hmem => ?_) e) hS' hacc
  rcases List.mem_cons.mp hmem with e' | hmem
  · exact hb e'
  · exact hb2 (List.mem_singleton.mp hmem)
theorem call_list_rev {it l : Addr} {items : Array Value} {Q : Value → Shared → Prop} (hh : A.handled = none) (hit : s.heap.IsRevIter it l ((items.size : Int) - 1)) (hl : s.heap.IsList l items) (hne : l ≠ it) (hn : items.size ≤ sizeLine)
    (hQ : ∀ h' tk acc' c', (∀ b o, b ≠ it → s.heap.get? b = some o → h'.get? b = some o) → h'.get? s.heap.objs.size = some { cls := .type "list", dict := none, data := .seq acc' c', slots := #[] } → ItemsOf (fun i v => items[items.size - 1 - i]? = some v) acc' items.size → Q (.ref s.heap.objs.size) { s with heap := h', toks := tk }) :
    wpAny (model prog w) A (call (.type "list") [.ref it]) Q E s := by
  obtain ⟨oi, hoi, _⟩ := id hit
  obtain ⟨ol, hol, _⟩ := id hl
  have hSi : s.heap.objs.size ≠ it := Nat.ne_of_gt (Heap.lt_size hoi)
  have hSl : s.heap.objs.size ≠ l := Nat.ne_of_gt (Heap.lt_size hol)
  refine callType_codes (Q₁ := fun obj s₁ => obj = .ref s.heap.objs.size ∧ s₁ = { s with heap := s.heap.push { cls := .type "list", data := .seq #[] } }) PySem.F.called_list (PySem.F.typeCall_list_1 _) PySem.F.entry_list_init
    (code_list_new _ ⟨rfl, rfl⟩) fun obj s₁ h₁ => ?_
  obtain ⟨rfl, rfl⟩ := h₁
  have hS : (s.heap.push { cls := .type "list", data := .seq #[] }).get? s.heap.objs.size = some { cls := .type "list", data := .seq #[] } := Heap.get?_push_size _ rfl
  refine ⟨⟨_, hS, rfl⟩, PySem.F.args_list_init_2 _ _, ?_⟩
  show wpAny _ _ (do let old ← Builtin.List.listItems (.ref s.heap.objs.size); Builtin.List.listUpdate (.ref s.heap.objs.size) (fun _ => #[]); letGo old.toList.reverse; Builtin.List.listExtendWith (.ref s.heap.objs.size) (.ref it) .none) _ _ _
  refine wpAny_bind ?_
  unfold Builtin.List.listItems
  refine wpAny_bind (wpAny_seqItems hS rfl (wpAny_pure ?_))
  show wpAny _ _ (updateSeq s.heap.objs.size (fun _ => #[]) >>= fun _ => letGo (#[] : Array Value).toList.reverse >>= fun _ => Builtin.List.listExtendWith (.ref s.heap.objs.size) (.ref it) .none) _ _ _
  refine wpAny_bind (wpAny_updateSeq hS rfl ?_)
  have hS₂ := Heap.get?_update_self (Obj.mapSeq (fun _ => (#[] : Array Value))) hS rfl
  have oth : ∀ b o, b ≠ s.heap.objs.size → s.heap.get? b = some o → ((s.heap.push { cls := .type "list", data := .seq #[] }).update s.heap.objs.size (Obj.mapSeq (fun _ => (#[] : Array Value)))).get? b = some o :=
    fun b o hb e => (Heap.get?_update_other _ _ (Ne.symm hb)).trans (Heap.get?_push_of_some _ e)
  refine wpAny_bind (wpAny_letGo ?_)
  refine extend_rev (A := A.in1) hh (hit.at fun o e => oth _ o hSi.symm e) ?_ hne hSi hSl hS₂ hn fun h' tk acc' c' hk hS' hacc => ?_
  · obtain ⟨o, ho, r⟩ := hl
    exact ⟨o, oth _ o hSl.symm ho, r⟩
  · exact ⟨rfl, hQ h' tk acc' c' (fun b o hb e => hk b o (Nat.ne_of_lt (Heap.lt_size e)) hb (oth b o (Nat.ne_of_lt (Heap.lt_size e)) e)) hS' hacc⟩
end
section
open L2
variable {X : Cx} {W : WX} {a : Expr} {fa : Ex} {p p2 pos pos2 : Pos}
/-- list(reversed(a)) of a list -/
theorem pe_listRev {ta : TE} (hc : X.calm = true) (hg : Gl X "list") (hm : X.mg "list" = none) (hg2 : Gl X "reversed") (hm2 : X.mg "reversed" = none) (ha : PE X a ta)
    (hs : starEach [a] X.env = (false, eval a X.env) :: starEach [] X.env := by rfl) (hs2 : starEach [Expr.Call (.Name "reversed" p2) [a] [] pos2] X.env = (false, eval (Expr.Call (.Name "reversed" p2) [a] [] pos2) X.env) :: starEach [] X.env := by rfl) :
    PE X (.Call (.Name "list" p) [.Call (.Name "reversed" p2) [a] [] pos2] [] pos) (fun σ H Q => ta σ H fun x H1 => ∃ l xs, x = .ref l ∧ SqL X.K H1 l xs ∧ ∀ q, H1 q = none → Q (.ref q) (upd H1 q (.lst xs.reverse))) := by
  refine ⟨fun pins s σ H Q I h => ?_⟩
  refine Call_ (ld_blt I hg hm boot_list (PyProof.Rows.callWith_type1 (args_cons ?_ hs2) hs2))
  refine Call_ (ld_blt I hg2 hm2 PyProof.Rows.boot_reversed (PyProof.Rows.callWith_type1 (L2.one_arg ha I h (fun v s2 x H2 I2 r q => ?_) hs) hs))
  obtain ⟨l, xs, rfl, sq, q⟩ := q
  obtain rfl : v = .ref l := r
  obtain ⟨its, rv, pl, hz⟩ := I2.list sq
  refine call_reversed_list pl.isList (args_nil ?_)
  have I3 : Inv X pins σ H2 { s2 with heap := s2.heap.push (revObj l ((its.toArray.size : Int) - 1)) } := I2.kept (t' := s2.toks) fun b o e => Heap.get?_push_of_some _ e
  have f := I2.fpOk (H' := H2) (Nat.le_refl _) (I2.hok.fresh (Nat.le_refl _))
  obtain ⟨ol, nol, hol, _⟩ := pl
  have hne : l ≠ s2.heap.objs.size := Nat.ne_of_lt (Heap.lt_size hol)
  obtain ⟨its3, rv3, pl3, hz3⟩ := I3.list sq
  have lr := rv.length
  have lr3 := rv3.length
  refine call_list_rev (s := { s2 with heap := s2.heap.push (revObj l ((its.toArray.size : Int) - 1)) }) (I3.ok.hd hc) (l := l) (items := its3.toArray) ⟨_, Heap.get?_push_size _ rfl, rfl, ?_⟩ pl3.isList hne (by simp; omega) fun h' tk acc' c' hk hS hacc => ?_
  · show Data.fields _ = Data.fields _
    have : its.toArray.size = its3.toArray.size := by simp; omega
    rw [this]
  · refine ⟨.ref _, _, I3.turnedNew (ch := [s2.heap.objs.size]) (ob := .lst xs.reverse) (T := (s2.heap.push (revObj l ((its.toArray.size : Int) - 1))).objs.size) (fun b o hb e => hk b o (by simpa using hb) e) (fun b hb => ?_) (Nat.le_refl _) ⟨by rw [List.length_reverse]; exact hz, acc'.toList, c', ?_, by rw [Array.toArray_toList]; exact hS⟩, rfl, q _ (I3.hok.fresh (Nat.le_refl _))⟩
    · have : b = s2.heap.objs.size := by simpa using hb
      rw [this]; exact f
    · have el : acc'.toList.length = acc'.size := by simp
      have es : its3.toArray.size = its3.length := by simp
      refine vals_of_at (by rw [List.length_reverse, el, hacc.1, es]; omega) fun j x u h1 h2 => ?_
      have hj : j < acc'.size := by have := (List.getElem?_eq_some_iff.mp h2).1; omega
      have h3 := hacc.2 j u (by rw [← Array.getElem?_toList]; exact h2)
      rw [es] at h3
      have hjx : j < xs.length := by have := hacc.1; omega
      rw [List.getElem?_reverse hjx] at h1
      have h3' : its3[its3.length - 1 - j]? = some u := by simpa using h3
      obtain ⟨u', hu', ru⟩ := rv3.get h1
      have e9 : xs.length - 1 - j = its3.length - 1 - j := by omega
      rw [e9, h3'] at hu'
      cases hu'
      exact ru
theorem fe_listRev {c : Bool} (hc : X.calm = true) (hg : Gl X "list") (hm : X.mg "list" = none) (hg2 : Gl X "reversed") (hm2 : X.mg "reversed" = none) (ha : FE X W a fa)
    (hs : starEach [a] X.env = (false, eval a X.env) :: starEach [] X.env := by rfl) (hs2 : starEach [Expr.Call (.Name "reversed" p2) [a] [] pos2] X.env = (false, eval (Expr.Call (.Name "reversed" p2) [a] [] pos2) X.env) :: starEach [] X.env := by rfl) :
    FE X W (.Call (.Name "list" p) [.Call (.Name "reversed" p2) [a] [] pos2] [] pos) (eOp1 (oListRev c) fa) := pe_weak (pe_listRev hc hg hm hg2 hm2 ha hs hs2) fun σ H Q h => by
  obtain ⟨Z, ρ, at_, h⟩ := h
  refine ⟨Z, ρ, at_, h.bind.mono fun p Z1 s h1 v hv => ?_⟩
  have h2 := h1.of
  obtain ⟨l, e, h2⟩ := AftO.okOr h2
  obtain ⟨b, xs, rfl, sq, pa⟩ := litems_ok s.ok e hv
  have hK : Z1.M.K = X.K := by rw [s.M, at_.M]
  rw [hK] at sq
  exact ⟨b, xs, rfl, sq, fun q hn => newL_ok s.ok (PA.reverse pa) hn h2⟩
end
section
open L2
def Ty.nm : Ty → String
  | .int => "int"
  | .str => "str"
  | .bool => "bool"
  | .tuple => "tuple"
theorem kb_non (t : Ty) : kitB "NoneType" t.nm = some (isI t .none) := by cases t <;> decide +kernel
theorem kb_bl (t : Ty) (b : Bool) : kitB "bool" t.nm = some (isI t (.bool b)) := by
  have h : ∀ t : Ty, kitB "bool" t.nm = some (t == .int || t == .bool) := by intro t; cases t <;> decide +kernel
  exact h t
theorem kb_int (t : Ty) (i : Int) : kitB "int" t.nm = some (isI t (.int i)) := by
  have h : ∀ t : Ty, kitB "int" t.nm = some (t == .int) := by intro t; cases t <;> decide +kernel
  exact h t
theorem kb_str (t : Ty) (x : Str) : kitB "str" t.nm = some (isI t (.str x)) := by
  have h : ∀ t : Ty, kitB "str" t.nm = some (t == .str) := by intro t; cases t <;> decide +kernel
  exact h t
theorem kb_lst (t : Ty) : kitB "list" t.nm = some false := by cases t <;> decide +kernel
theorem kb_tup (t : Ty) (l : List PyData) : kitB "tuple" t.nm = some (isI t (.tuple l)) := by
  have h : ∀ t : Ty, kitB "tuple" t.nm = some (t == .tuple) := by intro t; cases t <;> decide +kernel
  exact h t
theorem oIsI_ok {Z : Sit} {t : Ty} {p : DK.P} {v : V} {Q : VK} (ok : Z.Ok) (hp : Z.P p v) (h : AftO Z (oIsI t p Z.S) fun r Z' => ∀ v, Z'.P r v → Q v Z'.H) : ∃ (tv : Value) (b : Bool), TyX Z.M.K Z.H v tv ∧ PySem.W.kitOne Z.M.K tv (.type t.nm) = some b ∧ Q (.bl b) Z.H := by
  cases p with
  | d x =>
    have q := AftO.now ok h _ (.bl _)
    cases hp with
    | non => exact ⟨_, _, .base .non, kit_ty (kb_non t), q⟩
    | bl b => exact ⟨_, _, .base (.bl b), kit_ty (kb_bl t b), q⟩
    | int i => exact ⟨_, _, .base (.int i), kit_ty (kb_int t i), q⟩
    | str x _ _ => exact ⟨_, _, .base (.str x), kit_ty (kb_str t x), q⟩
    | lst h1 _ =>
      rcases h1 with ⟨h1 | ⟨o, h1⟩, _⟩ | ⟨o, its, n, h1, h2, _⟩
      · exact ⟨_, _, .base (.lst h1), kit_ty (kb_lst t), q⟩
      · exact ⟨_, _, .base (.frz h1), kit_ty (kb_lst t), q⟩
      · exact ⟨_, _, .kList h1 h2, kit_ty (kb_lst t), q⟩
    | @tup _ _ l h1 _ =>
      rcases h1 with ⟨h1 | ⟨o, h1⟩, _⟩ | ⟨o, its, n, h1, h2, _⟩
      · exact ⟨_, _, .base (.tup h1), kit_ty (kb_tup t l), q⟩
      · exact ⟨_, _, .fTuple h1, kit_ty (kb_tup t l), q⟩
      · exact ⟨_, _, .kTuple h1 h2, kit_ty (kb_tup t l), q⟩
  | r i =>
    obtain ⟨a, ea, rfl⟩ := hp
    unfold oIsI at h
    dsimp only at h
    cases hl : Z.S[i]? with
    | none => rw [hl] at h; exact h.elim
    | some c =>
      rw [hl] at h
      cases c with
      | lst l =>
        obtain ⟨xs, hx, pa⟩ := cell_L ok ea (.inl hl)
        exact ⟨_, _, .base (.lst hx), kit_ty (kb_lst t), AftO.now ok h _ (.bl _)⟩
      | fz l =>
        obtain ⟨xs, hx, pa⟩ := cell_L ok ea (.inr hl)
        exact ⟨_, _, .base (.lst hx), kit_ty (kb_lst t), AftO.now ok h _ (.bl _)⟩
      | _ => exact h.elim
variable {X : Cx} {W : WX} {e : Expr} {f : Ex} {p p2 pos : Pos} {T : Str}
theorem fe_isi (t : Ty) (hg : Gl X "isinstance") (hm : X.mg "isinstance" = none) (hg2 : Gl X T) (hm2 : X.mg T = none) (hv2 : bootBuiltins T = some (.type t.nm)) (he : FE X W e f)
    (hs : starEach (e :: [Expr.Name T p2]) X.env = (false, eval e X.env) :: starEach [Expr.Name T p2] X.env := by rfl) (hs2 : starEach (Expr.Name T p2 :: []) X.env = (false, eval (Expr.Name T p2) X.env) :: starEach [] X.env := by rfl)
    (hpl : (backTo pos (starEach [Expr.Name T p2] X.env)).any (·.1) = false := by rfl) (hn : T ≠ "__name__" := by decide) (hd : (T == ("__debug__" : Str)) = false := by decide) :
    FE X W (.Call (.Name "isinstance" p) [e, .Name T p2] [] pos) (eOp1 (oIsI t) f) :=
  pe_weak (pe_callB call_isi hg hm (by decide +kernel) (pa_cons he (pa_cons (pe_bltn (v := .ty t.nm) hg2 hm2 hv2 rfl hn hd) pa_nil hs2) hs) (by decide) (by decide) hs hpl) fun σ H Q h => by
    obtain ⟨Z, ρ, at_, h⟩ := h
    refine ⟨Z, ρ, at_, h.bind.mono fun q Z1 s h1 v hv => ?_⟩
    obtain ⟨tv, b, h2, h3, h4⟩ := oIsI_ok s.ok hv h1.of
    have hK : Z1.M.K = X.K := by rw [s.M, at_.M]
    rw [hK] at h2 h3
    exact ⟨v, .ty t.nm, tv, _, b, rfl, .ty _, h2, h3, h4⟩
end
end DK

end SDKRev

section SDKTxt
set_option Elab.async false
set_option linter.all false
set_option autoImplicit false
set_option maxHeartbeats 1000000
/-! DKTxt: texts split, sliced, walked; slices of lists; all, any. -/
namespace DK
open PySem PySem.Spec PyProof.Rows L2
/-! the parts of a text -/
theorem strOk_sub {x : Str} (h : PyData.strOk x = true) {y : Str} (hy : ∀ c ∈ y.cps.toList, c ∈ x.cps.toList) : PyData.strOk y = true := by
  unfold PyData.strOk at h ⊢
  rw [← Array.all_toList, List.all_eq_true] at h ⊢
  exact fun c hc => h c (hy c hc)
theorem sub_mem (x : Str) (i j : Nat) : ∀ c ∈ (Builtin.Str.strSub x i j).cps.toList, c ∈ x.cps.toList := fun c hc => by
  simp only [Builtin.Str.strSub, Array.toList_extract, List.extract_eq_take_drop] at hc
  exact List.mem_of_mem_drop (List.mem_of_mem_take hc)
theorem partsFrom_mem (x : Str) (w : Nat) : ∀ (cuts : List Nat) (a : Nat), ∀ p ∈ StrLaws.partsFrom x w a cuts, ∀ c ∈ p.cps.toList, c ∈ x.cps.toList
  | [], a, p, hp => by rw [List.mem_singleton.mp hp]; exact sub_mem x _ _
  | c :: r, a, p, hp => by
    rcases List.mem_cons.mp hp with rfl | hp'
    · exact sub_mem x _ _
    · exact partsFrom_mem x w r _ p hp'
theorem part_mem {x y a : Str} (h : a ∈ Txt.split x y) : ∀ c ∈ a.cps.toList, c ∈ x.cps.toList := by
  unfold Txt.split at h
  split at h
  · rw [List.mem_singleton.mp h]; exact fun _ h => h
  · split at h
    · rw [List.mem_singleton.mp h]; exact fun _ h => h
    · rw [StrLaws.partsBetween_eq] at h
      exact partsFrom_mem x _ _ _ a h
theorem strs_R {K : PySem.W.Frag} {L : Addr → Prop} {H : Hp} : ∀ {l : List Str}, (∀ y ∈ l, y.length ≤ LINE ∧ PyData.strOk y = true) → RpA K L H (l.map .str) (l.map V.str)
  | [], _ => .nil
  | y :: l, h => .cons (.str y (h y (by simp)).1 (h y (by simp)).2) (strs_R fun z hz => h z (by simp [hz]))
section
variable {X : Cx} {W : WX}
theorem mm_split : MtM1 X "str.split" oSplit := fun pins s σ H x xs v us Q I rx rs ⟨y, e, Z, p, q, hM, ok, hH, hp, hq, h⟩ => by
  subst e hH
  unfold oSplit at h
  split at h
  · rename_i a b
    obtain ⟨⟨hb, hz⟩, h⟩ := h.ite
    cases hp with
    | str _ a1 a2 =>
      cases hq
      refine mt_split pins s σ _ _ _ v us Q I rx rs ⟨a, b, rfl, rfl, hb, by rw [← LINE_eq]; exact hz, fun p hn => ?_⟩
      refine newL_ok (c := false) (l := ((Txt.split a b).map PyData.str).map .d) ok (RA_map (strs_R fun y hy => ⟨Nat.le_trans (part_short hy) a1, strOk_sub a2 (part_mem hy)⟩)) hn ?_
      unfold newL
      rw [allD_map]
      exact h
  · exact h.elim
theorem om_inS : OpM X (compareOp .In) (oInS id) := fun pins s σ H x y v u Q I rx ry ⟨Z, p, q, hM, ok, hH, hp, hq, h⟩ => by
  subst hH
  unfold oInS at h
  split at h
  · rename_i c z
    split at h
    · rename_i a e
      cases hp; cases hq
      have ec : c = ⟨#[a]⟩ := by cases c with | mk q => exact congrArg Str.mk (Array.toList_inj.mp e)
      exact op_in_sign pins s σ _ _ _ v u Q I rx ry ⟨a, z, by rw [ec], rfl, AftO.bl ok h⟩
    · exact h.elim
  · exact h.elim
theorem om_notInS : OpM X (compareOp .NotIn) (oInS not) := fun pins s σ H x y v u Q I rx ry ⟨Z, p, q, hM, ok, hH, hp, hq, h⟩ => by
  subst hH
  unfold oInS at h
  split at h
  · rename_i c z
    split at h
    · rename_i a e
      cases hp; cases hq
      have ec : c = ⟨#[a]⟩ := by cases c with | mk q => exact congrArg Str.mk (Array.toList_inj.mp e)
      exact op_notIn_sign pins s σ _ _ _ v u Q I rx ry ⟨a, z, by rw [ec], rfl, AftO.bl ok h⟩
    · exact h.elim
  · exact h.elim
theorem cm_intS : CaM1 X (.type "int") oIntS := fun pins s σ H xs us Q I rs ⟨x, e, Z, p, hM, ok, hH, hp, h⟩ => by
  subst e hH
  unfold oIntS at h
  split at h
  · rename_i a
    obtain ⟨hl, h⟩ := h.ite
    obtain ⟨n, hn, h⟩ := h.okOr
    cases hp
    exact call_int_str pins s σ _ _ us Q I rs ⟨a, n, rfl, hn, hl, AftO.int ok h⟩
  · exact h.elim
theorem bls_ok {Z : Sit} : ∀ {l : List DK.P} {vs : List V} {bs : List Bool}, blsOf l = some bs → Z.PA l vs → vs = bs.map V.bl
  | [], _, _, e, .nil => by cases e; rfl
  | .d (.bool x) :: l, _, _, e, .cons r t => by
    simp only [blsOf] at e
    split at e
    · rename_i q hq
      cases e
      have h1 := bls_ok hq t
      cases r
      subst h1
      rfl
    · cases e
theorem cm_all (hc : X.calm = true) : CaM1 X (.builtin "all") oAll := fun pins s σ H xs us Q I rs ⟨x, e, Z, p, hM, ok, hH, hp, h⟩ => by
  subst e hH
  have hK : Z.M.K = X.K := by rw [hM]
  obtain ⟨l, e, h⟩ := h.okOr
  obtain ⟨bs, e2, h⟩ := h.okOr
  obtain ⟨a, xs, rfl, sq, pa⟩ := litems_ok ok e hp
  rw [hK] at sq
  have := bls_ok e2 pa
  subst this
  exact cr_all hc pins s σ _ _ us Q I rs ⟨a, bs, rfl, sq, AftO.bl ok h⟩
theorem cm_any (hc : X.calm = true) : CaM1 X (.builtin "any") oAny := fun pins s σ H xs us Q I rs ⟨x, e, Z, p, hM, ok, hH, hp, h⟩ => by
  subst e hH
  have hK : Z.M.K = X.K := by rw [hM]
  obtain ⟨l, e, h⟩ := h.okOr
  obtain ⟨bs, e2, h⟩ := h.okOr
  obtain ⟨a, xs, rfl, sq, pa⟩ := litems_ok ok e hp
  rw [hK] at sq
  have := bls_ok e2 pa
  subst this
  exact cr_any hc pins s σ _ _ us Q I rs ⟨a, bs, rfl, sq, AftO.bl ok h⟩
/-! walks over a text -/
theorem walk_txt {Z : Sit} {x : Str} (h : PyData.strOk x = true) : Walk (Its x) Z (x.cps.toList.map fun c => vS ⟨#[c]⟩) := fun Z' s i => by
  refine ⟨fun p e => ?_, fun e => ?_⟩
  · rw [List.getElem?_map] at e
    cases q : x.cps.toList[i]? with
    | none => rw [q] at e; cases e
    | some c =>
      rw [q] at e
      have ep : vS ⟨#[c]⟩ = p := Option.some.inj e
      have q' : x.cps[i]? = some c := by rw [← Array.getElem?_toList]; exact q
      refine ⟨(Array.getElem?_eq_some_iff.mp q').1, fun y H' ⟨e1, c', e2, e3⟩ => ⟨Z', .refl s.ok, rfl, e1.symm, ?_⟩⟩
      rw [q'] at e2
      cases e2
      subst ep e3
      exact .str _ (by show 1 ≤ LINE; decide) (strOk_sub h fun d hd => by
        have : d = c := by simpa using hd
        rw [this]; exact List.mem_of_getElem? q)
  · rw [List.getElem?_map] at e
    have : x.cps.toList[i]? = none := by simpa using e
    have := List.getElem?_eq_none_iff.mp this
    show x.cps.size ≤ i
    simpa using this
theorem fi_txt {tg l : Expr} {f : Ex} (hl : FE X W l f) : FI X W tg l (iTxt f) := pi_weak (pi_str hl) fun σ H R ⟨Z, ρ, at_, h⟩ => by
  refine ⟨Z, ρ, at_, h.bind.mono fun p Z1 s h1 v hv => ?_⟩
  unfold txK at h1
  split at h1
  · rename_i x
    cases hv with
    | str _ a1 a2 => exact ⟨x, rfl, Aft.now s.ok h1 _ (walk_txt a2)⟩
  · exact h1.elim
/-! slices -/
def tPt (M : Md) (W : WX) (f : Option Ex) : TO := fun σ H Q => ∃ Z ρ, At M Z σ ρ H ∧ Aft Z (fun c d H' => W c d σ H') (ePart f ρ Z.S) fun o Z' => Q o Z'.H
abbrev FPt (X : Cx) (W : WX) (e : Option Expr) (f : Option Ex) : Prop := PO X e (tPt (md X) W f)
theorem po_weak {e : Option Expr} {t t' : TO} (h : PO X e t) (k : ∀ σ H Q, t' σ H Q → t σ H Q) : PO X e t' := ⟨fun pins s σ H Q I q => h.run pins s σ H Q I (k σ H Q q)⟩
theorem fpt_none : FPt X W none none := po_weak po_none fun σ H Q ⟨Z, ρ, a, h⟩ => by
  show Q none H; rw [← a.H]; exact Aft.now a.ok h
theorem fpt_some {e : Expr} {f : Ex} (h : FE X W e f) : FPt X W (some e) (some f) := po_weak (po_some h) fun σ H Q ⟨Z, ρ, a, h⟩ => by
  refine ⟨Z, ρ, a, h.bind.mono fun p Z1 s h1 v hv => ?_⟩
  unfold kPart at h1
  split at h1
  · rename_i i
    cases hv
    exact ⟨i, rfl, Aft.now s.ok h1⟩
  · exact h1.elim
def rSlM (M : Md) (c : Bool) : V → Option Int → Option Int → Hp → VK → Prop := fun x lo hi H Q => ∃ Z p, Z.M = M ∧ Z.Ok ∧ Z.H = H ∧ Z.P p x ∧ AftO Z (oSl c lo hi p Z.S) fun r Z' => ∀ v, Z'.P r v → Q v Z'.H
theorem PA_drop {Z : Sit} : ∀ {l : List DK.P} {xs : List V} (n : Nat), Z.PA l xs → Z.PA (l.drop n) (xs.drop n)
  | _, _, 0, h => h
  | _, _, n + 1, .nil => .nil
  | _, _, n + 1, .cons _ t => PA_drop n t
theorem PA_take {Z : Sit} : ∀ {l : List DK.P} {xs : List V} (n : Nat), Z.PA l xs → Z.PA (l.take n) (xs.take n)
  | _, _, 0, _ => .nil
  | _, _, n + 1, .nil => .nil
  | _, _, n + 1, .cons r t => .cons r (PA_take n t)
theorem PA_cut {Z : Sit} {l : List DK.P} {xs : List V} {lo hi : Option Int} (h : Z.PA l xs) : Z.PA (cutP l lo hi) (cutV xs lo hi) := by
  unfold cutP cutV
  rw [h.length]
  exact PA_take _ (PA_drop _ h)
theorem sl_m {c : Bool} : SlR X (rSlM (md X) c) := fun pins s σ H x v vl vu lo hi sl Q I rx hs pl pu ⟨Z, p, hM, ok, hH, hp, h⟩ => by
  subst hH
  have hK : Z.M.K = X.K := by rw [hM]
  unfold oSl at h
  split at h
  · rename_i z
    cases hp with
    | str _ a1 a2 =>
      refine sl_str pins s σ _ _ v vl vu lo hi sl Q I rx hs pl pu ⟨z, rfl, by rw [← LINE_eq]; exact a1, AftO.now ok h _ (.str _ ?_ (strOk_sub a2 fun d hd => ?_))⟩
      · refine Nat.le_trans ?_ a1
        show (cutS z lo hi).cps.size ≤ z.cps.size
        unfold cutS
        rw [List.size_toArray, List.length_take, List.length_drop, Array.length_toList]
        omega
      · unfold cutS at hd
        exact List.mem_of_mem_drop (List.mem_of_mem_take (by simpa using hd))
  · obtain ⟨l, e, h⟩ := h.okOr
    obtain ⟨a, xs, rfl, sq, pa⟩ := litems_ok ok e hp
    rw [hK] at sq
    exact sl_list pins s σ _ _ v vl vu lo hi sl Q I rx hs pl pu ⟨a, xs, rfl, sq, fun p hn => newL_ok ok (PA_cut pa) hn h⟩
theorem fe_sl {a : Expr} {lo hi : Option Expr} {c : Bool} {fa : Ex} {fl fh : Option Ex} {p2 pos : Pos} (ha : FE X W a fa) (hl : FPt X W lo fl) (hh : FPt X W hi fh) : FE X W (.Subscript a (.Slice lo hi none p2) pos) (eSl c fa fl fh) :=
  pe_weak (pe_slice (sl_m (c := c)) ha hl hh) fun σ H Q ⟨Z, ρ, at_, h⟩ => by
    refine ⟨Z, ρ, at_, h.bind.mono fun p Z1 s h1 v hv => ⟨Z1, ρ, at_.next s, h1.bind.mono fun l Z2 s2 h2 => ⟨Z2, ρ, (at_.next s).next s2, h2.bind.mono fun u Z3 s3 h3 => ?_⟩⟩⟩
    exact ⟨Z3, p, s3.M.trans (s2.M.trans (s.M.trans at_.M)), s3.ok, rfl, s3.P (s2.P hv), h3.of⟩
end
end DK

end SDKTxt

section SDKObj
set_option Elab.async false
set_option linter.all false
set_option autoImplicit false
set_option maxHeartbeats 1000000
/-! DKObj: objects of own classes; what raises. -/
namespace DK
open PySem PySem.Spec PyProof.Rows L2
section
variable {X : Cx} {CX : CXT} {k : Nat} {f C : Addr} {fd : FuncData} {ps : List Str} {sp : Sp} {E : Slots → XK} {x m : Str} {p pos apos : Pos} {e o : Expr} {es : List Expr} {ta : TE} {t : TA}
/-! methods, objects made: exceptions by the slots -/
def tMethSD (C : Addr) (m : Str) (sp : Sp) (E : Slots → XK) (ta : TE) (t : TA) : TE := fun σ H Q => ta σ H fun x H1 => ∃ a dx fs, x = .ref a ∧ H1 a = some (.ins C dx fs) ∧ fs.lookup m = none ∧ t σ H1 fun vs H2 => sp (x :: (vs ++ [])) H2 Q (E σ)
theorem pe_methSD {pl : Sem Bool} (he : PE X o ta) (c : Cls X.K C) (hm : Meth X.K C m f) (F : FnOk X.prog X.w X.K X.mg X.base CX k f fd ps sp) (hr : Room k X.A) (hb : Binds X.K fd ps []) (hx : ∀ σ, PassesAt CX X σ (E σ)) (ha : PA X (e :: es) t)
    (hst : starEach (e :: es) X.env = (false, eval e X.env) :: starEach es X.env := by rfl) (hpl : (backTo pos (starEach es X.env)).any (·.1) = false := by rfl)
    (ht : eval (.Call (.Attribute o m apos) (e :: es) [] pos) X.env = (do
      let ov ← eval o X.env
      standAt apos.atName
      let (f, first) ← holding [ov] (getMethod ov m pl)
      callWith pos f first (backTo pos (starEach (e :: es) X.env)) (backToKw pos (keywordEach [] X.env))) := by rfl) :
    PE X (.Call (.Attribute o m apos) (e :: es) [] pos) (tMethSD C m sp E ta t) := by
  refine ⟨fun pins s σ H Q I h => ?_⟩
  refine PySem.W.methodCall_KW (pl := pl) (thn (he.run pins s σ H _ I h) fun u s1 ⟨x, H1, I1, rx, a, dx, fs, ex, ea, l, q⟩ => ?_) ht
  subst ex
  obtain rfl : u = Value.ref a := rx
  refine getmeth_ok I1 ea c hm l ?_
  refine PySem.W.callWith_K (first := [.ref a]) (h₀ := X.base) I.ok.mod.kin hm.kp (thn (ha.run pos pins s1 σ H1 _ I1 q) fun us s2 ⟨vs, H2, I2, r, q2⟩ => ⟨I2.kIn, ?_⟩) hst hpl
  exact run_fnSD (us := .ref a :: us) (vs := .ref a :: vs) F hr hb .nil (hx σ) I2 (.cons rfl r) q2
theorem pe_methSD0 {pl : Sem Bool} (he : PE X o ta) (c : Cls X.K C) (hm : Meth X.K C m f) (F : FnOk X.prog X.w X.K X.mg X.base CX k f fd ps sp) (hr : Room k X.A) (hb : Binds X.K fd ps []) (hx : ∀ σ, PassesAt CX X σ (E σ))
    (ht : eval (.Call (.Attribute o m apos) [] [] pos) X.env = (do
      let ov ← eval o X.env
      standAt apos.atName
      let (f, first) ← holding [ov] (getMethod ov m pl)
      callWith pos f first (backTo pos (starEach [] X.env)) (backToKw pos (keywordEach [] X.env))) := by rfl) :
    PE X (.Call (.Attribute o m apos) [] [] pos) (tMethSD C m sp E ta tNil) := by
  refine ⟨fun pins s σ H Q I h => ?_⟩
  refine PySem.W.methodCall_KW (pl := pl) (thn (he.run pins s σ H _ I h) fun u s1 ⟨x, H1, I1, rx, a, dx, fs, ex, ea, l, q⟩ => ?_) ht
  subst ex
  obtain rfl : u = Value.ref a := rx
  refine getmeth_ok I1 ea c hm l ?_
  exact PySem.W.callWith_K0 (first := [.ref a]) I1.kIn hm.kp (run_fnSD (us := [.ref a]) (vs := [.ref a]) F hr hb .nil (hx σ) I1 (.cons rfl .nil) q)
theorem run_makeSD {ds : List Value} {dvs : List V} {pins : List (Addr × Obj)} {σ : Slots} {H : Hp} {s : Shared} {Q : VK} {us : List Value} {vs : List V} (M : Mk X.K C f) (F : FnOk X.prog X.w X.K X.mg X.base CX k f fd ps sp) (hr : Room (k + 1) X.A) (hb : Binds X.K fd ps ds) (hd : Vals dvs ds)
    (hx : ∀ σ, PassesAt CX X σ (E σ)) (I : Inv X pins σ H s) (r : Vals vs us)
    (h : ∀ x dx, H x = none → H dx = none → dx ≠ x → sp (.ref x :: (vs ++ dvs)) (upd (upd H dx (.own x)) x (.ins C dx [])) (fun v H2 => v = .non ∧ Q (.ref x) H2) (E σ)) :
    wpAny (model X.prog X.w) X.A (call (.ref C) us) (EP X pins σ Q) X.xe s := by
  have hq := h (s.heap.objs.size + 1) s.heap.objs.size (I.hok.fresh (Nat.le_succ _)) (I.hok.fresh (Nat.le_refl _)) (Nat.ne_of_lt (Nat.lt_succ_self _))
  have I2 := Inv.made (C := C) I
  have r2 : Vals (V.ref (s.heap.objs.size + 1) :: (vs ++ dvs)) (Value.ref (s.heap.objs.size + 1) :: (us ++ ds)) := .cons rfl (r.append hd)
  have hl : (Value.ref (s.heap.objs.size + 1) :: us ++ ds).length = ps.length := by
    have e := r2.length
    rw [F.len _ _ _ _ hq] at e
    exact e.symm
  refine wpAny_call (make_map (f := f) I.kIn M.makes M.init (beq_iff_eq.mp M.fn) (codeAny_mono (F.run _ X.stack _ _ ⟨Value.ref (s.heap.objs.size + 1) :: us, []⟩ (Value.ref (s.heap.objs.size + 1) :: (us ++ ds)) _ _ (E σ) (hr.make C us [])
    (I2.env0.make C us []) (hb _ (Value.ref (s.heap.objs.size + 1) :: us) I2.kIn hl) r2 hq) fun r s' hq' => ?_))
  cases r with
  | error e => exact hx σ pins _ _ e s' I2 hq'
  | ok fl =>
    cases fl with
    | ret u =>
      obtain ⟨v, H', I3, rv, ev, q3⟩ := I2.after hq'
      subst ev
      exact ⟨rv, ⟨V.ref (s.heap.objs.size + 1), H', I3, rfl, q3⟩⟩
    | next => exact False.elim hq'
    | brk => exact False.elim hq'
    | cont => exact False.elim hq'
def tMakeSD (C : Addr) (sp : Sp) (E : Slots → XK) (t : TA) : TE := fun σ H Q => t σ H fun vs H1 => ∀ x dx, H1 x = none → H1 dx = none → dx ≠ x →
  sp (.ref x :: (vs ++ [])) (upd (upd H1 dx (.own x)) x (.ins C dx [])) (fun v H2 => v = .non ∧ Q (.ref x) H2) (E σ)
theorem pe_makeSD (M : Mk X.K C f) (F : FnOk X.prog X.w X.K X.mg X.base CX k f fd ps sp) (hr : Room (k + 1) X.A) (hg : Gl X x) (hm : X.mg x = some (.ref C)) (hb : Binds X.K fd ps []) (hx : ∀ σ, PassesAt CX X σ (E σ))
    (ha : PA X (e :: es) t) (hdb : (x == ("__debug__" : Str)) = false := by decide) (he : starEach (e :: es) X.env = (false, eval e X.env) :: starEach es X.env := by rfl) (hpl : (backTo pos (starEach es X.env)).any (·.1) = false := by rfl) :
    PE X (.Call (.Name x p) (e :: es) [] pos) (tMakeSD C sp E t) := by
  refine ⟨fun pins s σ H Q I h => ?_⟩
  refine wpAny_Call_Name_kw (ld_glob I hg hm ?_ hdb)
  refine PySem.W.callWith_K (h₀ := X.base) I.ok.mod.kin M.kp (thn (ha.run pos pins s σ H _ I h) fun us s1 ⟨vs, H1, I1, r, q⟩ => ⟨I1.kIn, ?_⟩) he hpl
  exact run_makeSD M F hr hb .nil hx I1 r q
end

/-! ### the store's objects -/
theorem look_ok {Z : Sit} {f : Str} : ∀ {fs : List (Str × DK.P)} {vs : List (Str × V)}, Paired (fun (p : Str × DK.P) (q : Str × V) => q.1 = p.1 ∧ Z.P p.2 q.2) fs vs →
    (∀ {p}, lookF f fs = some p → ∃ v, vs.lookup f = some v ∧ Z.P p v) ∧ (lookF f fs = none → vs.lookup f = none)
  | _, _, .nil => ⟨fun e => (nomatch e), fun _ => rfl⟩
  | (g, x) :: r, (g', y) :: w, .cons h t => by
    obtain ⟨h1, h2⟩ := h
    have h1 : g' = g := h1
    subst h1
    have ih := look_ok (f := f) t
    simp only [lookF]
    by_cases e : g' = f
    · subst e
      rw [if_pos rfl]
      refine ⟨fun {p} e => ⟨y, by simp [List.lookup], by cases e; exact h2⟩, fun e => by cases e⟩
    · rw [if_neg e]
      have hb : (f == g') = false := beq_eq_false_iff_ne.mpr (Ne.symm e)
      simp only [List.lookup, hb]
      exact ih
theorem put_ok {Z : Sit} {f : Str} {p : DK.P} {v : V} (hv : Z.P p v) : ∀ {fs : List (Str × DK.P)} {vs : List (Str × V)}, Paired (fun (p : Str × DK.P) (q : Str × V) => q.1 = p.1 ∧ Z.P p.2 q.2) fs vs →
    Paired (fun (p : Str × DK.P) (q : Str × V) => q.1 = p.1 ∧ Z.P p.2 q.2) (putFs f p fs) (putF f v vs)
  | _, _, .nil => .cons ⟨rfl, hv⟩ .nil
  | (g, x) :: r, (g', y) :: w, .cons h t => by
    obtain ⟨h1, h2⟩ := h
    have h1 : g' = g := h1
    subst h1
    simp only [putFs, putF]
    by_cases e : g' = f
    · rw [if_pos e, if_pos e]; exact .cons ⟨rfl, hv⟩ t
    · rw [if_neg e, if_neg e]; exact .cons ⟨rfl, h2⟩ (put_ok hv t)
theorem flds_ok {Z : Sit} {k : Kc} {p : DK.P} {i : Nat} {fs : List (Str × DK.P)} {v : V} (ok : Z.Ok) (e : flds k Z.S p = some (i, fs)) (h : Z.P p v) :
    p = .r i ∧ Z.S[i]? = some (.ins k fs) ∧ ∃ a C dx vs, Z.μ[i]? = some a ∧ v = .ref a ∧ Z.M.mg (strName k) = some (.ref C) ∧ Z.H a = some (.ins C dx vs) ∧ Paired (fun (p : Str × DK.P) (q : Str × V) => q.1 = p.1 ∧ Z.P p.2 q.2) fs vs := by
  cases p with
  | d x => cases e
  | r j =>
    simp only [flds] at e
    split at e
    · rename_i c fs' hc
      split at e
      · rename_i hk
        cases e
        subst hk
        obtain ⟨a, ea, rfl⟩ := h
        obtain ⟨C, dx, vs, h1, h2, h3⟩ := ok.c _ _ _ ea hc
        exact ⟨rfl, hc, a, C, dx, vs, ea, rfl, h1, h2, h3⟩
      · cases e
    · cases e
/-- where a class's defs stand -/
def inCls (s : Stmt) (i : Nat) : Stmt := match s with
  | .ClassDef _ _ _ b _ _ _ _ _ _ _ => b.getD i (.Pass ⟨0, 0, 0, 0⟩)
  | s => s
structure MethAt (K : PySem.W.Frag) (mg : Str → Option Value) (c : Kc) (m qual : Str) (st : Stmt) (ps : List Str) : Prop where
  ex : ∃ (C f : Addr) (fd : FuncData), mg (strName c) = some (.ref C) ∧ Cls K C ∧ Meth K C m f ∧ L2.Fun K m qual st f fd ∧ ∀ (s : Shared) (us : List Value), us.length = ps.length → BindsTo s fd ⟨us, []⟩ (ps.zip us)
structure InitAt (K : PySem.W.Frag) (mg : Str → Option Value) (c : Kc) (qual : Str) (st : Stmt) (ps : List Str) : Prop where
  ex : ∃ (C f : Addr) (fd : FuncData), mg (strName c) = some (.ref C) ∧ Mk K C f ∧ L2.Fun K "__init__" qual st f fd ∧ ∀ (s : Shared) (us : List Value), us.length = ps.length → BindsTo s fd ⟨us, []⟩ (ps.zip us)
/-- a method -/
structure HasM (P : Program) (w : World) (K : PySem.W.Frag) (mg : Str → Option Value) (k : Nat) (c : Kc) (m : Str) (ps : List Str) (g : Fn) : Prop where
  ex : ∃ (C f : Addr) (fd : FuncData), mg (strName c) = some (.ref C) ∧ Cls K C ∧ Meth K C m f ∧ (∀ (s : Shared) (us : List Value), us.length = ps.length → BindsTo s fd ⟨us, []⟩ (ps.zip us)) ∧ ∀ base, FnOk P w K mg base (L2.CX P w) k f fd ps (spM ⟨K, mg⟩ ps.length g)
/-- __init__ -/
structure HasI (P : Program) (w : World) (K : PySem.W.Frag) (mg : Str → Option Value) (k : Nat) (c : Kc) (ps : List Str) (g : Fn) : Prop where
  ex : ∃ (C f : Addr) (fd : FuncData), mg (strName c) = some (.ref C) ∧ Mk K C f ∧ (∀ (s : Shared) (us : List Value), us.length = ps.length → BindsTo s fd ⟨us, []⟩ (ps.zip us)) ∧ ∀ base, FnOk P w K mg base (L2.CX P w) k f fd ps (spM ⟨K, mg⟩ ps.length g)
section
variable {P : Program} {w : World} {K : PySem.W.Frag} {mg : Str → Option Value}
theorem fn_ok {x qual : Str} {st : Stmt} {f : Addr} {fd : FuncData} {N ps : List Str} {k : Nat} {b : Sx} (F : L2.Fun K x qual st f fd) (S : FnScope N ps (defScope st)) (hN : ps.length ≤ N.length)
    (hbody : ∀ (base : Heap) (cdv : Value) (A : Around) (outer : List PySem.Env) (s : Shared) (H : Hp) (E : XK), Room k (A.deeper (envOfC qual (defScope st) s.heap.objs.size f cdv)) →
      FSs (cxOf (L2.CX P w) P w K mg base N qual (defScope st) f cdv A outer s H E) (fun c d _ H' => E c d H') (defBody st) b) (base : Heap) : FnOk P w K mg base (L2.CX P w) (k + 1) f fd ps (spM ⟨K, mg⟩ ps.length (fnOf (N.length - ps.length) b)) := by
  refine F.okX S (fun vs H Q E h => ?_) fun cdv A outer s H vs Q E hr h => ?_
  · obtain ⟨Z, qs, _, _, _, hl, hp, _⟩ := h
    rw [← hp.length, hl]
  · obtain ⟨Z, qs, hM, ok, hH, hl, hp, h⟩ := h
    refine ⟨_, hbody base cdv A outer s H E hr, Z, qs.map some ++ List.replicate (N.length - ps.length) none, ⟨hM, ok, hH, ?_⟩, ?_⟩
    · show Z.E (vs.map some ++ List.replicate (N.length - vs.length) none) _
      rw [← hp.length, hl]
      exact PA_start hp _
    · unfold fnOf at h
      cases e : b (qs.map some ++ List.replicate (N.length - ps.length) none) Z.S with
      | nx ρ' S' => rw [e] at h; exact fun Z' σ' s hS _ => h Z' s hS .non .non
      | rt p S' => rw [e] at h; exact fun Z' v s hS hv => h Z' s hS v hv
      | ex c ρ' S' => rw [e] at h; exact fun Z' σ' s hS _ => h Z' s hS
      | bad => rw [e] at h; exact h
end
section
variable {X : Cx} {W : WX} {e o : Expr} {es : List Expr} {fs : List Ex} {fo fe : Ex} {x m : Str} {p pos apos pos' : Pos} {k : Nat} {c : Kc} {ps : List Str} {g : Fn} {C : Addr}
theorem fe_fld (hC : X.mg (strName c) = some (.ref C)) (hc : Cls X.K C) (hn : NoAttr X.K C m) (ho : FE X W o fo) (hb : attributeBase o m X.env (eval o X.env) = eval o X.env := by rfl) : FE X W (.Attribute o m pos) (eFld c m fo) := pe_weak (pe_fld ho hb) fun σ H Q ⟨Z, ρ, at_, h⟩ => by
  refine ⟨Z, ρ, at_, h.bind.mono fun p Z1 s h1 v hv => ?_⟩
  unfold gFld at h1
  split at h1
  · rename_i i fs e
    obtain ⟨rfl, hi, a, C', dx, vs, ea, rfl, hC', hH, pr⟩ := flds_ok s.ok e hv
    split at h1
    · rename_i q eq
      obtain ⟨y, ey, hy⟩ := (look_ok pr).1 eq
      rw [s.M, at_.M] at hC'
      cases hC.symm.trans hC'
      exact ⟨a, C, dx, vs, y, rfl, hH, hc, hn, ey, Aft.now s.ok h1 y hy⟩
    · exact h1.elim
  · exact h1.elim
theorem fs_store (hC : X.mg (strName c) = some (.ref C)) (hc : Cls X.K C) (hn : NoAttr X.K C m) (ho : FE X W o fo) (hv : FE X W e fe) (hs : swapsWith e (some (.Attribute o m pos')) pos.line X.env = pure false := by rfl) : FS X W (.Assign [.Attribute o m pos'] e pos) (sStore c m fo fe) := ps_weak (ps_fld ho hv hs) fun D σ H ⟨Z, ρ, at_, h⟩ => by
  refine ⟨Z, ρ, at_, (h.then at_.E).mono fun q Z1 s h1 y hy => ⟨Z1, ρ, at_.next s, (h1.then (s.E at_.E)).mono fun p Z2 s2 h2 v hv => ?_⟩⟩
  unfold sFldK putO at h2
  split at h2
  · rename_i S' e
    split at e
    · rename_i i fs e1
      split at e
      · rename_i hl
        cases e
        obtain ⟨rfl, hi, a, C', dx, vs, ea, rfl, hC', hH, pr⟩ := flds_ok s2.ok e1 hv
        rw [s2.M, s.M, at_.M] at hC'
        cases hC.symm.trans hC'
        refine ⟨a, C, dx, vs, rfl, hH, hc, hn, by rw [← pr.length]; exact hl, ?_⟩
        have st : Stp Z2 (Z2.wr i a (.ins C dx (putF m y vs)) (.ins c (putFs m q fs))) := s2.ok.wr ea hi rfl fun hP hR => ⟨C, dx, _, by show Z2.M.mg _ = _; rw [s2.M, s.M, at_.M]; exact hC, upd_same, L2.Paired.mapP (put_ok (s2.P hy) pr) fun _ _ z => ⟨z.1, hP z.2⟩⟩
        exact h2 _ σ st rfl (st.E (s2.E (s.E at_.E)))
      · cases e
    · cases e
  · exact h2.elim
theorem fe_meth (Cm : HasM X.prog X.w X.K X.mg k c m ps g) (hr : Room k X.A) (tk : Takes X W) (ho : FE X W o fo) (ha : FA X W (e :: es) (eArgs fs)) (hn : fs.length + 1 = ps.length := by rfl) {pl : Sem Bool}
    (hst : starEach (e :: es) X.env = (false, eval e X.env) :: starEach es X.env := by rfl) (hpl : (backTo pos (starEach es X.env)).any (·.1) = false := by rfl)
    (ht : eval (.Call (.Attribute o m apos) (e :: es) [] pos) X.env = (do
      let ov ← eval o X.env
      standAt apos.atName
      let (f, first) ← holding [ov] (getMethod ov m pl)
      callWith pos f first (backTo pos (starEach (e :: es) X.env)) (backToKw pos (keywordEach [] X.env))) := by rfl) : FE X W (.Call (.Attribute o m apos) (e :: es) [] pos) (eMeth c m g fo fs) := by
  obtain ⟨C, f, fd, hC, hc, hm, hb, F⟩ := Cm.ex
  refine pe_weak (pe_methSD (pl := pl) ho hc hm (F X.base) hr (binds_of hb) (E := WE W) (fun σ => passAt tk σ) ha hst hpl ht) fun σ H Q ⟨Z, ρ, at_, h⟩ => ?_
  refine ⟨Z, ρ, at_, h.bind.mono fun p Z1 s h1 v hv => ?_⟩
  unfold gMeth at h1
  split at h1
  · rename_i i fs' e1
    obtain ⟨rfl, hi, a, C', dx, vs, ea, rfl, hC', hH, pr⟩ := flds_ok s.ok e1 hv
    split at h1
    · rename_i hno
      rw [s.M, at_.M] at hC'
      cases hC.symm.trans hC'
      refine ⟨a, dx, vs, rfl, hH, (look_ok pr).2 (Option.isNone_iff_eq_none.mp hno), Z1, ρ, at_.next s, ?_⟩
      cases ea2 : eArgs fs ρ Z1.S with
      | bad => rw [ea2] at h1; exact h1.elim
      | ex c S' => rw [ea2] at h1; exact h1
      | ok qs S1 =>
        rw [ea2] at h1
        refine fun Z2 s2 hS2 ws hws => ?_
        have h2 := h1.bind Z2 s2 hS2
        show spM _ _ _ (V.ref a :: (ws ++ [])) _ _ _
        rw [List.append_nil]
        exact ⟨Z2, .r i :: qs, s2.M.trans (s.M.trans at_.M), s2.ok, rfl, by rw [List.length_cons, args_ps ea2]; exact hn, .cons (s2.P hv) hws, callS_ok s2.ok h2⟩
    · exact h1.elim
  · exact h1.elim
theorem fe_meth0 (Cm : HasM X.prog X.w X.K X.mg k c m ps g) (hr : Room k X.A) (tk : Takes X W) (ho : FE X W o fo) (hn : 1 = ps.length := by rfl) {pl : Sem Bool}
    (ht : eval (.Call (.Attribute o m apos) [] [] pos) X.env = (do
      let ov ← eval o X.env
      standAt apos.atName
      let (f, first) ← holding [ov] (getMethod ov m pl)
      callWith pos f first (backTo pos (starEach [] X.env)) (backToKw pos (keywordEach [] X.env))) := by rfl) : FE X W (.Call (.Attribute o m apos) [] [] pos) (eMeth c m g fo []) := by
  obtain ⟨C, f, fd, hC, hc, hm, hb, F⟩ := Cm.ex
  refine pe_weak (pe_methSD0 (pl := pl) ho hc hm (F X.base) hr (binds_of hb) (E := WE W) (fun σ => passAt tk σ) ht) fun σ H Q ⟨Z, ρ, at_, h⟩ => ?_
  refine ⟨Z, ρ, at_, h.bind.mono fun p Z1 s h1 v hv => ?_⟩
  unfold gMeth at h1
  split at h1
  · rename_i i fs' e1
    obtain ⟨rfl, hi, a, C', dx, vs, ea, rfl, hC', hH, pr⟩ := flds_ok s.ok e1 hv
    split at h1
    · rename_i hno
      rw [s.M, at_.M] at hC'
      cases hC.symm.trans hC'
      refine ⟨a, dx, vs, rfl, hH, (look_ok pr).2 (Option.isNone_iff_eq_none.mp hno), ?_⟩
      have h2 : Aft Z1 _ (callS g [.r i] Z1.S) _ := h1
      exact ⟨Z1, [.r i], s.M.trans at_.M, s.ok, rfl, hn, .cons hv .nil, callS_ok s.ok h2⟩
    · exact h1.elim
  · exact h1.elim
theorem fe_make (Cm : HasI X.prog X.w X.K X.mg k c ps g) (hr : Room (k + 1) X.A) (hg : Gl X (strName c)) (tk : Takes X W) (ha : FA X W (e :: es) (eArgs fs)) (hn : fs.length + 1 = ps.length := by rfl) (hdb : ((strName c : Str) == ("__debug__" : Str)) = false := by decide)
    (he : starEach (e :: es) X.env = (false, eval e X.env) :: starEach es X.env := by rfl) (hpl : (backTo pos (starEach es X.env)).any (·.1) = false := by rfl) : FE X W (.Call (.Name (strName c) p) (e :: es) [] pos) (eMake c g fs) := by
  obtain ⟨C, f, fd, hC, M, hb, F⟩ := Cm.ex
  refine pe_weak (pe_makeSD M (F X.base) hr hg hC (binds_of hb) (E := WE W) (fun σ => passAt tk σ) ha hdb he hpl) fun σ H Q ⟨Z, ρ, at_, h⟩ => ⟨Z, ρ, at_, ?_⟩
  unfold eMake at h
  cases ea : eArgs fs ρ Z.S with
  | bad => rw [ea] at h; exact h.elim
  | ex c S' => rw [ea] at h; exact h
  | ok qs S1 =>
    rw [ea] at h
    refine fun Z1 s1 hS1 vs hvs x dx hx hdx ne => ?_
    have h1 := h.bind Z1 s1 hS1
    dsimp only at h1
    rw [List.append_nil]
    have sd : Stp Z1 (Z1.withH (upd Z1.H dx (.own x))) := s1.ok.put hdx
    have hx2 : (Z1.withH (upd Z1.H dx (.own x))).H x = none := by show upd Z1.H dx _ x = none; rw [upd_ne (Ne.symm ne)]; exact hx
    have sn : Stp (Z1.withH (upd Z1.H dx (.own x))) ((Z1.withH (upd Z1.H dx (.own x))).push x (.ins C dx []) (.ins c [])) := sd.ok.push hx2 fun Z' _ e hP hR => by
      subst e
      exact ⟨C, dx, [], by show Z1.M.mg _ = _; rw [s1.M, at_.M]; exact hC, upd_same, .nil⟩
    have st := sd.trans sn
    refine ⟨_, .r Z1.S.length :: qs, st.M.trans (s1.M.trans at_.M), st.ok, rfl, by rw [List.length_cons, args_ps ea]; exact hn, .cons ⟨x, ?_, rfl⟩ (st.PA hvs), ?_⟩
    · show (Z1.μ ++ [x])[Z1.S.length]? = some x
      rw [← s1.ok.len]; simp
    · unfold mkO at h1
      show Aft _ _ (g (.r Z1.S.length :: qs) (Z1.S ++ [.ins c []])) _
      cases eg : g (.r Z1.S.length :: qs) (Z1.S ++ [.ins c []]) with
      | bad => rw [eg] at h1; exact h1.elim
      | ex c' S' => rw [eg] at h1; exact fun Z' s' hS' => by rw [st.M]; exact h1 Z' (st.trans s') hS'
      | ok q S' =>
        rw [eg] at h1
        refine fun Z' s' hS' v hv => ?_
        cases q with
        | r i => exact h1.elim
        | d y =>
          cases y with
          | none =>
            cases hv
            refine ⟨rfl, h1 Z' (st.trans s') hS' _ ⟨x, s'.ix ?_, rfl⟩⟩
            show (Z1.μ ++ [x])[Z1.S.length]? = some x
            rw [← s1.ok.len]; simp
          | _ => exact h1.elim
/-! ### constants of the module -/
theorem fe_gint {n : Int} (h : ∃ t, X.mg x = some (.int n t)) (hg : Gl X x) (hd : (x == ("__debug__" : Str)) = false := by decide) : FE X W (.Name x pos) (eC (vI n)) := by
  obtain ⟨t, h⟩ := h
  exact fe_glob (v := .int n) hg h ⟨_, rfl⟩ (fun _ _ => .int _) hd
theorem fe_gstr {z : Str} (h : ∃ t, X.mg x = some (.str z t)) (hg : Gl X x) (hd : (x == ("__debug__" : Str)) = false := by decide) (h1 : z.length ≤ LINE := by decide +kernel) (h2 : PyData.strOk z = true := by decide +kernel) : FE X W (.Name x pos) (eC (vS z)) := by
  obtain ⟨t, h⟩ := h
  exact fe_glob (v := .str z) hg h ⟨_, rfl⟩ (fun _ _ => .str _ h1 h2) hd
/-- what is not reached -/
theorem fe_bad {e : Expr} : FE X W e eBad := ⟨fun pins s σ H Q I ⟨_, _, _, h⟩ => h.elim⟩
/-! ### what raises -/
theorem fs_bad {st : Stmt} : FS X W st sBad := ⟨fun pins s σ H D I ⟨_, _, _, h⟩ => h.elim⟩
end
end DK

end SDKObj

section SDKEnd
set_option Elab.async false
set_option linter.all false
set_option autoImplicit false
set_option maxHeartbeats 1000000
/-! DKEnd: the end of a law. -/
namespace DK
open PySem PySem.Spec PyProof.Rows L2
def spLaw (K : PySem.W.Frag) : Sp := fun vs H Q _ => ∃ (a : Addr) (ns : List Int), vs = [.ref a] ∧ ns.length ≤ 63 ∧ Only H ∧ SqL K H a (ns.map V.int) ∧ ∀ H', Q (.bl true) H'
theorem spLaw_mk {K : PySem.W.Frag} {H : Hp} {a : Addr} {ns : List Int} (hl : ns.length ≤ 63) (hO : Only H) (hS : SqL K H a (ns.map V.int)) : spLaw K [.ref a] H (fun v _ => v = .bl true) (fun _ _ _ => False) := ⟨a, ns, rfl, hl, hO, hS, fun _ => rfl⟩
theorem cx_false {P : Program} {w : World} {H : Hp} {s : Shared} {e : Value} {s' : Shared} (h : L2.CX P w [] H s (fun _ _ _ => False) e s') : False := by
  obtain ⟨_, _, _, _, _, _, _, _, _, _, _, _, z⟩ := h
  exact z
theorem ra_ints {K : PySem.W.Frag} {L : Addr → Prop} {H : Hp} : ∀ ns : List Int, RpA K L H (ns.map PyData.int) (ns.map V.int)
  | [] => .nil
  | n :: ns => .cons (.int n) (ra_ints ns)
theorem law_end {P : Program} {w : World} {K : PySem.W.Frag} {mg : Str → Option Value} {k : Nat} {g : Fn} {fa : Addr} {x : Str} (C : Has P w K mg k "law" [x] g) (hfa : mg "law" = some (.ref fa))
    (ht : ∀ ns : List Int, ns.length ≤ 63 → ∃ S', g [.d (.list (ns.map .int))] [] = .ok (.d (.bool true)) S') :
    ∃ fd : FuncData, (∀ (s : Shared) (u : Value), BindsTo s fd ⟨[u], []⟩ [(x, u)]) ∧ ∀ base : Heap, K.In base → base.Ns mainGlobals mg → FnOk P w K mg base (L2.CX P w) k fa fd [x] (spLaw K) := by
  obtain ⟨f, fd, hm, hk, hb, F⟩ := C.ex
  have e := hfa.symm.trans hm
  cases e
  refine ⟨fd, fun s u => hb s [u] rfl, fun base _ _ => (F base).imp fun vs H Q E h => ?_⟩
  obtain ⟨a, ns, rfl, hl, hO, hS, q⟩ := h
  obtain ⟨S', e⟩ := ht ns hl
  have nl : ∀ b, ¬ (Sit.mk ⟨K, mg⟩ (fun _ => False) [] [] H).L b := fun b h => h.elim id fun h => lv_nil h
  refine ⟨⟨⟨K, mg⟩, fun _ => False, [], [], H⟩, [.d (.list (ns.map .int))], rfl, ⟨rfl, List.nodup_nil, fun _ h => (nomatch h), fun _ h => h.elim, fun i a c e => by simp at e⟩, rfl, rfl, .cons (.lst (hS.imp (fun z => ⟨z, nl a⟩) id) (ra_ints ns)) .nil, ?_⟩
  rw [e]
  exact fun Z' _ _ v hv => by cases hv; exact q _
end DK

end SDKEnd

section SDKEval
set_option Elab.async false
set_option linter.all false
set_option autoImplicit false
/-! DKEval: rules by which the meanings are reckoned. -/
namespace DK
open PySem
section
variable {α β : Type}
def SR.seq (r : SR) (b : Sx) : SR := match r with
  | .nx ρ S => b ρ S
  | r => r
theorem bind_ok {a : α} {S : Sto} {k : α → Sto → Out β} : (Out.ok a S).bind k = k a S := rfl
theorem bind_ex {c : Xc} {S : Sto} {k : α → Sto → Out β} : (Out.ex c S : Out α).bind k = .ex c S := rfl
theorem then_ok {a : α} {S : Sto} {ρ : Env} {k : α → Sto → SR} : (Out.ok a S).then ρ k = k a S := rfl
theorem then_ex {c : Xc} {S : Sto} {ρ : Env} {k : α → Sto → SR} : (Out.ex c S : Out α).then ρ k = .ex c ρ S := rfl
theorem seq_nx {ρ : Env} {S : Sto} {b : Sx} : (SR.nx ρ S).seq b = b ρ S := rfl
theorem seq_rt {p : P} {S : Sto} {b : Sx} : (SR.rt p S).seq b = .rt p S := rfl
theorem seq_ex {c : Xc} {ρ : Env} {S : Sto} {b : Sx} : (SR.ex c ρ S).seq b = .ex c ρ S := rfl
theorem ite_tt (a b : α) : (if true = true then a else b) = a := if_pos rfl
theorem ite_ff (a b : α) : (if false = true then a else b) = b := if_neg (by decide)
end
section
variable {ρ : Env} {S : Sto} {a b : Ex} {x y : Sx} {o : Op2} {u : Op1} {t t' : Tx} {g : Tg} {p q r : P} {x0 x1 x2 x3 x4 x5 x6 x7 x8 x9 : Option P}
theorem of_some : Out.of (some (p, S)) = .ok p S := rfl
theorem okOr_some {τ : Type} {v : τ} {k : τ → Res} : okOr (some v) k = k v := rfl
theorem v0 : eVar 0 (some p :: ρ) S = .ok p S := rfl
theorem v1 : eVar 1 (x0 :: some p :: ρ) S = .ok p S := rfl
theorem v2 : eVar 2 (x0 :: x1 :: some p :: ρ) S = .ok p S := rfl
theorem v3 : eVar 3 (x0 :: x1 :: x2 :: some p :: ρ) S = .ok p S := rfl
theorem v4 : eVar 4 (x0 :: x1 :: x2 :: x3 :: some p :: ρ) S = .ok p S := rfl
theorem v5 : eVar 5 (x0 :: x1 :: x2 :: x3 :: x4 :: some p :: ρ) S = .ok p S := rfl
theorem v6 : eVar 6 (x0 :: x1 :: x2 :: x3 :: x4 :: x5 :: some p :: ρ) S = .ok p S := rfl
theorem v7 : eVar 7 (x0 :: x1 :: x2 :: x3 :: x4 :: x5 :: x6 :: some p :: ρ) S = .ok p S := rfl
theorem v8 : eVar 8 (x0 :: x1 :: x2 :: x3 :: x4 :: x5 :: x6 :: x7 :: some p :: ρ) S = .ok p S := rfl
theorem v9 : eVar 9 (x0 :: x1 :: x2 :: x3 :: x4 :: x5 :: x6 :: x7 :: x8 :: some p :: ρ) S = .ok p S := rfl
theorem n0 : gN 0 p (x0 :: ρ) = some (some p :: ρ) := rfl
theorem n1 : gN 1 p (x0 :: x1 :: ρ) = some (x0 :: some p :: ρ) := rfl
theorem n2 : gN 2 p (x0 :: x1 :: x2 :: ρ) = some (x0 :: x1 :: some p :: ρ) := rfl
theorem n3 : gN 3 p (x0 :: x1 :: x2 :: x3 :: ρ) = some (x0 :: x1 :: x2 :: some p :: ρ) := rfl
theorem n4 : gN 4 p (x0 :: x1 :: x2 :: x3 :: x4 :: ρ) = some (x0 :: x1 :: x2 :: x3 :: some p :: ρ) := rfl
theorem n5 : gN 5 p (x0 :: x1 :: x2 :: x3 :: x4 :: x5 :: ρ) = some (x0 :: x1 :: x2 :: x3 :: x4 :: some p :: ρ) := rfl
theorem n6 : gN 6 p (x0 :: x1 :: x2 :: x3 :: x4 :: x5 :: x6 :: ρ) = some (x0 :: x1 :: x2 :: x3 :: x4 :: x5 :: some p :: ρ) := rfl
theorem n7 : gN 7 p (x0 :: x1 :: x2 :: x3 :: x4 :: x5 :: x6 :: x7 :: ρ) = some (x0 :: x1 :: x2 :: x3 :: x4 :: x5 :: x6 :: some p :: ρ) := rfl
theorem n8 : gN 8 p (x0 :: x1 :: x2 :: x3 :: x4 :: x5 :: x6 :: x7 :: x8 :: ρ) = some (x0 :: x1 :: x2 :: x3 :: x4 :: x5 :: x6 :: x7 :: some p :: ρ) := rfl
theorem n9 : gN 9 p (x0 :: x1 :: x2 :: x3 :: x4 :: x5 :: x6 :: x7 :: x8 :: x9 :: ρ) = some (x0 :: x1 :: x2 :: x3 :: x4 :: x5 :: x6 :: x7 :: x8 :: some p :: ρ) := rfl
theorem d_C : eC p ρ S = .ok p S := rfl
def kOp1 (u : Op1) (p : P) (S1 : Sto) : Out P := .of (u p S1)
theorem d_Op1 : eOp1 u a ρ S = (a ρ S).bind (kOp1 u) := rfl
theorem k_Op1 : kOp1 u p S = .of (u p S) := rfl
def kOp2b (o : Op2) (p q : P) (S2 : Sto) : Out P := .of (o p q S2)
def kOp2 (o : Op2) (b : Ex) (ρ : Env) (p : P) (S1 : Sto) : Out P := (b ρ S1).bind (kOp2b o p)
theorem d_Op2 : eOp2 o a b ρ S = (a ρ S).bind (kOp2 o b ρ) := rfl
theorem k_Op2 : kOp2 o b ρ p S = (b ρ S).bind (kOp2b o p) := rfl
theorem k_Op2b : kOp2b o p q S = .of (o p q S) := rfl
def kMt0 (c : Rc) (u : Op1) (p : P) (S1 : Sto) : Out P := if c.ok S1 p = true then .of (u p S1) else .bad
theorem d_Mt0 {c : Rc} : eMt0 c u a ρ S = (a ρ S).bind (kMt0 c u) := rfl
theorem k_Mt0 {c : Rc} : kMt0 c u p S = if c.ok S p = true then .of (u p S) else .bad := rfl
def kMt1 (c : Rc) (o : Op2) (b : Ex) (ρ : Env) (p : P) (S1 : Sto) : Out P := if c.ok S1 p = true then (b ρ S1).bind (kOp2b o p) else .bad
theorem d_Mt1 {c : Rc} : eMt1 c o a b ρ S = (a ρ S).bind (kMt1 c o b ρ) := rfl
theorem k_Mt1 {c : Rc} : kMt1 c o b ρ p S = if c.ok S p = true then (b ρ S).bind (kOp2b o p) else .bad := rfl
theorem d_Args0 : eArgs [] ρ S = .ok [] S := rfl
def kArgsb (p : P) (l : List P) (S2 : Sto) : Out (List P) := .ok (p :: l) S2
def kArgs (l : List Ex) (ρ : Env) (p : P) (S1 : Sto) : Out (List P) := (eArgs l ρ S1).bind (kArgsb p)
theorem d_Args {l : List Ex} : eArgs (a :: l) ρ S = (a ρ S).bind (kArgs l ρ) := rfl
theorem k_Args {l : List Ex} : kArgs l ρ p S = (eArgs l ρ S).bind (kArgsb p) := rfl
theorem k_Argsb {l : List P} : kArgsb p l S = .ok (p :: l) S := rfl
def tupK (ps : List P) (S : Sto) (f : List PyData → PyData) : Out P := match toDall S ps with
  | some (ds, S2) => .ok (.d (f ds)) S2
  | none => .bad
def kTup (f : List PyData → PyData) (ps : List P) (S1 : Sto) : Out P := tupK ps S1 f
theorem k_Tup {f : List PyData → PyData} {ps : List P} : kTup f ps S = tupK ps S f := rfl
theorem d_Tup {l : List Ex} : eTup l ρ S = (eArgs l ρ S).bind (kTup .tuple) := rfl
theorem d_Lst {l : List Ex} : eLst l ρ S = (eArgs l ρ S).bind (kTup .list) := rfl
def kLstC (ps : List P) (S1 : Sto) : Out P := .ok (.r S1.length) (S1 ++ [.lst ps])
theorem d_LstC {l : List Ex} : eLstC l ρ S = (eArgs l ρ S).bind kLstC := rfl
theorem k_LstC {ps : List P} : kLstC ps S = .ok (.r S.length) (S ++ [.lst ps]) := rfl
theorem tupK_ok {ps : List P} {f : List PyData → PyData} {ds : List PyData} {S2 : Sto} (h : toDall S ps = some (ds, S2)) : tupK ps S f = .ok (.d (f ds)) S2 := by unfold tupK; rw [h]
theorem tA0 : toDall S [] = some ([], S) := rfl
theorem tA1 {x : PyData} {l : List P} : toDall S (.d x :: l) = (toDall S l).map fun r => (x :: r.1, r.2) := by
  simp only [toDall, toD]
  cases toDall S l <;> rfl
theorem tupK0 {f : List PyData → PyData} : tupK [] S f = .ok (.d (f [])) S := rfl
theorem tupK1 {f : List PyData → PyData} {y0 : PyData} : tupK [.d y0] S f = .ok (.d (f [y0])) S := rfl
theorem tupK2 {f : List PyData → PyData} {y0 y1 : PyData} : tupK [.d y0, .d y1] S f = .ok (.d (f [y0, y1])) S := rfl
theorem tupK3 {f : List PyData → PyData} {y0 y1 y2 : PyData} : tupK [.d y0, .d y1, .d y2] S f = .ok (.d (f [y0, y1, y2])) S := rfl
theorem tupK4 {f : List PyData → PyData} {y0 y1 y2 y3 : PyData} : tupK [.d y0, .d y1, .d y2, .d y3] S f = .ok (.d (f [y0, y1, y2, y3])) S := rfl
theorem tupK9 {f : List PyData → PyData} {y0 y1 y2 y3 y4 y5 y6 y7 y8 : PyData} : tupK [.d y0, .d y1, .d y2, .d y3, .d y4, .d y5, .d y6, .d y7, .d y8] S f = .ok (.d (f [y0, y1, y2, y3, y4, y5, y6, y7, y8])) S := rfl
def bK {β : Type} (p : P) (k : Bool → Out β) : Out β := match p with
  | .d (.bool c) => k c
  | _ => .bad
theorem bK_b {β : Type} {c : Bool} {k : Bool → Out β} : bK (vB c) k = k c := rfl
def kAndb (b : Ex) (ρ : Env) (S1 : Sto) (c : Bool) : Out P := if c = true then b ρ S1 else .ok (vB false) S1
def kAnd (b : Ex) (ρ : Env) (p : P) (S1 : Sto) : Out P := bK p (kAndb b ρ S1)
theorem k_Andb {c : Bool} : kAndb b ρ S c = if c = true then b ρ S else .ok (vB false) S := rfl
theorem k_And : kAnd b ρ p S = bK p (kAndb b ρ S) := rfl
theorem d_And : eAndV a b ρ S = (a ρ S).bind (kAnd b ρ) := by
  unfold eAndV
  congr
  funext p S1
  unfold kAnd bK
  split <;> simp_all [kAndb]
def kOrb (b : Ex) (ρ : Env) (S1 : Sto) (c : Bool) : Out P := if c = true then .ok (vB true) S1 else b ρ S1
def kOr (b : Ex) (ρ : Env) (p : P) (S1 : Sto) : Out P := bK p (kOrb b ρ S1)
theorem k_Orb {c : Bool} : kOrb b ρ S c = if c = true then .ok (vB true) S else b ρ S := rfl
theorem k_Or : kOr b ρ p S = bK p (kOrb b ρ S) := rfl
theorem d_Or : eOrV a b ρ S = (a ρ S).bind (kOr b ρ) := by
  unfold eOrV
  congr
  funext p S1
  unfold kOr bK
  split <;> simp_all [kOrb]
def kNotb (S1 : Sto) (c : Bool) : Out P := .ok (vB (!c)) S1
def kNot (p : P) (S1 : Sto) : Out P := bK p (kNotb S1)
theorem k_Notb {c : Bool} : kNotb S c = .ok (vB (!c)) S := rfl
theorem k_Not : kNot p S = bK p (kNotb S) := rfl
theorem d_Not : eNotV a ρ S = (a ρ S).bind kNot := rfl
def ktEb (S1 : Sto) (c : Bool) : Out Bool := .ok c S1
def ktE (p : P) (S1 : Sto) : Out Bool := bK p (ktEb S1)
theorem k_tEb {c : Bool} : ktEb S c = .ok c S := rfl
theorem k_tE : ktE p S = bK p (ktEb S) := rfl
theorem d_tE : tE a ρ S = (a ρ S).bind ktE := rfl
def ktAnd (t' : Tx) (ρ : Env) (c : Bool) (S1 : Sto) : Out Bool := if c = true then t' ρ S1 else .ok false S1
theorem d_tAnd : tAnd t t' ρ S = (t ρ S).bind (ktAnd t' ρ) := rfl
theorem k_tAnd {c : Bool} : ktAnd t' ρ c S = if c = true then t' ρ S else .ok false S := rfl
def ktOr (t' : Tx) (ρ : Env) (c : Bool) (S1 : Sto) : Out Bool := if c = true then .ok true S1 else t' ρ S1
theorem d_tOr : tOr t t' ρ S = (t ρ S).bind (ktOr t' ρ) := rfl
theorem k_tOr {c : Bool} : ktOr t' ρ c S = if c = true then .ok true S else t' ρ S := rfl
def ktNot (c : Bool) (S1 : Sto) : Out Bool := .ok (!c) S1
theorem d_tNot : tNot t ρ S = (t ρ S).bind ktNot := rfl
theorem k_tNot {c : Bool} : ktNot c S = .ok (!c) S := rfl
theorem d_tYes : tYes ρ S = .ok true S := rfl
def kIf (a b : Ex) (ρ : Env) (c : Bool) (S1 : Sto) : Out P := if c = true then a ρ S1 else b ρ S1
theorem d_If : eIf t a b ρ S = (t ρ S).bind (kIf a b ρ) := rfl
theorem k_If {c : Bool} : kIf a b ρ c S = if c = true then a ρ S else b ρ S := rfl
/-- an isolated call's end -/
def isoK (g : Fn) (ps : List P) (S : Sto) : Out P := match toDall S ps with
  | some (ds, S2) => match callI g ds with
    | some (.inr x) => .ok (.d x) S2
    | some (.inl c) => .ex c S2
    | none => .bad
  | none => .bad
theorem d_CallI {g : Fn} {l : List Ex} : eCallI g l ρ S = (eArgs l ρ S).bind (isoK g) := rfl
theorem isoK_ok {g : Fn} {ps : List P} {ds : List PyData} {S2 : Sto} {y : PyData} (h1 : toDall S ps = some (ds, S2)) (h2 : callI g ds = some (.inr y)) : isoK g ps S = .ok (.d y) S2 := by
  unfold isoK; rw [h1]; dsimp only; rw [h2]
theorem isoK_ex {g : Fn} {ps : List P} {ds : List PyData} {S2 : Sto} {c : Xc} (h1 : toDall S ps = some (ds, S2)) (h2 : callI g ds = some (.inl c)) : isoK g ps S = .ex c S2 := by
  unfold isoK; rw [h1]; dsimp only; rw [h2]
def isoE (r : Option (Xc ⊕ PyData)) (S : Sto) : Out P := match r with
  | some (.inr x) => .ok (.d x) S
  | some (.inl c) => .ex c S
  | none => .bad
theorem isoE_ok {y : PyData} : isoE (some (.inr y)) S = .ok (.d y) S := rfl
theorem isoE_ex {c : Xc} : isoE (some (.inl c)) S = .ex c S := rfl
theorem iso1 {g : Fn} {y0 : PyData} : isoK g [.d y0] S = isoE (callI g [y0]) S := by unfold isoK isoE; simp only [toDall, toD]
theorem iso2 {g : Fn} {y0 y1 : PyData} : isoK g [.d y0, .d y1] S = isoE (callI g [y0, y1]) S := by unfold isoK isoE; simp only [toDall, toD]
theorem iso3 {g : Fn} {y0 y1 y2 : PyData} : isoK g [.d y0, .d y1, .d y2] S = isoE (callI g [y0, y1, y2]) S := by unfold isoK isoE; simp only [toDall, toD]
theorem iso4 {g : Fn} {y0 y1 y2 y3 : PyData} : isoK g [.d y0, .d y1, .d y2, .d y3] S = isoE (callI g [y0, y1, y2, y3]) S := by unfold isoK isoE; simp only [toDall, toD]
theorem iso5 {g : Fn} {y0 y1 y2 y3 y4 : PyData} : isoK g [.d y0, .d y1, .d y2, .d y3, .d y4] S = isoE (callI g [y0, y1, y2, y3, y4]) S := by unfold isoK isoE; simp only [toDall, toD]
theorem d_CallS {g : Fn} {l : List Ex} : eCallS g l ρ S = (eArgs l ρ S).bind (callS g) := rfl
/-! statements -/
def tgK (o : Option Env) (S : Sto) : SR := match o with
  | some ρ => .nx ρ S
  | none => .bad
theorem tgK_some : tgK (some ρ) S = .nx ρ S := rfl
theorem d_Skip : sSkip ρ S = .nx ρ S := rfl
theorem d_Seq : sSeq x y ρ S = (x ρ S).seq y := by
  unfold sSeq SR.seq
  cases x ρ S <;> rfl
def kAsg (g : Tg) (ρ : Env) (p : P) (S1 : Sto) : SR := tgK (g p ρ) S1
theorem d_Asg : sAsg g a ρ S = (a ρ S).then ρ (kAsg g ρ) := rfl
theorem k_Asg : kAsg g ρ p S = tgK (g p ρ) S := rfl
def kExpr (ρ : Env) (_ : P) (S1 : Sto) : SR := .nx ρ S1
theorem d_Expr : sExpr a ρ S = (a ρ S).then ρ (kExpr ρ) := rfl
theorem k_Expr : kExpr ρ p S = .nx ρ S := rfl
theorem d_Ret : sRet a ρ S = (a ρ S).then ρ SR.rt := rfl
def kIfS (x y : Sx) (ρ : Env) (c : Bool) (S1 : Sto) : SR := if c = true then x ρ S1 else y ρ S1
theorem d_IfS : sIf t x y ρ S = (t ρ S).then ρ (kIfS x y ρ) := rfl
theorem k_IfS {c : Bool} : kIfS x y ρ c S = if c = true then x ρ S else y ρ S := rfl
def kFor (g : Tg) (x : Sx) (ρ : Env) (xs : List P) (S1 : Sto) : SR := forL g x xs ρ S1
theorem d_For {it : Exs} : sFor it g x ρ S = (it ρ S).then ρ (kFor g x ρ) := rfl
theorem k_For {xs : List P} : kFor g x ρ xs S = forL g x xs ρ S := rfl
theorem d_iTxt {it : Ex} : iTxt it ρ S = (it ρ S).bind txK := rfl
theorem k_tx {z : Str} : txK (vS z) S = .ok (z.cps.toList.map fun c => vS ⟨#[c]⟩) S := rfl
theorem d_Sl {c : Bool} {lo hi : Option Ex} : eSl c a lo hi ρ S = (a ρ S).bind (kSl c lo hi ρ) := rfl
theorem k_Sl {c : Bool} {lo hi : Option Ex} : kSl c lo hi ρ p S = (ePart lo ρ S).bind (kSl2 c hi ρ p) := rfl
theorem k_Sl2 {c : Bool} {lo : Option Int} {hi : Option Ex} : kSl2 c hi ρ p lo S = (ePart hi ρ S).bind (kSl3 c p lo) := rfl
theorem k_Sl3 {c : Bool} {lo hi : Option Int} : kSl3 c p lo hi S = .of (oSl c lo hi p S) := rfl
theorem k_pt0 : ePart none ρ S = .ok none S := rfl
theorem k_pt1 : ePart (some a) ρ S = (a ρ S).bind kPart := rfl
theorem k_pt {i : Int} : kPart (vI i) S = .ok (some i) S := rfl
theorem sl_s {c : Bool} {lo hi : Option Int} {z : Str} : oSl c lo hi (vS z) S = some (vS (L2.cutS z lo hi), S) := rfl
theorem d_Fld {k : Kc} {f : Str} : eFld k f a ρ S = (a ρ S).bind (gFld k f) := rfl
theorem d_Meth {k : Kc} {m : Str} {g : Fn} {l : List Ex} : eMeth k m g a l ρ S = (a ρ S).bind (gMeth k m g l ρ) := rfl
theorem d_Make {k : Kc} {g : Fn} {l : List Ex} : eMake k g l ρ S = (eArgs l ρ S).bind (mkO k g) := rfl
def kStore2 (k : Kc) (f : Str) (ρ : Env) (v p : P) (S : Sto) : SR := sFldK k f ρ v p S
def kStore (k : Kc) (f : Str) (o : Ex) (ρ : Env) (v : P) (S1 : Sto) : SR := (o ρ S1).then ρ (kStore2 k f ρ v)
theorem d_Store {k : Kc} {f : Str} : sStore k f a b ρ S = (b ρ S).then ρ (kStore k f a ρ) := rfl
theorem k_Store {k : Kc} {f : Str} {v : P} : kStore k f a ρ v S = (a ρ S).then ρ (kStore2 k f ρ v) := rfl
theorem k_Store2 {k : Kc} {f : Str} {v : P} : kStore2 k f ρ v p S = sFldK k f ρ v p S := rfl
theorem all_l {l : List Bool} : oAll (vL (l.map .bool)) S = some (vB (l.all id), S) := by
  show okOr (some ((l.map PyData.bool).map P.d)) (fun l => okOr (blsOf l) fun bs => some (vB (bs.all id), S)) = _
  have : blsOf ((l.map PyData.bool).map P.d) = some l := by rw [List.map_map]; exact blsOf_map l
  simp only [okOr, this]
theorem any_l {l : List Bool} : oAny (vL (l.map .bool)) S = some (vB (l.any id), S) := by
  show okOr (some ((l.map PyData.bool).map P.d)) (fun l => okOr (blsOf l) fun bs => some (vB (bs.any id), S)) = _
  have : blsOf ((l.map PyData.bool).map P.d) = some l := by rw [List.map_map]; exact blsOf_map l
  simp only [okOr, this]
theorem split_s {x z : Str} (h : (z.length == 0) = false ∧ x.length + 2 ≤ LINE) : oSplit (vS x) (vS z) S = some (vL ((Txt.split x z).map .str), S) := if_pos h
theorem inS_1 {k : Bool → Bool} {c : Nat} {z : Str} : oInS k (vS ⟨#[c]⟩) (vS z) S = some (vB (k (decide (c ∈ z.cps.toList))), S) := rfl
theorem intS_s {x : Str} {n : Int} (h : x.length ≤ 640) (h2 : PySem.intText? x = some n) : oIntS (vS x) S = some (vI n, S) := by
  simp only [oIntS, if_pos h, h2, okOr]
theorem d_Raise {c : Xc} : sRaise c ρ S = .ex c ρ S := rfl
def SR.drop (r : SR) (is : List Nat) : SR := match r with
  | .nx ρ S => .nx (wipe ρ is) S
  | r => r
theorem d_Drop {is : List Nat} : sDrop x is ρ S = (x ρ S).drop is := by
  unfold sDrop SR.drop
  cases x ρ S <;> rfl
theorem drop_nx {is : List Nat} : (SR.nx ρ S).drop is = .nx (wipe ρ is) S := rfl
theorem drop_rt {is : List Nat} : (SR.rt p S).drop is = .rt p S := rfl
theorem drop_ex {is : List Nat} {c : Xc} : (SR.ex c ρ S).drop is = .ex c ρ S := rfl
theorem wipe0 : wipe ρ [] = ρ := rfl
theorem wipeC {v : Nat} {vs : List Nat} : wipe ρ (v :: vs) = (wipe ρ vs).set v none := rfl
def SR.fin (r : SR) : Out P := match r with
  | .nx _ S' => .ok vN S'
  | .rt p S' => .ok p S'
  | .ex c _ S' => .ex c S'
  | .bad => .bad
theorem d_fn {m : Nat} {ps : List P} : fnOf m x ps S = (x (ps.map some ++ List.replicate m none) S).fin := by
  unfold fnOf SR.fin
  cases x (ps.map some ++ List.replicate m none) S <;> rfl
theorem fin_rt : (SR.rt p S).fin = .ok p S := rfl
theorem fin_nx : (SR.nx ρ S).fin = .ok vN S := rfl
theorem fin_ex {c : Xc} : (SR.ex c ρ S).fin = .ex c S := rfl
/-- an isolated call, run -/
def isoR (r : Out P) : Option (Xc ⊕ PyData) := match r with
  | .ok p S' => (rdD S' p).map .inr
  | .ex c _ => some (.inl c)
  | .bad => none
theorem d_iso {g : Fn} {ds : List PyData} : callI g ds = isoR (g (ds.map .d) []) := rfl
theorem isoR_d {y : PyData} : isoR (.ok (.d y) S) = some (.inr y) := rfl
theorem isoR_ex {c : Xc} : isoR (.ex c S) = some (.inl c) := rfl
theorem isoR_r {i : Nat} {l : List PyData} (h : S[i]? = some (.lst (l.map .d)) ∨ S[i]? = some (.fz (l.map .d))) : isoR (.ok (.r i) S) = some (.inr (.list l)) := by
  show (rdD S (.r i)).map Sum.inr = _
  simp only [rdD]
  rcases h with h | h <;> rw [h] <;> simp [allD_map]
/-! operators -/
theorem newL_f {l : List PyData} : newL false (l.map .d) S = some (vL l, S) := by unfold newL; rw [allD_map]
theorem newL_t {l : List P} : newL true l S = some (.r S.length, S ++ [.lst l]) := rfl
theorem add_ii {c : Bool} {i j : Int} : oAdd c (vI i) (vI j) S = some (vI (i + j), S) := rfl
theorem add_ss {c : Bool} {u v : Str} (h : u.length + v.length ≤ LINE) : oAdd c (vS u) (vS v) S = some (vS (u ++ v), S) := if_pos h
theorem add_tt {c : Bool} {u v : List PyData} (h : u.length + v.length ≤ LINE) : oAdd c (vT u) (vT v) S = some (vT (u ++ v), S) := if_pos h
theorem add_ll {u v : List PyData} (h : u.length + v.length ≤ LINE) : oAdd false (vL u) (vL v) S = some (vL (u ++ v), S) := by
  show okOr (some (u.map P.d)) (fun xs => okOr (some (v.map P.d)) fun ys => if xs.length + ys.length ≤ LINE then newL false (xs ++ ys) S else none) = _
  simp only [okOr, List.length_map]
  rw [if_pos h, ← List.map_append, newL_f]
theorem add_llC {u v : List PyData} (h : u.length + v.length ≤ LINE) : oAdd true (vL u) (vL v) S = some (.r S.length, S ++ [.lst ((u ++ v).map .d)]) := by
  show okOr (some (u.map P.d)) (fun xs => okOr (some (v.map P.d)) fun ys => if xs.length + ys.length ≤ LINE then newL true (xs ++ ys) S else none) = _
  simp only [okOr, List.length_map]
  rw [if_pos h, ← List.map_append, newL_t]
/-- a cell and a list -/
theorem add_rl {i : Nat} {u v : List PyData} (e : S[i]? = some (.lst (u.map .d)) ∨ S[i]? = some (.fz (u.map .d))) (h : u.length + v.length ≤ LINE) : oAdd false (.r i) (vL v) S = some (vL (u ++ v), S) := by
  have : litems S (.r i) = some (u.map .d) := by simp only [litems]; rcases e with e | e <;> rw [e]
  show okOr (litems S (.r i)) (fun xs => okOr (some (v.map P.d)) fun ys => if xs.length + ys.length ≤ LINE then newL false (xs ++ ys) S else none) = _
  rw [this]
  simp only [okOr, List.length_map]
  rw [if_pos h, ← List.map_append, newL_f]
theorem add_rlC {i : Nat} {u v : List PyData} (e : S[i]? = some (.lst (u.map .d)) ∨ S[i]? = some (.fz (u.map .d))) (h : u.length + v.length ≤ LINE) : oAdd true (.r i) (vL v) S = some (.r S.length, S ++ [.lst ((u ++ v).map .d)]) := by
  have : litems S (.r i) = some (u.map .d) := by simp only [litems]; rcases e with e | e <;> rw [e]
  show okOr (litems S (.r i)) (fun xs => okOr (some (v.map P.d)) fun ys => if xs.length + ys.length ≤ LINE then newL true (xs ++ ys) S else none) = _
  rw [this]
  simp only [okOr, List.length_map]
  rw [if_pos h, ← List.map_append, newL_t]
theorem sub_ii {i j : Int} : oSub (vI i) (vI j) S = some (vI (i - j), S) := rfl
theorem mul_ii {i j : Int} (h : (-(2 ^ 64) < i ∧ i < 2 ^ 64) ∨ (-(2 ^ 64) < j ∧ j < 2 ^ 64)) : oMul (vI i) (vI j) S = some (vI (i * j), S) := if_pos h
theorem fdiv_ii {i j : Int} (h : 0 < j ∧ j < 1073741824) : oFdiv (vI i) (vI j) S = some (vI (i / j), S) := by
  have : i.fdiv j = i / j := Int.fdiv_eq_ediv_of_nonneg _ (by omega)
  rw [← this]
  exact if_pos ⟨by omega, by omega⟩
theorem mod_ii {i j : Int} (h : 0 < j) : oMod (vI i) (vI j) S = some (vI (i % j), S) := by
  have : i.fmod j = i % j := Int.fmod_eq_emod_of_nonneg _ (by omega)
  rw [← this]
  exact if_pos (by omega)
theorem neg_i {i : Int} : oNeg (vI i) S = some (vI (-i), S) := rfl
theorem lt_ii {i j : Int} : oLt (vI i) (vI j) S = some (vB (decide (i < j)), S) := rfl
theorem le_ii {i j : Int} : oLe (vI i) (vI j) S = some (vB (decide (i ≤ j)), S) := rfl
theorem gt_ii {i j : Int} : oGt (vI i) (vI j) S = some (vB (decide (j < i)), S) := rfl
theorem ge_ii {i j : Int} : oGe (vI i) (vI j) S = some (vB (decide (j ≤ i)), S) := rfl
theorem dep_s {n : Nat} {x : Str} : dep n (.str x) = true := by cases n <;> rfl
theorem dep_i {n : Nat} {x : Int} : dep n (.int x) = true := by cases n <;> rfl
theorem dep_b {n : Nat} {x : Bool} : dep n (.bool x) = true := by cases n <;> rfl
theorem dep_n {n : Nat} : dep n .none = true := by cases n <;> rfl
theorem eq_dd {x y : PyData} (h1 : dep 60 x = true) (h2 : dep 60 y = true) : oEq (.d x) (.d y) S = some (vB (PyData.eqv x y), S) := by
  simp [oEq, eqD, rdD, okOr, h1, h2]
theorem ne_dd {x y : PyData} (h1 : dep 60 x = true) (h2 : dep 60 y = true) : oNe (.d x) (.d y) S = some (vB (!PyData.eqv x y), S) := by
  simp [oNe, eqD, rdD, okOr, h1, h2]
theorem eq_ii {i j : Int} : oEq (vI i) (vI j) S = some (vB (decide (i = j)), S) := by
  rw [eq_dd dep_i dep_i]; simp only [PyData.eqv]; congr 3
theorem eq_ss {x y : Str} : oEq (vS x) (vS y) S = some (vB (decide (x = y)), S) := by
  rw [eq_dd dep_s dep_s]; simp only [PyData.eqv]; congr 3
theorem eq_bb {x y : Bool} : oEq (vB x) (vB y) S = some (vB (x == y), S) := by
  rw [eq_dd dep_b dep_b]; simp only [PyData.eqv]
theorem ne_ss {x y : Str} : oNe (vS x) (vS y) S = some (vB (!decide (x = y)), S) := by
  rw [ne_dd dep_s dep_s]; simp only [PyData.eqv]; congr 4
theorem ne_ii {i j : Int} : oNe (vI i) (vI j) S = some (vB (!decide (i = j)), S) := by
  rw [ne_dd dep_i dep_i]; simp only [PyData.eqv]; congr 4
theorem ne_bb {x y : Bool} : oNe (vB x) (vB y) S = some (vB (!(x == y)), S) := by
  rw [ne_dd dep_b dep_b]; simp only [PyData.eqv]
theorem in_dt {x : PyData} {ys : List PyData} (h1 : dep 60 x = true) (h2 : ys.all (dep 60) = true) : oIn (.d x) (vT ys) S = some (vB (ys.any fun z => PyData.eqv z x), S) := by
  simp only [oIn, inD, rdD, okOr, h1, h2]; rfl
theorem in_dl {x : PyData} {ys : List PyData} (h1 : dep 60 x = true) (h2 : ys.all (dep 60) = true) : oIn (.d x) (vL ys) S = some (vB (ys.any fun z => PyData.eqv z x), S) := by
  simp only [oIn, inD, rdD, okOr, h1, h2]; rfl
theorem notin_dt {x : PyData} {ys : List PyData} (h1 : dep 60 x = true) (h2 : ys.all (dep 60) = true) : oNotIn (.d x) (vT ys) S = some (vB (!ys.any fun z => PyData.eqv z x), S) := by
  simp only [oNotIn, inD, rdD, okOr, h1, h2]; rfl
theorem notin_dl {x : PyData} {ys : List PyData} (h1 : dep 60 x = true) (h2 : ys.all (dep 60) = true) : oNotIn (.d x) (vL ys) S = some (vB (!ys.any fun z => PyData.eqv z x), S) := by
  simp only [oNotIn, inD, rdD, okOr, h1, h2]; rfl
theorem isN_n : oIsN vN S = some (vB true, S) := rfl
theorem isN_i {i : Int} : oIsN (vI i) S = some (vB false, S) := rfl
theorem isN_t {l : List PyData} : oIsN (vT l) S = some (vB false, S) := rfl
theorem isN_s {x : Str} : oIsN (vS x) S = some (vB false, S) := rfl
theorem isN_b {c : Bool} : oIsN (vB c) S = some (vB false, S) := rfl
theorem isN_l {l : List PyData} : oIsN (vL l) S = some (vB false, S) := rfl
theorem notN_b {c : Bool} : oNotN (vB c) S = some (vB true, S) := rfl
theorem notN_l {l : List PyData} : oNotN (vL l) S = some (vB true, S) := rfl
theorem notN_n : oNotN vN S = some (vB false, S) := rfl
theorem notN_i {i : Int} : oNotN (vI i) S = some (vB true, S) := rfl
theorem notN_t {l : List PyData} : oNotN (vT l) S = some (vB true, S) := rfl
theorem notN_s {x : Str} : oNotN (vS x) S = some (vB true, S) := rfl
/-! items -/
theorem atI_map {l : List PyData} {i : Int} : L2.atI (l.map P.d) i = (L2.atI l i).map P.d := by
  unfold L2.atI
  rw [List.length_map]
  cases L2.ixN l.length i with
  | none => rfl
  | some j => simp
theorem ix_t {l : List PyData} {i : Int} {x : PyData} (h : L2.atI l i = some x) : oIx (vT l) (vI i) S = some (.d x, S) := by
  show okOr (some (l.map P.d)) (fun l => okOr (L2.atI l i) fun x => some (x, S)) = _
  simp only [okOr, atI_map, h, Option.map_some]
theorem ix_l {l : List PyData} {i : Int} {x : PyData} (h : L2.atI l i = some x) : oIx (vL l) (vI i) S = some (.d x, S) := by
  show okOr (some (l.map P.d)) (fun l => okOr (L2.atI l i) fun x => some (x, S)) = _
  simp only [okOr, atI_map, h, Option.map_some]
section
variable {y0 y1 y2 y3 : PyData} {l : List PyData}
theorem t0 : oIx (vT (y0 :: l)) (vI 0) S = some (.d y0, S) := ix_t (L2.atI_nat (j := 0) rfl)
theorem t1 : oIx (vT (y0 :: y1 :: l)) (vI 1) S = some (.d y1, S) := ix_t (L2.atI_nat (j := 1) rfl)
theorem t2 : oIx (vT (y0 :: y1 :: y2 :: l)) (vI 2) S = some (.d y2, S) := ix_t (L2.atI_nat (j := 2) rfl)
theorem t3 : oIx (vT (y0 :: y1 :: y2 :: y3 :: l)) (vI 3) S = some (.d y3, S) := ix_t (L2.atI_nat (j := 3) rfl)
theorem l0 : oIx (vL (y0 :: l)) (vI 0) S = some (.d y0, S) := ix_l (L2.atI_nat (j := 0) rfl)
theorem l1 : oIx (vL (y0 :: y1 :: l)) (vI 1) S = some (.d y1, S) := ix_l (L2.atI_nat (j := 1) rfl)
theorem l2 : oIx (vL (y0 :: y1 :: y2 :: l)) (vI 2) S = some (.d y2, S) := ix_l (L2.atI_nat (j := 2) rfl)
theorem l3 : oIx (vL (y0 :: y1 :: y2 :: y3 :: l)) (vI 3) S = some (.d y3, S) := ix_l (L2.atI_nat (j := 3) rfl)
end
theorem len_t {l : List PyData} : oLen (vT l) S = some (vI l.length, S) := by
  show okOr (some (l.map P.d)) (fun l => some (vI l.length, S)) = _
  simp only [okOr, List.length_map]
theorem len_l {l : List PyData} : oLen (vL l) S = some (vI l.length, S) := by
  show okOr (some (l.map P.d)) (fun l => some (vI l.length, S)) = _
  simp only [okOr, List.length_map]
theorem len_r {i : Nat} {l : List P} (e : S[i]? = some (.lst l) ∨ S[i]? = some (.fz l)) : oLen (.r i) S = some (vI l.length, S) := by
  have : items S (.r i) = some l := by simp only [items]; rcases e with e | e <;> rw [e]
  show okOr (items S (.r i)) (fun l => some (vI l.length, S)) = _
  rw [this]; rfl
theorem len_s {x : Str} : oLen (vS x) S = some (vI x.length, S) := rfl
theorem str_i {n : Int} (h : 0 ≤ n ∧ n < 1000) : oStr (vI n) S = some (vS (nS n), S) := if_pos h
theorem int_b {c : Bool} : oInt (vB c) S = some (vI (if c then 1 else 0), S) := rfl
theorem tup_t {l : List PyData} : oTuple (vT l) S = some (vT l, S) := rfl
theorem tup_l {l : List PyData} : oTuple (vL l) S = some (vT l, S) := by
  show okOr (some (l.map P.d)) (fun l => okOr (allD l) fun ds => some (vT ds, S)) = _
  simp only [okOr, allD_map]
theorem tup_r {i : Nat} {l : List PyData} (e : S[i]? = some (.lst (l.map .d)) ∨ S[i]? = some (.fz (l.map .d))) : oTuple (.r i) S = some (vT l, S) := by
  have : litems S (.r i) = some (l.map .d) := by simp only [litems]; rcases e with e | e <;> rw [e]
  show okOr (litems S (.r i)) (fun l => okOr (allD l) fun ds => some (vT ds, S)) = _
  rw [this]
  simp only [okOr, allD_map]
theorem list_lC {l : List PyData} : oList true (vL l) S = some (.r S.length, S ++ [.lst (l.map .d)]) := rfl
theorem list_tC {l : List PyData} : oList true (vT l) S = some (.r S.length, S ++ [.lst (l.map .d)]) := rfl
theorem list_l {l : List PyData} : oList false (vL l) S = some (vL l, S) := by
  exact newL_f
theorem list_t {l : List PyData} : oList false (vT l) S = some (vL l, S) := by
  exact newL_f
theorem rev_lC {l : List PyData} : oListRev true (vL l) S = some (.r S.length, S ++ [.lst (l.reverse.map .d)]) := by
  show newL true (l.map P.d).reverse S = _
  rw [← List.map_reverse]; rfl
theorem isi_d {t : Ty} {x : PyData} : oIsI t (.d x) S = some (vB (isI t x), S) := rfl
theorem join_l {z : Str} {l : List Str} (h : (l.map (·.length)).sum + l.length * z.length ≤ LINE) : oJoin (vS z) (vL (l.map .str)) S = some (vS (Txt.join z l), S) := by
  show okOr (some ((l.map PyData.str).map P.d)) (fun l => okOr (txts l) fun ys => if (ys.map (·.length)).sum + ys.length * z.length ≤ LINE then some (vS (Txt.join z ys), S) else none) = _
  have : txts ((l.map PyData.str).map P.d) = some l := by rw [List.map_map]; exact txts_map l
  simp only [okOr, this]
  rw [if_pos h]
theorem join_r {z : Str} {i : Nat} {l : List Str} (e : S[i]? = some (.lst ((l.map PyData.str).map .d)) ∨ S[i]? = some (.fz ((l.map PyData.str).map .d))) (h : (l.map (·.length)).sum + l.length * z.length ≤ LINE) : oJoin (vS z) (.r i) S = some (vS (Txt.join z l), S) := by
  have h2 : litems S (.r i) = some ((l.map PyData.str).map .d) := by simp only [litems]; rcases e with e | e <;> rw [e]
  show okOr (litems S (.r i)) (fun l => okOr (txts l) fun ys => if (ys.map (·.length)).sum + ys.length * z.length ≤ LINE then some (vS (Txt.join z ys), S) else none) = _
  have : txts ((l.map PyData.str).map P.d) = some l := by rw [List.map_map]; exact txts_map l
  rw [h2]
  simp only [okOr, this]
  rw [if_pos h]
theorem rc_s {x : Str} : Rc.ok .str S (vS x) = true := rfl
theorem rc_r {i : Nat} {l : List P} (e : S[i]? = some (.lst l) ∨ S[i]? = some (.fz l)) : Rc.ok .list S (.r i) = true := by
  simp only [Rc.ok]; rcases e with e | e <;> rw [e]
theorem app_r {i : Nat} {l : List P} (e : S[i]? = some (.lst l)) (h : l.length < LINE) : oAppend (.r i) q S = some (vN, S.set i (.lst (l ++ [q]))) := by
  simp only [oAppend, e]; rw [if_pos h]
theorem pop_r {i : Nat} {l : List P} {x : P} (e : S[i]? = some (.lst (l ++ [x]))) : oPop (.r i) S = some (x, S.set i (.lst l)) := by
  simp only [oPop, e, okOr]; simp
end
/-! iteration -/
section
variable {ρ : Env} {S : Sto} {a b : Ex}
def seqK (p : P) (S : Sto) : Out (List P) := match p with
  | .d (.list l) => .ok (l.map .d) S
  | .d (.tuple l) => .ok (l.map .d) S
  | .r i => match S[i]? with
    | some (.lst l) => .ok l (frzS S i)
    | some (.fz l) => .ok l S
    | _ => .bad
  | _ => .bad
theorem d_iSeq : iSeq a ρ S = (a ρ S).bind seqK := rfl
theorem seqK_l {l : List PyData} : seqK (vL l) S = .ok (l.map .d) S := rfl
theorem seqK_t {l : List PyData} : seqK (vT l) S = .ok (l.map .d) S := rfl
def rngK (p : P) (S : Sto) : Out (List P) := match p with
  | .d (.int j) => if small j then .ok (rng 0 j.toNat) S else .bad
  | _ => .bad
theorem d_iRng1 : iRng1 a ρ S = (a ρ S).bind rngK := rfl
theorem rngK_i {j : Int} (h : 0 ≤ j ∧ j < 1000000) : rngK (vI j) S = .ok (rng 0 j.toNat) S := if_pos (show small j from ⟨by omega, by omega⟩)
def kLcb (c : Bool) (acc : List PyData) (S2 : Sto) : Out P := .of (newL c (acc.map .d) S2)
def kLc (c : Bool) (g : Tg) (t : Tx) (e : Ex) (ρ : Env) (xs : List P) (S1 : Sto) : Out P := (noEx (lcL g t e ρ xs [] S1)).bind (kLcb c)
theorem d_Lc {c : Bool} {own : List Nat} {it : Exs} {g : Tg} {t : Tx} {e : Ex} : eLcN c own it g t e ρ S = (it ρ S).bind (kLc c g t e (wipe ρ own)) := rfl
theorem k_Lc {c : Bool} {g : Tg} {t : Tx} {e : Ex} {xs : List P} : kLc c g t e ρ xs S = (noEx (lcL g t e ρ xs [] S)).bind (kLcb c) := rfl
theorem k_Lcb {c : Bool} {acc : List PyData} : kLcb c acc S = .of (newL c (acc.map .d) S) := rfl
theorem noEx_k {α : Type} {x : α} : noEx (Out.ok x S) = .ok x S := rfl
theorem rng_zero {lo : Int} : rng lo 0 = [] := rfl
end
/-- a comprehension whose turns change nothing -/
theorem lc_pure {τ : Type} {g : Tg} {t : Tx} {e : Ex} {ρ : Env} {S : Sto} {f : τ → PyData} {h : τ → PyData} : ∀ (l : List τ) (acc : List PyData), acc.length + l.length ≤ LINE →
    (∀ x ∈ l, ∃ ρ', g (.d (f x)) ρ = some ρ' ∧ t ρ' S = .ok true S ∧ e ρ' S = .ok (.d (h x)) S) → lcL g t e ρ (l.map fun x => .d (f x)) acc S = .ok (acc ++ l.map h) S
  | [], acc, _, _ => by simp [lcL]
  | x :: l, acc, hl, hx => by
    obtain ⟨ρ', h1, h2, h3⟩ := hx x (by simp)
    simp only [List.length_cons] at hl
    have hlt : acc.length < LINE := by omega
    simp only [List.map_cons, lcL, h1, h2, bind_ok, ite_tt, h3, toD, if_pos hlt]
    rw [lc_pure l (acc ++ [h x]) (by simp; omega) fun y hy => hx y (by simp [hy])]
    simp
/-- .. with a test -/
theorem lc_filter {τ : Type} {g : Tg} {t : Tx} {e : Ex} {ρ : Env} {S : Sto} {f : τ → PyData} {h : τ → PyData} {k : τ → Bool} : ∀ (l : List τ) (acc : List PyData), acc.length + l.length ≤ LINE →
    (∀ x ∈ l, ∃ ρ', g (.d (f x)) ρ = some ρ' ∧ t ρ' S = .ok (k x) S ∧ (k x = true → e ρ' S = .ok (.d (h x)) S)) → lcL g t e ρ (l.map fun x => .d (f x)) acc S = .ok (acc ++ (l.filter k).map h) S
  | [], acc, _, _ => by simp [lcL]
  | x :: l, acc, hl, hx => by
    obtain ⟨ρ', h1, h2, h3⟩ := hx x (by simp)
    simp only [List.length_cons] at hl
    have hlt : acc.length < LINE := by omega
    simp only [List.map_cons, lcL, h1, h2, bind_ok]
    by_cases hk : k x = true
    · rw [if_pos hk]
      simp only [h3 hk, bind_ok, toD, if_pos hlt]
      rw [lc_filter l (acc ++ [h x]) (by simp; omega) fun y hy => hx y (by simp [hy])]
      simp [hk]
    · rw [if_neg hk]
      rw [lc_filter l acc (by omega) fun y hy => hx y (by simp [hy])]
      simp [hk]
/-- a loop by an invariant over what has been taken -/
theorem for_inv {τ : Type} {g : Tg} {b : Sx} {f : τ → P} (Iv : List τ → Env → Sto → Prop) (l : List τ) (step : ∀ pre x post ρ S, l = pre ++ x :: post → Iv pre ρ S → ∃ ρ' ρ2 S2, g (f x) ρ = some ρ' ∧ b ρ' S = .nx ρ2 S2 ∧ Iv (pre ++ [x]) ρ2 S2) :
    ∀ (pre post : List τ) (ρ : Env) (S : Sto), l = pre ++ post → Iv pre ρ S → ∃ ρ2 S2, forL g b (post.map f) ρ S = .nx ρ2 S2 ∧ Iv l ρ2 S2
  | pre, [], ρ, S, e, h => ⟨ρ, S, rfl, by rw [e, List.append_nil]; exact h⟩
  | pre, x :: post, ρ, S, e, h => by
    obtain ⟨ρ', ρ2, S2, h1, h2, h3⟩ := step pre x post ρ S e h
    obtain ⟨ρ3, S3, h4, h5⟩ := for_inv Iv l step (pre ++ [x]) post ρ2 S2 (by rw [e]; simp) h3
    exact ⟨ρ3, S3, by simp only [List.map_cons, forL, h1, h2]; exact h4, h5⟩
theorem for_inv0 {τ : Type} {g : Tg} {b : Sx} {f : τ → P} {l : List τ} {ρ : Env} {S : Sto} (Iv : List τ → Env → Sto → Prop) (h : Iv [] ρ S) (step : ∀ pre x post ρ S, l = pre ++ x :: post → Iv pre ρ S → ∃ ρ' ρ2 S2, g (f x) ρ = some ρ' ∧ b ρ' S = .nx ρ2 S2 ∧ Iv (pre ++ [x]) ρ2 S2) :
    ∃ ρ2 S2, forL g b (l.map f) ρ S = .nx ρ2 S2 ∧ Iv l ρ2 S2 := for_inv Iv l step [] l ρ S rfl h
/-- a loop that folds a state -/
theorem for_fold {τ σ : Type} {g : Tg} {b : Sx} {f : τ → P} {st : σ → Env × Sto} {k : σ → τ → σ} (step : ∀ z x, ∃ ρ', g (f x) (st z).1 = some ρ' ∧ b ρ' (st z).2 = .nx (st (k z x)).1 (st (k z x)).2) : ∀ (l : List τ) (z : σ), forL g b (l.map f) (st z).1 (st z).2 = .nx (st (l.foldl k z)).1 (st (l.foldl k z)).2
  | [], z => rfl
  | x :: l, z => by
    obtain ⟨ρ', h1, h2⟩ := step z x
    simp only [List.map_cons, forL, h1, h2]
    exact for_fold step l (k z x)
theorem rng_map {lo : Int} {n : Nat} : rng lo n = (List.range n).map fun k : Nat => vI (lo + (k : Int)) := rfl
end DK

end SDKEval

section SSem
set_option Elab.async false
set_option linter.all false
namespace K59
open PySem DK
def f_number_of : Sx := sSeq (sIf (tOr (tE (eOp2 oLt (eOp1 oLen (eVar 0)) (eC (vI 1)))) (tE (eOp2 oGt (eOp1 oLen (eVar 0)) (eC (vI 3))))) (sRet (eC (vN))) (sSkip)) (sSeq (sFor (iTxt (eVar 0)) (gN 1) (sDrop (sIf (tE (eOp2 (oInS not) (eVar 1) (eC (vS "0123456789")))) (sRet (eC (vN))) (sSkip)) [1])) (sSeq (sIf (tAnd (tE (eOp2 oEq (eOp2 oIx (eVar 0) (eC (vI 0))) (eC (vS "0")))) (tE (eOp2 oGt (eOp1 oLen (eVar 0)) (eC (vI 1))))) (sRet (eC (vN))) (sSkip)) (sRet (eOp1 oIntS (eVar 0)))))
def g_number_of : Fn := fnOf 1 f_number_of
def f_saying_of : Sx := sSeq (sIf (tAnd (tE (eOp2 oNe (eSl false (eVar 0) none (some (eC (vI 1)))) (eC (vS "+")))) (tE (eOp2 oNe (eSl false (eVar 0) none (some (eC (vI 1)))) (eC (vS "-"))))) (sRet (eC (vN))) (sSkip)) (sSeq (sAsg (gN 1) (eCallI g_number_of [eSl false (eVar 0) (some (eC (vI 1))) none])) (sSeq (sIf (tE (eOp1 oIsN (eVar 1))) (sRet (eC (vN))) (sSkip)) (sRet (eTup [eVar 1, eOp2 oEq (eOp2 oIx (eVar 0) (eC (vI 0))) (eC (vS "+"))]))))
def g_saying_of : Fn := fnOf 1 f_saying_of
def f_saying_word : Sx := sSeq (sIf (tE (eOp2 oIx (eVar 0) (eC (vI 1)))) (sRet (eOp2 (oAdd false) (eC (vS "+")) (eOp1 oStr (eOp2 oIx (eVar 0) (eC (vI 0)))))) (sSkip)) (sRet (eOp2 (oAdd false) (eC (vS "-")) (eOp1 oStr (eOp2 oIx (eVar 0) (eC (vI 0))))))
def g_saying_word : Fn := fnOf 0 f_saying_word
def f_road_words : Sx := sRet (eOp2 (oAdd false) (eLst [eOp1 oStr (eOp1 oLen (eVar 0))]) (eLcN false [1] (iSeq (eVar 0)) (gN 1) (tYes) (eCallI g_saying_word [eVar 1])))
def g_road_words : Fn := fnOf 1 f_road_words
def f_number_words : Sx := sRet (eOp2 (oAdd false) (eLst [eOp1 oStr (eOp1 oLen (eVar 0))]) (eLcN false [1] (iSeq (eVar 0)) (gN 1) (tYes) (eOp1 oStr (eVar 1))))
def g_number_words : Fn := fnOf 1 f_number_words
def f_free_word : Sx := sSeq (sIf (tE (eOp1 oIsN (eVar 0))) (sRet (eC (vS "none"))) (sSkip)) (sRet (eOp1 oStr (eVar 0)))
def g_free_word : Fn := fnOf 0 f_free_word
def f_truth_word : Sx := sSeq (sIf (tE (eVar 0)) (sRet (eC (vS "yes"))) (sSkip)) (sRet (eC (vS "no")))
def g_truth_word : Fn := fnOf 0 f_truth_word
def f_rows_words : Sx := sSeq (sAsg (gN 2) (eLstC [eOp1 oStr (eOp1 oLen (eVar 1))])) (sSeq (sFor (iSeq (eVar 1)) (gN 3) (sDrop (sSeq (sExpr (eMt1 .list oAppend (eVar 2) (eOp1 oStr (eOp2 oIx (eVar 3) (eC (vI 0)))))) (sSeq (sIf (tE (eOp2 oEq (eVar 0) (eC (vS "plan")))) (sAsg (gN 2) (eOp2 (oAdd true) (eVar 2) (eLst [eCallI g_free_word [eOp2 oIx (eVar 3) (eC (vI 1))], eCallI g_truth_word [eOp2 oIx (eVar 3) (eC (vI 2))]]))) (sAsg (gN 2) (eOp2 (oAdd true) (eVar 2) (eCallI g_number_words [eOp2 oIx (eVar 3) (eC (vI 1))])))) (sIf (tE (eOp2 oEq (eVar 0) (eC (vS "sums")))) (sExpr (eMt1 .list oAppend (eVar 2) (eCallI g_truth_word [eOp2 oIx (eVar 3) (eC (vI 2))]))) (sSkip)))) [3])) (sRet (eVar 2)))
def g_rows_words : Fn := fnOf 2 f_rows_words
def f_paper_words : Sx := sSeq (sAsg (gN 1) (eOp2 oIx (eVar 0) (eC (vI 0)))) (sSeq (sIf (tE (eOp2 oIn (eVar 1) (eTup [eC (vS "clash"), eC (vS "late")]))) (sRet (eOp2 (oAdd false) (eCallI g_road_words [eOp2 oIx (eVar 0) (eC (vI 1))]) (eCallI g_road_words [eOp2 oIx (eVar 0) (eC (vI 2))]))) (sSkip)) (sSeq (sIf (tE (eOp2 oEq (eVar 1) (eC (vS "cross")))) (sRet (eCallI g_road_words [eOp2 oIx (eVar 0) (eC (vI 1))])) (sSkip)) (sSeq (sIf (tE (eOp2 oEq (eVar 1) (eC (vS "odd")))) (sRet (eCallI g_number_words [eOp2 oIx (eVar 0) (eC (vI 1))])) (sSkip)) (sSeq (sIf (tE (eOp2 oEq (eVar 1) (eC (vS "lone")))) (sRet (eOp2 (oAdd false) (eOp2 (oAdd false) (eLst [eCallI g_free_word [eOp2 oIx (eVar 0) (eC (vI 1))]]) (eCallI g_number_words [eOp2 oIx (eVar 0) (eC (vI 2))])) (eCallI g_number_words [eOp2 oIx (eVar 0) (eC (vI 3))]))) (sSkip)) (sSeq (sIf (tE (eOp2 oIn (eVar 1) (eTup [eC (vS "plan"), eC (vS "sums")]))) (sRet (eCallI g_rows_words [eVar 1, eOp2 oIx (eVar 0) (eC (vI 1))])) (sSkip)) (sSeq (sIf (tE (eOp2 oEq (eVar 1) (eC (vS "rows")))) (sRet (eOp2 (oAdd false) (eCallI g_number_words [eOp2 oIx (eVar 0) (eC (vI 1))]) (eCallI g_rows_words [eVar 1, eOp2 oIx (eVar 0) (eC (vI 2))]))) (sSkip)) (sRet (eLst []))))))))
def g_paper_words : Fn := fnOf 1 f_paper_words
def f_paper_written : Sx := sRet (eMt1 .str oJoin (eC (vS " ")) (eOp2 (oAdd false) (eLst [eOp2 oIx (eVar 0) (eC (vI 0))]) (eCallI g_paper_words [eVar 0])))
def g_paper_written : Fn := fnOf 0 f_paper_written
def f_Words_init : Sx := sSeq (sStore .Words "row" (eVar 0) (eMt1 .str oSplit (eVar 1) (eC (vS " ")))) (sStore .Words "done" (eVar 0) (eC (vI 0)))
def g_Words_init : Fn := fnOf 0 f_Words_init
def f_Words_step : Sx := sSeq (sAsg (gN 1) (eC (vS ""))) (sSeq (sIf (tE (eOp2 oLt (eFld .Words "done" (eVar 0)) (eOp1 oLen (eFld .Words "row" (eVar 0))))) (sAsg (gN 1) (eOp2 oIx (eFld .Words "row" (eVar 0)) (eFld .Words "done" (eVar 0)))) (sSkip)) (sSeq (sStore .Words "done" (eVar 0) (eOp2 (oAdd false) (eFld .Words "done" (eVar 0)) (eC (vI 1)))) (sRet (eVar 1))))
def g_Words_step : Fn := fnOf 1 f_Words_step
def f_Words_ended : Sx := sRet (eOp2 oEq (eFld .Words "done" (eVar 0)) (eOp1 oLen (eFld .Words "row" (eVar 0))))
def g_Words_ended : Fn := fnOf 0 f_Words_ended
def f_number_read : Sx := sSeq (sAsg (gN 2) (eCallI g_number_of [eMeth .Words "step" g_Words_step (eVar 0) []])) (sSeq (sIf (tOr (tE (eOp1 oIsN (eVar 2))) (tE (eOp2 oGt (eVar 2) (eVar 1)))) (sBad) (sSkip)) (sRet (eVar 2)))
def g_number_read : Fn := fnOf 1 f_number_read
def f_numbers_read : Sx := sRet (eOp1 oTuple (eLcN false [2] (iRng1 (eCallS g_number_read [eVar 0, eC (vI 200)])) (gN 2) (tYes) (eCallS g_number_read [eVar 0, eVar 1])))
def g_numbers_read : Fn := fnOf 1 f_numbers_read
def f_saying_read : Sx := sSeq (sAsg (gN 1) (eCallI g_saying_of [eMeth .Words "step" g_Words_step (eVar 0) []])) (sSeq (sIf (tOr (tE (eOp1 oIsN (eVar 1))) (tE (eOp2 oGe (eOp2 oIx (eVar 1) (eC (vI 0))) (eC (vI 60))))) (sBad) (sSkip)) (sRet (eVar 1)))
def g_saying_read : Fn := fnOf 1 f_saying_read
def f_road_read : Sx := sRet (eOp1 oTuple (eLcN false [1] (iRng1 (eCallS g_number_read [eVar 0, eC (vI 200)])) (gN 1) (tYes) (eCallS g_saying_read [eVar 0])))
def g_road_read : Fn := fnOf 1 f_road_read
def f_free_read : Sx := sSeq (sAsg (gN 1) (eMeth .Words "step" g_Words_step (eVar 0) [])) (sSeq (sIf (tE (eOp2 oEq (eVar 1) (eC (vS "none")))) (sRet (eC (vN))) (sSkip)) (sSeq (sAsg (gN 2) (eCallI g_number_of [eVar 1])) (sSeq (sIf (tOr (tE (eOp1 oIsN (eVar 2))) (tE (eOp2 oGe (eVar 2) (eC (vI 60))))) (sBad) (sSkip)) (sRet (eVar 2)))))
def g_free_read : Fn := fnOf 2 f_free_read
def f_truth_read : Sx := sSeq (sAsg (gN 1) (eMeth .Words "step" g_Words_step (eVar 0) [])) (sSeq (sIf (tE (eOp2 oNotIn (eVar 1) (eTup [eC (vS "yes"), eC (vS "no")]))) (sBad) (sSkip)) (sRet (eOp2 oEq (eVar 1) (eC (vS "yes")))))
def g_truth_read : Fn := fnOf 1 f_truth_read
def f_row_read : Sx := sSeq (sAsg (gN 2) (eCallS g_number_read [eVar 0, eOp2 (oSub) (eC (vI 60)) (eC (vI 1))])) (sSeq (sIf (tE (eOp2 oEq (eVar 1) (eC (vS "plan")))) (sSeq (sAsg (gN 3) (eCallS g_free_read [eVar 0])) (sRet (eTup [eVar 2, eVar 3, eCallS g_truth_read [eVar 0]]))) (sSkip)) (sSeq (sAsg (gN 4) (eCallS g_numbers_read [eVar 0, eOp2 (oSub) (eC (vI 60)) (eC (vI 1))])) (sSeq (sIf (tE (eOp2 oEq (eVar 1) (eC (vS "sums")))) (sRet (eTup [eVar 2, eVar 4, eCallS g_truth_read [eVar 0]])) (sSkip)) (sRet (eTup [eVar 2, eVar 4])))))
def g_row_read : Fn := fnOf 3 f_row_read
def f_rows_read : Sx := sRet (eOp1 oTuple (eLcN false [2] (iRng1 (eCallS g_number_read [eVar 0, eC (vI 200)])) (gN 2) (tYes) (eCallS g_row_read [eVar 0, eVar 1])))
def g_rows_read : Fn := fnOf 1 f_rows_read
def f_paper_next : Sx := sSeq (sAsg (gN 1) (eMeth .Words "step" g_Words_step (eVar 0) [])) (sSeq (sIf (tE (eOp2 oEq (eVar 1) (eC (vS "broken")))) (sRet (eTup [eVar 1])) (sSkip)) (sSeq (sIf (tE (eOp2 oIn (eVar 1) (eTup [eC (vS "clash"), eC (vS "late")]))) (sSeq (sAsg (gN 2) (eCallS g_road_read [eVar 0])) (sRet (eTup [eVar 1, eVar 2, eCallS g_road_read [eVar 0]]))) (sSkip)) (sSeq (sIf (tE (eOp2 oEq (eVar 1) (eC (vS "cross")))) (sRet (eTup [eVar 1, eCallS g_road_read [eVar 0]])) (sSkip)) (sSeq (sIf (tE (eOp2 oEq (eVar 1) (eC (vS "odd")))) (sRet (eTup [eVar 1, eCallS g_numbers_read [eVar 0, eC (vI 200)]])) (sSkip)) (sSeq (sIf (tE (eOp2 oEq (eVar 1) (eC (vS "lone")))) (sSeq (sAsg (gN 3) (eCallS g_free_read [eVar 0])) (sSeq (sAsg (gN 4) (eCallS g_numbers_read [eVar 0, eC (vI 200)])) (sRet (eTup [eVar 1, eVar 3, eVar 4, eCallS g_numbers_read [eVar 0, eC (vI 200)]])))) (sSkip)) (sSeq (sIf (tE (eOp2 oIn (eVar 1) (eTup [eC (vS "plan"), eC (vS "sums")]))) (sRet (eTup [eVar 1, eCallS g_rows_read [eVar 0, eVar 1]])) (sSkip)) (sSeq (sIf (tE (eOp2 oEq (eVar 1) (eC (vS "rows")))) (sSeq (sAsg (gN 5) (eCallS g_numbers_read [eVar 0, eOp2 (oSub) (eC (vI 60)) (eC (vI 1))])) (sRet (eTup [eVar 1, eVar 5, eCallS g_rows_read [eVar 0, eVar 1]]))) (sSkip)) (sBad))))))))
def g_paper_next : Fn := fnOf 5 f_paper_next
def f_paper_read : Sx := sSeq (sAsg (gN 1) (eMake .Words g_Words_init [eVar 0])) (sSeq (sAsg (gN 2) (eCallS g_paper_next [eVar 1])) (sSeq (sIf (tNot (tE (eMeth .Words "ended" g_Words_ended (eVar 1) []))) (sBad) (sSkip)) (sRet (eVar 2))))
def g_paper_read : Fn := fnOf 2 f_paper_read
def f__law_mixed : Sx := sRet (eOp2 (oMod) (eOp2 (oMul) (eOp2 (oMod) (eVar 0) (eC (vI 2305843009213693951))) (eVar 1)) (eC (vI 2305843009213693951)))
def g__law_mixed : Fn := fnOf 0 f__law_mixed
def f__law_next : Sx := sSeq (sIf (tE (eOp2 oGt (eOp1 oLen (eVar 0)) (eC (vI 0)))) (sRet (eCallI g__law_mixed [eMt0 .list oPop (eVar 0), eC (vI 2049848353892358983)])) (sSkip)) (sRet (eC (vI 0)))
def g__law_next : Fn := fnOf 0 f__law_next
def f__law_many : Sx := sSeq (sAsg (gN 2) (eCallS g__law_next [eVar 0])) (sSeq (sIf (tE (eOp2 oEq (eOp2 (oMod) (eOp2 (oFdiv) (eVar 2) (eC (vI 6))) (eC (vI 8))) (eC (vI 1)))) (sRet (eOp2 (oAdd false) (eC (vI 60)) (eOp2 (oMod) (eOp2 (oFdiv) (eVar 2) (eC (vI 48))) (eOp2 (oSub) (eVar 1) (eC (vI 59)))))) (sSkip)) (sRet (eOp2 (oMod) (eVar 2) (eC (vI 6)))))
def g__law_many : Fn := fnOf 1 f__law_many
def f__law_any_road : Sx := sSeq (sAsg (gN 1) (eLstC [])) (sSeq (sFor (iRng1 (eCallS g__law_many [eVar 0, eC (vI 200)])) (gN 2) (sDrop (sSeq (sAsg (gN 3) (eOp2 (oAdd false) (eCallS g__law_next [eVar 0]) (eOp2 (oMul) (eOp2 (oMul) (eC (vI 7919)) (eVar 2)) (eVar 2)))) (sExpr (eMt1 .list oAppend (eVar 1) (eTup [eOp2 (oMod) (eVar 3) (eC (vI 60)), eOp2 oEq (eOp2 (oMod) (eOp2 (oFdiv) (eVar 3) (eC (vI 60))) (eC (vI 2))) (eC (vI 1))])))) [2, 3])) (sRet (eOp1 oTuple (eVar 1))))
def g__law_any_road : Fn := fnOf 3 f__law_any_road
def f__law_any_numbers : Sx := sRet (eOp1 oTuple (eLcN false [2] (iRng1 (eCallS g__law_many [eVar 0, eC (vI 200)])) (gN 2) (tYes) (eOp2 (oMod) (eOp2 (oAdd false) (eCallS g__law_next [eVar 0]) (eOp2 (oMul) (eOp2 (oMul) (eC (vI 7919)) (eVar 2)) (eVar 2))) (eVar 1))))
def g__law_any_numbers : Fn := fnOf 1 f__law_any_numbers
def f__law_any_rows : Sx := sSeq (sAsg (gN 2) (eLstC [])) (sSeq (sFor (iRng1 (eCallS g__law_many [eVar 0, eC (vI 66)])) (gN 3) (sDrop (sSeq (sAsg (gN 4) (eOp2 (oAdd false) (eCallS g__law_next [eVar 0]) (eOp2 (oMul) (eOp2 (oMul) (eC (vI 7919)) (eVar 3)) (eVar 3)))) (sIf (tE (eOp2 oEq (eVar 1) (eC (vS "plan")))) (sExpr (eMt1 .list oAppend (eVar 2) (eTup [eOp2 (oMod) (eVar 4) (eC (vI 60)), eOp2 oIx (eLst [eC (vN), eOp2 (oMod) (eOp2 (oFdiv) (eVar 4) (eC (vI 60))) (eC (vI 60))]) (eOp2 (oMod) (eOp2 (oFdiv) (eVar 4) (eC (vI 3600))) (eC (vI 2))), eOp2 oEq (eOp2 (oMod) (eOp2 (oFdiv) (eVar 4) (eC (vI 7200))) (eC (vI 2))) (eC (vI 1))]))) (sIf (tE (eOp2 oEq (eVar 1) (eC (vS "sums")))) (sExpr (eMt1 .list oAppend (eVar 2) (eTup [eOp2 (oMod) (eVar 4) (eC (vI 60)), eCallS g__law_any_numbers [eVar 0, eC (vI 60)], eOp2 oEq (eOp2 (oMod) (eOp2 (oFdiv) (eVar 4) (eC (vI 7200))) (eC (vI 2))) (eC (vI 1))]))) (sExpr (eMt1 .list oAppend (eVar 2) (eTup [eOp2 (oMod) (eVar 4) (eC (vI 60)), eCallS g__law_any_numbers [eVar 0, eC (vI 60)]])))))) [3, 4])) (sRet (eOp1 oTuple (eVar 2))))
def g__law_any_rows : Fn := fnOf 3 f__law_any_rows
def f__law_any : Sx := sSeq (sAsg (gN 1) (eCallS g__law_next [eVar 0])) (sSeq (sAsg (gN 2) (eOp2 oIx (eLst [eC (vS "broken"), eC (vS "clash"), eC (vS "cross"), eC (vS "late"), eC (vS "odd"), eC (vS "lone"), eC (vS "plan"), eC (vS "sums"), eC (vS "rows")]) (eOp2 (oMod) (eVar 1) (eC (vI 9))))) (sSeq (sIf (tOr (tE (eOp2 oEq (eVar 2) (eC (vS "clash")))) (tE (eOp2 oEq (eVar 2) (eC (vS "late"))))) (sSeq (sAsg (gN 3) (eCallS g__law_any_road [eVar 0])) (sRet (eTup [eVar 2, eVar 3, eCallS g__law_any_road [eVar 0]]))) (sSkip)) (sSeq (sIf (tE (eOp2 oEq (eVar 2) (eC (vS "cross")))) (sRet (eTup [eVar 2, eCallS g__law_any_road [eVar 0]])) (sSkip)) (sSeq (sIf (tE (eOp2 oEq (eVar 2) (eC (vS "odd")))) (sRet (eTup [eVar 2, eCallS g__law_any_numbers [eVar 0, eC (vI 201)]])) (sSkip)) (sSeq (sIf (tE (eOp2 oEq (eVar 2) (eC (vS "lone")))) (sSeq (sAsg (gN 4) (eCallS g__law_any_numbers [eVar 0, eC (vI 201)])) (sRet (eTup [eVar 2, eOp2 oIx (eLst [eC (vN), eOp2 (oMod) (eOp2 (oFdiv) (eVar 1) (eC (vI 9))) (eC (vI 60))]) (eOp2 (oMod) (eOp2 (oFdiv) (eVar 1) (eC (vI 540))) (eC (vI 2))), eVar 4, eCallS g__law_any_numbers [eVar 0, eC (vI 201)]]))) (sSkip)) (sSeq (sIf (tOr (tE (eOp2 oEq (eVar 2) (eC (vS "plan")))) (tE (eOp2 oEq (eVar 2) (eC (vS "sums"))))) (sRet (eTup [eVar 2, eCallS g__law_any_rows [eVar 0, eVar 2]])) (sSkip)) (sSeq (sIf (tE (eOp2 oEq (eVar 2) (eC (vS "rows")))) (sSeq (sAsg (gN 5) (eCallS g__law_any_numbers [eVar 0, eC (vI 60)])) (sRet (eTup [eVar 2, eVar 5, eCallS g__law_any_rows [eVar 0, eVar 2]]))) (sSkip)) (sRet (eTup [eVar 2])))))))))
def g__law_any : Fn := fnOf 5 f__law_any
def f__law_number_words : Sx := sRet (eOp2 (oAdd false) (eLst [eOp1 oStr (eOp1 oLen (eVar 0))]) (eLcN false [1] (iSeq (eVar 0)) (gN 1) (tYes) (eOp1 oStr (eVar 1))))
def g__law_number_words : Fn := fnOf 1 f__law_number_words
def f__law_road_words : Sx := sRet (eOp2 (oAdd false) (eLst [eOp1 oStr (eOp1 oLen (eVar 0))]) (eLcN false [1] (iSeq (eVar 0)) (gN 1) (tYes) (eOp2 (oAdd false) (eOp2 oIx (eLst [eC (vS "-"), eC (vS "+")]) (eOp1 oInt (eOp2 oIx (eVar 1) (eC (vI 1))))) (eOp1 oStr (eOp2 oIx (eVar 1) (eC (vI 0)))))))
def g__law_road_words : Fn := fnOf 1 f__law_road_words
def f__law_free_word : Sx := sSeq (sIf (tE (eOp1 oIsN (eVar 0))) (sRet (eC (vS "none"))) (sSkip)) (sRet (eOp1 oStr (eVar 0)))
def g__law_free_word : Fn := fnOf 0 f__law_free_word
def f__law_rows_words : Sx := sSeq (sAsg (gN 2) (eLstC [eOp1 oStr (eOp1 oLen (eVar 1))])) (sSeq (sFor (iSeq (eVar 1)) (gN 3) (sDrop (sSeq (sExpr (eMt1 .list oAppend (eVar 2) (eOp1 oStr (eOp2 oIx (eVar 3) (eC (vI 0)))))) (sSeq (sIf (tE (eOp2 oEq (eVar 0) (eC (vS "plan")))) (sAsg (gN 2) (eOp2 (oAdd true) (eVar 2) (eLst [eCallI g__law_free_word [eOp2 oIx (eVar 3) (eC (vI 1))], eOp2 oIx (eLst [eC (vS "no"), eC (vS "yes")]) (eOp1 oInt (eOp2 oIx (eVar 3) (eC (vI 2))))]))) (sAsg (gN 2) (eOp2 (oAdd true) (eVar 2) (eCallI g__law_number_words [eOp2 oIx (eVar 3) (eC (vI 1))])))) (sIf (tE (eOp2 oEq (eVar 0) (eC (vS "sums")))) (sExpr (eMt1 .list oAppend (eVar 2) (eOp2 oIx (eLst [eC (vS "no"), eC (vS "yes")]) (eOp1 oInt (eOp2 oIx (eVar 3) (eC (vI 2))))))) (sSkip)))) [3])) (sRet (eVar 2)))
def g__law_rows_words : Fn := fnOf 2 f__law_rows_words
def f__law_paper_words : Sx := sSeq (sAsg (gN 1) (eOp2 oIx (eVar 0) (eC (vI 0)))) (sSeq (sAsg (gN 2) (eLstC [eVar 1])) (sSeq (sIf (tOr (tE (eOp2 oEq (eVar 1) (eC (vS "clash")))) (tE (eOp2 oEq (eVar 1) (eC (vS "late"))))) (sAsg (gN 2) (eOp2 (oAdd true) (eOp2 (oAdd false) (eVar 2) (eCallI g__law_road_words [eOp2 oIx (eVar 0) (eC (vI 1))])) (eCallI g__law_road_words [eOp2 oIx (eVar 0) (eC (vI 2))]))) (sSkip)) (sSeq (sIf (tE (eOp2 oEq (eVar 1) (eC (vS "cross")))) (sAsg (gN 2) (eOp2 (oAdd true) (eVar 2) (eCallI g__law_road_words [eOp2 oIx (eVar 0) (eC (vI 1))]))) (sSkip)) (sSeq (sIf (tE (eOp2 oEq (eVar 1) (eC (vS "odd")))) (sAsg (gN 2) (eOp2 (oAdd true) (eVar 2) (eCallI g__law_number_words [eOp2 oIx (eVar 0) (eC (vI 1))]))) (sSkip)) (sSeq (sIf (tE (eOp2 oEq (eVar 1) (eC (vS "lone")))) (sSeq (sExpr (eMt1 .list oAppend (eVar 2) (eCallI g__law_free_word [eOp2 oIx (eVar 0) (eC (vI 1))]))) (sAsg (gN 2) (eOp2 (oAdd true) (eOp2 (oAdd false) (eVar 2) (eCallI g__law_number_words [eOp2 oIx (eVar 0) (eC (vI 2))])) (eCallI g__law_number_words [eOp2 oIx (eVar 0) (eC (vI 3))])))) (sSkip)) (sSeq (sIf (tOr (tE (eOp2 oEq (eVar 1) (eC (vS "plan")))) (tE (eOp2 oEq (eVar 1) (eC (vS "sums"))))) (sAsg (gN 2) (eOp2 (oAdd true) (eVar 2) (eCallI g__law_rows_words [eVar 1, eOp2 oIx (eVar 0) (eC (vI 1))]))) (sSkip)) (sSeq (sIf (tE (eOp2 oEq (eVar 1) (eC (vS "rows")))) (sAsg (gN 2) (eOp2 (oAdd true) (eOp2 (oAdd false) (eVar 2) (eCallI g__law_number_words [eOp2 oIx (eVar 0) (eC (vI 1))])) (eCallI g__law_rows_words [eVar 1, eOp2 oIx (eVar 0) (eC (vI 2))]))) (sSkip)) (sRet (eVar 2)))))))))
def g__law_paper_words : Fn := fnOf 2 f__law_paper_words
def f__law_same__0 : Sx := sSeq (sIf (tE (eOp1 (oIsI .tuple) (eVar 1))) (sSeq (sIf (tOr (tNot (tE (eOp1 (oIsI .tuple) (eVar 0)))) (tE (eOp2 oNe (eOp1 oLen (eVar 0)) (eOp1 oLen (eVar 1))))) (sRet (eC (vB false))) (sSkip)) (sRet (eOp1 oAll (eLcN false [2] (iRng1 (eOp1 oLen (eVar 1))) (gN 2) (tYes) (eBad))))) (sSkip)) (sSeq (sIf (tE (eOp1 oIsN (eVar 1))) (sRet (eOp1 oIsN (eVar 0))) (sSkip)) (sSeq (sIf (tE (eOp1 (oIsI .str) (eVar 1))) (sRet (eAndV (eOp1 (oIsI .str) (eVar 0)) (eOp2 oEq (eVar 0) (eVar 1)))) (sSkip)) (sSeq (sIf (tOr (tE (eOp1 (oIsI .bool) (eVar 1))) (tE (eOp1 (oIsI .bool) (eVar 0)))) (sRet (eAndV (eOp1 (oIsI .bool) (eVar 1)) (eAndV (eOp1 (oIsI .bool) (eVar 0)) (eOp2 oEq (eVar 0) (eVar 1))))) (sSkip)) (sRet (eAndV (eOp1 (oIsI .int) (eVar 0)) (eOp2 oEq (eVar 0) (eVar 1)))))))
def g__law_same__0 : Fn := fnOf 1 f__law_same__0
def f__law_same__1 : Sx := sSeq (sIf (tE (eOp1 (oIsI .tuple) (eVar 1))) (sSeq (sIf (tOr (tNot (tE (eOp1 (oIsI .tuple) (eVar 0)))) (tE (eOp2 oNe (eOp1 oLen (eVar 0)) (eOp1 oLen (eVar 1))))) (sRet (eC (vB false))) (sSkip)) (sRet (eOp1 oAll (eLcN false [2] (iRng1 (eOp1 oLen (eVar 1))) (gN 2) (tYes) (eCallI g__law_same__0 [eOp2 oIx (eVar 0) (eVar 2), eOp2 oIx (eVar 1) (eVar 2)]))))) (sSkip)) (sSeq (sIf (tE (eOp1 oIsN (eVar 1))) (sRet (eOp1 oIsN (eVar 0))) (sSkip)) (sSeq (sIf (tE (eOp1 (oIsI .str) (eVar 1))) (sRet (eAndV (eOp1 (oIsI .str) (eVar 0)) (eOp2 oEq (eVar 0) (eVar 1)))) (sSkip)) (sSeq (sIf (tOr (tE (eOp1 (oIsI .bool) (eVar 1))) (tE (eOp1 (oIsI .bool) (eVar 0)))) (sRet (eAndV (eOp1 (oIsI .bool) (eVar 1)) (eAndV (eOp1 (oIsI .bool) (eVar 0)) (eOp2 oEq (eVar 0) (eVar 1))))) (sSkip)) (sRet (eAndV (eOp1 (oIsI .int) (eVar 0)) (eOp2 oEq (eVar 0) (eVar 1)))))))
def g__law_same__1 : Fn := fnOf 1 f__law_same__1
def f__law_same__2 : Sx := sSeq (sIf (tE (eOp1 (oIsI .tuple) (eVar 1))) (sSeq (sIf (tOr (tNot (tE (eOp1 (oIsI .tuple) (eVar 0)))) (tE (eOp2 oNe (eOp1 oLen (eVar 0)) (eOp1 oLen (eVar 1))))) (sRet (eC (vB false))) (sSkip)) (sRet (eOp1 oAll (eLcN false [2] (iRng1 (eOp1 oLen (eVar 1))) (gN 2) (tYes) (eCallI g__law_same__1 [eOp2 oIx (eVar 0) (eVar 2), eOp2 oIx (eVar 1) (eVar 2)]))))) (sSkip)) (sSeq (sIf (tE (eOp1 oIsN (eVar 1))) (sRet (eOp1 oIsN (eVar 0))) (sSkip)) (sSeq (sIf (tE (eOp1 (oIsI .str) (eVar 1))) (sRet (eAndV (eOp1 (oIsI .str) (eVar 0)) (eOp2 oEq (eVar 0) (eVar 1)))) (sSkip)) (sSeq (sIf (tOr (tE (eOp1 (oIsI .bool) (eVar 1))) (tE (eOp1 (oIsI .bool) (eVar 0)))) (sRet (eAndV (eOp1 (oIsI .bool) (eVar 1)) (eAndV (eOp1 (oIsI .bool) (eVar 0)) (eOp2 oEq (eVar 0) (eVar 1))))) (sSkip)) (sRet (eAndV (eOp1 (oIsI .int) (eVar 0)) (eOp2 oEq (eVar 0) (eVar 1)))))))
def g__law_same__2 : Fn := fnOf 1 f__law_same__2
def f__law_same__3 : Sx := sSeq (sIf (tE (eOp1 (oIsI .tuple) (eVar 1))) (sSeq (sIf (tOr (tNot (tE (eOp1 (oIsI .tuple) (eVar 0)))) (tE (eOp2 oNe (eOp1 oLen (eVar 0)) (eOp1 oLen (eVar 1))))) (sRet (eC (vB false))) (sSkip)) (sRet (eOp1 oAll (eLcN false [2] (iRng1 (eOp1 oLen (eVar 1))) (gN 2) (tYes) (eCallI g__law_same__2 [eOp2 oIx (eVar 0) (eVar 2), eOp2 oIx (eVar 1) (eVar 2)]))))) (sSkip)) (sSeq (sIf (tE (eOp1 oIsN (eVar 1))) (sRet (eOp1 oIsN (eVar 0))) (sSkip)) (sSeq (sIf (tE (eOp1 (oIsI .str) (eVar 1))) (sRet (eAndV (eOp1 (oIsI .str) (eVar 0)) (eOp2 oEq (eVar 0) (eVar 1)))) (sSkip)) (sSeq (sIf (tOr (tE (eOp1 (oIsI .bool) (eVar 1))) (tE (eOp1 (oIsI .bool) (eVar 0)))) (sRet (eAndV (eOp1 (oIsI .bool) (eVar 1)) (eAndV (eOp1 (oIsI .bool) (eVar 0)) (eOp2 oEq (eVar 0) (eVar 1))))) (sSkip)) (sRet (eAndV (eOp1 (oIsI .int) (eVar 0)) (eOp2 oEq (eVar 0) (eVar 1)))))))
def g__law_same__3 : Fn := fnOf 1 f__law_same__3
def f__law_same__4 : Sx := sSeq (sIf (tE (eOp1 (oIsI .tuple) (eVar 1))) (sSeq (sIf (tOr (tNot (tE (eOp1 (oIsI .tuple) (eVar 0)))) (tE (eOp2 oNe (eOp1 oLen (eVar 0)) (eOp1 oLen (eVar 1))))) (sRet (eC (vB false))) (sSkip)) (sRet (eOp1 oAll (eLcN false [2] (iRng1 (eOp1 oLen (eVar 1))) (gN 2) (tYes) (eCallI g__law_same__3 [eOp2 oIx (eVar 0) (eVar 2), eOp2 oIx (eVar 1) (eVar 2)]))))) (sSkip)) (sSeq (sIf (tE (eOp1 oIsN (eVar 1))) (sRet (eOp1 oIsN (eVar 0))) (sSkip)) (sSeq (sIf (tE (eOp1 (oIsI .str) (eVar 1))) (sRet (eAndV (eOp1 (oIsI .str) (eVar 0)) (eOp2 oEq (eVar 0) (eVar 1)))) (sSkip)) (sSeq (sIf (tOr (tE (eOp1 (oIsI .bool) (eVar 1))) (tE (eOp1 (oIsI .bool) (eVar 0)))) (sRet (eAndV (eOp1 (oIsI .bool) (eVar 1)) (eAndV (eOp1 (oIsI .bool) (eVar 0)) (eOp2 oEq (eVar 0) (eVar 1))))) (sSkip)) (sRet (eAndV (eOp1 (oIsI .int) (eVar 0)) (eOp2 oEq (eVar 0) (eVar 1)))))))
def g__law_same__4 : Fn := fnOf 1 f__law_same__4
def f_law : Sx := sSeq (sAsg (gN 1) (eOp1 (oListRev true) (eVar 0))) (sSeq (sFor (iRng1 (eC (vI 4))) (gN 2) (sDrop (sSeq (sAsg (gN 3) (eCallS g__law_any [eVar 1])) (sSeq (sIf (tNot (tE (eCallI g__law_same__4 [eCallI g_paper_read [eMt1 .str oJoin (eC (vS " ")) (eCallI g__law_paper_words [eVar 3])], eVar 3]))) (sRet (eC (vB false))) (sSkip)) (sIf (tNot (tE (eCallI g__law_same__4 [eCallI g_paper_read [eCallI g_paper_written [eVar 3]], eVar 3]))) (sRet (eC (vB false))) (sSkip)))) [2, 3])) (sRet (eC (vB true))))
def g_law : Fn := fnOf 3 f_law
end K59

end SSem

section SMath
set_option linter.all false
set_option maxRecDepth 100000
set_option maxHeartbeats 4000000
namespace K59
open PySem DK
/-! the papers: typed, their encodings and words -/
abbrev Say := Int × Bool
def eSay (s : Say) : PyData := .tuple [.int s.1, .bool s.2]
def eRoad (r : List Say) : PyData := .tuple (r.map eSay)
def eNums (l : List Int) : PyData := .tuple (l.map .int)
def eFree : Option Int → PyData
  | none => .none
  | some i => .int i
def wFree : Option Int → Str
  | none => "none"
  | some i => nS i
def wTruth (b : Bool) : Str := if b = true then "yes" else "no"
def wSay (s : Say) : Str := if s.2 = true then ("+" : Str) ++ nS s.1 else ("-" : Str) ++ nS s.1
def wRoad (r : List Say) : List Str := nS r.length :: r.map wSay
def wNums (l : List Int) : List Str := nS l.length :: l.map nS
def eP (r : Int × Option Int × Bool) : PyData := .tuple [.int r.1, eFree r.2.1, .bool r.2.2]
def eU (r : Int × List Int × Bool) : PyData := .tuple [.int r.1, eNums r.2.1, .bool r.2.2]
def eR (r : Int × List Int) : PyData := .tuple [.int r.1, eNums r.2]
def wP (r : Int × Option Int × Bool) : List Str := [nS r.1, wFree r.2.1, wTruth r.2.2]
def wU (r : Int × List Int × Bool) : List Str := nS r.1 :: (wNums r.2.1 ++ [wTruth r.2.2])
def wR (r : Int × List Int) : List Str := nS r.1 :: wNums r.2
inductive Pap where
  | broken
  | clash (a b : List Say)
  | late (a b : List Say)
  | cross (a : List Say)
  | odd (l : List Int)
  | lone (f : Option Int) (a b : List Int)
  | plan (l : List (Int × Option Int × Bool))
  | sums (l : List (Int × List Int × Bool))
  | rows (a : List Int) (l : List (Int × List Int))
def Pap.nm : Pap → Str
  | .broken => "broken"
  | .clash _ _ => "clash"
  | .late _ _ => "late"
  | .cross _ => "cross"
  | .odd _ => "odd"
  | .lone _ _ _ => "lone"
  | .plan _ => "plan"
  | .sums _ => "sums"
  | .rows _ _ => "rows"
def Pap.args : Pap → List PyData
  | .broken => []
  | .clash a b => [eRoad a, eRoad b]
  | .late a b => [eRoad a, eRoad b]
  | .cross a => [eRoad a]
  | .odd l => [eNums l]
  | .lone f a b => [eFree f, eNums a, eNums b]
  | .plan l => [.tuple (l.map eP)]
  | .sums l => [.tuple (l.map eU)]
  | .rows a l => [eNums a, .tuple (l.map eR)]
def Pap.enc (p : Pap) : PyData := .tuple (.str p.nm :: p.args)
def Pap.words : Pap → List Str
  | .broken => []
  | .clash a b => wRoad a ++ wRoad b
  | .late a b => wRoad a ++ wRoad b
  | .cross a => wRoad a
  | .odd l => wNums l
  | .lone f a b => wFree f :: (wNums a ++ wNums b)
  | .plan l => nS l.length :: l.flatMap wP
  | .sums l => nS l.length :: l.flatMap wU
  | .rows a l => wNums a ++ nS l.length :: l.flatMap wR
def okI (i : Int) : Prop := 0 ≤ i ∧ i < 1000
def okRoad (r : List Say) : Prop := r.length ≤ 200 ∧ ∀ s ∈ r, okI s.1
def okNums (r : List Int) : Prop := r.length ≤ 200 ∧ ∀ s ∈ r, okI s
def okFree : Option Int → Prop
  | none => True
  | some i => okI i
def Pap.Ok : Pap → Prop
  | .broken => True
  | .clash a b => okRoad a ∧ okRoad b
  | .late a b => okRoad a ∧ okRoad b
  | .cross a => okRoad a
  | .odd l => okNums l
  | .lone f a b => okFree f ∧ okNums a ∧ okNums b
  | .plan l => l.length ≤ 200 ∧ ∀ r ∈ l, okI r.1 ∧ okFree r.2.1
  | .sums l => l.length ≤ 200 ∧ ∀ r ∈ l, okI r.1 ∧ okNums r.2.1
  | .rows a l => okNums a ∧ l.length ≤ 200 ∧ ∀ r ∈ l, okI r.1 ∧ okNums r.2
/-! lengths -/
theorem nS_len' : ∀ n : Nat, n < 1000 → (nS n).length ≤ 3 := by decide +kernel
theorem nS_len {i : Int} (h : okI i) : (nS i).length ≤ 3 := by
  have := nS_len' i.toNat (by have := h.2; have := h.1; omega)
  rwa [show ((i.toNat : Nat) : Int) = i from Int.toNat_of_nonneg h.1] at this
theorem okN {n : Nat} (h : n ≤ 200) : okI (n : Int) := ⟨by omega, by omega⟩
theorem flat_len {τ β : Type} {w : τ → List β} {c : Nat} : ∀ l : List τ, (∀ x ∈ l, (w x).length ≤ c) → (l.flatMap w).length ≤ l.length * c
  | [], _ => by simp
  | x :: l, h => by
    have h1 := h x (by simp)
    have h2 := flat_len l fun y hy => h y (by simp [hy])
    simp only [List.flatMap_cons, List.length_append, List.length_cons, Nat.succ_mul]
    omega
def Short (l : List Str) : Prop := ∀ w ∈ l, w.length ≤ 6
theorem Short.cons {w : Str} {l : List Str} (h : w.length ≤ 6) (h2 : Short l) : Short (w :: l) := fun x hx => by
  rcases List.mem_cons.1 hx with rfl | hx
  · exact h
  · exact h2 x hx
theorem Short.nil : Short [] := fun x hx => by simp at hx
theorem Short.app {l l' : List Str} (h : Short l) (h2 : Short l') : Short (l ++ l') := fun x hx => (List.mem_append.1 hx).elim (h x) (h2 x)
theorem Short.flat {τ : Type} {w : τ → List Str} {l : List τ} (h : ∀ x ∈ l, Short (w x)) : Short (l.flatMap w) := fun x hx => by
  obtain ⟨y, hy, hx⟩ := List.mem_flatMap.1 hx
  exact h y hy x hx
theorem Short.map {τ : Type} {w : τ → Str} {l : List τ} (h : ∀ x ∈ l, (w x).length ≤ 6) : Short (l.map w) := fun x hx => by
  obtain ⟨y, hy, rfl⟩ := List.mem_map.1 hx
  exact h y hy
theorem Short.sum : ∀ {l : List Str}, Short l → (l.map (·.length)).sum ≤ l.length * 6
  | [], _ => by simp
  | w :: l, h => by
    have h1 := h w (by simp)
    have h2 := Short.sum (l := l) fun x hx => h x (by simp [hx])
    simp only [List.map_cons, List.sum_cons, List.length_cons, Nat.succ_mul]
    omega
theorem sLen_p : ("+" : Str).length = 1 := by decide
theorem sLen_m : ("-" : Str).length = 1 := by decide
theorem sLen_sp : (" " : Str).length = 1 := by decide
theorem str_app_len (a b : Str) : (a ++ b).length = a.length + b.length := by
  show (a.cps ++ b.cps).size = _
  exact Array.size_append
theorem wSay_short {s : Say} (h : okI s.1) : (wSay s).length ≤ 6 := by
  have := nS_len h
  unfold wSay
  split <;> rw [str_app_len] <;> simp only [sLen_p, sLen_m] <;> omega
theorem wFree_short {f : Option Int} (h : okFree f) : (wFree f).length ≤ 6 := by
  cases f with
  | none => decide
  | some i => have := nS_len h; exact Nat.le_trans this (by decide)
theorem wTruth_short (b : Bool) : (wTruth b).length ≤ 6 := by cases b <;> decide
theorem nS_short {i : Int} (h : okI i) : (nS i).length ≤ 6 := Nat.le_trans (nS_len h) (by decide)
theorem wRoad_short {r : List Say} (h : okRoad r) : Short (wRoad r) := .cons (nS_short (okN h.1)) (.map fun s hs => wSay_short (h.2 s hs))
theorem wNums_short {r : List Int} (h : okNums r) : Short (wNums r) := .cons (nS_short (okN h.1)) (.map fun s hs => nS_short (h.2 s hs))
theorem wNums_len {r : List Int} (h : okNums r) : (wNums r).length ≤ 201 := by have := h.1; simp only [wNums, List.length_cons, List.length_map]; omega
theorem wRoad_len {r : List Say} (h : okRoad r) : (wRoad r).length ≤ 201 := by have := h.1; simp only [wRoad, List.length_cons, List.length_map]; omega
theorem wU_len {r : Int × List Int × Bool} (h : okNums r.2.1) : (wU r).length ≤ 203 := by
  have := wNums_len h; simp only [wU, List.length_cons, List.length_append, List.length_nil]; omega
theorem wR_len {r : Int × List Int} (h : okNums r.2) : (wR r).length ≤ 203 := by
  have := wNums_len h; simp only [wR, List.length_cons]; omega
theorem words_short {p : Pap} (h : p.Ok) : Short p.words ∧ p.words.length ≤ 60000 := by
  cases p with
  | broken => exact ⟨.nil, by decide⟩
  | clash a b => exact ⟨.app (wRoad_short h.1) (wRoad_short h.2), by have := wRoad_len h.1; have := wRoad_len h.2; simp only [Pap.words, List.length_append]; omega⟩
  | late a b => exact ⟨.app (wRoad_short h.1) (wRoad_short h.2), by have := wRoad_len h.1; have := wRoad_len h.2; simp only [Pap.words, List.length_append]; omega⟩
  | cross a => exact ⟨wRoad_short h, by have := wRoad_len h; simp only [Pap.words]; omega⟩
  | odd a => exact ⟨wNums_short h, by have := wNums_len h; simp only [Pap.words]; omega⟩
  | lone f a b => exact ⟨.cons (wFree_short h.1) (.app (wNums_short h.2.1) (wNums_short h.2.2)), by have := wNums_len h.2.1; have := wNums_len h.2.2; simp only [Pap.words, List.length_append, List.length_cons]; omega⟩
  | plan l =>
    refine ⟨.cons (nS_short (okN h.1)) (.flat fun r hr => .cons (nS_short (h.2 r hr).1) (.cons (wFree_short (h.2 r hr).2) (.cons (wTruth_short _) .nil))), ?_⟩
    have h1 := h.1
    have h2 := flat_len (w := wP) (c := 3) l fun x _ => by simp [wP]
    simp only [Pap.words, List.length_cons]; omega
  | sums l =>
    refine ⟨.cons (nS_short (okN h.1)) (.flat fun r hr => .cons (nS_short (h.2 r hr).1) (.app (wNums_short (h.2 r hr).2) (.cons (wTruth_short _) .nil))), ?_⟩
    have h1 := h.1
    have h2 := flat_len (w := wU) (c := 203) l fun x hx => wU_len (h.2 x hx).2
    simp only [Pap.words, List.length_cons]; omega
  | rows a l =>
    refine ⟨.app (wNums_short h.1) (.cons (nS_short (okN h.2.1)) (.flat fun r hr => .cons (nS_short (h.2.2 r hr).1) (wNums_short (h.2.2 r hr).2))), ?_⟩
    have h1 := h.2.1
    have h3 := wNums_len h.1
    have h2 := flat_len (w := wR) (c := 203) l fun x hx => wR_len (h.2.2 x hx).2
    simp only [Pap.words, List.length_cons, List.length_append]; omega
/-! what the defs reckon -/
theorem c_saying {s : Say} (h : okI s.1) : callI g_saying_word [eSay s] = some (.inr (.str (wSay s))) := by
  have h1 : (("+" : Str).length + (nS s.1).length ≤ LINE) = True := eq_true (by have := nS_len h; rw [sLen_p]; unfold LINE; omega)
  have h2 : (("-" : Str).length + (nS s.1).length ≤ LINE) = True := eq_true (by have := nS_len h; rw [sLen_m]; unfold LINE; omega)
  have h3 : (0 ≤ s.1 ∧ s.1 < 1000) := h
  unfold g_saying_word f_saying_word eSay wSay
  rw [d_iso]
  cases hb : s.2 <;> simp -implicitDefEqProofs only [bind_ok, bind_ex, then_ok, then_ex, seq_nx, seq_rt, seq_ex, ite_tt, ite_ff, of_some, okOr_some, v0, v1, v2, v3, v4, v5, v6, v7, v8, v9, n0, n1, n2, n3, n4, n5, n6, n7, n8, n9, d_C, d_Op1, d_Op2, d_Mt0, d_Mt1, d_Args0, d_Args, d_Tup, d_Lst, d_LstC, tupK0, tupK1, tupK2, tupK3, tupK4, tupK9, bK_b, d_And, d_Or, d_Not, d_tE, d_tAnd, d_tOr, d_tNot, d_tYes, d_If, d_CallI, isoE_ok, isoE_ex, iso1, iso2, iso3, iso4, iso5, d_CallS, tgK_some, d_Skip, d_Seq, d_Asg, d_Expr, d_Ret, d_IfS, d_For, d_Raise, d_Drop, drop_nx, drop_rt, drop_ex, wipe0, wipeC, d_fn, fin_rt, fin_nx, fin_ex, isoR_d, isoR_ex, add_ii, add_ss, add_tt, add_ll, add_llC, sub_ii, neg_i, lt_ii, le_ii, gt_ii, ge_ii, dep_s, dep_i, dep_b, dep_n, eq_ii, eq_ss, eq_bb, ne_ss, ne_ii, ne_bb, in_dt, in_dl, notin_dt, notin_dl, isN_n, isN_i, isN_t, isN_s, isN_b, isN_l, notN_b, notN_l, notN_n, notN_i, notN_t, notN_s, t0, t1, t2, t3, l0, l1, l2, l3, len_t, len_l, str_i, int_b, tup_t, tup_l, list_lC, list_tC, list_l, list_t, rev_lC, isi_d, rc_s, d_iSeq, seqK_l, seqK_t, d_iRng1, rngK_i, d_Lc, noEx_k, newL_f, newL_t, rng_zero, len_s, d_iTxt, k_tx, d_Sl, k_Sl, k_Sl2, k_Sl3, k_pt0, k_pt1, k_pt, sl_s, d_Fld, d_Meth, d_Make, d_Store, k_Store, k_Store2, inS_1, k_Op1, k_Op2, k_Op2b, k_Mt0, k_Mt1, k_Args, k_Argsb, k_Tup, k_LstC, k_Andb, k_And, k_Orb, k_Or, k_Notb, k_Not, k_tEb, k_tE, k_tAnd, k_tOr, k_tNot, k_If, k_Asg, k_Expr, k_IfS, k_For, k_Lc, k_Lcb, List.map_cons, List.map_nil, List.cons_append, List.nil_append, List.replicate, List.set_cons_zero, List.set_cons_succ, List.all_cons, List.all_nil, Bool.and_true, Bool.true_and, Bool.and_self, and_self, eq_self, if_true, if_false, decide_true, decide_false, Bool.false_eq_true, List.any_cons, List.any_nil, List.length_nil, List.length_cons, Bool.not_true, Bool.not_false, h1, h2, h3, hb, ite_tt, ite_ff, Bool.false_eq_true, if_false, if_true]
theorem c_free {f : Option Int} (h : okFree f) : callI g_free_word [eFree f] = some (.inr (.str (wFree f))) := by
  unfold g_free_word f_free_word
  rw [d_iso]
  cases f with
  | none => simp -implicitDefEqProofs only [bind_ok, bind_ex, then_ok, then_ex, seq_nx, seq_rt, seq_ex, ite_tt, ite_ff, of_some, okOr_some, v0, v1, v2, v3, v4, v5, v6, v7, v8, v9, n0, n1, n2, n3, n4, n5, n6, n7, n8, n9, d_C, d_Op1, d_Op2, d_Mt0, d_Mt1, d_Args0, d_Args, d_Tup, d_Lst, d_LstC, tupK0, tupK1, tupK2, tupK3, tupK4, tupK9, bK_b, d_And, d_Or, d_Not, d_tE, d_tAnd, d_tOr, d_tNot, d_tYes, d_If, d_CallI, isoE_ok, isoE_ex, iso1, iso2, iso3, iso4, iso5, d_CallS, tgK_some, d_Skip, d_Seq, d_Asg, d_Expr, d_Ret, d_IfS, d_For, d_Raise, d_Drop, drop_nx, drop_rt, drop_ex, wipe0, wipeC, d_fn, fin_rt, fin_nx, fin_ex, isoR_d, isoR_ex, add_ii, add_ss, add_tt, add_ll, add_llC, sub_ii, neg_i, lt_ii, le_ii, gt_ii, ge_ii, dep_s, dep_i, dep_b, dep_n, eq_ii, eq_ss, eq_bb, ne_ss, ne_ii, ne_bb, in_dt, in_dl, notin_dt, notin_dl, isN_n, isN_i, isN_t, isN_s, isN_b, isN_l, notN_b, notN_l, notN_n, notN_i, notN_t, notN_s, t0, t1, t2, t3, l0, l1, l2, l3, len_t, len_l, str_i, int_b, tup_t, tup_l, list_lC, list_tC, list_l, list_t, rev_lC, isi_d, rc_s, d_iSeq, seqK_l, seqK_t, d_iRng1, rngK_i, d_Lc, noEx_k, newL_f, newL_t, rng_zero, len_s, d_iTxt, k_tx, d_Sl, k_Sl, k_Sl2, k_Sl3, k_pt0, k_pt1, k_pt, sl_s, d_Fld, d_Meth, d_Make, d_Store, k_Store, k_Store2, inS_1, k_Op1, k_Op2, k_Op2b, k_Mt0, k_Mt1, k_Args, k_Argsb, k_Tup, k_LstC, k_Andb, k_And, k_Orb, k_Or, k_Notb, k_Not, k_tEb, k_tE, k_tAnd, k_tOr, k_tNot, k_If, k_Asg, k_Expr, k_IfS, k_For, k_Lc, k_Lcb, List.map_cons, List.map_nil, List.cons_append, List.nil_append, List.replicate, List.set_cons_zero, List.set_cons_succ, List.all_cons, List.all_nil, Bool.and_true, Bool.true_and, Bool.and_self, and_self, eq_self, if_true, if_false, decide_true, decide_false, Bool.false_eq_true, List.any_cons, List.any_nil, List.length_nil, List.length_cons, Bool.not_true, Bool.not_false, eFree, wFree]
  | some i =>
    have h3 : (0 ≤ i ∧ i < 1000) := h
    simp -implicitDefEqProofs only [bind_ok, bind_ex, then_ok, then_ex, seq_nx, seq_rt, seq_ex, ite_tt, ite_ff, of_some, okOr_some, v0, v1, v2, v3, v4, v5, v6, v7, v8, v9, n0, n1, n2, n3, n4, n5, n6, n7, n8, n9, d_C, d_Op1, d_Op2, d_Mt0, d_Mt1, d_Args0, d_Args, d_Tup, d_Lst, d_LstC, tupK0, tupK1, tupK2, tupK3, tupK4, tupK9, bK_b, d_And, d_Or, d_Not, d_tE, d_tAnd, d_tOr, d_tNot, d_tYes, d_If, d_CallI, isoE_ok, isoE_ex, iso1, iso2, iso3, iso4, iso5, d_CallS, tgK_some, d_Skip, d_Seq, d_Asg, d_Expr, d_Ret, d_IfS, d_For, d_Raise, d_Drop, drop_nx, drop_rt, drop_ex, wipe0, wipeC, d_fn, fin_rt, fin_nx, fin_ex, isoR_d, isoR_ex, add_ii, add_ss, add_tt, add_ll, add_llC, sub_ii, neg_i, lt_ii, le_ii, gt_ii, ge_ii, dep_s, dep_i, dep_b, dep_n, eq_ii, eq_ss, eq_bb, ne_ss, ne_ii, ne_bb, in_dt, in_dl, notin_dt, notin_dl, isN_n, isN_i, isN_t, isN_s, isN_b, isN_l, notN_b, notN_l, notN_n, notN_i, notN_t, notN_s, t0, t1, t2, t3, l0, l1, l2, l3, len_t, len_l, str_i, int_b, tup_t, tup_l, list_lC, list_tC, list_l, list_t, rev_lC, isi_d, rc_s, d_iSeq, seqK_l, seqK_t, d_iRng1, rngK_i, d_Lc, noEx_k, newL_f, newL_t, rng_zero, len_s, d_iTxt, k_tx, d_Sl, k_Sl, k_Sl2, k_Sl3, k_pt0, k_pt1, k_pt, sl_s, d_Fld, d_Meth, d_Make, d_Store, k_Store, k_Store2, inS_1, k_Op1, k_Op2, k_Op2b, k_Mt0, k_Mt1, k_Args, k_Argsb, k_Tup, k_LstC, k_Andb, k_And, k_Orb, k_Or, k_Notb, k_Not, k_tEb, k_tE, k_tAnd, k_tOr, k_tNot, k_If, k_Asg, k_Expr, k_IfS, k_For, k_Lc, k_Lcb, List.map_cons, List.map_nil, List.cons_append, List.nil_append, List.replicate, List.set_cons_zero, List.set_cons_succ, List.all_cons, List.all_nil, Bool.and_true, Bool.true_and, Bool.and_self, and_self, eq_self, if_true, if_false, decide_true, decide_false, Bool.false_eq_true, List.any_cons, List.any_nil, List.length_nil, List.length_cons, Bool.not_true, Bool.not_false, eFree, wFree, h3]
theorem lc_free {f : Option Int} (h : okFree f) : callI g__law_free_word [eFree f] = some (.inr (.str (wFree f))) := c_free h
theorem c_truth {b : Bool} : callI g_truth_word [.bool b] = some (.inr (.str (wTruth b))) := by
  unfold g_truth_word f_truth_word wTruth
  rw [d_iso]
  cases b <;> simp -implicitDefEqProofs only [bind_ok, bind_ex, then_ok, then_ex, seq_nx, seq_rt, seq_ex, ite_tt, ite_ff, of_some, okOr_some, v0, v1, v2, v3, v4, v5, v6, v7, v8, v9, n0, n1, n2, n3, n4, n5, n6, n7, n8, n9, d_C, d_Op1, d_Op2, d_Mt0, d_Mt1, d_Args0, d_Args, d_Tup, d_Lst, d_LstC, tupK0, tupK1, tupK2, tupK3, tupK4, tupK9, bK_b, d_And, d_Or, d_Not, d_tE, d_tAnd, d_tOr, d_tNot, d_tYes, d_If, d_CallI, isoE_ok, isoE_ex, iso1, iso2, iso3, iso4, iso5, d_CallS, tgK_some, d_Skip, d_Seq, d_Asg, d_Expr, d_Ret, d_IfS, d_For, d_Raise, d_Drop, drop_nx, drop_rt, drop_ex, wipe0, wipeC, d_fn, fin_rt, fin_nx, fin_ex, isoR_d, isoR_ex, add_ii, add_ss, add_tt, add_ll, add_llC, sub_ii, neg_i, lt_ii, le_ii, gt_ii, ge_ii, dep_s, dep_i, dep_b, dep_n, eq_ii, eq_ss, eq_bb, ne_ss, ne_ii, ne_bb, in_dt, in_dl, notin_dt, notin_dl, isN_n, isN_i, isN_t, isN_s, isN_b, isN_l, notN_b, notN_l, notN_n, notN_i, notN_t, notN_s, t0, t1, t2, t3, l0, l1, l2, l3, len_t, len_l, str_i, int_b, tup_t, tup_l, list_lC, list_tC, list_l, list_t, rev_lC, isi_d, rc_s, d_iSeq, seqK_l, seqK_t, d_iRng1, rngK_i, d_Lc, noEx_k, newL_f, newL_t, rng_zero, len_s, d_iTxt, k_tx, d_Sl, k_Sl, k_Sl2, k_Sl3, k_pt0, k_pt1, k_pt, sl_s, d_Fld, d_Meth, d_Make, d_Store, k_Store, k_Store2, inS_1, k_Op1, k_Op2, k_Op2b, k_Mt0, k_Mt1, k_Args, k_Argsb, k_Tup, k_LstC, k_Andb, k_And, k_Orb, k_Or, k_Notb, k_Not, k_tEb, k_tE, k_tAnd, k_tOr, k_tNot, k_If, k_Asg, k_Expr, k_IfS, k_For, k_Lc, k_Lcb, List.map_cons, List.map_nil, List.cons_append, List.nil_append, List.replicate, List.set_cons_zero, List.set_cons_succ, List.all_cons, List.all_nil, Bool.and_true, Bool.true_and, Bool.and_self, and_self, eq_self, if_true, if_false, decide_true, decide_false, Bool.false_eq_true, List.any_cons, List.any_nil, List.length_nil, List.length_cons, Bool.not_true, Bool.not_false, Bool.false_eq_true, if_false, if_true]
theorem c_nums {l : List Int} (h : okNums l) : callI g_number_words [eNums l] = some (.inr (.list ((wNums l).map .str))) := by
  have hn : (0 ≤ (l.length : Int) ∧ (l.length : Int) < 1000) := okN h.1
  have hc := lc_pure (g := gN 1) (t := tYes) (e := eOp1 oStr (eVar 1)) (ρ := [some (.d (eNums l)), none]) (S := []) (f := PyData.int) (h := fun x => PyData.str (nS x)) l [] (by have := h.1; unfold LINE; simp; omega) fun x hx => ⟨[some (.d (eNums l)), some (vI x)], rfl, rfl, by
    have h3 : (0 ≤ x ∧ x < 1000) := h.2 x hx
    simp -implicitDefEqProofs only [bind_ok, bind_ex, then_ok, then_ex, seq_nx, seq_rt, seq_ex, ite_tt, ite_ff, of_some, okOr_some, v0, v1, v2, v3, v4, v5, v6, v7, v8, v9, n0, n1, n2, n3, n4, n5, n6, n7, n8, n9, d_C, d_Op1, d_Op2, d_Mt0, d_Mt1, d_Args0, d_Args, d_Tup, d_Lst, d_LstC, tupK0, tupK1, tupK2, tupK3, tupK4, tupK9, bK_b, d_And, d_Or, d_Not, d_tE, d_tAnd, d_tOr, d_tNot, d_tYes, d_If, d_CallI, isoE_ok, isoE_ex, iso1, iso2, iso3, iso4, iso5, d_CallS, tgK_some, d_Skip, d_Seq, d_Asg, d_Expr, d_Ret, d_IfS, d_For, d_Raise, d_Drop, drop_nx, drop_rt, drop_ex, wipe0, wipeC, d_fn, fin_rt, fin_nx, fin_ex, isoR_d, isoR_ex, add_ii, add_ss, add_tt, add_ll, add_llC, sub_ii, neg_i, lt_ii, le_ii, gt_ii, ge_ii, dep_s, dep_i, dep_b, dep_n, eq_ii, eq_ss, eq_bb, ne_ss, ne_ii, ne_bb, in_dt, in_dl, notin_dt, notin_dl, isN_n, isN_i, isN_t, isN_s, isN_b, isN_l, notN_b, notN_l, notN_n, notN_i, notN_t, notN_s, t0, t1, t2, t3, l0, l1, l2, l3, len_t, len_l, str_i, int_b, tup_t, tup_l, list_lC, list_tC, list_l, list_t, rev_lC, isi_d, rc_s, d_iSeq, seqK_l, seqK_t, d_iRng1, rngK_i, d_Lc, noEx_k, newL_f, newL_t, rng_zero, len_s, d_iTxt, k_tx, d_Sl, k_Sl, k_Sl2, k_Sl3, k_pt0, k_pt1, k_pt, sl_s, d_Fld, d_Meth, d_Make, d_Store, k_Store, k_Store2, inS_1, k_Op1, k_Op2, k_Op2b, k_Mt0, k_Mt1, k_Args, k_Argsb, k_Tup, k_LstC, k_Andb, k_And, k_Orb, k_Or, k_Notb, k_Not, k_tEb, k_tE, k_tAnd, k_tOr, k_tNot, k_If, k_Asg, k_Expr, k_IfS, k_For, k_Lc, k_Lcb, List.map_cons, List.map_nil, List.cons_append, List.nil_append, List.replicate, List.set_cons_zero, List.set_cons_succ, List.all_cons, List.all_nil, Bool.and_true, Bool.true_and, Bool.and_self, and_self, eq_self, if_true, if_false, decide_true, decide_false, Bool.false_eq_true, List.any_cons, List.any_nil, List.length_nil, List.length_cons, Bool.not_true, Bool.not_false, h3]⟩
  have hl : (([PyData.str (nS (l.length : Int))].length + (l.map fun x => PyData.str (nS x)).length ≤ LINE)) = True := eq_true (by have := h.1; unfold LINE; simp; omega)
  unfold g_number_words f_number_words
  rw [d_iso]
  simp only [eNums] at hc ⊢
  simp -implicitDefEqProofs only [bind_ok, bind_ex, then_ok, then_ex, seq_nx, seq_rt, seq_ex, ite_tt, ite_ff, of_some, okOr_some, v0, v1, v2, v3, v4, v5, v6, v7, v8, v9, n0, n1, n2, n3, n4, n5, n6, n7, n8, n9, d_C, d_Op1, d_Op2, d_Mt0, d_Mt1, d_Args0, d_Args, d_Tup, d_Lst, d_LstC, tupK0, tupK1, tupK2, tupK3, tupK4, tupK9, bK_b, d_And, d_Or, d_Not, d_tE, d_tAnd, d_tOr, d_tNot, d_tYes, d_If, d_CallI, isoE_ok, isoE_ex, iso1, iso2, iso3, iso4, iso5, d_CallS, tgK_some, d_Skip, d_Seq, d_Asg, d_Expr, d_Ret, d_IfS, d_For, d_Raise, d_Drop, drop_nx, drop_rt, drop_ex, wipe0, wipeC, d_fn, fin_rt, fin_nx, fin_ex, isoR_d, isoR_ex, add_ii, add_ss, add_tt, add_ll, add_llC, sub_ii, neg_i, lt_ii, le_ii, gt_ii, ge_ii, dep_s, dep_i, dep_b, dep_n, eq_ii, eq_ss, eq_bb, ne_ss, ne_ii, ne_bb, in_dt, in_dl, notin_dt, notin_dl, isN_n, isN_i, isN_t, isN_s, isN_b, isN_l, notN_b, notN_l, notN_n, notN_i, notN_t, notN_s, t0, t1, t2, t3, l0, l1, l2, l3, len_t, len_l, str_i, int_b, tup_t, tup_l, list_lC, list_tC, list_l, list_t, rev_lC, isi_d, rc_s, d_iSeq, seqK_l, seqK_t, d_iRng1, rngK_i, d_Lc, noEx_k, newL_f, newL_t, rng_zero, len_s, d_iTxt, k_tx, d_Sl, k_Sl, k_Sl2, k_Sl3, k_pt0, k_pt1, k_pt, sl_s, d_Fld, d_Meth, d_Make, d_Store, k_Store, k_Store2, inS_1, k_Op1, k_Op2, k_Op2b, k_Mt0, k_Mt1, k_Args, k_Argsb, k_Tup, k_LstC, k_Andb, k_And, k_Orb, k_Or, k_Notb, k_Not, k_tEb, k_tE, k_tAnd, k_tOr, k_tNot, k_If, k_Asg, k_Expr, k_IfS, k_For, k_Lc, k_Lcb, List.map_cons, List.map_nil, List.cons_append, List.nil_append, List.replicate, List.set_cons_zero, List.set_cons_succ, List.all_cons, List.all_nil, Bool.and_true, Bool.true_and, Bool.and_self, and_self, eq_self, if_true, if_false, decide_true, decide_false, Bool.false_eq_true, List.any_cons, List.any_nil, List.length_nil, List.length_cons, Bool.not_true, Bool.not_false, List.length_map, List.map_map, hn]
  rw [show (List.map (P.d ∘ PyData.int) l) = l.map fun x => P.d (PyData.int x) from rfl, hc]
  simp -implicitDefEqProofs only [bind_ok, bind_ex, then_ok, then_ex, seq_nx, seq_rt, seq_ex, ite_tt, ite_ff, of_some, okOr_some, v0, v1, v2, v3, v4, v5, v6, v7, v8, v9, n0, n1, n2, n3, n4, n5, n6, n7, n8, n9, d_C, d_Op1, d_Op2, d_Mt0, d_Mt1, d_Args0, d_Args, d_Tup, d_Lst, d_LstC, tupK0, tupK1, tupK2, tupK3, tupK4, tupK9, bK_b, d_And, d_Or, d_Not, d_tE, d_tAnd, d_tOr, d_tNot, d_tYes, d_If, d_CallI, isoE_ok, isoE_ex, iso1, iso2, iso3, iso4, iso5, d_CallS, tgK_some, d_Skip, d_Seq, d_Asg, d_Expr, d_Ret, d_IfS, d_For, d_Raise, d_Drop, drop_nx, drop_rt, drop_ex, wipe0, wipeC, d_fn, fin_rt, fin_nx, fin_ex, isoR_d, isoR_ex, add_ii, add_ss, add_tt, add_ll, add_llC, sub_ii, neg_i, lt_ii, le_ii, gt_ii, ge_ii, dep_s, dep_i, dep_b, dep_n, eq_ii, eq_ss, eq_bb, ne_ss, ne_ii, ne_bb, in_dt, in_dl, notin_dt, notin_dl, isN_n, isN_i, isN_t, isN_s, isN_b, isN_l, notN_b, notN_l, notN_n, notN_i, notN_t, notN_s, t0, t1, t2, t3, l0, l1, l2, l3, len_t, len_l, str_i, int_b, tup_t, tup_l, list_lC, list_tC, list_l, list_t, rev_lC, isi_d, rc_s, d_iSeq, seqK_l, seqK_t, d_iRng1, rngK_i, d_Lc, noEx_k, newL_f, newL_t, rng_zero, len_s, d_iTxt, k_tx, d_Sl, k_Sl, k_Sl2, k_Sl3, k_pt0, k_pt1, k_pt, sl_s, d_Fld, d_Meth, d_Make, d_Store, k_Store, k_Store2, inS_1, k_Op1, k_Op2, k_Op2b, k_Mt0, k_Mt1, k_Args, k_Argsb, k_Tup, k_LstC, k_Andb, k_And, k_Orb, k_Or, k_Notb, k_Not, k_tEb, k_tE, k_tAnd, k_tOr, k_tNot, k_If, k_Asg, k_Expr, k_IfS, k_For, k_Lc, k_Lcb, List.map_cons, List.map_nil, List.cons_append, List.nil_append, List.replicate, List.set_cons_zero, List.set_cons_succ, List.all_cons, List.all_nil, Bool.and_true, Bool.true_and, Bool.and_self, and_self, eq_self, if_true, if_false, decide_true, decide_false, Bool.false_eq_true, List.any_cons, List.any_nil, List.length_nil, List.length_cons, Bool.not_true, Bool.not_false, List.length_map] at hl ⊢
  simp -implicitDefEqProofs only [bind_ok, bind_ex, then_ok, then_ex, seq_nx, seq_rt, seq_ex, ite_tt, ite_ff, of_some, okOr_some, v0, v1, v2, v3, v4, v5, v6, v7, v8, v9, n0, n1, n2, n3, n4, n5, n6, n7, n8, n9, d_C, d_Op1, d_Op2, d_Mt0, d_Mt1, d_Args0, d_Args, d_Tup, d_Lst, d_LstC, tupK0, tupK1, tupK2, tupK3, tupK4, tupK9, bK_b, d_And, d_Or, d_Not, d_tE, d_tAnd, d_tOr, d_tNot, d_tYes, d_If, d_CallI, isoE_ok, isoE_ex, iso1, iso2, iso3, iso4, iso5, d_CallS, tgK_some, d_Skip, d_Seq, d_Asg, d_Expr, d_Ret, d_IfS, d_For, d_Raise, d_Drop, drop_nx, drop_rt, drop_ex, wipe0, wipeC, d_fn, fin_rt, fin_nx, fin_ex, isoR_d, isoR_ex, add_ii, add_ss, add_tt, add_ll, add_llC, sub_ii, neg_i, lt_ii, le_ii, gt_ii, ge_ii, dep_s, dep_i, dep_b, dep_n, eq_ii, eq_ss, eq_bb, ne_ss, ne_ii, ne_bb, in_dt, in_dl, notin_dt, notin_dl, isN_n, isN_i, isN_t, isN_s, isN_b, isN_l, notN_b, notN_l, notN_n, notN_i, notN_t, notN_s, t0, t1, t2, t3, l0, l1, l2, l3, len_t, len_l, str_i, int_b, tup_t, tup_l, list_lC, list_tC, list_l, list_t, rev_lC, isi_d, rc_s, d_iSeq, seqK_l, seqK_t, d_iRng1, rngK_i, d_Lc, noEx_k, newL_f, newL_t, rng_zero, len_s, d_iTxt, k_tx, d_Sl, k_Sl, k_Sl2, k_Sl3, k_pt0, k_pt1, k_pt, sl_s, d_Fld, d_Meth, d_Make, d_Store, k_Store, k_Store2, inS_1, k_Op1, k_Op2, k_Op2b, k_Mt0, k_Mt1, k_Args, k_Argsb, k_Tup, k_LstC, k_Andb, k_And, k_Orb, k_Or, k_Notb, k_Not, k_tEb, k_tE, k_tAnd, k_tOr, k_tNot, k_If, k_Asg, k_Expr, k_IfS, k_For, k_Lc, k_Lcb, List.map_cons, List.map_nil, List.cons_append, List.nil_append, List.replicate, List.set_cons_zero, List.set_cons_succ, List.all_cons, List.all_nil, Bool.and_true, Bool.true_and, Bool.and_self, and_self, eq_self, if_true, if_false, decide_true, decide_false, Bool.false_eq_true, List.any_cons, List.any_nil, List.length_nil, List.length_cons, Bool.not_true, Bool.not_false, List.length_map, hl]
  simp [wNums, List.map_map, Function.comp_def]
theorem lc_nums {l : List Int} (h : okNums l) : callI g__law_number_words [eNums l] = some (.inr (.list ((wNums l).map .str))) := c_nums h
theorem c_road {l : List Say} (h : okRoad l) : callI g_road_words [eRoad l] = some (.inr (.list ((wRoad l).map .str))) := by
  have hn : (0 ≤ (l.length : Int) ∧ (l.length : Int) < 1000) := okN h.1
  have hc := lc_pure (g := gN 1) (t := tYes) (e := eCallI g_saying_word [eVar 1]) (ρ := [some (.d (eRoad l)), none]) (S := []) (f := eSay) (h := fun x => PyData.str (wSay x)) l [] (by have := h.1; unfold LINE; simp; omega) fun x hx => ⟨[some (.d (eRoad l)), some (.d (eSay x))], rfl, rfl, by
    simp -implicitDefEqProofs only [bind_ok, bind_ex, then_ok, then_ex, seq_nx, seq_rt, seq_ex, ite_tt, ite_ff, of_some, okOr_some, v0, v1, v2, v3, v4, v5, v6, v7, v8, v9, n0, n1, n2, n3, n4, n5, n6, n7, n8, n9, d_C, d_Op1, d_Op2, d_Mt0, d_Mt1, d_Args0, d_Args, d_Tup, d_Lst, d_LstC, tupK0, tupK1, tupK2, tupK3, tupK4, tupK9, bK_b, d_And, d_Or, d_Not, d_tE, d_tAnd, d_tOr, d_tNot, d_tYes, d_If, d_CallI, isoE_ok, isoE_ex, iso1, iso2, iso3, iso4, iso5, d_CallS, tgK_some, d_Skip, d_Seq, d_Asg, d_Expr, d_Ret, d_IfS, d_For, d_Raise, d_Drop, drop_nx, drop_rt, drop_ex, wipe0, wipeC, d_fn, fin_rt, fin_nx, fin_ex, isoR_d, isoR_ex, add_ii, add_ss, add_tt, add_ll, add_llC, sub_ii, neg_i, lt_ii, le_ii, gt_ii, ge_ii, dep_s, dep_i, dep_b, dep_n, eq_ii, eq_ss, eq_bb, ne_ss, ne_ii, ne_bb, in_dt, in_dl, notin_dt, notin_dl, isN_n, isN_i, isN_t, isN_s, isN_b, isN_l, notN_b, notN_l, notN_n, notN_i, notN_t, notN_s, t0, t1, t2, t3, l0, l1, l2, l3, len_t, len_l, str_i, int_b, tup_t, tup_l, list_lC, list_tC, list_l, list_t, rev_lC, isi_d, rc_s, d_iSeq, seqK_l, seqK_t, d_iRng1, rngK_i, d_Lc, noEx_k, newL_f, newL_t, rng_zero, len_s, d_iTxt, k_tx, d_Sl, k_Sl, k_Sl2, k_Sl3, k_pt0, k_pt1, k_pt, sl_s, d_Fld, d_Meth, d_Make, d_Store, k_Store, k_Store2, inS_1, k_Op1, k_Op2, k_Op2b, k_Mt0, k_Mt1, k_Args, k_Argsb, k_Tup, k_LstC, k_Andb, k_And, k_Orb, k_Or, k_Notb, k_Not, k_tEb, k_tE, k_tAnd, k_tOr, k_tNot, k_If, k_Asg, k_Expr, k_IfS, k_For, k_Lc, k_Lcb, List.map_cons, List.map_nil, List.cons_append, List.nil_append, List.replicate, List.set_cons_zero, List.set_cons_succ, List.all_cons, List.all_nil, Bool.and_true, Bool.true_and, Bool.and_self, and_self, eq_self, if_true, if_false, decide_true, decide_false, Bool.false_eq_true, List.any_cons, List.any_nil, List.length_nil, List.length_cons, Bool.not_true, Bool.not_false, c_saying (h.2 x hx)]⟩
  have hl : (([PyData.str (nS (l.length : Int))].length + (l.map fun x => PyData.str (wSay x)).length ≤ LINE)) = True := eq_true (by have := h.1; unfold LINE; simp; omega)
  unfold g_road_words f_road_words
  rw [d_iso]
  simp only [eRoad] at hc ⊢
  simp -implicitDefEqProofs only [bind_ok, bind_ex, then_ok, then_ex, seq_nx, seq_rt, seq_ex, ite_tt, ite_ff, of_some, okOr_some, v0, v1, v2, v3, v4, v5, v6, v7, v8, v9, n0, n1, n2, n3, n4, n5, n6, n7, n8, n9, d_C, d_Op1, d_Op2, d_Mt0, d_Mt1, d_Args0, d_Args, d_Tup, d_Lst, d_LstC, tupK0, tupK1, tupK2, tupK3, tupK4, tupK9, bK_b, d_And, d_Or, d_Not, d_tE, d_tAnd, d_tOr, d_tNot, d_tYes, d_If, d_CallI, isoE_ok, isoE_ex, iso1, iso2, iso3, iso4, iso5, d_CallS, tgK_some, d_Skip, d_Seq, d_Asg, d_Expr, d_Ret, d_IfS, d_For, d_Raise, d_Drop, drop_nx, drop_rt, drop_ex, wipe0, wipeC, d_fn, fin_rt, fin_nx, fin_ex, isoR_d, isoR_ex, add_ii, add_ss, add_tt, add_ll, add_llC, sub_ii, neg_i, lt_ii, le_ii, gt_ii, ge_ii, dep_s, dep_i, dep_b, dep_n, eq_ii, eq_ss, eq_bb, ne_ss, ne_ii, ne_bb, in_dt, in_dl, notin_dt, notin_dl, isN_n, isN_i, isN_t, isN_s, isN_b, isN_l, notN_b, notN_l, notN_n, notN_i, notN_t, notN_s, t0, t1, t2, t3, l0, l1, l2, l3, len_t, len_l, str_i, int_b, tup_t, tup_l, list_lC, list_tC, list_l, list_t, rev_lC, isi_d, rc_s, d_iSeq, seqK_l, seqK_t, d_iRng1, rngK_i, d_Lc, noEx_k, newL_f, newL_t, rng_zero, len_s, d_iTxt, k_tx, d_Sl, k_Sl, k_Sl2, k_Sl3, k_pt0, k_pt1, k_pt, sl_s, d_Fld, d_Meth, d_Make, d_Store, k_Store, k_Store2, inS_1, k_Op1, k_Op2, k_Op2b, k_Mt0, k_Mt1, k_Args, k_Argsb, k_Tup, k_LstC, k_Andb, k_And, k_Orb, k_Or, k_Notb, k_Not, k_tEb, k_tE, k_tAnd, k_tOr, k_tNot, k_If, k_Asg, k_Expr, k_IfS, k_For, k_Lc, k_Lcb, List.map_cons, List.map_nil, List.cons_append, List.nil_append, List.replicate, List.set_cons_zero, List.set_cons_succ, List.all_cons, List.all_nil, Bool.and_true, Bool.true_and, Bool.and_self, and_self, eq_self, if_true, if_false, decide_true, decide_false, Bool.false_eq_true, List.any_cons, List.any_nil, List.length_nil, List.length_cons, Bool.not_true, Bool.not_false, List.length_map, List.map_map, hn]
  rw [show (List.map (P.d ∘ eSay) l) = l.map fun x => P.d (eSay x) from rfl, hc]
  simp -implicitDefEqProofs only [bind_ok, bind_ex, then_ok, then_ex, seq_nx, seq_rt, seq_ex, ite_tt, ite_ff, of_some, okOr_some, v0, v1, v2, v3, v4, v5, v6, v7, v8, v9, n0, n1, n2, n3, n4, n5, n6, n7, n8, n9, d_C, d_Op1, d_Op2, d_Mt0, d_Mt1, d_Args0, d_Args, d_Tup, d_Lst, d_LstC, tupK0, tupK1, tupK2, tupK3, tupK4, tupK9, bK_b, d_And, d_Or, d_Not, d_tE, d_tAnd, d_tOr, d_tNot, d_tYes, d_If, d_CallI, isoE_ok, isoE_ex, iso1, iso2, iso3, iso4, iso5, d_CallS, tgK_some, d_Skip, d_Seq, d_Asg, d_Expr, d_Ret, d_IfS, d_For, d_Raise, d_Drop, drop_nx, drop_rt, drop_ex, wipe0, wipeC, d_fn, fin_rt, fin_nx, fin_ex, isoR_d, isoR_ex, add_ii, add_ss, add_tt, add_ll, add_llC, sub_ii, neg_i, lt_ii, le_ii, gt_ii, ge_ii, dep_s, dep_i, dep_b, dep_n, eq_ii, eq_ss, eq_bb, ne_ss, ne_ii, ne_bb, in_dt, in_dl, notin_dt, notin_dl, isN_n, isN_i, isN_t, isN_s, isN_b, isN_l, notN_b, notN_l, notN_n, notN_i, notN_t, notN_s, t0, t1, t2, t3, l0, l1, l2, l3, len_t, len_l, str_i, int_b, tup_t, tup_l, list_lC, list_tC, list_l, list_t, rev_lC, isi_d, rc_s, d_iSeq, seqK_l, seqK_t, d_iRng1, rngK_i, d_Lc, noEx_k, newL_f, newL_t, rng_zero, len_s, d_iTxt, k_tx, d_Sl, k_Sl, k_Sl2, k_Sl3, k_pt0, k_pt1, k_pt, sl_s, d_Fld, d_Meth, d_Make, d_Store, k_Store, k_Store2, inS_1, k_Op1, k_Op2, k_Op2b, k_Mt0, k_Mt1, k_Args, k_Argsb, k_Tup, k_LstC, k_Andb, k_And, k_Orb, k_Or, k_Notb, k_Not, k_tEb, k_tE, k_tAnd, k_tOr, k_tNot, k_If, k_Asg, k_Expr, k_IfS, k_For, k_Lc, k_Lcb, List.map_cons, List.map_nil, List.cons_append, List.nil_append, List.replicate, List.set_cons_zero, List.set_cons_succ, List.all_cons, List.all_nil, Bool.and_true, Bool.true_and, Bool.and_self, and_self, eq_self, if_true, if_false, decide_true, decide_false, Bool.false_eq_true, List.any_cons, List.any_nil, List.length_nil, List.length_cons, Bool.not_true, Bool.not_false, List.length_map] at hl ⊢
  simp -implicitDefEqProofs only [bind_ok, bind_ex, then_ok, then_ex, seq_nx, seq_rt, seq_ex, ite_tt, ite_ff, of_some, okOr_some, v0, v1, v2, v3, v4, v5, v6, v7, v8, v9, n0, n1, n2, n3, n4, n5, n6, n7, n8, n9, d_C, d_Op1, d_Op2, d_Mt0, d_Mt1, d_Args0, d_Args, d_Tup, d_Lst, d_LstC, tupK0, tupK1, tupK2, tupK3, tupK4, tupK9, bK_b, d_And, d_Or, d_Not, d_tE, d_tAnd, d_tOr, d_tNot, d_tYes, d_If, d_CallI, isoE_ok, isoE_ex, iso1, iso2, iso3, iso4, iso5, d_CallS, tgK_some, d_Skip, d_Seq, d_Asg, d_Expr, d_Ret, d_IfS, d_For, d_Raise, d_Drop, drop_nx, drop_rt, drop_ex, wipe0, wipeC, d_fn, fin_rt, fin_nx, fin_ex, isoR_d, isoR_ex, add_ii, add_ss, add_tt, add_ll, add_llC, sub_ii, neg_i, lt_ii, le_ii, gt_ii, ge_ii, dep_s, dep_i, dep_b, dep_n, eq_ii, eq_ss, eq_bb, ne_ss, ne_ii, ne_bb, in_dt, in_dl, notin_dt, notin_dl, isN_n, isN_i, isN_t, isN_s, isN_b, isN_l, notN_b, notN_l, notN_n, notN_i, notN_t, notN_s, t0, t1, t2, t3, l0, l1, l2, l3, len_t, len_l, str_i, int_b, tup_t, tup_l, list_lC, list_tC, list_l, list_t, rev_lC, isi_d, rc_s, d_iSeq, seqK_l, seqK_t, d_iRng1, rngK_i, d_Lc, noEx_k, newL_f, newL_t, rng_zero, len_s, d_iTxt, k_tx, d_Sl, k_Sl, k_Sl2, k_Sl3, k_pt0, k_pt1, k_pt, sl_s, d_Fld, d_Meth, d_Make, d_Store, k_Store, k_Store2, inS_1, k_Op1, k_Op2, k_Op2b, k_Mt0, k_Mt1, k_Args, k_Argsb, k_Tup, k_LstC, k_Andb, k_And, k_Orb, k_Or, k_Notb, k_Not, k_tEb, k_tE, k_tAnd, k_tOr, k_tNot, k_If, k_Asg, k_Expr, k_IfS, k_For, k_Lc, k_Lcb, List.map_cons, List.map_nil, List.cons_append, List.nil_append, List.replicate, List.set_cons_zero, List.set_cons_succ, List.all_cons, List.all_nil, Bool.and_true, Bool.true_and, Bool.and_self, and_self, eq_self, if_true, if_false, decide_true, decide_false, Bool.false_eq_true, List.any_cons, List.any_nil, List.length_nil, List.length_cons, Bool.not_true, Bool.not_false, List.length_map, hl]
  simp [wRoad, List.map_map, Function.comp_def]
theorem lc_road {l : List Say} (h : okRoad l) : callI g__law_road_words [eRoad l] = some (.inr (.list ((wRoad l).map .str))) := by
  have hn : (0 ≤ (l.length : Int) ∧ (l.length : Int) < 1000) := okN h.1
  have hc := lc_pure (g := gN 1) (t := tYes) (e := eOp2 (oAdd false) (eOp2 oIx (eLst [eC (vS "-"), eC (vS "+")]) (eOp1 oInt (eOp2 oIx (eVar 1) (eC (vI 1))))) (eOp1 oStr (eOp2 oIx (eVar 1) (eC (vI 0))))) (ρ := [some (.d (eRoad l)), none]) (S := []) (f := eSay) (h := fun x => PyData.str (wSay x)) l [] (by have := h.1; unfold LINE; simp; omega) fun x hx => ⟨[some (.d (eRoad l)), some (.d (eSay x))], rfl, rfl, by
    have h1 : (("+" : Str).length + (nS x.1).length ≤ LINE) = True := eq_true (by have := nS_len (h.2 x hx); rw [sLen_p]; unfold LINE; omega)
    have h2 : (("-" : Str).length + (nS x.1).length ≤ LINE) = True := eq_true (by have := nS_len (h.2 x hx); rw [sLen_m]; unfold LINE; omega)
    have h3 : (0 ≤ x.1 ∧ x.1 < 1000) := h.2 x hx
    unfold eSay wSay
    cases hb : x.2 <;> simp -implicitDefEqProofs only [bind_ok, bind_ex, then_ok, then_ex, seq_nx, seq_rt, seq_ex, ite_tt, ite_ff, of_some, okOr_some, v0, v1, v2, v3, v4, v5, v6, v7, v8, v9, n0, n1, n2, n3, n4, n5, n6, n7, n8, n9, d_C, d_Op1, d_Op2, d_Mt0, d_Mt1, d_Args0, d_Args, d_Tup, d_Lst, d_LstC, tupK0, tupK1, tupK2, tupK3, tupK4, tupK9, bK_b, d_And, d_Or, d_Not, d_tE, d_tAnd, d_tOr, d_tNot, d_tYes, d_If, d_CallI, isoE_ok, isoE_ex, iso1, iso2, iso3, iso4, iso5, d_CallS, tgK_some, d_Skip, d_Seq, d_Asg, d_Expr, d_Ret, d_IfS, d_For, d_Raise, d_Drop, drop_nx, drop_rt, drop_ex, wipe0, wipeC, d_fn, fin_rt, fin_nx, fin_ex, isoR_d, isoR_ex, add_ii, add_ss, add_tt, add_ll, add_llC, sub_ii, neg_i, lt_ii, le_ii, gt_ii, ge_ii, dep_s, dep_i, dep_b, dep_n, eq_ii, eq_ss, eq_bb, ne_ss, ne_ii, ne_bb, in_dt, in_dl, notin_dt, notin_dl, isN_n, isN_i, isN_t, isN_s, isN_b, isN_l, notN_b, notN_l, notN_n, notN_i, notN_t, notN_s, t0, t1, t2, t3, l0, l1, l2, l3, len_t, len_l, str_i, int_b, tup_t, tup_l, list_lC, list_tC, list_l, list_t, rev_lC, isi_d, rc_s, d_iSeq, seqK_l, seqK_t, d_iRng1, rngK_i, d_Lc, noEx_k, newL_f, newL_t, rng_zero, len_s, d_iTxt, k_tx, d_Sl, k_Sl, k_Sl2, k_Sl3, k_pt0, k_pt1, k_pt, sl_s, d_Fld, d_Meth, d_Make, d_Store, k_Store, k_Store2, inS_1, k_Op1, k_Op2, k_Op2b, k_Mt0, k_Mt1, k_Args, k_Argsb, k_Tup, k_LstC, k_Andb, k_And, k_Orb, k_Or, k_Notb, k_Not, k_tEb, k_tE, k_tAnd, k_tOr, k_tNot, k_If, k_Asg, k_Expr, k_IfS, k_For, k_Lc, k_Lcb, List.map_cons, List.map_nil, List.cons_append, List.nil_append, List.replicate, List.set_cons_zero, List.set_cons_succ, List.all_cons, List.all_nil, Bool.and_true, Bool.true_and, Bool.and_self, and_self, eq_self, if_true, if_false, decide_true, decide_false, Bool.false_eq_true, List.any_cons, List.any_nil, List.length_nil, List.length_cons, Bool.not_true, Bool.not_false, h1, h2, h3]⟩
  have hl : (([PyData.str (nS (l.length : Int))].length + (l.map fun x => PyData.str (wSay x)).length ≤ LINE)) = True := eq_true (by have := h.1; unfold LINE; simp; omega)
  unfold g__law_road_words f__law_road_words
  rw [d_iso]
  simp only [eRoad] at hc ⊢
  simp -implicitDefEqProofs only [bind_ok, bind_ex, then_ok, then_ex, seq_nx, seq_rt, seq_ex, ite_tt, ite_ff, of_some, okOr_some, v0, v1, v2, v3, v4, v5, v6, v7, v8, v9, n0, n1, n2, n3, n4, n5, n6, n7, n8, n9, d_C, d_Op1, d_Op2, d_Mt0, d_Mt1, d_Args0, d_Args, d_Tup, d_Lst, d_LstC, tupK0, tupK1, tupK2, tupK3, tupK4, tupK9, bK_b, d_And, d_Or, d_Not, d_tE, d_tAnd, d_tOr, d_tNot, d_tYes, d_If, d_CallI, isoE_ok, isoE_ex, iso1, iso2, iso3, iso4, iso5, d_CallS, tgK_some, d_Skip, d_Seq, d_Asg, d_Expr, d_Ret, d_IfS, d_For, d_Raise, d_Drop, drop_nx, drop_rt, drop_ex, wipe0, wipeC, d_fn, fin_rt, fin_nx, fin_ex, isoR_d, isoR_ex, add_ii, add_ss, add_tt, add_ll, add_llC, sub_ii, neg_i, lt_ii, le_ii, gt_ii, ge_ii, dep_s, dep_i, dep_b, dep_n, eq_ii, eq_ss, eq_bb, ne_ss, ne_ii, ne_bb, in_dt, in_dl, notin_dt, notin_dl, isN_n, isN_i, isN_t, isN_s, isN_b, isN_l, notN_b, notN_l, notN_n, notN_i, notN_t, notN_s, t0, t1, t2, t3, l0, l1, l2, l3, len_t, len_l, str_i, int_b, tup_t, tup_l, list_lC, list_tC, list_l, list_t, rev_lC, isi_d, rc_s, d_iSeq, seqK_l, seqK_t, d_iRng1, rngK_i, d_Lc, noEx_k, newL_f, newL_t, rng_zero, len_s, d_iTxt, k_tx, d_Sl, k_Sl, k_Sl2, k_Sl3, k_pt0, k_pt1, k_pt, sl_s, d_Fld, d_Meth, d_Make, d_Store, k_Store, k_Store2, inS_1, k_Op1, k_Op2, k_Op2b, k_Mt0, k_Mt1, k_Args, k_Argsb, k_Tup, k_LstC, k_Andb, k_And, k_Orb, k_Or, k_Notb, k_Not, k_tEb, k_tE, k_tAnd, k_tOr, k_tNot, k_If, k_Asg, k_Expr, k_IfS, k_For, k_Lc, k_Lcb, List.map_cons, List.map_nil, List.cons_append, List.nil_append, List.replicate, List.set_cons_zero, List.set_cons_succ, List.all_cons, List.all_nil, Bool.and_true, Bool.true_and, Bool.and_self, and_self, eq_self, if_true, if_false, decide_true, decide_false, Bool.false_eq_true, List.any_cons, List.any_nil, List.length_nil, List.length_cons, Bool.not_true, Bool.not_false, List.length_map, List.map_map, hn]
  rw [show (List.map (P.d ∘ eSay) l) = l.map fun x => P.d (eSay x) from rfl, hc]
  simp -implicitDefEqProofs only [bind_ok, bind_ex, then_ok, then_ex, seq_nx, seq_rt, seq_ex, ite_tt, ite_ff, of_some, okOr_some, v0, v1, v2, v3, v4, v5, v6, v7, v8, v9, n0, n1, n2, n3, n4, n5, n6, n7, n8, n9, d_C, d_Op1, d_Op2, d_Mt0, d_Mt1, d_Args0, d_Args, d_Tup, d_Lst, d_LstC, tupK0, tupK1, tupK2, tupK3, tupK4, tupK9, bK_b, d_And, d_Or, d_Not, d_tE, d_tAnd, d_tOr, d_tNot, d_tYes, d_If, d_CallI, isoE_ok, isoE_ex, iso1, iso2, iso3, iso4, iso5, d_CallS, tgK_some, d_Skip, d_Seq, d_Asg, d_Expr, d_Ret, d_IfS, d_For, d_Raise, d_Drop, drop_nx, drop_rt, drop_ex, wipe0, wipeC, d_fn, fin_rt, fin_nx, fin_ex, isoR_d, isoR_ex, add_ii, add_ss, add_tt, add_ll, add_llC, sub_ii, neg_i, lt_ii, le_ii, gt_ii, ge_ii, dep_s, dep_i, dep_b, dep_n, eq_ii, eq_ss, eq_bb, ne_ss, ne_ii, ne_bb, in_dt, in_dl, notin_dt, notin_dl, isN_n, isN_i, isN_t, isN_s, isN_b, isN_l, notN_b, notN_l, notN_n, notN_i, notN_t, notN_s, t0, t1, t2, t3, l0, l1, l2, l3, len_t, len_l, str_i, int_b, tup_t, tup_l, list_lC, list_tC, list_l, list_t, rev_lC, isi_d, rc_s, d_iSeq, seqK_l, seqK_t, d_iRng1, rngK_i, d_Lc, noEx_k, newL_f, newL_t, rng_zero, len_s, d_iTxt, k_tx, d_Sl, k_Sl, k_Sl2, k_Sl3, k_pt0, k_pt1, k_pt, sl_s, d_Fld, d_Meth, d_Make, d_Store, k_Store, k_Store2, inS_1, k_Op1, k_Op2, k_Op2b, k_Mt0, k_Mt1, k_Args, k_Argsb, k_Tup, k_LstC, k_Andb, k_And, k_Orb, k_Or, k_Notb, k_Not, k_tEb, k_tE, k_tAnd, k_tOr, k_tNot, k_If, k_Asg, k_Expr, k_IfS, k_For, k_Lc, k_Lcb, List.map_cons, List.map_nil, List.cons_append, List.nil_append, List.replicate, List.set_cons_zero, List.set_cons_succ, List.all_cons, List.all_nil, Bool.and_true, Bool.true_and, Bool.and_self, and_self, eq_self, if_true, if_false, decide_true, decide_false, Bool.false_eq_true, List.any_cons, List.any_nil, List.length_nil, List.length_cons, Bool.not_true, Bool.not_false, List.length_map] at hl ⊢
  simp -implicitDefEqProofs only [bind_ok, bind_ex, then_ok, then_ex, seq_nx, seq_rt, seq_ex, ite_tt, ite_ff, of_some, okOr_some, v0, v1, v2, v3, v4, v5, v6, v7, v8, v9, n0, n1, n2, n3, n4, n5, n6, n7, n8, n9, d_C, d_Op1, d_Op2, d_Mt0, d_Mt1, d_Args0, d_Args, d_Tup, d_Lst, d_LstC, tupK0, tupK1, tupK2, tupK3, tupK4, tupK9, bK_b, d_And, d_Or, d_Not, d_tE, d_tAnd, d_tOr, d_tNot, d_tYes, d_If, d_CallI, isoE_ok, isoE_ex, iso1, iso2, iso3, iso4, iso5, d_CallS, tgK_some, d_Skip, d_Seq, d_Asg, d_Expr, d_Ret, d_IfS, d_For, d_Raise, d_Drop, drop_nx, drop_rt, drop_ex, wipe0, wipeC, d_fn, fin_rt, fin_nx, fin_ex, isoR_d, isoR_ex, add_ii, add_ss, add_tt, add_ll, add_llC, sub_ii, neg_i, lt_ii, le_ii, gt_ii, ge_ii, dep_s, dep_i, dep_b, dep_n, eq_ii, eq_ss, eq_bb, ne_ss, ne_ii, ne_bb, in_dt, in_dl, notin_dt, notin_dl, isN_n, isN_i, isN_t, isN_s, isN_b, isN_l, notN_b, notN_l, notN_n, notN_i, notN_t, notN_s, t0, t1, t2, t3, l0, l1, l2, l3, len_t, len_l, str_i, int_b, tup_t, tup_l, list_lC, list_tC, list_l, list_t, rev_lC, isi_d, rc_s, d_iSeq, seqK_l, seqK_t, d_iRng1, rngK_i, d_Lc, noEx_k, newL_f, newL_t, rng_zero, len_s, d_iTxt, k_tx, d_Sl, k_Sl, k_Sl2, k_Sl3, k_pt0, k_pt1, k_pt, sl_s, d_Fld, d_Meth, d_Make, d_Store, k_Store, k_Store2, inS_1, k_Op1, k_Op2, k_Op2b, k_Mt0, k_Mt1, k_Args, k_Argsb, k_Tup, k_LstC, k_Andb, k_And, k_Orb, k_Or, k_Notb, k_Not, k_tEb, k_tE, k_tAnd, k_tOr, k_tNot, k_If, k_Asg, k_Expr, k_IfS, k_For, k_Lc, k_Lcb, List.map_cons, List.map_nil, List.cons_append, List.nil_append, List.replicate, List.set_cons_zero, List.set_cons_succ, List.all_cons, List.all_nil, Bool.and_true, Bool.true_and, Bool.and_self, and_self, eq_self, if_true, if_false, decide_true, decide_false, Bool.false_eq_true, List.any_cons, List.any_nil, List.length_nil, List.length_cons, Bool.not_true, Bool.not_false, List.length_map, hl]
  simp [wRoad, List.map_map, Function.comp_def]
/-! rows -/
theorem l_truth {b : Bool} {S : Sto} : oIx (vL [.str "no", .str "yes"]) (vI (if b = true then 1 else 0)) S = some (vS (wTruth b), S) := by cases b <;> rfl
def wc (l : List Str) : List P := (l.map PyData.str).map P.d
theorem wc_app (l : List Str) (x : Str) : wc l ++ [vS x] = wc (l ++ [x]) := by simp [wc]
theorem gs {S : Sto} {i : Nat} {c c' : Cell} (e : S[i]? = some c) : (S.set i c')[i]? = some c' := by
  obtain ⟨h, _⟩ := List.getElem?_eq_some_iff.1 e
  simp [h]
theorem ga {S : Sto} {c : Cell} : (S ++ [c])[S.length]? = some c := by simp
theorem wc_add {S : Sto} {i : Nat} {a b : List Str} (e : S[i]? = some (.lst (wc a))) (h : a.length + b.length ≤ LINE) : oAdd true (.r i) (vL (b.map .str)) S = some (.r S.length, S ++ [.lst (wc (a ++ b))]) := by
  rw [add_rlC (u := a.map .str) (.inl e) (by simpa using h)]
  simp [wc]
theorem wc_addF {S : Sto} {i : Nat} {a b : List Str} (e : S[i]? = some (.lst (wc a))) (h : a.length + b.length ≤ LINE) : oAdd false (.r i) (vL (b.map .str)) S = some (vL ((a ++ b).map .str), S) := by
  rw [add_rl (u := a.map .str) (.inl e) (by simpa using h)]
  simp
theorem wc_app' {S : Sto} {i : Nat} {a : List Str} {x : Str} (e : S[i]? = some (.lst (wc a))) (h : a.length < LINE) : oAppend (.r i) (vS x) S = some (vN, S.set i (.lst (wc (a ++ [x])))) := by
  rw [app_r e (by simpa [wc] using h), wc_app]
theorem lenL {a n : Nat} (h : a ≤ n) (h2 : n ≤ 16777216) : a ≤ LINE := Nat.le_trans h h2
theorem c_rows_plan {l : List (Int × Option Int × Bool)} (h : l.length ≤ 200 ∧ ∀ r ∈ l, okI r.1 ∧ okFree r.2.1) : callI g_rows_words [.str "plan", .tuple (l.map eP)] = some (.inr (.list ((nS l.length :: l.flatMap wP).map .str))) := by
  have hn : (0 ≤ (l.length : Int) ∧ (l.length : Int) < 1000) := okN h.1
  unfold g_rows_words f_rows_words
  rw [d_iso]
  simp -implicitDefEqProofs only [bind_ok, bind_ex, then_ok, then_ex, seq_nx, seq_rt, seq_ex, ite_tt, ite_ff, of_some, okOr_some, v0, v1, v2, v3, v4, v5, v6, v7, v8, v9, n0, n1, n2, n3, n4, n5, n6, n7, n8, n9, d_C, d_Op1, d_Op2, d_Mt0, d_Mt1, d_Args0, d_Args, d_Tup, d_Lst, d_LstC, tupK0, tupK1, tupK2, tupK3, tupK4, tupK9, bK_b, d_And, d_Or, d_Not, d_tE, d_tAnd, d_tOr, d_tNot, d_tYes, d_If, d_CallI, isoE_ok, isoE_ex, iso1, iso2, iso3, iso4, iso5, d_CallS, tgK_some, d_Skip, d_Seq, d_Asg, d_Expr, d_Ret, d_IfS, d_For, d_Raise, d_Drop, drop_nx, drop_rt, drop_ex, wipe0, wipeC, d_fn, fin_rt, fin_nx, fin_ex, isoR_d, isoR_ex, add_ii, add_ss, add_tt, add_ll, add_llC, sub_ii, neg_i, lt_ii, le_ii, gt_ii, ge_ii, dep_s, dep_i, dep_b, dep_n, eq_ii, eq_ss, eq_bb, ne_ss, ne_ii, ne_bb, in_dt, in_dl, notin_dt, notin_dl, isN_n, isN_i, isN_t, isN_s, isN_b, isN_l, notN_b, notN_l, notN_n, notN_i, notN_t, notN_s, t0, t1, t2, t3, l0, l1, l2, l3, len_t, len_l, str_i, int_b, tup_t, tup_l, list_lC, list_tC, list_l, list_t, rev_lC, isi_d, rc_s, d_iSeq, seqK_l, seqK_t, d_iRng1, rngK_i, d_Lc, noEx_k, newL_f, newL_t, rng_zero, len_s, d_iTxt, k_tx, d_Sl, k_Sl, k_Sl2, k_Sl3, k_pt0, k_pt1, k_pt, sl_s, d_Fld, d_Meth, d_Make, d_Store, k_Store, k_Store2, inS_1, k_Op1, k_Op2, k_Op2b, k_Mt0, k_Mt1, k_Args, k_Argsb, k_Tup, k_LstC, k_Andb, k_And, k_Orb, k_Or, k_Notb, k_Not, k_tEb, k_tE, k_tAnd, k_tOr, k_tNot, k_If, k_Asg, k_Expr, k_IfS, k_For, k_Lc, k_Lcb, List.map_cons, List.map_nil, List.cons_append, List.nil_append, List.replicate, List.set_cons_zero, List.set_cons_succ, List.all_cons, List.all_nil, Bool.and_true, Bool.true_and, Bool.and_self, and_self, eq_self, if_true, if_false, decide_true, decide_false, Bool.false_eq_true, List.any_cons, List.any_nil, List.length_nil, List.length_cons, Bool.not_true, Bool.not_false, List.length_map, hn]
  generalize hB : sDrop _ [3] = B
  obtain ⟨ρ2, S2, h1, i, rfl, e2⟩ := for_inv0 (g := gN 3) (b := B) (f := fun r => P.d (eP r)) (l := l) (ρ := [some (vS "plan"), some (vT (l.map eP)), some (.r 0), none]) (S := [.lst (wc [nS l.length])])
    (fun pre ρ S => ∃ i, ρ = [some (vS "plan"), some (vT (l.map eP)), some (.r i), none] ∧ S[i]? = some (.lst (wc (nS l.length :: pre.flatMap wP)))) ⟨0, rfl, rfl⟩ fun pre x post ρ S hl hI => by
      obtain ⟨i, rfl, e⟩ := hI
      have hx := h.2 x (by rw [hl]; simp)
      have hpl : pre.length ≤ 200 := by have := h.1; rw [hl] at this; simp at this; omega
      have hfl := flat_len (w := wP) (c := 203) pre fun y hy => by
        have hy : y ∈ l := by rw [hl]; simp [hy]
        exact Nat.le_trans (Nat.le_of_eq (show (wP y).length = 3 from rfl)) (by decide)
      have hal : (nS l.length :: pre.flatMap wP).length ≤ 40601 := by simp only [List.length_cons]; omega
      generalize ha : nS (l.length : Int) :: pre.flatMap wP = acc at *
      have h3 : (0 ≤ x.1 ∧ x.1 < 1000) := hx.1
      have a1 := @wc_app' S i acc (nS x.1) e (by unfold LINE; omega)
      have e1 : (S.set i (.lst (wc (acc ++ [nS x.1]))))[i]? = some (.lst (wc (acc ++ [nS x.1]))) := gs e
      have b1 : oAdd true (.r i) (vL [.str (wFree x.2.1), .str (wTruth x.2.2)]) _ = _ := @wc_add (S.set i (.lst (wc (acc ++ [nS x.1])))) i (acc ++ [nS x.1]) [wFree x.2.1, wTruth x.2.2] e1 (by simp; unfold LINE; omega)
      refine ⟨_, _, (S.set i (.lst (wc (acc ++ [nS x.1])))) ++ [Cell.lst (wc ((acc ++ [nS x.1]) ++ [wFree x.2.1, wTruth x.2.2]))], rfl, ?_, (S.set i (.lst (wc (acc ++ [nS x.1])))).length, rfl, ?_⟩
      rotate_left
      · rw [List.flatMap_append, ← List.cons_append, ha]; show _ = some (Cell.lst (wc (acc ++ [x].flatMap wP)))
        rw [show acc ++ [x].flatMap wP = (acc ++ [nS x.1]) ++ [wFree x.2.1, wTruth x.2.2] by simp [wP]]
        exact ga
      unfold eP
      subst hB
      simp -implicitDefEqProofs +decide only [bind_ok, bind_ex, then_ok, then_ex, seq_nx, seq_rt, seq_ex, ite_tt, ite_ff, of_some, okOr_some, v0, v1, v2, v3, v4, v5, v6, v7, v8, v9, n0, n1, n2, n3, n4, n5, n6, n7, n8, n9, d_C, d_Op1, d_Op2, d_Mt0, d_Mt1, d_Args0, d_Args, d_Tup, d_Lst, d_LstC, tupK0, tupK1, tupK2, tupK3, tupK4, tupK9, bK_b, d_And, d_Or, d_Not, d_tE, d_tAnd, d_tOr, d_tNot, d_tYes, d_If, d_CallI, isoE_ok, isoE_ex, iso1, iso2, iso3, iso4, iso5, d_CallS, tgK_some, d_Skip, d_Seq, d_Asg, d_Expr, d_Ret, d_IfS, d_For, d_Raise, d_Drop, drop_nx, drop_rt, drop_ex, wipe0, wipeC, d_fn, fin_rt, fin_nx, fin_ex, isoR_d, isoR_ex, add_ii, add_ss, add_tt, add_ll, add_llC, sub_ii, neg_i, lt_ii, le_ii, gt_ii, ge_ii, dep_s, dep_i, dep_b, dep_n, eq_ii, eq_ss, eq_bb, ne_ss, ne_ii, ne_bb, in_dt, in_dl, notin_dt, notin_dl, isN_n, isN_i, isN_t, isN_s, isN_b, isN_l, notN_b, notN_l, notN_n, notN_i, notN_t, notN_s, t0, t1, t2, t3, l0, l1, l2, l3, len_t, len_l, str_i, int_b, tup_t, tup_l, list_lC, list_tC, list_l, list_t, rev_lC, isi_d, rc_s, d_iSeq, seqK_l, seqK_t, d_iRng1, rngK_i, d_Lc, noEx_k, newL_f, newL_t, rng_zero, len_s, d_iTxt, k_tx, d_Sl, k_Sl, k_Sl2, k_Sl3, k_pt0, k_pt1, k_pt, sl_s, d_Fld, d_Meth, d_Make, d_Store, k_Store, k_Store2, inS_1, k_Op1, k_Op2, k_Op2b, k_Mt0, k_Mt1, k_Args, k_Argsb, k_Tup, k_LstC, k_Andb, k_And, k_Orb, k_Or, k_Notb, k_Not, k_tEb, k_tE, k_tAnd, k_tOr, k_tNot, k_If, k_Asg, k_Expr, k_IfS, k_For, k_Lc, k_Lcb, List.map_cons, List.map_nil, List.cons_append, List.nil_append, List.replicate, List.set_cons_zero, List.set_cons_succ, List.all_cons, List.all_nil, Bool.and_true, Bool.true_and, Bool.and_self, and_self, eq_self, if_true, if_false, decide_true, decide_false, Bool.false_eq_true, List.any_cons, List.any_nil, List.length_nil, List.length_cons, Bool.not_true, Bool.not_false, rc_r (.inl e), h3, a1, c_free (hx.2), b1, c_truth, l_truth]

  rw [List.map_map, show (P.d ∘ eP) = (fun r => P.d (eP r)) from rfl, show [vS (nS ↑l.length)] = wc [nS l.length] from rfl, h1]
  simp -implicitDefEqProofs only [bind_ok, bind_ex, then_ok, then_ex, seq_nx, seq_rt, seq_ex, ite_tt, ite_ff, of_some, okOr_some, v0, v1, v2, v3, v4, v5, v6, v7, v8, v9, n0, n1, n2, n3, n4, n5, n6, n7, n8, n9, d_C, d_Op1, d_Op2, d_Mt0, d_Mt1, d_Args0, d_Args, d_Tup, d_Lst, d_LstC, tupK0, tupK1, tupK2, tupK3, tupK4, tupK9, bK_b, d_And, d_Or, d_Not, d_tE, d_tAnd, d_tOr, d_tNot, d_tYes, d_If, d_CallI, isoE_ok, isoE_ex, iso1, iso2, iso3, iso4, iso5, d_CallS, tgK_some, d_Skip, d_Seq, d_Asg, d_Expr, d_Ret, d_IfS, d_For, d_Raise, d_Drop, drop_nx, drop_rt, drop_ex, wipe0, wipeC, d_fn, fin_rt, fin_nx, fin_ex, isoR_d, isoR_ex, add_ii, add_ss, add_tt, add_ll, add_llC, sub_ii, neg_i, lt_ii, le_ii, gt_ii, ge_ii, dep_s, dep_i, dep_b, dep_n, eq_ii, eq_ss, eq_bb, ne_ss, ne_ii, ne_bb, in_dt, in_dl, notin_dt, notin_dl, isN_n, isN_i, isN_t, isN_s, isN_b, isN_l, notN_b, notN_l, notN_n, notN_i, notN_t, notN_s, t0, t1, t2, t3, l0, l1, l2, l3, len_t, len_l, str_i, int_b, tup_t, tup_l, list_lC, list_tC, list_l, list_t, rev_lC, isi_d, rc_s, d_iSeq, seqK_l, seqK_t, d_iRng1, rngK_i, d_Lc, noEx_k, newL_f, newL_t, rng_zero, len_s, d_iTxt, k_tx, d_Sl, k_Sl, k_Sl2, k_Sl3, k_pt0, k_pt1, k_pt, sl_s, d_Fld, d_Meth, d_Make, d_Store, k_Store, k_Store2, inS_1, k_Op1, k_Op2, k_Op2b, k_Mt0, k_Mt1, k_Args, k_Argsb, k_Tup, k_LstC, k_Andb, k_And, k_Orb, k_Or, k_Notb, k_Not, k_tEb, k_tE, k_tAnd, k_tOr, k_tNot, k_If, k_Asg, k_Expr, k_IfS, k_For, k_Lc, k_Lcb, List.map_cons, List.map_nil, List.cons_append, List.nil_append, List.replicate, List.set_cons_zero, List.set_cons_succ, List.all_cons, List.all_nil, Bool.and_true, Bool.true_and, Bool.and_self, and_self, eq_self, if_true, if_false, decide_true, decide_false, Bool.false_eq_true, List.any_cons, List.any_nil, List.length_nil, List.length_cons, Bool.not_true, Bool.not_false]
  exact isoR_r (.inl e2)
theorem c_rows_sums {l : List (Int × List Int × Bool)} (h : l.length ≤ 200 ∧ ∀ r ∈ l, okI r.1 ∧ okNums r.2.1) : callI g_rows_words [.str "sums", .tuple (l.map eU)] = some (.inr (.list ((nS l.length :: l.flatMap wU).map .str))) := by
  have hn : (0 ≤ (l.length : Int) ∧ (l.length : Int) < 1000) := okN h.1
  unfold g_rows_words f_rows_words
  rw [d_iso]
  simp -implicitDefEqProofs only [bind_ok, bind_ex, then_ok, then_ex, seq_nx, seq_rt, seq_ex, ite_tt, ite_ff, of_some, okOr_some, v0, v1, v2, v3, v4, v5, v6, v7, v8, v9, n0, n1, n2, n3, n4, n5, n6, n7, n8, n9, d_C, d_Op1, d_Op2, d_Mt0, d_Mt1, d_Args0, d_Args, d_Tup, d_Lst, d_LstC, tupK0, tupK1, tupK2, tupK3, tupK4, tupK9, bK_b, d_And, d_Or, d_Not, d_tE, d_tAnd, d_tOr, d_tNot, d_tYes, d_If, d_CallI, isoE_ok, isoE_ex, iso1, iso2, iso3, iso4, iso5, d_CallS, tgK_some, d_Skip, d_Seq, d_Asg, d_Expr, d_Ret, d_IfS, d_For, d_Raise, d_Drop, drop_nx, drop_rt, drop_ex, wipe0, wipeC, d_fn, fin_rt, fin_nx, fin_ex, isoR_d, isoR_ex, add_ii, add_ss, add_tt, add_ll, add_llC, sub_ii, neg_i, lt_ii, le_ii, gt_ii, ge_ii, dep_s, dep_i, dep_b, dep_n, eq_ii, eq_ss, eq_bb, ne_ss, ne_ii, ne_bb, in_dt, in_dl, notin_dt, notin_dl, isN_n, isN_i, isN_t, isN_s, isN_b, isN_l, notN_b, notN_l, notN_n, notN_i, notN_t, notN_s, t0, t1, t2, t3, l0, l1, l2, l3, len_t, len_l, str_i, int_b, tup_t, tup_l, list_lC, list_tC, list_l, list_t, rev_lC, isi_d, rc_s, d_iSeq, seqK_l, seqK_t, d_iRng1, rngK_i, d_Lc, noEx_k, newL_f, newL_t, rng_zero, len_s, d_iTxt, k_tx, d_Sl, k_Sl, k_Sl2, k_Sl3, k_pt0, k_pt1, k_pt, sl_s, d_Fld, d_Meth, d_Make, d_Store, k_Store, k_Store2, inS_1, k_Op1, k_Op2, k_Op2b, k_Mt0, k_Mt1, k_Args, k_Argsb, k_Tup, k_LstC, k_Andb, k_And, k_Orb, k_Or, k_Notb, k_Not, k_tEb, k_tE, k_tAnd, k_tOr, k_tNot, k_If, k_Asg, k_Expr, k_IfS, k_For, k_Lc, k_Lcb, List.map_cons, List.map_nil, List.cons_append, List.nil_append, List.replicate, List.set_cons_zero, List.set_cons_succ, List.all_cons, List.all_nil, Bool.and_true, Bool.true_and, Bool.and_self, and_self, eq_self, if_true, if_false, decide_true, decide_false, Bool.false_eq_true, List.any_cons, List.any_nil, List.length_nil, List.length_cons, Bool.not_true, Bool.not_false, List.length_map, hn]
  generalize hB : sDrop _ [3] = B
  obtain ⟨ρ2, S2, h1, i, rfl, e2⟩ := for_inv0 (g := gN 3) (b := B) (f := fun r => P.d (eU r)) (l := l) (ρ := [some (vS "sums"), some (vT (l.map eU)), some (.r 0), none]) (S := [.lst (wc [nS l.length])])
    (fun pre ρ S => ∃ i, ρ = [some (vS "sums"), some (vT (l.map eU)), some (.r i), none] ∧ S[i]? = some (.lst (wc (nS l.length :: pre.flatMap wU)))) ⟨0, rfl, rfl⟩ fun pre x post ρ S hl hI => by
      obtain ⟨i, rfl, e⟩ := hI
      have hx := h.2 x (by rw [hl]; simp)
      have hpl : pre.length ≤ 200 := by have := h.1; rw [hl] at this; simp at this; omega
      have hfl := flat_len (w := wU) (c := 203) pre fun y hy => by
        have hy : y ∈ l := by rw [hl]; simp [hy]
        exact wU_len (h.2 y hy).2
      have hal : (nS l.length :: pre.flatMap wU).length ≤ 40601 := by simp only [List.length_cons]; omega
      generalize ha : nS (l.length : Int) :: pre.flatMap wU = acc at *
      have h3 : (0 ≤ x.1 ∧ x.1 < 1000) := hx.1
      have a1 := @wc_app' S i acc (nS x.1) e (by unfold LINE; omega)
      have e1 : (S.set i (.lst (wc (acc ++ [nS x.1]))))[i]? = some (.lst (wc (acc ++ [nS x.1]))) := gs e
      have nl := wNums_len hx.2
      have b1 := @wc_add (S.set i (.lst (wc (acc ++ [nS x.1])))) i (acc ++ [nS x.1]) (wNums x.2.1) e1 (by simp; unfold LINE; omega)
      have e2 : (S.set i (.lst (wc (acc ++ [nS x.1]))) ++ [Cell.lst (wc ((acc ++ [nS x.1]) ++ wNums x.2.1))])[(S.set i (.lst (wc (acc ++ [nS x.1])))).length]? = some (.lst (wc ((acc ++ [nS x.1]) ++ wNums x.2.1))) := ga
      have a2 := @wc_app' _ _ _ (wTruth x.2.2) e2 (by simp; unfold LINE; omega)
      refine ⟨_, _, ((S.set i (.lst (wc (acc ++ [nS x.1])))) ++ [Cell.lst (wc ((acc ++ [nS x.1]) ++ wNums x.2.1))]).set (S.set i (.lst (wc (acc ++ [nS x.1])))).length (.lst (wc (((acc ++ [nS x.1]) ++ wNums x.2.1) ++ [wTruth x.2.2]))), rfl, ?_, (S.set i (.lst (wc (acc ++ [nS x.1])))).length, rfl, ?_⟩
      rotate_left
      · rw [List.flatMap_append, ← List.cons_append, ha]; show _ = some (Cell.lst (wc (acc ++ [x].flatMap wU)))
        rw [show acc ++ [x].flatMap wU = ((acc ++ [nS x.1]) ++ wNums x.2.1) ++ [wTruth x.2.2] by simp [wU]]
        exact gs e2
      unfold eU
      subst hB
      simp -implicitDefEqProofs +decide only [bind_ok, bind_ex, then_ok, then_ex, seq_nx, seq_rt, seq_ex, ite_tt, ite_ff, of_some, okOr_some, v0, v1, v2, v3, v4, v5, v6, v7, v8, v9, n0, n1, n2, n3, n4, n5, n6, n7, n8, n9, d_C, d_Op1, d_Op2, d_Mt0, d_Mt1, d_Args0, d_Args, d_Tup, d_Lst, d_LstC, tupK0, tupK1, tupK2, tupK3, tupK4, tupK9, bK_b, d_And, d_Or, d_Not, d_tE, d_tAnd, d_tOr, d_tNot, d_tYes, d_If, d_CallI, isoE_ok, isoE_ex, iso1, iso2, iso3, iso4, iso5, d_CallS, tgK_some, d_Skip, d_Seq, d_Asg, d_Expr, d_Ret, d_IfS, d_For, d_Raise, d_Drop, drop_nx, drop_rt, drop_ex, wipe0, wipeC, d_fn, fin_rt, fin_nx, fin_ex, isoR_d, isoR_ex, add_ii, add_ss, add_tt, add_ll, add_llC, sub_ii, neg_i, lt_ii, le_ii, gt_ii, ge_ii, dep_s, dep_i, dep_b, dep_n, eq_ii, eq_ss, eq_bb, ne_ss, ne_ii, ne_bb, in_dt, in_dl, notin_dt, notin_dl, isN_n, isN_i, isN_t, isN_s, isN_b, isN_l, notN_b, notN_l, notN_n, notN_i, notN_t, notN_s, t0, t1, t2, t3, l0, l1, l2, l3, len_t, len_l, str_i, int_b, tup_t, tup_l, list_lC, list_tC, list_l, list_t, rev_lC, isi_d, rc_s, d_iSeq, seqK_l, seqK_t, d_iRng1, rngK_i, d_Lc, noEx_k, newL_f, newL_t, rng_zero, len_s, d_iTxt, k_tx, d_Sl, k_Sl, k_Sl2, k_Sl3, k_pt0, k_pt1, k_pt, sl_s, d_Fld, d_Meth, d_Make, d_Store, k_Store, k_Store2, inS_1, k_Op1, k_Op2, k_Op2b, k_Mt0, k_Mt1, k_Args, k_Argsb, k_Tup, k_LstC, k_Andb, k_And, k_Orb, k_Or, k_Notb, k_Not, k_tEb, k_tE, k_tAnd, k_tOr, k_tNot, k_If, k_Asg, k_Expr, k_IfS, k_For, k_Lc, k_Lcb, List.map_cons, List.map_nil, List.cons_append, List.nil_append, List.replicate, List.set_cons_zero, List.set_cons_succ, List.all_cons, List.all_nil, Bool.and_true, Bool.true_and, Bool.and_self, and_self, eq_self, if_true, if_false, decide_true, decide_false, Bool.false_eq_true, List.any_cons, List.any_nil, List.length_nil, List.length_cons, Bool.not_true, Bool.not_false, rc_r (.inl e), rc_r (.inl e2), h3, a1, c_nums (hx.2), b1, a2, c_truth, l_truth]

  rw [List.map_map, show (P.d ∘ eU) = (fun r => P.d (eU r)) from rfl, show [vS (nS ↑l.length)] = wc [nS l.length] from rfl, h1]
  simp -implicitDefEqProofs only [bind_ok, bind_ex, then_ok, then_ex, seq_nx, seq_rt, seq_ex, ite_tt, ite_ff, of_some, okOr_some, v0, v1, v2, v3, v4, v5, v6, v7, v8, v9, n0, n1, n2, n3, n4, n5, n6, n7, n8, n9, d_C, d_Op1, d_Op2, d_Mt0, d_Mt1, d_Args0, d_Args, d_Tup, d_Lst, d_LstC, tupK0, tupK1, tupK2, tupK3, tupK4, tupK9, bK_b, d_And, d_Or, d_Not, d_tE, d_tAnd, d_tOr, d_tNot, d_tYes, d_If, d_CallI, isoE_ok, isoE_ex, iso1, iso2, iso3, iso4, iso5, d_CallS, tgK_some, d_Skip, d_Seq, d_Asg, d_Expr, d_Ret, d_IfS, d_For, d_Raise, d_Drop, drop_nx, drop_rt, drop_ex, wipe0, wipeC, d_fn, fin_rt, fin_nx, fin_ex, isoR_d, isoR_ex, add_ii, add_ss, add_tt, add_ll, add_llC, sub_ii, neg_i, lt_ii, le_ii, gt_ii, ge_ii, dep_s, dep_i, dep_b, dep_n, eq_ii, eq_ss, eq_bb, ne_ss, ne_ii, ne_bb, in_dt, in_dl, notin_dt, notin_dl, isN_n, isN_i, isN_t, isN_s, isN_b, isN_l, notN_b, notN_l, notN_n, notN_i, notN_t, notN_s, t0, t1, t2, t3, l0, l1, l2, l3, len_t, len_l, str_i, int_b, tup_t, tup_l, list_lC, list_tC, list_l, list_t, rev_lC, isi_d, rc_s, d_iSeq, seqK_l, seqK_t, d_iRng1, rngK_i, d_Lc, noEx_k, newL_f, newL_t, rng_zero, len_s, d_iTxt, k_tx, d_Sl, k_Sl, k_Sl2, k_Sl3, k_pt0, k_pt1, k_pt, sl_s, d_Fld, d_Meth, d_Make, d_Store, k_Store, k_Store2, inS_1, k_Op1, k_Op2, k_Op2b, k_Mt0, k_Mt1, k_Args, k_Argsb, k_Tup, k_LstC, k_Andb, k_And, k_Orb, k_Or, k_Notb, k_Not, k_tEb, k_tE, k_tAnd, k_tOr, k_tNot, k_If, k_Asg, k_Expr, k_IfS, k_For, k_Lc, k_Lcb, List.map_cons, List.map_nil, List.cons_append, List.nil_append, List.replicate, List.set_cons_zero, List.set_cons_succ, List.all_cons, List.all_nil, Bool.and_true, Bool.true_and, Bool.and_self, and_self, eq_self, if_true, if_false, decide_true, decide_false, Bool.false_eq_true, List.any_cons, List.any_nil, List.length_nil, List.length_cons, Bool.not_true, Bool.not_false]
  exact isoR_r (.inl e2)
theorem c_rows_rows {l : List (Int × List Int)} (h : l.length ≤ 200 ∧ ∀ r ∈ l, okI r.1 ∧ okNums r.2) : callI g_rows_words [.str "rows", .tuple (l.map eR)] = some (.inr (.list ((nS l.length :: l.flatMap wR).map .str))) := by
  have hn : (0 ≤ (l.length : Int) ∧ (l.length : Int) < 1000) := okN h.1
  unfold g_rows_words f_rows_words
  rw [d_iso]
  simp -implicitDefEqProofs only [bind_ok, bind_ex, then_ok, then_ex, seq_nx, seq_rt, seq_ex, ite_tt, ite_ff, of_some, okOr_some, v0, v1, v2, v3, v4, v5, v6, v7, v8, v9, n0, n1, n2, n3, n4, n5, n6, n7, n8, n9, d_C, d_Op1, d_Op2, d_Mt0, d_Mt1, d_Args0, d_Args, d_Tup, d_Lst, d_LstC, tupK0, tupK1, tupK2, tupK3, tupK4, tupK9, bK_b, d_And, d_Or, d_Not, d_tE, d_tAnd, d_tOr, d_tNot, d_tYes, d_If, d_CallI, isoE_ok, isoE_ex, iso1, iso2, iso3, iso4, iso5, d_CallS, tgK_some, d_Skip, d_Seq, d_Asg, d_Expr, d_Ret, d_IfS, d_For, d_Raise, d_Drop, drop_nx, drop_rt, drop_ex, wipe0, wipeC, d_fn, fin_rt, fin_nx, fin_ex, isoR_d, isoR_ex, add_ii, add_ss, add_tt, add_ll, add_llC, sub_ii, neg_i, lt_ii, le_ii, gt_ii, ge_ii, dep_s, dep_i, dep_b, dep_n, eq_ii, eq_ss, eq_bb, ne_ss, ne_ii, ne_bb, in_dt, in_dl, notin_dt, notin_dl, isN_n, isN_i, isN_t, isN_s, isN_b, isN_l, notN_b, notN_l, notN_n, notN_i, notN_t, notN_s, t0, t1, t2, t3, l0, l1, l2, l3, len_t, len_l, str_i, int_b, tup_t, tup_l, list_lC, list_tC, list_l, list_t, rev_lC, isi_d, rc_s, d_iSeq, seqK_l, seqK_t, d_iRng1, rngK_i, d_Lc, noEx_k, newL_f, newL_t, rng_zero, len_s, d_iTxt, k_tx, d_Sl, k_Sl, k_Sl2, k_Sl3, k_pt0, k_pt1, k_pt, sl_s, d_Fld, d_Meth, d_Make, d_Store, k_Store, k_Store2, inS_1, k_Op1, k_Op2, k_Op2b, k_Mt0, k_Mt1, k_Args, k_Argsb, k_Tup, k_LstC, k_Andb, k_And, k_Orb, k_Or, k_Notb, k_Not, k_tEb, k_tE, k_tAnd, k_tOr, k_tNot, k_If, k_Asg, k_Expr, k_IfS, k_For, k_Lc, k_Lcb, List.map_cons, List.map_nil, List.cons_append, List.nil_append, List.replicate, List.set_cons_zero, List.set_cons_succ, List.all_cons, List.all_nil, Bool.and_true, Bool.true_and, Bool.and_self, and_self, eq_self, if_true, if_false, decide_true, decide_false, Bool.false_eq_true, List.any_cons, List.any_nil, List.length_nil, List.length_cons, Bool.not_true, Bool.not_false, List.length_map, hn]
  generalize hB : sDrop _ [3] = B
  obtain ⟨ρ2, S2, h1, i, rfl, e2⟩ := for_inv0 (g := gN 3) (b := B) (f := fun r => P.d (eR r)) (l := l) (ρ := [some (vS "rows"), some (vT (l.map eR)), some (.r 0), none]) (S := [.lst (wc [nS l.length])])
    (fun pre ρ S => ∃ i, ρ = [some (vS "rows"), some (vT (l.map eR)), some (.r i), none] ∧ S[i]? = some (.lst (wc (nS l.length :: pre.flatMap wR)))) ⟨0, rfl, rfl⟩ fun pre x post ρ S hl hI => by
      obtain ⟨i, rfl, e⟩ := hI
      have hx := h.2 x (by rw [hl]; simp)
      have hpl : pre.length ≤ 200 := by have := h.1; rw [hl] at this; simp at this; omega
      have hfl := flat_len (w := wR) (c := 203) pre fun y hy => by
        have hy : y ∈ l := by rw [hl]; simp [hy]
        exact wR_len (h.2 y hy).2
      have hal : (nS l.length :: pre.flatMap wR).length ≤ 40601 := by simp only [List.length_cons]; omega
      generalize ha : nS (l.length : Int) :: pre.flatMap wR = acc at *
      have h3 : (0 ≤ x.1 ∧ x.1 < 1000) := hx.1
      have a1 := @wc_app' S i acc (nS x.1) e (by unfold LINE; omega)
      have e1 : (S.set i (.lst (wc (acc ++ [nS x.1]))))[i]? = some (.lst (wc (acc ++ [nS x.1]))) := gs e
      have nl := wNums_len hx.2
      have b1 := @wc_add (S.set i (.lst (wc (acc ++ [nS x.1])))) i (acc ++ [nS x.1]) (wNums x.2) e1 (by simp; unfold LINE; omega)
      refine ⟨_, _, (S.set i (.lst (wc (acc ++ [nS x.1])))) ++ [Cell.lst (wc ((acc ++ [nS x.1]) ++ wNums x.2))], rfl, ?_, (S.set i (.lst (wc (acc ++ [nS x.1])))).length, rfl, ?_⟩
      rotate_left
      · rw [List.flatMap_append, ← List.cons_append, ha]; show _ = some (Cell.lst (wc (acc ++ [x].flatMap wR)))
        rw [show acc ++ [x].flatMap wR = (acc ++ [nS x.1]) ++ wNums x.2 by simp [wR]]
        exact ga
      unfold eR
      subst hB
      simp -implicitDefEqProofs +decide only [bind_ok, bind_ex, then_ok, then_ex, seq_nx, seq_rt, seq_ex, ite_tt, ite_ff, of_some, okOr_some, v0, v1, v2, v3, v4, v5, v6, v7, v8, v9, n0, n1, n2, n3, n4, n5, n6, n7, n8, n9, d_C, d_Op1, d_Op2, d_Mt0, d_Mt1, d_Args0, d_Args, d_Tup, d_Lst, d_LstC, tupK0, tupK1, tupK2, tupK3, tupK4, tupK9, bK_b, d_And, d_Or, d_Not, d_tE, d_tAnd, d_tOr, d_tNot, d_tYes, d_If, d_CallI, isoE_ok, isoE_ex, iso1, iso2, iso3, iso4, iso5, d_CallS, tgK_some, d_Skip, d_Seq, d_Asg, d_Expr, d_Ret, d_IfS, d_For, d_Raise, d_Drop, drop_nx, drop_rt, drop_ex, wipe0, wipeC, d_fn, fin_rt, fin_nx, fin_ex, isoR_d, isoR_ex, add_ii, add_ss, add_tt, add_ll, add_llC, sub_ii, neg_i, lt_ii, le_ii, gt_ii, ge_ii, dep_s, dep_i, dep_b, dep_n, eq_ii, eq_ss, eq_bb, ne_ss, ne_ii, ne_bb, in_dt, in_dl, notin_dt, notin_dl, isN_n, isN_i, isN_t, isN_s, isN_b, isN_l, notN_b, notN_l, notN_n, notN_i, notN_t, notN_s, t0, t1, t2, t3, l0, l1, l2, l3, len_t, len_l, str_i, int_b, tup_t, tup_l, list_lC, list_tC, list_l, list_t, rev_lC, isi_d, rc_s, d_iSeq, seqK_l, seqK_t, d_iRng1, rngK_i, d_Lc, noEx_k, newL_f, newL_t, rng_zero, len_s, d_iTxt, k_tx, d_Sl, k_Sl, k_Sl2, k_Sl3, k_pt0, k_pt1, k_pt, sl_s, d_Fld, d_Meth, d_Make, d_Store, k_Store, k_Store2, inS_1, k_Op1, k_Op2, k_Op2b, k_Mt0, k_Mt1, k_Args, k_Argsb, k_Tup, k_LstC, k_Andb, k_And, k_Orb, k_Or, k_Notb, k_Not, k_tEb, k_tE, k_tAnd, k_tOr, k_tNot, k_If, k_Asg, k_Expr, k_IfS, k_For, k_Lc, k_Lcb, List.map_cons, List.map_nil, List.cons_append, List.nil_append, List.replicate, List.set_cons_zero, List.set_cons_succ, List.all_cons, List.all_nil, Bool.and_true, Bool.true_and, Bool.and_self, and_self, eq_self, if_true, if_false, decide_true, decide_false, Bool.false_eq_true, List.any_cons, List.any_nil, List.length_nil, List.length_cons, Bool.not_true, Bool.not_false, rc_r (.inl e), h3, a1, c_nums (hx.2), b1, c_truth, l_truth]

  rw [List.map_map, show (P.d ∘ eR) = (fun r => P.d (eR r)) from rfl, show [vS (nS ↑l.length)] = wc [nS l.length] from rfl, h1]
  simp -implicitDefEqProofs only [bind_ok, bind_ex, then_ok, then_ex, seq_nx, seq_rt, seq_ex, ite_tt, ite_ff, of_some, okOr_some, v0, v1, v2, v3, v4, v5, v6, v7, v8, v9, n0, n1, n2, n3, n4, n5, n6, n7, n8, n9, d_C, d_Op1, d_Op2, d_Mt0, d_Mt1, d_Args0, d_Args, d_Tup, d_Lst, d_LstC, tupK0, tupK1, tupK2, tupK3, tupK4, tupK9, bK_b, d_And, d_Or, d_Not, d_tE, d_tAnd, d_tOr, d_tNot, d_tYes, d_If, d_CallI, isoE_ok, isoE_ex, iso1, iso2, iso3, iso4, iso5, d_CallS, tgK_some, d_Skip, d_Seq, d_Asg, d_Expr, d_Ret, d_IfS, d_For, d_Raise, d_Drop, drop_nx, drop_rt, drop_ex, wipe0, wipeC, d_fn, fin_rt, fin_nx, fin_ex, isoR_d, isoR_ex, add_ii, add_ss, add_tt, add_ll, add_llC, sub_ii, neg_i, lt_ii, le_ii, gt_ii, ge_ii, dep_s, dep_i, dep_b, dep_n, eq_ii, eq_ss, eq_bb, ne_ss, ne_ii, ne_bb, in_dt, in_dl, notin_dt, notin_dl, isN_n, isN_i, isN_t, isN_s, isN_b, isN_l, notN_b, notN_l, notN_n, notN_i, notN_t, notN_s, t0, t1, t2, t3, l0, l1, l2, l3, len_t, len_l, str_i, int_b, tup_t, tup_l, list_lC, list_tC, list_l, list_t, rev_lC, isi_d, rc_s, d_iSeq, seqK_l, seqK_t, d_iRng1, rngK_i, d_Lc, noEx_k, newL_f, newL_t, rng_zero, len_s, d_iTxt, k_tx, d_Sl, k_Sl, k_Sl2, k_Sl3, k_pt0, k_pt1, k_pt, sl_s, d_Fld, d_Meth, d_Make, d_Store, k_Store, k_Store2, inS_1, k_Op1, k_Op2, k_Op2b, k_Mt0, k_Mt1, k_Args, k_Argsb, k_Tup, k_LstC, k_Andb, k_And, k_Orb, k_Or, k_Notb, k_Not, k_tEb, k_tE, k_tAnd, k_tOr, k_tNot, k_If, k_Asg, k_Expr, k_IfS, k_For, k_Lc, k_Lcb, List.map_cons, List.map_nil, List.cons_append, List.nil_append, List.replicate, List.set_cons_zero, List.set_cons_succ, List.all_cons, List.all_nil, Bool.and_true, Bool.true_and, Bool.and_self, and_self, eq_self, if_true, if_false, decide_true, decide_false, Bool.false_eq_true, List.any_cons, List.any_nil, List.length_nil, List.length_cons, Bool.not_true, Bool.not_false]
  exact isoR_r (.inl e2)
theorem lc_rows_plan {l : List (Int × Option Int × Bool)} (h : l.length ≤ 200 ∧ ∀ r ∈ l, okI r.1 ∧ okFree r.2.1) : callI g__law_rows_words [.str "plan", .tuple (l.map eP)] = some (.inr (.list ((nS l.length :: l.flatMap wP).map .str))) := by
  have hn : (0 ≤ (l.length : Int) ∧ (l.length : Int) < 1000) := okN h.1
  unfold g__law_rows_words f__law_rows_words
  rw [d_iso]
  simp -implicitDefEqProofs only [bind_ok, bind_ex, then_ok, then_ex, seq_nx, seq_rt, seq_ex, ite_tt, ite_ff, of_some, okOr_some, v0, v1, v2, v3, v4, v5, v6, v7, v8, v9, n0, n1, n2, n3, n4, n5, n6, n7, n8, n9, d_C, d_Op1, d_Op2, d_Mt0, d_Mt1, d_Args0, d_Args, d_Tup, d_Lst, d_LstC, tupK0, tupK1, tupK2, tupK3, tupK4, tupK9, bK_b, d_And, d_Or, d_Not, d_tE, d_tAnd, d_tOr, d_tNot, d_tYes, d_If, d_CallI, isoE_ok, isoE_ex, iso1, iso2, iso3, iso4, iso5, d_CallS, tgK_some, d_Skip, d_Seq, d_Asg, d_Expr, d_Ret, d_IfS, d_For, d_Raise, d_Drop, drop_nx, drop_rt, drop_ex, wipe0, wipeC, d_fn, fin_rt, fin_nx, fin_ex, isoR_d, isoR_ex, add_ii, add_ss, add_tt, add_ll, add_llC, sub_ii, neg_i, lt_ii, le_ii, gt_ii, ge_ii, dep_s, dep_i, dep_b, dep_n, eq_ii, eq_ss, eq_bb, ne_ss, ne_ii, ne_bb, in_dt, in_dl, notin_dt, notin_dl, isN_n, isN_i, isN_t, isN_s, isN_b, isN_l, notN_b, notN_l, notN_n, notN_i, notN_t, notN_s, t0, t1, t2, t3, l0, l1, l2, l3, len_t, len_l, str_i, int_b, tup_t, tup_l, list_lC, list_tC, list_l, list_t, rev_lC, isi_d, rc_s, d_iSeq, seqK_l, seqK_t, d_iRng1, rngK_i, d_Lc, noEx_k, newL_f, newL_t, rng_zero, len_s, d_iTxt, k_tx, d_Sl, k_Sl, k_Sl2, k_Sl3, k_pt0, k_pt1, k_pt, sl_s, d_Fld, d_Meth, d_Make, d_Store, k_Store, k_Store2, inS_1, k_Op1, k_Op2, k_Op2b, k_Mt0, k_Mt1, k_Args, k_Argsb, k_Tup, k_LstC, k_Andb, k_And, k_Orb, k_Or, k_Notb, k_Not, k_tEb, k_tE, k_tAnd, k_tOr, k_tNot, k_If, k_Asg, k_Expr, k_IfS, k_For, k_Lc, k_Lcb, List.map_cons, List.map_nil, List.cons_append, List.nil_append, List.replicate, List.set_cons_zero, List.set_cons_succ, List.all_cons, List.all_nil, Bool.and_true, Bool.true_and, Bool.and_self, and_self, eq_self, if_true, if_false, decide_true, decide_false, Bool.false_eq_true, List.any_cons, List.any_nil, List.length_nil, List.length_cons, Bool.not_true, Bool.not_false, List.length_map, hn]
  generalize hB : sDrop _ [3] = B
  obtain ⟨ρ2, S2, h1, i, rfl, e2⟩ := for_inv0 (g := gN 3) (b := B) (f := fun r => P.d (eP r)) (l := l) (ρ := [some (vS "plan"), some (vT (l.map eP)), some (.r 0), none]) (S := [.lst (wc [nS l.length])])
    (fun pre ρ S => ∃ i, ρ = [some (vS "plan"), some (vT (l.map eP)), some (.r i), none] ∧ S[i]? = some (.lst (wc (nS l.length :: pre.flatMap wP)))) ⟨0, rfl, rfl⟩ fun pre x post ρ S hl hI => by
      obtain ⟨i, rfl, e⟩ := hI
      have hx := h.2 x (by rw [hl]; simp)
      have hpl : pre.length ≤ 200 := by have := h.1; rw [hl] at this; simp at this; omega
      have hfl := flat_len (w := wP) (c := 203) pre fun y hy => by
        have hy : y ∈ l := by rw [hl]; simp [hy]
        exact Nat.le_trans (Nat.le_of_eq (show (wP y).length = 3 from rfl)) (by decide)
      have hal : (nS l.length :: pre.flatMap wP).length ≤ 40601 := by simp only [List.length_cons]; omega
      generalize ha : nS (l.length : Int) :: pre.flatMap wP = acc at *
      have h3 : (0 ≤ x.1 ∧ x.1 < 1000) := hx.1
      have a1 := @wc_app' S i acc (nS x.1) e (by unfold LINE; omega)
      have e1 : (S.set i (.lst (wc (acc ++ [nS x.1]))))[i]? = some (.lst (wc (acc ++ [nS x.1]))) := gs e
      have b1 : oAdd true (.r i) (vL [.str (wFree x.2.1), .str (wTruth x.2.2)]) _ = _ := @wc_add (S.set i (.lst (wc (acc ++ [nS x.1])))) i (acc ++ [nS x.1]) [wFree x.2.1, wTruth x.2.2] e1 (by simp; unfold LINE; omega)
      refine ⟨_, _, (S.set i (.lst (wc (acc ++ [nS x.1])))) ++ [Cell.lst (wc ((acc ++ [nS x.1]) ++ [wFree x.2.1, wTruth x.2.2]))], rfl, ?_, (S.set i (.lst (wc (acc ++ [nS x.1])))).length, rfl, ?_⟩
      rotate_left
      · rw [List.flatMap_append, ← List.cons_append, ha]; show _ = some (Cell.lst (wc (acc ++ [x].flatMap wP)))
        rw [show acc ++ [x].flatMap wP = (acc ++ [nS x.1]) ++ [wFree x.2.1, wTruth x.2.2] by simp [wP]]
        exact ga
      unfold eP
      subst hB
      simp -implicitDefEqProofs +decide only [bind_ok, bind_ex, then_ok, then_ex, seq_nx, seq_rt, seq_ex, ite_tt, ite_ff, of_some, okOr_some, v0, v1, v2, v3, v4, v5, v6, v7, v8, v9, n0, n1, n2, n3, n4, n5, n6, n7, n8, n9, d_C, d_Op1, d_Op2, d_Mt0, d_Mt1, d_Args0, d_Args, d_Tup, d_Lst, d_LstC, tupK0, tupK1, tupK2, tupK3, tupK4, tupK9, bK_b, d_And, d_Or, d_Not, d_tE, d_tAnd, d_tOr, d_tNot, d_tYes, d_If, d_CallI, isoE_ok, isoE_ex, iso1, iso2, iso3, iso4, iso5, d_CallS, tgK_some, d_Skip, d_Seq, d_Asg, d_Expr, d_Ret, d_IfS, d_For, d_Raise, d_Drop, drop_nx, drop_rt, drop_ex, wipe0, wipeC, d_fn, fin_rt, fin_nx, fin_ex, isoR_d, isoR_ex, add_ii, add_ss, add_tt, add_ll, add_llC, sub_ii, neg_i, lt_ii, le_ii, gt_ii, ge_ii, dep_s, dep_i, dep_b, dep_n, eq_ii, eq_ss, eq_bb, ne_ss, ne_ii, ne_bb, in_dt, in_dl, notin_dt, notin_dl, isN_n, isN_i, isN_t, isN_s, isN_b, isN_l, notN_b, notN_l, notN_n, notN_i, notN_t, notN_s, t0, t1, t2, t3, l0, l1, l2, l3, len_t, len_l, str_i, int_b, tup_t, tup_l, list_lC, list_tC, list_l, list_t, rev_lC, isi_d, rc_s, d_iSeq, seqK_l, seqK_t, d_iRng1, rngK_i, d_Lc, noEx_k, newL_f, newL_t, rng_zero, len_s, d_iTxt, k_tx, d_Sl, k_Sl, k_Sl2, k_Sl3, k_pt0, k_pt1, k_pt, sl_s, d_Fld, d_Meth, d_Make, d_Store, k_Store, k_Store2, inS_1, k_Op1, k_Op2, k_Op2b, k_Mt0, k_Mt1, k_Args, k_Argsb, k_Tup, k_LstC, k_Andb, k_And, k_Orb, k_Or, k_Notb, k_Not, k_tEb, k_tE, k_tAnd, k_tOr, k_tNot, k_If, k_Asg, k_Expr, k_IfS, k_For, k_Lc, k_Lcb, List.map_cons, List.map_nil, List.cons_append, List.nil_append, List.replicate, List.set_cons_zero, List.set_cons_succ, List.all_cons, List.all_nil, Bool.and_true, Bool.true_and, Bool.and_self, and_self, eq_self, if_true, if_false, decide_true, decide_false, Bool.false_eq_true, List.any_cons, List.any_nil, List.length_nil, List.length_cons, Bool.not_true, Bool.not_false, rc_r (.inl e), h3, a1, lc_free (hx.2), b1, c_truth, l_truth]

  rw [List.map_map, show (P.d ∘ eP) = (fun r => P.d (eP r)) from rfl, show [vS (nS ↑l.length)] = wc [nS l.length] from rfl, h1]
  simp -implicitDefEqProofs only [bind_ok, bind_ex, then_ok, then_ex, seq_nx, seq_rt, seq_ex, ite_tt, ite_ff, of_some, okOr_some, v0, v1, v2, v3, v4, v5, v6, v7, v8, v9, n0, n1, n2, n3, n4, n5, n6, n7, n8, n9, d_C, d_Op1, d_Op2, d_Mt0, d_Mt1, d_Args0, d_Args, d_Tup, d_Lst, d_LstC, tupK0, tupK1, tupK2, tupK3, tupK4, tupK9, bK_b, d_And, d_Or, d_Not, d_tE, d_tAnd, d_tOr, d_tNot, d_tYes, d_If, d_CallI, isoE_ok, isoE_ex, iso1, iso2, iso3, iso4, iso5, d_CallS, tgK_some, d_Skip, d_Seq, d_Asg, d_Expr, d_Ret, d_IfS, d_For, d_Raise, d_Drop, drop_nx, drop_rt, drop_ex, wipe0, wipeC, d_fn, fin_rt, fin_nx, fin_ex, isoR_d, isoR_ex, add_ii, add_ss, add_tt, add_ll, add_llC, sub_ii, neg_i, lt_ii, le_ii, gt_ii, ge_ii, dep_s, dep_i, dep_b, dep_n, eq_ii, eq_ss, eq_bb, ne_ss, ne_ii, ne_bb, in_dt, in_dl, notin_dt, notin_dl, isN_n, isN_i, isN_t, isN_s, isN_b, isN_l, notN_b, notN_l, notN_n, notN_i, notN_t, notN_s, t0, t1, t2, t3, l0, l1, l2, l3, len_t, len_l, str_i, int_b, tup_t, tup_l, list_lC, list_tC, list_l, list_t, rev_lC, isi_d, rc_s, d_iSeq, seqK_l, seqK_t, d_iRng1, rngK_i, d_Lc, noEx_k, newL_f, newL_t, rng_zero, len_s, d_iTxt, k_tx, d_Sl, k_Sl, k_Sl2, k_Sl3, k_pt0, k_pt1, k_pt, sl_s, d_Fld, d_Meth, d_Make, d_Store, k_Store, k_Store2, inS_1, k_Op1, k_Op2, k_Op2b, k_Mt0, k_Mt1, k_Args, k_Argsb, k_Tup, k_LstC, k_Andb, k_And, k_Orb, k_Or, k_Notb, k_Not, k_tEb, k_tE, k_tAnd, k_tOr, k_tNot, k_If, k_Asg, k_Expr, k_IfS, k_For, k_Lc, k_Lcb, List.map_cons, List.map_nil, List.cons_append, List.nil_append, List.replicate, List.set_cons_zero, List.set_cons_succ, List.all_cons, List.all_nil, Bool.and_true, Bool.true_and, Bool.and_self, and_self, eq_self, if_true, if_false, decide_true, decide_false, Bool.false_eq_true, List.any_cons, List.any_nil, List.length_nil, List.length_cons, Bool.not_true, Bool.not_false]
  exact isoR_r (.inl e2)
theorem lc_rows_sums {l : List (Int × List Int × Bool)} (h : l.length ≤ 200 ∧ ∀ r ∈ l, okI r.1 ∧ okNums r.2.1) : callI g__law_rows_words [.str "sums", .tuple (l.map eU)] = some (.inr (.list ((nS l.length :: l.flatMap wU).map .str))) := by
  have hn : (0 ≤ (l.length : Int) ∧ (l.length : Int) < 1000) := okN h.1
  unfold g__law_rows_words f__law_rows_words
  rw [d_iso]
  simp -implicitDefEqProofs only [bind_ok, bind_ex, then_ok, then_ex, seq_nx, seq_rt, seq_ex, ite_tt, ite_ff, of_some, okOr_some, v0, v1, v2, v3, v4, v5, v6, v7, v8, v9, n0, n1, n2, n3, n4, n5, n6, n7, n8, n9, d_C, d_Op1, d_Op2, d_Mt0, d_Mt1, d_Args0, d_Args, d_Tup, d_Lst, d_LstC, tupK0, tupK1, tupK2, tupK3, tupK4, tupK9, bK_b, d_And, d_Or, d_Not, d_tE, d_tAnd, d_tOr, d_tNot, d_tYes, d_If, d_CallI, isoE_ok, isoE_ex, iso1, iso2, iso3, iso4, iso5, d_CallS, tgK_some, d_Skip, d_Seq, d_Asg, d_Expr, d_Ret, d_IfS, d_For, d_Raise, d_Drop, drop_nx, drop_rt, drop_ex, wipe0, wipeC, d_fn, fin_rt, fin_nx, fin_ex, isoR_d, isoR_ex, add_ii, add_ss, add_tt, add_ll, add_llC, sub_ii, neg_i, lt_ii, le_ii, gt_ii, ge_ii, dep_s, dep_i, dep_b, dep_n, eq_ii, eq_ss, eq_bb, ne_ss, ne_ii, ne_bb, in_dt, in_dl, notin_dt, notin_dl, isN_n, isN_i, isN_t, isN_s, isN_b, isN_l, notN_b, notN_l, notN_n, notN_i, notN_t, notN_s, t0, t1, t2, t3, l0, l1, l2, l3, len_t, len_l, str_i, int_b, tup_t, tup_l, list_lC, list_tC, list_l, list_t, rev_lC, isi_d, rc_s, d_iSeq, seqK_l, seqK_t, d_iRng1, rngK_i, d_Lc, noEx_k, newL_f, newL_t, rng_zero, len_s, d_iTxt, k_tx, d_Sl, k_Sl, k_Sl2, k_Sl3, k_pt0, k_pt1, k_pt, sl_s, d_Fld, d_Meth, d_Make, d_Store, k_Store, k_Store2, inS_1, k_Op1, k_Op2, k_Op2b, k_Mt0, k_Mt1, k_Args, k_Argsb, k_Tup, k_LstC, k_Andb, k_And, k_Orb, k_Or, k_Notb, k_Not, k_tEb, k_tE, k_tAnd, k_tOr, k_tNot, k_If, k_Asg, k_Expr, k_IfS, k_For, k_Lc, k_Lcb, List.map_cons, List.map_nil, List.cons_append, List.nil_append, List.replicate, List.set_cons_zero, List.set_cons_succ, List.all_cons, List.all_nil, Bool.and_true, Bool.true_and, Bool.and_self, and_self, eq_self, if_true, if_false, decide_true, decide_false, Bool.false_eq_true, List.any_cons, List.any_nil, List.length_nil, List.length_cons, Bool.not_true, Bool.not_false, List.length_map, hn]
  generalize hB : sDrop _ [3] = B
  obtain ⟨ρ2, S2, h1, i, rfl, e2⟩ := for_inv0 (g := gN 3) (b := B) (f := fun r => P.d (eU r)) (l := l) (ρ := [some (vS "sums"), some (vT (l.map eU)), some (.r 0), none]) (S := [.lst (wc [nS l.length])])
    (fun pre ρ S => ∃ i, ρ = [some (vS "sums"), some (vT (l.map eU)), some (.r i), none] ∧ S[i]? = some (.lst (wc (nS l.length :: pre.flatMap wU)))) ⟨0, rfl, rfl⟩ fun pre x post ρ S hl hI => by
      obtain ⟨i, rfl, e⟩ := hI
      have hx := h.2 x (by rw [hl]; simp)
      have hpl : pre.length ≤ 200 := by have := h.1; rw [hl] at this; simp at this; omega
      have hfl := flat_len (w := wU) (c := 203) pre fun y hy => by
        have hy : y ∈ l := by rw [hl]; simp [hy]
        exact wU_len (h.2 y hy).2
      have hal : (nS l.length :: pre.flatMap wU).length ≤ 40601 := by simp only [List.length_cons]; omega
      generalize ha : nS (l.length : Int) :: pre.flatMap wU = acc at *
      have h3 : (0 ≤ x.1 ∧ x.1 < 1000) := hx.1
      have a1 := @wc_app' S i acc (nS x.1) e (by unfold LINE; omega)
      have e1 : (S.set i (.lst (wc (acc ++ [nS x.1]))))[i]? = some (.lst (wc (acc ++ [nS x.1]))) := gs e
      have nl := wNums_len hx.2
      have b1 := @wc_add (S.set i (.lst (wc (acc ++ [nS x.1])))) i (acc ++ [nS x.1]) (wNums x.2.1) e1 (by simp; unfold LINE; omega)
      have e2 : (S.set i (.lst (wc (acc ++ [nS x.1]))) ++ [Cell.lst (wc ((acc ++ [nS x.1]) ++ wNums x.2.1))])[(S.set i (.lst (wc (acc ++ [nS x.1])))).length]? = some (.lst (wc ((acc ++ [nS x.1]) ++ wNums x.2.1))) := ga
      have a2 := @wc_app' _ _ _ (wTruth x.2.2) e2 (by simp; unfold LINE; omega)
      refine ⟨_, _, ((S.set i (.lst (wc (acc ++ [nS x.1])))) ++ [Cell.lst (wc ((acc ++ [nS x.1]) ++ wNums x.2.1))]).set (S.set i (.lst (wc (acc ++ [nS x.1])))).length (.lst (wc (((acc ++ [nS x.1]) ++ wNums x.2.1) ++ [wTruth x.2.2]))), rfl, ?_, (S.set i (.lst (wc (acc ++ [nS x.1])))).length, rfl, ?_⟩
      rotate_left
      · rw [List.flatMap_append, ← List.cons_append, ha]; show _ = some (Cell.lst (wc (acc ++ [x].flatMap wU)))
        rw [show acc ++ [x].flatMap wU = ((acc ++ [nS x.1]) ++ wNums x.2.1) ++ [wTruth x.2.2] by simp [wU]]
        exact gs e2
      unfold eU
      subst hB
      simp -implicitDefEqProofs +decide only [bind_ok, bind_ex, then_ok, then_ex, seq_nx, seq_rt, seq_ex, ite_tt, ite_ff, of_some, okOr_some, v0, v1, v2, v3, v4, v5, v6, v7, v8, v9, n0, n1, n2, n3, n4, n5, n6, n7, n8, n9, d_C, d_Op1, d_Op2, d_Mt0, d_Mt1, d_Args0, d_Args, d_Tup, d_Lst, d_LstC, tupK0, tupK1, tupK2, tupK3, tupK4, tupK9, bK_b, d_And, d_Or, d_Not, d_tE, d_tAnd, d_tOr, d_tNot, d_tYes, d_If, d_CallI, isoE_ok, isoE_ex, iso1, iso2, iso3, iso4, iso5, d_CallS, tgK_some, d_Skip, d_Seq, d_Asg, d_Expr, d_Ret, d_IfS, d_For, d_Raise, d_Drop, drop_nx, drop_rt, drop_ex, wipe0, wipeC, d_fn, fin_rt, fin_nx, fin_ex, isoR_d, isoR_ex, add_ii, add_ss, add_tt, add_ll, add_llC, sub_ii, neg_i, lt_ii, le_ii, gt_ii, ge_ii, dep_s, dep_i, dep_b, dep_n, eq_ii, eq_ss, eq_bb, ne_ss, ne_ii, ne_bb, in_dt, in_dl, notin_dt, notin_dl, isN_n, isN_i, isN_t, isN_s, isN_b, isN_l, notN_b, notN_l, notN_n, notN_i, notN_t, notN_s, t0, t1, t2, t3, l0, l1, l2, l3, len_t, len_l, str_i, int_b, tup_t, tup_l, list_lC, list_tC, list_l, list_t, rev_lC, isi_d, rc_s, d_iSeq, seqK_l, seqK_t, d_iRng1, rngK_i, d_Lc, noEx_k, newL_f, newL_t, rng_zero, len_s, d_iTxt, k_tx, d_Sl, k_Sl, k_Sl2, k_Sl3, k_pt0, k_pt1, k_pt, sl_s, d_Fld, d_Meth, d_Make, d_Store, k_Store, k_Store2, inS_1, k_Op1, k_Op2, k_Op2b, k_Mt0, k_Mt1, k_Args, k_Argsb, k_Tup, k_LstC, k_Andb, k_And, k_Orb, k_Or, k_Notb, k_Not, k_tEb, k_tE, k_tAnd, k_tOr, k_tNot, k_If, k_Asg, k_Expr, k_IfS, k_For, k_Lc, k_Lcb, List.map_cons, List.map_nil, List.cons_append, List.nil_append, List.replicate, List.set_cons_zero, List.set_cons_succ, List.all_cons, List.all_nil, Bool.and_true, Bool.true_and, Bool.and_self, and_self, eq_self, if_true, if_false, decide_true, decide_false, Bool.false_eq_true, List.any_cons, List.any_nil, List.length_nil, List.length_cons, Bool.not_true, Bool.not_false, rc_r (.inl e), rc_r (.inl e2), h3, a1, lc_nums (hx.2), b1, a2, c_truth, l_truth]

  rw [List.map_map, show (P.d ∘ eU) = (fun r => P.d (eU r)) from rfl, show [vS (nS ↑l.length)] = wc [nS l.length] from rfl, h1]
  simp -implicitDefEqProofs only [bind_ok, bind_ex, then_ok, then_ex, seq_nx, seq_rt, seq_ex, ite_tt, ite_ff, of_some, okOr_some, v0, v1, v2, v3, v4, v5, v6, v7, v8, v9, n0, n1, n2, n3, n4, n5, n6, n7, n8, n9, d_C, d_Op1, d_Op2, d_Mt0, d_Mt1, d_Args0, d_Args, d_Tup, d_Lst, d_LstC, tupK0, tupK1, tupK2, tupK3, tupK4, tupK9, bK_b, d_And, d_Or, d_Not, d_tE, d_tAnd, d_tOr, d_tNot, d_tYes, d_If, d_CallI, isoE_ok, isoE_ex, iso1, iso2, iso3, iso4, iso5, d_CallS, tgK_some, d_Skip, d_Seq, d_Asg, d_Expr, d_Ret, d_IfS, d_For, d_Raise, d_Drop, drop_nx, drop_rt, drop_ex, wipe0, wipeC, d_fn, fin_rt, fin_nx, fin_ex, isoR_d, isoR_ex, add_ii, add_ss, add_tt, add_ll, add_llC, sub_ii, neg_i, lt_ii, le_ii, gt_ii, ge_ii, dep_s, dep_i, dep_b, dep_n, eq_ii, eq_ss, eq_bb, ne_ss, ne_ii, ne_bb, in_dt, in_dl, notin_dt, notin_dl, isN_n, isN_i, isN_t, isN_s, isN_b, isN_l, notN_b, notN_l, notN_n, notN_i, notN_t, notN_s, t0, t1, t2, t3, l0, l1, l2, l3, len_t, len_l, str_i, int_b, tup_t, tup_l, list_lC, list_tC, list_l, list_t, rev_lC, isi_d, rc_s, d_iSeq, seqK_l, seqK_t, d_iRng1, rngK_i, d_Lc, noEx_k, newL_f, newL_t, rng_zero, len_s, d_iTxt, k_tx, d_Sl, k_Sl, k_Sl2, k_Sl3, k_pt0, k_pt1, k_pt, sl_s, d_Fld, d_Meth, d_Make, d_Store, k_Store, k_Store2, inS_1, k_Op1, k_Op2, k_Op2b, k_Mt0, k_Mt1, k_Args, k_Argsb, k_Tup, k_LstC, k_Andb, k_And, k_Orb, k_Or, k_Notb, k_Not, k_tEb, k_tE, k_tAnd, k_tOr, k_tNot, k_If, k_Asg, k_Expr, k_IfS, k_For, k_Lc, k_Lcb, List.map_cons, List.map_nil, List.cons_append, List.nil_append, List.replicate, List.set_cons_zero, List.set_cons_succ, List.all_cons, List.all_nil, Bool.and_true, Bool.true_and, Bool.and_self, and_self, eq_self, if_true, if_false, decide_true, decide_false, Bool.false_eq_true, List.any_cons, List.any_nil, List.length_nil, List.length_cons, Bool.not_true, Bool.not_false]
  exact isoR_r (.inl e2)
theorem lc_rows_rows {l : List (Int × List Int)} (h : l.length ≤ 200 ∧ ∀ r ∈ l, okI r.1 ∧ okNums r.2) : callI g__law_rows_words [.str "rows", .tuple (l.map eR)] = some (.inr (.list ((nS l.length :: l.flatMap wR).map .str))) := by
  have hn : (0 ≤ (l.length : Int) ∧ (l.length : Int) < 1000) := okN h.1
  unfold g__law_rows_words f__law_rows_words
  rw [d_iso]
  simp -implicitDefEqProofs only [bind_ok, bind_ex, then_ok, then_ex, seq_nx, seq_rt, seq_ex, ite_tt, ite_ff, of_some, okOr_some, v0, v1, v2, v3, v4, v5, v6, v7, v8, v9, n0, n1, n2, n3, n4, n5, n6, n7, n8, n9, d_C, d_Op1, d_Op2, d_Mt0, d_Mt1, d_Args0, d_Args, d_Tup, d_Lst, d_LstC, tupK0, tupK1, tupK2, tupK3, tupK4, tupK9, bK_b, d_And, d_Or, d_Not, d_tE, d_tAnd, d_tOr, d_tNot, d_tYes, d_If, d_CallI, isoE_ok, isoE_ex, iso1, iso2, iso3, iso4, iso5, d_CallS, tgK_some, d_Skip, d_Seq, d_Asg, d_Expr, d_Ret, d_IfS, d_For, d_Raise, d_Drop, drop_nx, drop_rt, drop_ex, wipe0, wipeC, d_fn, fin_rt, fin_nx, fin_ex, isoR_d, isoR_ex, add_ii, add_ss, add_tt, add_ll, add_llC, sub_ii, neg_i, lt_ii, le_ii, gt_ii, ge_ii, dep_s, dep_i, dep_b, dep_n, eq_ii, eq_ss, eq_bb, ne_ss, ne_ii, ne_bb, in_dt, in_dl, notin_dt, notin_dl, isN_n, isN_i, isN_t, isN_s, isN_b, isN_l, notN_b, notN_l, notN_n, notN_i, notN_t, notN_s, t0, t1, t2, t3, l0, l1, l2, l3, len_t, len_l, str_i, int_b, tup_t, tup_l, list_lC, list_tC, list_l, list_t, rev_lC, isi_d, rc_s, d_iSeq, seqK_l, seqK_t, d_iRng1, rngK_i, d_Lc, noEx_k, newL_f, newL_t, rng_zero, len_s, d_iTxt, k_tx, d_Sl, k_Sl, k_Sl2, k_Sl3, k_pt0, k_pt1, k_pt, sl_s, d_Fld, d_Meth, d_Make, d_Store, k_Store, k_Store2, inS_1, k_Op1, k_Op2, k_Op2b, k_Mt0, k_Mt1, k_Args, k_Argsb, k_Tup, k_LstC, k_Andb, k_And, k_Orb, k_Or, k_Notb, k_Not, k_tEb, k_tE, k_tAnd, k_tOr, k_tNot, k_If, k_Asg, k_Expr, k_IfS, k_For, k_Lc, k_Lcb, List.map_cons, List.map_nil, List.cons_append, List.nil_append, List.replicate, List.set_cons_zero, List.set_cons_succ, List.all_cons, List.all_nil, Bool.and_true, Bool.true_and, Bool.and_self, and_self, eq_self, if_true, if_false, decide_true, decide_false, Bool.false_eq_true, List.any_cons, List.any_nil, List.length_nil, List.length_cons, Bool.not_true, Bool.not_false, List.length_map, hn]
  generalize hB : sDrop _ [3] = B
  obtain ⟨ρ2, S2, h1, i, rfl, e2⟩ := for_inv0 (g := gN 3) (b := B) (f := fun r => P.d (eR r)) (l := l) (ρ := [some (vS "rows"), some (vT (l.map eR)), some (.r 0), none]) (S := [.lst (wc [nS l.length])])
    (fun pre ρ S => ∃ i, ρ = [some (vS "rows"), some (vT (l.map eR)), some (.r i), none] ∧ S[i]? = some (.lst (wc (nS l.length :: pre.flatMap wR)))) ⟨0, rfl, rfl⟩ fun pre x post ρ S hl hI => by
      obtain ⟨i, rfl, e⟩ := hI
      have hx := h.2 x (by rw [hl]; simp)
      have hpl : pre.length ≤ 200 := by have := h.1; rw [hl] at this; simp at this; omega
      have hfl := flat_len (w := wR) (c := 203) pre fun y hy => by
        have hy : y ∈ l := by rw [hl]; simp [hy]
        exact wR_len (h.2 y hy).2
      have hal : (nS l.length :: pre.flatMap wR).length ≤ 40601 := by simp only [List.length_cons]; omega
      generalize ha : nS (l.length : Int) :: pre.flatMap wR = acc at *
      have h3 : (0 ≤ x.1 ∧ x.1 < 1000) := hx.1
      have a1 := @wc_app' S i acc (nS x.1) e (by unfold LINE; omega)
      have e1 : (S.set i (.lst (wc (acc ++ [nS x.1]))))[i]? = some (.lst (wc (acc ++ [nS x.1]))) := gs e
      have nl := wNums_len hx.2
      have b1 := @wc_add (S.set i (.lst (wc (acc ++ [nS x.1])))) i (acc ++ [nS x.1]) (wNums x.2) e1 (by simp; unfold LINE; omega)
      refine ⟨_, _, (S.set i (.lst (wc (acc ++ [nS x.1])))) ++ [Cell.lst (wc ((acc ++ [nS x.1]) ++ wNums x.2))], rfl, ?_, (S.set i (.lst (wc (acc ++ [nS x.1])))).length, rfl, ?_⟩
      rotate_left
      · rw [List.flatMap_append, ← List.cons_append, ha]; show _ = some (Cell.lst (wc (acc ++ [x].flatMap wR)))
        rw [show acc ++ [x].flatMap wR = (acc ++ [nS x.1]) ++ wNums x.2 by simp [wR]]
        exact ga
      unfold eR
      subst hB
      simp -implicitDefEqProofs +decide only [bind_ok, bind_ex, then_ok, then_ex, seq_nx, seq_rt, seq_ex, ite_tt, ite_ff, of_some, okOr_some, v0, v1, v2, v3, v4, v5, v6, v7, v8, v9, n0, n1, n2, n3, n4, n5, n6, n7, n8, n9, d_C, d_Op1, d_Op2, d_Mt0, d_Mt1, d_Args0, d_Args, d_Tup, d_Lst, d_LstC, tupK0, tupK1, tupK2, tupK3, tupK4, tupK9, bK_b, d_And, d_Or, d_Not, d_tE, d_tAnd, d_tOr, d_tNot, d_tYes, d_If, d_CallI, isoE_ok, isoE_ex, iso1, iso2, iso3, iso4, iso5, d_CallS, tgK_some, d_Skip, d_Seq, d_Asg, d_Expr, d_Ret, d_IfS, d_For, d_Raise, d_Drop, drop_nx, drop_rt, drop_ex, wipe0, wipeC, d_fn, fin_rt, fin_nx, fin_ex, isoR_d, isoR_ex, add_ii, add_ss, add_tt, add_ll, add_llC, sub_ii, neg_i, lt_ii, le_ii, gt_ii, ge_ii, dep_s, dep_i, dep_b, dep_n, eq_ii, eq_ss, eq_bb, ne_ss, ne_ii, ne_bb, in_dt, in_dl, notin_dt, notin_dl, isN_n, isN_i, isN_t, isN_s, isN_b, isN_l, notN_b, notN_l, notN_n, notN_i, notN_t, notN_s, t0, t1, t2, t3, l0, l1, l2, l3, len_t, len_l, str_i, int_b, tup_t, tup_l, list_lC, list_tC, list_l, list_t, rev_lC, isi_d, rc_s, d_iSeq, seqK_l, seqK_t, d_iRng1, rngK_i, d_Lc, noEx_k, newL_f, newL_t, rng_zero, len_s, d_iTxt, k_tx, d_Sl, k_Sl, k_Sl2, k_Sl3, k_pt0, k_pt1, k_pt, sl_s, d_Fld, d_Meth, d_Make, d_Store, k_Store, k_Store2, inS_1, k_Op1, k_Op2, k_Op2b, k_Mt0, k_Mt1, k_Args, k_Argsb, k_Tup, k_LstC, k_Andb, k_And, k_Orb, k_Or, k_Notb, k_Not, k_tEb, k_tE, k_tAnd, k_tOr, k_tNot, k_If, k_Asg, k_Expr, k_IfS, k_For, k_Lc, k_Lcb, List.map_cons, List.map_nil, List.cons_append, List.nil_append, List.replicate, List.set_cons_zero, List.set_cons_succ, List.all_cons, List.all_nil, Bool.and_true, Bool.true_and, Bool.and_self, and_self, eq_self, if_true, if_false, decide_true, decide_false, Bool.false_eq_true, List.any_cons, List.any_nil, List.length_nil, List.length_cons, Bool.not_true, Bool.not_false, rc_r (.inl e), h3, a1, lc_nums (hx.2), b1, c_truth, l_truth]

  rw [List.map_map, show (P.d ∘ eR) = (fun r => P.d (eR r)) from rfl, show [vS (nS ↑l.length)] = wc [nS l.length] from rfl, h1]
  simp -implicitDefEqProofs only [bind_ok, bind_ex, then_ok, then_ex, seq_nx, seq_rt, seq_ex, ite_tt, ite_ff, of_some, okOr_some, v0, v1, v2, v3, v4, v5, v6, v7, v8, v9, n0, n1, n2, n3, n4, n5, n6, n7, n8, n9, d_C, d_Op1, d_Op2, d_Mt0, d_Mt1, d_Args0, d_Args, d_Tup, d_Lst, d_LstC, tupK0, tupK1, tupK2, tupK3, tupK4, tupK9, bK_b, d_And, d_Or, d_Not, d_tE, d_tAnd, d_tOr, d_tNot, d_tYes, d_If, d_CallI, isoE_ok, isoE_ex, iso1, iso2, iso3, iso4, iso5, d_CallS, tgK_some, d_Skip, d_Seq, d_Asg, d_Expr, d_Ret, d_IfS, d_For, d_Raise, d_Drop, drop_nx, drop_rt, drop_ex, wipe0, wipeC, d_fn, fin_rt, fin_nx, fin_ex, isoR_d, isoR_ex, add_ii, add_ss, add_tt, add_ll, add_llC, sub_ii, neg_i, lt_ii, le_ii, gt_ii, ge_ii, dep_s, dep_i, dep_b, dep_n, eq_ii, eq_ss, eq_bb, ne_ss, ne_ii, ne_bb, in_dt, in_dl, notin_dt, notin_dl, isN_n, isN_i, isN_t, isN_s, isN_b, isN_l, notN_b, notN_l, notN_n, notN_i, notN_t, notN_s, t0, t1, t2, t3, l0, l1, l2, l3, len_t, len_l, str_i, int_b, tup_t, tup_l, list_lC, list_tC, list_l, list_t, rev_lC, isi_d, rc_s, d_iSeq, seqK_l, seqK_t, d_iRng1, rngK_i, d_Lc, noEx_k, newL_f, newL_t, rng_zero, len_s, d_iTxt, k_tx, d_Sl, k_Sl, k_Sl2, k_Sl3, k_pt0, k_pt1, k_pt, sl_s, d_Fld, d_Meth, d_Make, d_Store, k_Store, k_Store2, inS_1, k_Op1, k_Op2, k_Op2b, k_Mt0, k_Mt1, k_Args, k_Argsb, k_Tup, k_LstC, k_Andb, k_And, k_Orb, k_Or, k_Notb, k_Not, k_tEb, k_tE, k_tAnd, k_tOr, k_tNot, k_If, k_Asg, k_Expr, k_IfS, k_For, k_Lc, k_Lcb, List.map_cons, List.map_nil, List.cons_append, List.nil_append, List.replicate, List.set_cons_zero, List.set_cons_succ, List.all_cons, List.all_nil, Bool.and_true, Bool.true_and, Bool.and_self, and_self, eq_self, if_true, if_false, decide_true, decide_false, Bool.false_eq_true, List.any_cons, List.any_nil, List.length_nil, List.length_cons, Bool.not_true, Bool.not_false]
  exact isoR_r (.inl e2)
theorem all_s : List.all [PyData.str "clash", .str "late"] (dep 60) = true := by decide
/-! the words of a paper -/
theorem c_paper {p : Pap} (h : p.Ok) : callI g_paper_words [p.enc] = some (.inr (.list (p.words.map .str))) := by
  unfold g_paper_words f_paper_words
  rw [d_iso]
  cases p with
  | broken => simp -implicitDefEqProofs +decide only [bind_ok, bind_ex, then_ok, then_ex, seq_nx, seq_rt, seq_ex, ite_tt, ite_ff, of_some, okOr_some, v0, v1, v2, v3, v4, v5, v6, v7, v8, v9, n0, n1, n2, n3, n4, n5, n6, n7, n8, n9, d_C, d_Op1, d_Op2, d_Mt0, d_Mt1, d_Args0, d_Args, d_Tup, d_Lst, d_LstC, tupK0, tupK1, tupK2, tupK3, tupK4, tupK9, bK_b, d_And, d_Or, d_Not, d_tE, d_tAnd, d_tOr, d_tNot, d_tYes, d_If, d_CallI, isoE_ok, isoE_ex, iso1, iso2, iso3, iso4, iso5, d_CallS, tgK_some, d_Skip, d_Seq, d_Asg, d_Expr, d_Ret, d_IfS, d_For, d_Raise, d_Drop, drop_nx, drop_rt, drop_ex, wipe0, wipeC, d_fn, fin_rt, fin_nx, fin_ex, isoR_d, isoR_ex, add_ii, add_ss, add_tt, add_ll, add_llC, sub_ii, neg_i, lt_ii, le_ii, gt_ii, ge_ii, dep_s, dep_i, dep_b, dep_n, eq_ii, eq_ss, eq_bb, ne_ss, ne_ii, ne_bb, in_dt, in_dl, notin_dt, notin_dl, isN_n, isN_i, isN_t, isN_s, isN_b, isN_l, notN_b, notN_l, notN_n, notN_i, notN_t, notN_s, t0, t1, t2, t3, l0, l1, l2, l3, len_t, len_l, str_i, int_b, tup_t, tup_l, list_lC, list_tC, list_l, list_t, rev_lC, isi_d, rc_s, d_iSeq, seqK_l, seqK_t, d_iRng1, rngK_i, d_Lc, noEx_k, newL_f, newL_t, rng_zero, len_s, d_iTxt, k_tx, d_Sl, k_Sl, k_Sl2, k_Sl3, k_pt0, k_pt1, k_pt, sl_s, d_Fld, d_Meth, d_Make, d_Store, k_Store, k_Store2, inS_1, k_Op1, k_Op2, k_Op2b, k_Mt0, k_Mt1, k_Args, k_Argsb, k_Tup, k_LstC, k_Andb, k_And, k_Orb, k_Or, k_Notb, k_Not, k_tEb, k_tE, k_tAnd, k_tOr, k_tNot, k_If, k_Asg, k_Expr, k_IfS, k_For, k_Lc, k_Lcb, List.map_cons, List.map_nil, List.cons_append, List.nil_append, List.replicate, List.set_cons_zero, List.set_cons_succ, List.all_cons, List.all_nil, Bool.and_true, Bool.true_and, Bool.and_self, and_self, eq_self, if_true, if_false, decide_true, decide_false, Bool.false_eq_true, List.any_cons, List.any_nil, List.length_nil, List.length_cons, Bool.not_true, Bool.not_false, Pap.enc, Pap.nm, Pap.args, Pap.words, PyData.eqv, Bool.or_false]
  | clash a b =>
    have hl : ((wRoad a).length + (wRoad b).length ≤ LINE) = True := eq_true (by have := wRoad_len h.1; have := wRoad_len h.2; unfold LINE; omega)
    simp -implicitDefEqProofs +decide only [bind_ok, bind_ex, then_ok, then_ex, seq_nx, seq_rt, seq_ex, ite_tt, ite_ff, of_some, okOr_some, v0, v1, v2, v3, v4, v5, v6, v7, v8, v9, n0, n1, n2, n3, n4, n5, n6, n7, n8, n9, d_C, d_Op1, d_Op2, d_Mt0, d_Mt1, d_Args0, d_Args, d_Tup, d_Lst, d_LstC, tupK0, tupK1, tupK2, tupK3, tupK4, tupK9, bK_b, d_And, d_Or, d_Not, d_tE, d_tAnd, d_tOr, d_tNot, d_tYes, d_If, d_CallI, isoE_ok, isoE_ex, iso1, iso2, iso3, iso4, iso5, d_CallS, tgK_some, d_Skip, d_Seq, d_Asg, d_Expr, d_Ret, d_IfS, d_For, d_Raise, d_Drop, drop_nx, drop_rt, drop_ex, wipe0, wipeC, d_fn, fin_rt, fin_nx, fin_ex, isoR_d, isoR_ex, add_ii, add_ss, add_tt, add_ll, add_llC, sub_ii, neg_i, lt_ii, le_ii, gt_ii, ge_ii, dep_s, dep_i, dep_b, dep_n, eq_ii, eq_ss, eq_bb, ne_ss, ne_ii, ne_bb, in_dt, in_dl, notin_dt, notin_dl, isN_n, isN_i, isN_t, isN_s, isN_b, isN_l, notN_b, notN_l, notN_n, notN_i, notN_t, notN_s, t0, t1, t2, t3, l0, l1, l2, l3, len_t, len_l, str_i, int_b, tup_t, tup_l, list_lC, list_tC, list_l, list_t, rev_lC, isi_d, rc_s, d_iSeq, seqK_l, seqK_t, d_iRng1, rngK_i, d_Lc, noEx_k, newL_f, newL_t, rng_zero, len_s, d_iTxt, k_tx, d_Sl, k_Sl, k_Sl2, k_Sl3, k_pt0, k_pt1, k_pt, sl_s, d_Fld, d_Meth, d_Make, d_Store, k_Store, k_Store2, inS_1, k_Op1, k_Op2, k_Op2b, k_Mt0, k_Mt1, k_Args, k_Argsb, k_Tup, k_LstC, k_Andb, k_And, k_Orb, k_Or, k_Notb, k_Not, k_tEb, k_tE, k_tAnd, k_tOr, k_tNot, k_If, k_Asg, k_Expr, k_IfS, k_For, k_Lc, k_Lcb, List.map_cons, List.map_nil, List.cons_append, List.nil_append, List.replicate, List.set_cons_zero, List.set_cons_succ, List.all_cons, List.all_nil, Bool.and_true, Bool.true_and, Bool.and_self, and_self, eq_self, if_true, if_false, decide_true, decide_false, Bool.false_eq_true, List.any_cons, List.any_nil, List.length_nil, List.length_cons, Bool.not_true, Bool.not_false, Pap.enc, Pap.nm, Pap.args, Pap.words, PyData.eqv, Bool.or_false, c_road h.1, c_road h.2, List.length_map, hl, List.map_append]
  | late a b =>
    have hl : ((wRoad a).length + (wRoad b).length ≤ LINE) = True := eq_true (by have := wRoad_len h.1; have := wRoad_len h.2; unfold LINE; omega)
    simp -implicitDefEqProofs +decide only [bind_ok, bind_ex, then_ok, then_ex, seq_nx, seq_rt, seq_ex, ite_tt, ite_ff, of_some, okOr_some, v0, v1, v2, v3, v4, v5, v6, v7, v8, v9, n0, n1, n2, n3, n4, n5, n6, n7, n8, n9, d_C, d_Op1, d_Op2, d_Mt0, d_Mt1, d_Args0, d_Args, d_Tup, d_Lst, d_LstC, tupK0, tupK1, tupK2, tupK3, tupK4, tupK9, bK_b, d_And, d_Or, d_Not, d_tE, d_tAnd, d_tOr, d_tNot, d_tYes, d_If, d_CallI, isoE_ok, isoE_ex, iso1, iso2, iso3, iso4, iso5, d_CallS, tgK_some, d_Skip, d_Seq, d_Asg, d_Expr, d_Ret, d_IfS, d_For, d_Raise, d_Drop, drop_nx, drop_rt, drop_ex, wipe0, wipeC, d_fn, fin_rt, fin_nx, fin_ex, isoR_d, isoR_ex, add_ii, add_ss, add_tt, add_ll, add_llC, sub_ii, neg_i, lt_ii, le_ii, gt_ii, ge_ii, dep_s, dep_i, dep_b, dep_n, eq_ii, eq_ss, eq_bb, ne_ss, ne_ii, ne_bb, in_dt, in_dl, notin_dt, notin_dl, isN_n, isN_i, isN_t, isN_s, isN_b, isN_l, notN_b, notN_l, notN_n, notN_i, notN_t, notN_s, t0, t1, t2, t3, l0, l1, l2, l3, len_t, len_l, str_i, int_b, tup_t, tup_l, list_lC, list_tC, list_l, list_t, rev_lC, isi_d, rc_s, d_iSeq, seqK_l, seqK_t, d_iRng1, rngK_i, d_Lc, noEx_k, newL_f, newL_t, rng_zero, len_s, d_iTxt, k_tx, d_Sl, k_Sl, k_Sl2, k_Sl3, k_pt0, k_pt1, k_pt, sl_s, d_Fld, d_Meth, d_Make, d_Store, k_Store, k_Store2, inS_1, k_Op1, k_Op2, k_Op2b, k_Mt0, k_Mt1, k_Args, k_Argsb, k_Tup, k_LstC, k_Andb, k_And, k_Orb, k_Or, k_Notb, k_Not, k_tEb, k_tE, k_tAnd, k_tOr, k_tNot, k_If, k_Asg, k_Expr, k_IfS, k_For, k_Lc, k_Lcb, List.map_cons, List.map_nil, List.cons_append, List.nil_append, List.replicate, List.set_cons_zero, List.set_cons_succ, List.all_cons, List.all_nil, Bool.and_true, Bool.true_and, Bool.and_self, and_self, eq_self, if_true, if_false, decide_true, decide_false, Bool.false_eq_true, List.any_cons, List.any_nil, List.length_nil, List.length_cons, Bool.not_true, Bool.not_false, Pap.enc, Pap.nm, Pap.args, Pap.words, PyData.eqv, Bool.or_false, c_road h.1, c_road h.2, List.length_map, hl, List.map_append]
  | cross a => simp -implicitDefEqProofs +decide only [bind_ok, bind_ex, then_ok, then_ex, seq_nx, seq_rt, seq_ex, ite_tt, ite_ff, of_some, okOr_some, v0, v1, v2, v3, v4, v5, v6, v7, v8, v9, n0, n1, n2, n3, n4, n5, n6, n7, n8, n9, d_C, d_Op1, d_Op2, d_Mt0, d_Mt1, d_Args0, d_Args, d_Tup, d_Lst, d_LstC, tupK0, tupK1, tupK2, tupK3, tupK4, tupK9, bK_b, d_And, d_Or, d_Not, d_tE, d_tAnd, d_tOr, d_tNot, d_tYes, d_If, d_CallI, isoE_ok, isoE_ex, iso1, iso2, iso3, iso4, iso5, d_CallS, tgK_some, d_Skip, d_Seq, d_Asg, d_Expr, d_Ret, d_IfS, d_For, d_Raise, d_Drop, drop_nx, drop_rt, drop_ex, wipe0, wipeC, d_fn, fin_rt, fin_nx, fin_ex, isoR_d, isoR_ex, add_ii, add_ss, add_tt, add_ll, add_llC, sub_ii, neg_i, lt_ii, le_ii, gt_ii, ge_ii, dep_s, dep_i, dep_b, dep_n, eq_ii, eq_ss, eq_bb, ne_ss, ne_ii, ne_bb, in_dt, in_dl, notin_dt, notin_dl, isN_n, isN_i, isN_t, isN_s, isN_b, isN_l, notN_b, notN_l, notN_n, notN_i, notN_t, notN_s, t0, t1, t2, t3, l0, l1, l2, l3, len_t, len_l, str_i, int_b, tup_t, tup_l, list_lC, list_tC, list_l, list_t, rev_lC, isi_d, rc_s, d_iSeq, seqK_l, seqK_t, d_iRng1, rngK_i, d_Lc, noEx_k, newL_f, newL_t, rng_zero, len_s, d_iTxt, k_tx, d_Sl, k_Sl, k_Sl2, k_Sl3, k_pt0, k_pt1, k_pt, sl_s, d_Fld, d_Meth, d_Make, d_Store, k_Store, k_Store2, inS_1, k_Op1, k_Op2, k_Op2b, k_Mt0, k_Mt1, k_Args, k_Argsb, k_Tup, k_LstC, k_Andb, k_And, k_Orb, k_Or, k_Notb, k_Not, k_tEb, k_tE, k_tAnd, k_tOr, k_tNot, k_If, k_Asg, k_Expr, k_IfS, k_For, k_Lc, k_Lcb, List.map_cons, List.map_nil, List.cons_append, List.nil_append, List.replicate, List.set_cons_zero, List.set_cons_succ, List.all_cons, List.all_nil, Bool.and_true, Bool.true_and, Bool.and_self, and_self, eq_self, if_true, if_false, decide_true, decide_false, Bool.false_eq_true, List.any_cons, List.any_nil, List.length_nil, List.length_cons, Bool.not_true, Bool.not_false, Pap.enc, Pap.nm, Pap.args, Pap.words, PyData.eqv, Bool.or_false, c_road h]
  | odd a => simp -implicitDefEqProofs +decide only [bind_ok, bind_ex, then_ok, then_ex, seq_nx, seq_rt, seq_ex, ite_tt, ite_ff, of_some, okOr_some, v0, v1, v2, v3, v4, v5, v6, v7, v8, v9, n0, n1, n2, n3, n4, n5, n6, n7, n8, n9, d_C, d_Op1, d_Op2, d_Mt0, d_Mt1, d_Args0, d_Args, d_Tup, d_Lst, d_LstC, tupK0, tupK1, tupK2, tupK3, tupK4, tupK9, bK_b, d_And, d_Or, d_Not, d_tE, d_tAnd, d_tOr, d_tNot, d_tYes, d_If, d_CallI, isoE_ok, isoE_ex, iso1, iso2, iso3, iso4, iso5, d_CallS, tgK_some, d_Skip, d_Seq, d_Asg, d_Expr, d_Ret, d_IfS, d_For, d_Raise, d_Drop, drop_nx, drop_rt, drop_ex, wipe0, wipeC, d_fn, fin_rt, fin_nx, fin_ex, isoR_d, isoR_ex, add_ii, add_ss, add_tt, add_ll, add_llC, sub_ii, neg_i, lt_ii, le_ii, gt_ii, ge_ii, dep_s, dep_i, dep_b, dep_n, eq_ii, eq_ss, eq_bb, ne_ss, ne_ii, ne_bb, in_dt, in_dl, notin_dt, notin_dl, isN_n, isN_i, isN_t, isN_s, isN_b, isN_l, notN_b, notN_l, notN_n, notN_i, notN_t, notN_s, t0, t1, t2, t3, l0, l1, l2, l3, len_t, len_l, str_i, int_b, tup_t, tup_l, list_lC, list_tC, list_l, list_t, rev_lC, isi_d, rc_s, d_iSeq, seqK_l, seqK_t, d_iRng1, rngK_i, d_Lc, noEx_k, newL_f, newL_t, rng_zero, len_s, d_iTxt, k_tx, d_Sl, k_Sl, k_Sl2, k_Sl3, k_pt0, k_pt1, k_pt, sl_s, d_Fld, d_Meth, d_Make, d_Store, k_Store, k_Store2, inS_1, k_Op1, k_Op2, k_Op2b, k_Mt0, k_Mt1, k_Args, k_Argsb, k_Tup, k_LstC, k_Andb, k_And, k_Orb, k_Or, k_Notb, k_Not, k_tEb, k_tE, k_tAnd, k_tOr, k_tNot, k_If, k_Asg, k_Expr, k_IfS, k_For, k_Lc, k_Lcb, List.map_cons, List.map_nil, List.cons_append, List.nil_append, List.replicate, List.set_cons_zero, List.set_cons_succ, List.all_cons, List.all_nil, Bool.and_true, Bool.true_and, Bool.and_self, and_self, eq_self, if_true, if_false, decide_true, decide_false, Bool.false_eq_true, List.any_cons, List.any_nil, List.length_nil, List.length_cons, Bool.not_true, Bool.not_false, Pap.enc, Pap.nm, Pap.args, Pap.words, PyData.eqv, Bool.or_false, c_nums h]
  | lone f a b =>
    have hl : ([PyData.str (wFree f)].length + ((wNums a).map PyData.str).length ≤ LINE) = True := eq_true (by have := wNums_len h.2.1; simp only [List.length_cons, List.length_append, List.length_nil, List.length_map]; unfold LINE; omega)
    have hl2 : (([PyData.str (wFree f)] ++ (wNums a).map PyData.str).length + ((wNums b).map PyData.str).length ≤ LINE) = True := eq_true (by have := wNums_len h.2.1; have := wNums_len h.2.2; simp only [List.length_cons, List.length_append, List.length_nil, List.length_map]; unfold LINE; omega)
    simp -implicitDefEqProofs only [bind_ok, bind_ex, then_ok, then_ex, seq_nx, seq_rt, seq_ex, ite_tt, ite_ff, of_some, okOr_some, v0, v1, v2, v3, v4, v5, v6, v7, v8, v9, n0, n1, n2, n3, n4, n5, n6, n7, n8, n9, d_C, d_Op1, d_Op2, d_Mt0, d_Mt1, d_Args0, d_Args, d_Tup, d_Lst, d_LstC, tupK0, tupK1, tupK2, tupK3, tupK4, tupK9, bK_b, d_And, d_Or, d_Not, d_tE, d_tAnd, d_tOr, d_tNot, d_tYes, d_If, d_CallI, isoE_ok, isoE_ex, iso1, iso2, iso3, iso4, iso5, d_CallS, tgK_some, d_Skip, d_Seq, d_Asg, d_Expr, d_Ret, d_IfS, d_For, d_Raise, d_Drop, drop_nx, drop_rt, drop_ex, wipe0, wipeC, d_fn, fin_rt, fin_nx, fin_ex, isoR_d, isoR_ex, add_ii, add_ss, add_tt, add_ll, add_llC, sub_ii, neg_i, lt_ii, le_ii, gt_ii, ge_ii, dep_s, dep_i, dep_b, dep_n, eq_ii, eq_ss, eq_bb, ne_ss, ne_ii, ne_bb, in_dt, in_dl, notin_dt, notin_dl, isN_n, isN_i, isN_t, isN_s, isN_b, isN_l, notN_b, notN_l, notN_n, notN_i, notN_t, notN_s, t0, t1, t2, t3, l0, l1, l2, l3, len_t, len_l, str_i, int_b, tup_t, tup_l, list_lC, list_tC, list_l, list_t, rev_lC, isi_d, rc_s, d_iSeq, seqK_l, seqK_t, d_iRng1, rngK_i, d_Lc, noEx_k, newL_f, newL_t, rng_zero, len_s, d_iTxt, k_tx, d_Sl, k_Sl, k_Sl2, k_Sl3, k_pt0, k_pt1, k_pt, sl_s, d_Fld, d_Meth, d_Make, d_Store, k_Store, k_Store2, inS_1, k_Op1, k_Op2, k_Op2b, k_Mt0, k_Mt1, k_Args, k_Argsb, k_Tup, k_LstC, k_Andb, k_And, k_Orb, k_Or, k_Notb, k_Not, k_tEb, k_tE, k_tAnd, k_tOr, k_tNot, k_If, k_Asg, k_Expr, k_IfS, k_For, k_Lc, k_Lcb, List.map_cons, List.map_nil, List.cons_append, List.nil_append, List.replicate, List.set_cons_zero, List.set_cons_succ, List.all_cons, List.all_nil, Bool.and_true, Bool.true_and, Bool.and_self, and_self, eq_self, if_true, if_false, decide_true, decide_false, Bool.false_eq_true, List.any_cons, List.any_nil, List.length_nil, List.length_cons, Bool.not_true, Bool.not_false, List.length_map] at hl hl2
    simp -implicitDefEqProofs +decide only [bind_ok, bind_ex, then_ok, then_ex, seq_nx, seq_rt, seq_ex, ite_tt, ite_ff, of_some, okOr_some, v0, v1, v2, v3, v4, v5, v6, v7, v8, v9, n0, n1, n2, n3, n4, n5, n6, n7, n8, n9, d_C, d_Op1, d_Op2, d_Mt0, d_Mt1, d_Args0, d_Args, d_Tup, d_Lst, d_LstC, tupK0, tupK1, tupK2, tupK3, tupK4, tupK9, bK_b, d_And, d_Or, d_Not, d_tE, d_tAnd, d_tOr, d_tNot, d_tYes, d_If, d_CallI, isoE_ok, isoE_ex, iso1, iso2, iso3, iso4, iso5, d_CallS, tgK_some, d_Skip, d_Seq, d_Asg, d_Expr, d_Ret, d_IfS, d_For, d_Raise, d_Drop, drop_nx, drop_rt, drop_ex, wipe0, wipeC, d_fn, fin_rt, fin_nx, fin_ex, isoR_d, isoR_ex, add_ii, add_ss, add_tt, add_ll, add_llC, sub_ii, neg_i, lt_ii, le_ii, gt_ii, ge_ii, dep_s, dep_i, dep_b, dep_n, eq_ii, eq_ss, eq_bb, ne_ss, ne_ii, ne_bb, in_dt, in_dl, notin_dt, notin_dl, isN_n, isN_i, isN_t, isN_s, isN_b, isN_l, notN_b, notN_l, notN_n, notN_i, notN_t, notN_s, t0, t1, t2, t3, l0, l1, l2, l3, len_t, len_l, str_i, int_b, tup_t, tup_l, list_lC, list_tC, list_l, list_t, rev_lC, isi_d, rc_s, d_iSeq, seqK_l, seqK_t, d_iRng1, rngK_i, d_Lc, noEx_k, newL_f, newL_t, rng_zero, len_s, d_iTxt, k_tx, d_Sl, k_Sl, k_Sl2, k_Sl3, k_pt0, k_pt1, k_pt, sl_s, d_Fld, d_Meth, d_Make, d_Store, k_Store, k_Store2, inS_1, k_Op1, k_Op2, k_Op2b, k_Mt0, k_Mt1, k_Args, k_Argsb, k_Tup, k_LstC, k_Andb, k_And, k_Orb, k_Or, k_Notb, k_Not, k_tEb, k_tE, k_tAnd, k_tOr, k_tNot, k_If, k_Asg, k_Expr, k_IfS, k_For, k_Lc, k_Lcb, List.map_cons, List.map_nil, List.cons_append, List.nil_append, List.replicate, List.set_cons_zero, List.set_cons_succ, List.all_cons, List.all_nil, Bool.and_true, Bool.true_and, Bool.and_self, and_self, eq_self, if_true, if_false, decide_true, decide_false, Bool.false_eq_true, List.any_cons, List.any_nil, List.length_nil, List.length_cons, Bool.not_true, Bool.not_false, Pap.enc, Pap.nm, Pap.args, Pap.words, PyData.eqv, Bool.or_false, c_nums h.2.1, c_nums h.2.2, c_free h.1, List.length_map, hl, hl2, List.map_append]
  | plan l => simp -implicitDefEqProofs +decide only [bind_ok, bind_ex, then_ok, then_ex, seq_nx, seq_rt, seq_ex, ite_tt, ite_ff, of_some, okOr_some, v0, v1, v2, v3, v4, v5, v6, v7, v8, v9, n0, n1, n2, n3, n4, n5, n6, n7, n8, n9, d_C, d_Op1, d_Op2, d_Mt0, d_Mt1, d_Args0, d_Args, d_Tup, d_Lst, d_LstC, tupK0, tupK1, tupK2, tupK3, tupK4, tupK9, bK_b, d_And, d_Or, d_Not, d_tE, d_tAnd, d_tOr, d_tNot, d_tYes, d_If, d_CallI, isoE_ok, isoE_ex, iso1, iso2, iso3, iso4, iso5, d_CallS, tgK_some, d_Skip, d_Seq, d_Asg, d_Expr, d_Ret, d_IfS, d_For, d_Raise, d_Drop, drop_nx, drop_rt, drop_ex, wipe0, wipeC, d_fn, fin_rt, fin_nx, fin_ex, isoR_d, isoR_ex, add_ii, add_ss, add_tt, add_ll, add_llC, sub_ii, neg_i, lt_ii, le_ii, gt_ii, ge_ii, dep_s, dep_i, dep_b, dep_n, eq_ii, eq_ss, eq_bb, ne_ss, ne_ii, ne_bb, in_dt, in_dl, notin_dt, notin_dl, isN_n, isN_i, isN_t, isN_s, isN_b, isN_l, notN_b, notN_l, notN_n, notN_i, notN_t, notN_s, t0, t1, t2, t3, l0, l1, l2, l3, len_t, len_l, str_i, int_b, tup_t, tup_l, list_lC, list_tC, list_l, list_t, rev_lC, isi_d, rc_s, d_iSeq, seqK_l, seqK_t, d_iRng1, rngK_i, d_Lc, noEx_k, newL_f, newL_t, rng_zero, len_s, d_iTxt, k_tx, d_Sl, k_Sl, k_Sl2, k_Sl3, k_pt0, k_pt1, k_pt, sl_s, d_Fld, d_Meth, d_Make, d_Store, k_Store, k_Store2, inS_1, k_Op1, k_Op2, k_Op2b, k_Mt0, k_Mt1, k_Args, k_Argsb, k_Tup, k_LstC, k_Andb, k_And, k_Orb, k_Or, k_Notb, k_Not, k_tEb, k_tE, k_tAnd, k_tOr, k_tNot, k_If, k_Asg, k_Expr, k_IfS, k_For, k_Lc, k_Lcb, List.map_cons, List.map_nil, List.cons_append, List.nil_append, List.replicate, List.set_cons_zero, List.set_cons_succ, List.all_cons, List.all_nil, Bool.and_true, Bool.true_and, Bool.and_self, and_self, eq_self, if_true, if_false, decide_true, decide_false, Bool.false_eq_true, List.any_cons, List.any_nil, List.length_nil, List.length_cons, Bool.not_true, Bool.not_false, Pap.enc, Pap.nm, Pap.args, Pap.words, PyData.eqv, Bool.or_false, c_rows_plan h]
  | sums l => simp -implicitDefEqProofs +decide only [bind_ok, bind_ex, then_ok, then_ex, seq_nx, seq_rt, seq_ex, ite_tt, ite_ff, of_some, okOr_some, v0, v1, v2, v3, v4, v5, v6, v7, v8, v9, n0, n1, n2, n3, n4, n5, n6, n7, n8, n9, d_C, d_Op1, d_Op2, d_Mt0, d_Mt1, d_Args0, d_Args, d_Tup, d_Lst, d_LstC, tupK0, tupK1, tupK2, tupK3, tupK4, tupK9, bK_b, d_And, d_Or, d_Not, d_tE, d_tAnd, d_tOr, d_tNot, d_tYes, d_If, d_CallI, isoE_ok, isoE_ex, iso1, iso2, iso3, iso4, iso5, d_CallS, tgK_some, d_Skip, d_Seq, d_Asg, d_Expr, d_Ret, d_IfS, d_For, d_Raise, d_Drop, drop_nx, drop_rt, drop_ex, wipe0, wipeC, d_fn, fin_rt, fin_nx, fin_ex, isoR_d, isoR_ex, add_ii, add_ss, add_tt, add_ll, add_llC, sub_ii, neg_i, lt_ii, le_ii, gt_ii, ge_ii, dep_s, dep_i, dep_b, dep_n, eq_ii, eq_ss, eq_bb, ne_ss, ne_ii, ne_bb, in_dt, in_dl, notin_dt, notin_dl, isN_n, isN_i, isN_t, isN_s, isN_b, isN_l, notN_b, notN_l, notN_n, notN_i, notN_t, notN_s, t0, t1, t2, t3, l0, l1, l2, l3, len_t, len_l, str_i, int_b, tup_t, tup_l, list_lC, list_tC, list_l, list_t, rev_lC, isi_d, rc_s, d_iSeq, seqK_l, seqK_t, d_iRng1, rngK_i, d_Lc, noEx_k, newL_f, newL_t, rng_zero, len_s, d_iTxt, k_tx, d_Sl, k_Sl, k_Sl2, k_Sl3, k_pt0, k_pt1, k_pt, sl_s, d_Fld, d_Meth, d_Make, d_Store, k_Store, k_Store2, inS_1, k_Op1, k_Op2, k_Op2b, k_Mt0, k_Mt1, k_Args, k_Argsb, k_Tup, k_LstC, k_Andb, k_And, k_Orb, k_Or, k_Notb, k_Not, k_tEb, k_tE, k_tAnd, k_tOr, k_tNot, k_If, k_Asg, k_Expr, k_IfS, k_For, k_Lc, k_Lcb, List.map_cons, List.map_nil, List.cons_append, List.nil_append, List.replicate, List.set_cons_zero, List.set_cons_succ, List.all_cons, List.all_nil, Bool.and_true, Bool.true_and, Bool.and_self, and_self, eq_self, if_true, if_false, decide_true, decide_false, Bool.false_eq_true, List.any_cons, List.any_nil, List.length_nil, List.length_cons, Bool.not_true, Bool.not_false, Pap.enc, Pap.nm, Pap.args, Pap.words, PyData.eqv, Bool.or_false, c_rows_sums h]
  | rows a l =>
    have hf := flat_len (w := wR) (c := 203) l fun x hx => wR_len (h.2.2 x hx).2
    have hl : ((wNums a).length + (l.flatMap wR).length + 1 ≤ LINE) = True := eq_true (by have := wNums_len h.1; have := h.2.1; unfold LINE; omega)
    rw [Nat.add_assoc] at hl
    simp -implicitDefEqProofs +decide only [bind_ok, bind_ex, then_ok, then_ex, seq_nx, seq_rt, seq_ex, ite_tt, ite_ff, of_some, okOr_some, v0, v1, v2, v3, v4, v5, v6, v7, v8, v9, n0, n1, n2, n3, n4, n5, n6, n7, n8, n9, d_C, d_Op1, d_Op2, d_Mt0, d_Mt1, d_Args0, d_Args, d_Tup, d_Lst, d_LstC, tupK0, tupK1, tupK2, tupK3, tupK4, tupK9, bK_b, d_And, d_Or, d_Not, d_tE, d_tAnd, d_tOr, d_tNot, d_tYes, d_If, d_CallI, isoE_ok, isoE_ex, iso1, iso2, iso3, iso4, iso5, d_CallS, tgK_some, d_Skip, d_Seq, d_Asg, d_Expr, d_Ret, d_IfS, d_For, d_Raise, d_Drop, drop_nx, drop_rt, drop_ex, wipe0, wipeC, d_fn, fin_rt, fin_nx, fin_ex, isoR_d, isoR_ex, add_ii, add_ss, add_tt, add_ll, add_llC, sub_ii, neg_i, lt_ii, le_ii, gt_ii, ge_ii, dep_s, dep_i, dep_b, dep_n, eq_ii, eq_ss, eq_bb, ne_ss, ne_ii, ne_bb, in_dt, in_dl, notin_dt, notin_dl, isN_n, isN_i, isN_t, isN_s, isN_b, isN_l, notN_b, notN_l, notN_n, notN_i, notN_t, notN_s, t0, t1, t2, t3, l0, l1, l2, l3, len_t, len_l, str_i, int_b, tup_t, tup_l, list_lC, list_tC, list_l, list_t, rev_lC, isi_d, rc_s, d_iSeq, seqK_l, seqK_t, d_iRng1, rngK_i, d_Lc, noEx_k, newL_f, newL_t, rng_zero, len_s, d_iTxt, k_tx, d_Sl, k_Sl, k_Sl2, k_Sl3, k_pt0, k_pt1, k_pt, sl_s, d_Fld, d_Meth, d_Make, d_Store, k_Store, k_Store2, inS_1, k_Op1, k_Op2, k_Op2b, k_Mt0, k_Mt1, k_Args, k_Argsb, k_Tup, k_LstC, k_Andb, k_And, k_Orb, k_Or, k_Notb, k_Not, k_tEb, k_tE, k_tAnd, k_tOr, k_tNot, k_If, k_Asg, k_Expr, k_IfS, k_For, k_Lc, k_Lcb, List.map_cons, List.map_nil, List.cons_append, List.nil_append, List.replicate, List.set_cons_zero, List.set_cons_succ, List.all_cons, List.all_nil, Bool.and_true, Bool.true_and, Bool.and_self, and_self, eq_self, if_true, if_false, decide_true, decide_false, Bool.false_eq_true, List.any_cons, List.any_nil, List.length_nil, List.length_cons, Bool.not_true, Bool.not_false, Pap.enc, Pap.nm, Pap.args, Pap.words, PyData.eqv, Bool.or_false, c_nums h.1, c_rows_rows h.2, List.length_map, hl, List.map_append]
/-- a cell of words grows -/
theorem lc_paper {p : Pap} (h : p.Ok) : callI g__law_paper_words [p.enc] = some (.inr (.list ((p.nm :: p.words).map .str))) := by
  unfold g__law_paper_words f__law_paper_words
  rw [d_iso]
  have one : ∀ x : Str, Cell.lst [vS x] = .lst (wc [x]) := fun _ => rfl
  cases p with
  | broken => simp -implicitDefEqProofs +decide only [bind_ok, bind_ex, then_ok, then_ex, seq_nx, seq_rt, seq_ex, ite_tt, ite_ff, of_some, okOr_some, v0, v1, v2, v3, v4, v5, v6, v7, v8, v9, n0, n1, n2, n3, n4, n5, n6, n7, n8, n9, d_C, d_Op1, d_Op2, d_Mt0, d_Mt1, d_Args0, d_Args, d_Tup, d_Lst, d_LstC, tupK0, tupK1, tupK2, tupK3, tupK4, tupK9, bK_b, d_And, d_Or, d_Not, d_tE, d_tAnd, d_tOr, d_tNot, d_tYes, d_If, d_CallI, isoE_ok, isoE_ex, iso1, iso2, iso3, iso4, iso5, d_CallS, tgK_some, d_Skip, d_Seq, d_Asg, d_Expr, d_Ret, d_IfS, d_For, d_Raise, d_Drop, drop_nx, drop_rt, drop_ex, wipe0, wipeC, d_fn, fin_rt, fin_nx, fin_ex, isoR_d, isoR_ex, add_ii, add_ss, add_tt, add_ll, add_llC, sub_ii, neg_i, lt_ii, le_ii, gt_ii, ge_ii, dep_s, dep_i, dep_b, dep_n, eq_ii, eq_ss, eq_bb, ne_ss, ne_ii, ne_bb, in_dt, in_dl, notin_dt, notin_dl, isN_n, isN_i, isN_t, isN_s, isN_b, isN_l, notN_b, notN_l, notN_n, notN_i, notN_t, notN_s, t0, t1, t2, t3, l0, l1, l2, l3, len_t, len_l, str_i, int_b, tup_t, tup_l, list_lC, list_tC, list_l, list_t, rev_lC, isi_d, rc_s, d_iSeq, seqK_l, seqK_t, d_iRng1, rngK_i, d_Lc, noEx_k, newL_f, newL_t, rng_zero, len_s, d_iTxt, k_tx, d_Sl, k_Sl, k_Sl2, k_Sl3, k_pt0, k_pt1, k_pt, sl_s, d_Fld, d_Meth, d_Make, d_Store, k_Store, k_Store2, inS_1, k_Op1, k_Op2, k_Op2b, k_Mt0, k_Mt1, k_Args, k_Argsb, k_Tup, k_LstC, k_Andb, k_And, k_Orb, k_Or, k_Notb, k_Not, k_tEb, k_tE, k_tAnd, k_tOr, k_tNot, k_If, k_Asg, k_Expr, k_IfS, k_For, k_Lc, k_Lcb, List.map_cons, List.map_nil, List.cons_append, List.nil_append, List.replicate, List.set_cons_zero, List.set_cons_succ, List.all_cons, List.all_nil, Bool.and_true, Bool.true_and, Bool.and_self, and_self, eq_self, if_true, if_false, decide_true, decide_false, Bool.false_eq_true, List.any_cons, List.any_nil, List.length_nil, List.length_cons, Bool.not_true, Bool.not_false, Pap.enc, Pap.nm, Pap.args, Pap.words, one]; exact isoR_r (.inl rfl)
  | clash a b =>
    have h1 := @wc_addF [.lst (wc [("clash" : Str)])] 0 ["clash"] (wRoad a) rfl (by have := wRoad_len h.1; simp only [List.length_cons, List.length_append, List.length_nil]; unfold LINE; omega)
    have hl : ((wRoad a).length + 1 + (wRoad b).length ≤ LINE) = True := eq_true (by have := wRoad_len h.1; have := wRoad_len h.2; unfold LINE; omega)
    simp -implicitDefEqProofs +decide only [bind_ok, bind_ex, then_ok, then_ex, seq_nx, seq_rt, seq_ex, ite_tt, ite_ff, of_some, okOr_some, v0, v1, v2, v3, v4, v5, v6, v7, v8, v9, n0, n1, n2, n3, n4, n5, n6, n7, n8, n9, d_C, d_Op1, d_Op2, d_Mt0, d_Mt1, d_Args0, d_Args, d_Tup, d_Lst, d_LstC, tupK0, tupK1, tupK2, tupK3, tupK4, tupK9, bK_b, d_And, d_Or, d_Not, d_tE, d_tAnd, d_tOr, d_tNot, d_tYes, d_If, d_CallI, isoE_ok, isoE_ex, iso1, iso2, iso3, iso4, iso5, d_CallS, tgK_some, d_Skip, d_Seq, d_Asg, d_Expr, d_Ret, d_IfS, d_For, d_Raise, d_Drop, drop_nx, drop_rt, drop_ex, wipe0, wipeC, d_fn, fin_rt, fin_nx, fin_ex, isoR_d, isoR_ex, add_ii, add_ss, add_tt, add_ll, add_llC, sub_ii, neg_i, lt_ii, le_ii, gt_ii, ge_ii, dep_s, dep_i, dep_b, dep_n, eq_ii, eq_ss, eq_bb, ne_ss, ne_ii, ne_bb, in_dt, in_dl, notin_dt, notin_dl, isN_n, isN_i, isN_t, isN_s, isN_b, isN_l, notN_b, notN_l, notN_n, notN_i, notN_t, notN_s, t0, t1, t2, t3, l0, l1, l2, l3, len_t, len_l, str_i, int_b, tup_t, tup_l, list_lC, list_tC, list_l, list_t, rev_lC, isi_d, rc_s, d_iSeq, seqK_l, seqK_t, d_iRng1, rngK_i, d_Lc, noEx_k, newL_f, newL_t, rng_zero, len_s, d_iTxt, k_tx, d_Sl, k_Sl, k_Sl2, k_Sl3, k_pt0, k_pt1, k_pt, sl_s, d_Fld, d_Meth, d_Make, d_Store, k_Store, k_Store2, inS_1, k_Op1, k_Op2, k_Op2b, k_Mt0, k_Mt1, k_Args, k_Argsb, k_Tup, k_LstC, k_Andb, k_And, k_Orb, k_Or, k_Notb, k_Not, k_tEb, k_tE, k_tAnd, k_tOr, k_tNot, k_If, k_Asg, k_Expr, k_IfS, k_For, k_Lc, k_Lcb, List.map_cons, List.map_nil, List.cons_append, List.nil_append, List.replicate, List.set_cons_zero, List.set_cons_succ, List.all_cons, List.all_nil, Bool.and_true, Bool.true_and, Bool.and_self, and_self, eq_self, if_true, if_false, decide_true, decide_false, Bool.false_eq_true, List.any_cons, List.any_nil, List.length_nil, List.length_cons, Bool.not_true, Bool.not_false, Pap.enc, Pap.nm, Pap.args, Pap.words, one, lc_road h.1, lc_road h.2, h1, List.length_map, List.length_append, hl]
    refine isoR_r (.inl ?_)
    simp [wc]
  | late a b =>
    have h1 := @wc_addF [.lst (wc [("late" : Str)])] 0 ["late"] (wRoad a) rfl (by have := wRoad_len h.1; simp only [List.length_cons, List.length_append, List.length_nil]; unfold LINE; omega)
    have hl : ((wRoad a).length + 1 + (wRoad b).length ≤ LINE) = True := eq_true (by have := wRoad_len h.1; have := wRoad_len h.2; unfold LINE; omega)
    simp -implicitDefEqProofs +decide only [bind_ok, bind_ex, then_ok, then_ex, seq_nx, seq_rt, seq_ex, ite_tt, ite_ff, of_some, okOr_some, v0, v1, v2, v3, v4, v5, v6, v7, v8, v9, n0, n1, n2, n3, n4, n5, n6, n7, n8, n9, d_C, d_Op1, d_Op2, d_Mt0, d_Mt1, d_Args0, d_Args, d_Tup, d_Lst, d_LstC, tupK0, tupK1, tupK2, tupK3, tupK4, tupK9, bK_b, d_And, d_Or, d_Not, d_tE, d_tAnd, d_tOr, d_tNot, d_tYes, d_If, d_CallI, isoE_ok, isoE_ex, iso1, iso2, iso3, iso4, iso5, d_CallS, tgK_some, d_Skip, d_Seq, d_Asg, d_Expr, d_Ret, d_IfS, d_For, d_Raise, d_Drop, drop_nx, drop_rt, drop_ex, wipe0, wipeC, d_fn, fin_rt, fin_nx, fin_ex, isoR_d, isoR_ex, add_ii, add_ss, add_tt, add_ll, add_llC, sub_ii, neg_i, lt_ii, le_ii, gt_ii, ge_ii, dep_s, dep_i, dep_b, dep_n, eq_ii, eq_ss, eq_bb, ne_ss, ne_ii, ne_bb, in_dt, in_dl, notin_dt, notin_dl, isN_n, isN_i, isN_t, isN_s, isN_b, isN_l, notN_b, notN_l, notN_n, notN_i, notN_t, notN_s, t0, t1, t2, t3, l0, l1, l2, l3, len_t, len_l, str_i, int_b, tup_t, tup_l, list_lC, list_tC, list_l, list_t, rev_lC, isi_d, rc_s, d_iSeq, seqK_l, seqK_t, d_iRng1, rngK_i, d_Lc, noEx_k, newL_f, newL_t, rng_zero, len_s, d_iTxt, k_tx, d_Sl, k_Sl, k_Sl2, k_Sl3, k_pt0, k_pt1, k_pt, sl_s, d_Fld, d_Meth, d_Make, d_Store, k_Store, k_Store2, inS_1, k_Op1, k_Op2, k_Op2b, k_Mt0, k_Mt1, k_Args, k_Argsb, k_Tup, k_LstC, k_Andb, k_And, k_Orb, k_Or, k_Notb, k_Not, k_tEb, k_tE, k_tAnd, k_tOr, k_tNot, k_If, k_Asg, k_Expr, k_IfS, k_For, k_Lc, k_Lcb, List.map_cons, List.map_nil, List.cons_append, List.nil_append, List.replicate, List.set_cons_zero, List.set_cons_succ, List.all_cons, List.all_nil, Bool.and_true, Bool.true_and, Bool.and_self, and_self, eq_self, if_true, if_false, decide_true, decide_false, Bool.false_eq_true, List.any_cons, List.any_nil, List.length_nil, List.length_cons, Bool.not_true, Bool.not_false, Pap.enc, Pap.nm, Pap.args, Pap.words, one, lc_road h.1, lc_road h.2, h1, List.length_map, List.length_append, hl]
    refine isoR_r (.inl ?_)
    simp [wc]
  | cross a =>
    have h1 := @wc_add [.lst (wc [("cross" : Str)])] 0 ["cross"] (wRoad a) rfl (by have := wRoad_len h; simp only [List.length_cons, List.length_append, List.length_nil]; unfold LINE; omega)
    simp -implicitDefEqProofs +decide only [bind_ok, bind_ex, then_ok, then_ex, seq_nx, seq_rt, seq_ex, ite_tt, ite_ff, of_some, okOr_some, v0, v1, v2, v3, v4, v5, v6, v7, v8, v9, n0, n1, n2, n3, n4, n5, n6, n7, n8, n9, d_C, d_Op1, d_Op2, d_Mt0, d_Mt1, d_Args0, d_Args, d_Tup, d_Lst, d_LstC, tupK0, tupK1, tupK2, tupK3, tupK4, tupK9, bK_b, d_And, d_Or, d_Not, d_tE, d_tAnd, d_tOr, d_tNot, d_tYes, d_If, d_CallI, isoE_ok, isoE_ex, iso1, iso2, iso3, iso4, iso5, d_CallS, tgK_some, d_Skip, d_Seq, d_Asg, d_Expr, d_Ret, d_IfS, d_For, d_Raise, d_Drop, drop_nx, drop_rt, drop_ex, wipe0, wipeC, d_fn, fin_rt, fin_nx, fin_ex, isoR_d, isoR_ex, add_ii, add_ss, add_tt, add_ll, add_llC, sub_ii, neg_i, lt_ii, le_ii, gt_ii, ge_ii, dep_s, dep_i, dep_b, dep_n, eq_ii, eq_ss, eq_bb, ne_ss, ne_ii, ne_bb, in_dt, in_dl, notin_dt, notin_dl, isN_n, isN_i, isN_t, isN_s, isN_b, isN_l, notN_b, notN_l, notN_n, notN_i, notN_t, notN_s, t0, t1, t2, t3, l0, l1, l2, l3, len_t, len_l, str_i, int_b, tup_t, tup_l, list_lC, list_tC, list_l, list_t, rev_lC, isi_d, rc_s, d_iSeq, seqK_l, seqK_t, d_iRng1, rngK_i, d_Lc, noEx_k, newL_f, newL_t, rng_zero, len_s, d_iTxt, k_tx, d_Sl, k_Sl, k_Sl2, k_Sl3, k_pt0, k_pt1, k_pt, sl_s, d_Fld, d_Meth, d_Make, d_Store, k_Store, k_Store2, inS_1, k_Op1, k_Op2, k_Op2b, k_Mt0, k_Mt1, k_Args, k_Argsb, k_Tup, k_LstC, k_Andb, k_And, k_Orb, k_Or, k_Notb, k_Not, k_tEb, k_tE, k_tAnd, k_tOr, k_tNot, k_If, k_Asg, k_Expr, k_IfS, k_For, k_Lc, k_Lcb, List.map_cons, List.map_nil, List.cons_append, List.nil_append, List.replicate, List.set_cons_zero, List.set_cons_succ, List.all_cons, List.all_nil, Bool.and_true, Bool.true_and, Bool.and_self, and_self, eq_self, if_true, if_false, decide_true, decide_false, Bool.false_eq_true, List.any_cons, List.any_nil, List.length_nil, List.length_cons, Bool.not_true, Bool.not_false, Pap.enc, Pap.nm, Pap.args, Pap.words, one, lc_road h, h1]
    refine isoR_r (.inl ?_)
    simp [wc]
  | odd a =>
    have h1 := @wc_add [.lst (wc [("odd" : Str)])] 0 ["odd"] (wNums a) rfl (by have := wNums_len h; simp only [List.length_cons, List.length_append, List.length_nil]; unfold LINE; omega)
    simp -implicitDefEqProofs +decide only [bind_ok, bind_ex, then_ok, then_ex, seq_nx, seq_rt, seq_ex, ite_tt, ite_ff, of_some, okOr_some, v0, v1, v2, v3, v4, v5, v6, v7, v8, v9, n0, n1, n2, n3, n4, n5, n6, n7, n8, n9, d_C, d_Op1, d_Op2, d_Mt0, d_Mt1, d_Args0, d_Args, d_Tup, d_Lst, d_LstC, tupK0, tupK1, tupK2, tupK3, tupK4, tupK9, bK_b, d_And, d_Or, d_Not, d_tE, d_tAnd, d_tOr, d_tNot, d_tYes, d_If, d_CallI, isoE_ok, isoE_ex, iso1, iso2, iso3, iso4, iso5, d_CallS, tgK_some, d_Skip, d_Seq, d_Asg, d_Expr, d_Ret, d_IfS, d_For, d_Raise, d_Drop, drop_nx, drop_rt, drop_ex, wipe0, wipeC, d_fn, fin_rt, fin_nx, fin_ex, isoR_d, isoR_ex, add_ii, add_ss, add_tt, add_ll, add_llC, sub_ii, neg_i, lt_ii, le_ii, gt_ii, ge_ii, dep_s, dep_i, dep_b, dep_n, eq_ii, eq_ss, eq_bb, ne_ss, ne_ii, ne_bb, in_dt, in_dl, notin_dt, notin_dl, isN_n, isN_i, isN_t, isN_s, isN_b, isN_l, notN_b, notN_l, notN_n, notN_i, notN_t, notN_s, t0, t1, t2, t3, l0, l1, l2, l3, len_t, len_l, str_i, int_b, tup_t, tup_l, list_lC, list_tC, list_l, list_t, rev_lC, isi_d, rc_s, d_iSeq, seqK_l, seqK_t, d_iRng1, rngK_i, d_Lc, noEx_k, newL_f, newL_t, rng_zero, len_s, d_iTxt, k_tx, d_Sl, k_Sl, k_Sl2, k_Sl3, k_pt0, k_pt1, k_pt, sl_s, d_Fld, d_Meth, d_Make, d_Store, k_Store, k_Store2, inS_1, k_Op1, k_Op2, k_Op2b, k_Mt0, k_Mt1, k_Args, k_Argsb, k_Tup, k_LstC, k_Andb, k_And, k_Orb, k_Or, k_Notb, k_Not, k_tEb, k_tE, k_tAnd, k_tOr, k_tNot, k_If, k_Asg, k_Expr, k_IfS, k_For, k_Lc, k_Lcb, List.map_cons, List.map_nil, List.cons_append, List.nil_append, List.replicate, List.set_cons_zero, List.set_cons_succ, List.all_cons, List.all_nil, Bool.and_true, Bool.true_and, Bool.and_self, and_self, eq_self, if_true, if_false, decide_true, decide_false, Bool.false_eq_true, List.any_cons, List.any_nil, List.length_nil, List.length_cons, Bool.not_true, Bool.not_false, Pap.enc, Pap.nm, Pap.args, Pap.words, one, lc_nums h, h1]
    refine isoR_r (.inl ?_)
    simp [wc]
  | lone f a b =>
    have h0 := @wc_app' [.lst (wc [("lone" : Str)])] 0 ["lone"] (wFree f) rfl (by simp only [List.length_cons, List.length_append, List.length_nil]; unfold LINE; omega)
    have h1 := @wc_addF [.lst (wc [("lone" : Str), wFree f])] 0 ["lone", wFree f] (wNums a) rfl (by have := wNums_len h.2.1; simp only [List.length_cons, List.length_append, List.length_nil, List.length_map]; unfold LINE; omega)
    have hl : ((wNums a).length + 1 + 1 + (wNums b).length ≤ LINE) = True := eq_true (by have := wNums_len h.2.1; have := wNums_len h.2.2; unfold LINE; omega)
    simp -implicitDefEqProofs +decide only [bind_ok, bind_ex, then_ok, then_ex, seq_nx, seq_rt, seq_ex, ite_tt, ite_ff, of_some, okOr_some, v0, v1, v2, v3, v4, v5, v6, v7, v8, v9, n0, n1, n2, n3, n4, n5, n6, n7, n8, n9, d_C, d_Op1, d_Op2, d_Mt0, d_Mt1, d_Args0, d_Args, d_Tup, d_Lst, d_LstC, tupK0, tupK1, tupK2, tupK3, tupK4, tupK9, bK_b, d_And, d_Or, d_Not, d_tE, d_tAnd, d_tOr, d_tNot, d_tYes, d_If, d_CallI, isoE_ok, isoE_ex, iso1, iso2, iso3, iso4, iso5, d_CallS, tgK_some, d_Skip, d_Seq, d_Asg, d_Expr, d_Ret, d_IfS, d_For, d_Raise, d_Drop, drop_nx, drop_rt, drop_ex, wipe0, wipeC, d_fn, fin_rt, fin_nx, fin_ex, isoR_d, isoR_ex, add_ii, add_ss, add_tt, add_ll, add_llC, sub_ii, neg_i, lt_ii, le_ii, gt_ii, ge_ii, dep_s, dep_i, dep_b, dep_n, eq_ii, eq_ss, eq_bb, ne_ss, ne_ii, ne_bb, in_dt, in_dl, notin_dt, notin_dl, isN_n, isN_i, isN_t, isN_s, isN_b, isN_l, notN_b, notN_l, notN_n, notN_i, notN_t, notN_s, t0, t1, t2, t3, l0, l1, l2, l3, len_t, len_l, str_i, int_b, tup_t, tup_l, list_lC, list_tC, list_l, list_t, rev_lC, isi_d, rc_s, d_iSeq, seqK_l, seqK_t, d_iRng1, rngK_i, d_Lc, noEx_k, newL_f, newL_t, rng_zero, len_s, d_iTxt, k_tx, d_Sl, k_Sl, k_Sl2, k_Sl3, k_pt0, k_pt1, k_pt, sl_s, d_Fld, d_Meth, d_Make, d_Store, k_Store, k_Store2, inS_1, k_Op1, k_Op2, k_Op2b, k_Mt0, k_Mt1, k_Args, k_Argsb, k_Tup, k_LstC, k_Andb, k_And, k_Orb, k_Or, k_Notb, k_Not, k_tEb, k_tE, k_tAnd, k_tOr, k_tNot, k_If, k_Asg, k_Expr, k_IfS, k_For, k_Lc, k_Lcb, List.map_cons, List.map_nil, List.cons_append, List.nil_append, List.replicate, List.set_cons_zero, List.set_cons_succ, List.all_cons, List.all_nil, Bool.and_true, Bool.true_and, Bool.and_self, and_self, eq_self, if_true, if_false, decide_true, decide_false, Bool.false_eq_true, List.any_cons, List.any_nil, List.length_nil, List.length_cons, Bool.not_true, Bool.not_false, Pap.enc, Pap.nm, Pap.args, Pap.words, one, lc_free h.1, show Rc.ok .list [.lst (wc [("lone" : Str)])] (.r 0) = true from rfl, show [Cell.lst (wc [("lone" : Str)])].set 0 (.lst (wc (["lone"] ++ [wFree f]))) = [.lst (wc [("lone" : Str), wFree f])] from rfl, h0, lc_nums h.2.1, lc_nums h.2.2, h1, List.length_map, List.length_append, hl]
    refine isoR_r (.inl ?_)
    simp [wc]
  | plan l =>
    have h1 := @wc_add [.lst (wc [("plan" : Str)])] 0 ["plan"] (nS l.length :: l.flatMap wP) rfl (by have hf := flat_len (w := wP) (c := 203) l fun x hx => Nat.le_trans (Nat.le_of_eq (show (wP x).length = 3 from rfl)) (by decide); have := h.1; simp only [List.length_cons, List.length_append, List.length_nil]; unfold LINE; omega)
    rw [List.map_cons] at h1
    simp -implicitDefEqProofs +decide only [bind_ok, bind_ex, then_ok, then_ex, seq_nx, seq_rt, seq_ex, ite_tt, ite_ff, of_some, okOr_some, v0, v1, v2, v3, v4, v5, v6, v7, v8, v9, n0, n1, n2, n3, n4, n5, n6, n7, n8, n9, d_C, d_Op1, d_Op2, d_Mt0, d_Mt1, d_Args0, d_Args, d_Tup, d_Lst, d_LstC, tupK0, tupK1, tupK2, tupK3, tupK4, tupK9, bK_b, d_And, d_Or, d_Not, d_tE, d_tAnd, d_tOr, d_tNot, d_tYes, d_If, d_CallI, isoE_ok, isoE_ex, iso1, iso2, iso3, iso4, iso5, d_CallS, tgK_some, d_Skip, d_Seq, d_Asg, d_Expr, d_Ret, d_IfS, d_For, d_Raise, d_Drop, drop_nx, drop_rt, drop_ex, wipe0, wipeC, d_fn, fin_rt, fin_nx, fin_ex, isoR_d, isoR_ex, add_ii, add_ss, add_tt, add_ll, add_llC, sub_ii, neg_i, lt_ii, le_ii, gt_ii, ge_ii, dep_s, dep_i, dep_b, dep_n, eq_ii, eq_ss, eq_bb, ne_ss, ne_ii, ne_bb, in_dt, in_dl, notin_dt, notin_dl, isN_n, isN_i, isN_t, isN_s, isN_b, isN_l, notN_b, notN_l, notN_n, notN_i, notN_t, notN_s, t0, t1, t2, t3, l0, l1, l2, l3, len_t, len_l, str_i, int_b, tup_t, tup_l, list_lC, list_tC, list_l, list_t, rev_lC, isi_d, rc_s, d_iSeq, seqK_l, seqK_t, d_iRng1, rngK_i, d_Lc, noEx_k, newL_f, newL_t, rng_zero, len_s, d_iTxt, k_tx, d_Sl, k_Sl, k_Sl2, k_Sl3, k_pt0, k_pt1, k_pt, sl_s, d_Fld, d_Meth, d_Make, d_Store, k_Store, k_Store2, inS_1, k_Op1, k_Op2, k_Op2b, k_Mt0, k_Mt1, k_Args, k_Argsb, k_Tup, k_LstC, k_Andb, k_And, k_Orb, k_Or, k_Notb, k_Not, k_tEb, k_tE, k_tAnd, k_tOr, k_tNot, k_If, k_Asg, k_Expr, k_IfS, k_For, k_Lc, k_Lcb, List.map_cons, List.map_nil, List.cons_append, List.nil_append, List.replicate, List.set_cons_zero, List.set_cons_succ, List.all_cons, List.all_nil, Bool.and_true, Bool.true_and, Bool.and_self, and_self, eq_self, if_true, if_false, decide_true, decide_false, Bool.false_eq_true, List.any_cons, List.any_nil, List.length_nil, List.length_cons, Bool.not_true, Bool.not_false, Pap.enc, Pap.nm, Pap.args, Pap.words, one, lc_rows_plan h, h1]
    refine isoR_r (.inl ?_)
    simp [wc]
  | sums l =>
    have h1 := @wc_add [.lst (wc [("sums" : Str)])] 0 ["sums"] (nS l.length :: l.flatMap wU) rfl (by have hf := flat_len (w := wU) (c := 203) l fun x hx => wU_len (h.2 x hx).2; have := h.1; simp only [List.length_cons, List.length_append, List.length_nil]; unfold LINE; omega)
    rw [List.map_cons] at h1
    simp -implicitDefEqProofs +decide only [bind_ok, bind_ex, then_ok, then_ex, seq_nx, seq_rt, seq_ex, ite_tt, ite_ff, of_some, okOr_some, v0, v1, v2, v3, v4, v5, v6, v7, v8, v9, n0, n1, n2, n3, n4, n5, n6, n7, n8, n9, d_C, d_Op1, d_Op2, d_Mt0, d_Mt1, d_Args0, d_Args, d_Tup, d_Lst, d_LstC, tupK0, tupK1, tupK2, tupK3, tupK4, tupK9, bK_b, d_And, d_Or, d_Not, d_tE, d_tAnd, d_tOr, d_tNot, d_tYes, d_If, d_CallI, isoE_ok, isoE_ex, iso1, iso2, iso3, iso4, iso5, d_CallS, tgK_some, d_Skip, d_Seq, d_Asg, d_Expr, d_Ret, d_IfS, d_For, d_Raise, d_Drop, drop_nx, drop_rt, drop_ex, wipe0, wipeC, d_fn, fin_rt, fin_nx, fin_ex, isoR_d, isoR_ex, add_ii, add_ss, add_tt, add_ll, add_llC, sub_ii, neg_i, lt_ii, le_ii, gt_ii, ge_ii, dep_s, dep_i, dep_b, dep_n, eq_ii, eq_ss, eq_bb, ne_ss, ne_ii, ne_bb, in_dt, in_dl, notin_dt, notin_dl, isN_n, isN_i, isN_t, isN_s, isN_b, isN_l, notN_b, notN_l, notN_n, notN_i, notN_t, notN_s, t0, t1, t2, t3, l0, l1, l2, l3, len_t, len_l, str_i, int_b, tup_t, tup_l, list_lC, list_tC, list_l, list_t, rev_lC, isi_d, rc_s, d_iSeq, seqK_l, seqK_t, d_iRng1, rngK_i, d_Lc, noEx_k, newL_f, newL_t, rng_zero, len_s, d_iTxt, k_tx, d_Sl, k_Sl, k_Sl2, k_Sl3, k_pt0, k_pt1, k_pt, sl_s, d_Fld, d_Meth, d_Make, d_Store, k_Store, k_Store2, inS_1, k_Op1, k_Op2, k_Op2b, k_Mt0, k_Mt1, k_Args, k_Argsb, k_Tup, k_LstC, k_Andb, k_And, k_Orb, k_Or, k_Notb, k_Not, k_tEb, k_tE, k_tAnd, k_tOr, k_tNot, k_If, k_Asg, k_Expr, k_IfS, k_For, k_Lc, k_Lcb, List.map_cons, List.map_nil, List.cons_append, List.nil_append, List.replicate, List.set_cons_zero, List.set_cons_succ, List.all_cons, List.all_nil, Bool.and_true, Bool.true_and, Bool.and_self, and_self, eq_self, if_true, if_false, decide_true, decide_false, Bool.false_eq_true, List.any_cons, List.any_nil, List.length_nil, List.length_cons, Bool.not_true, Bool.not_false, Pap.enc, Pap.nm, Pap.args, Pap.words, one, lc_rows_sums h, h1]
    refine isoR_r (.inl ?_)
    simp [wc]
  | rows a l =>
    have h1 := @wc_addF [.lst (wc [("rows" : Str)])] 0 ["rows"] (wNums a) rfl (by have := wNums_len h.1; simp only [List.length_cons, List.length_append, List.length_nil]; unfold LINE; omega)
    have hl : ((wNums a).length + 1 + ((l.flatMap wR).length + 1) ≤ LINE) = True := eq_true (by have := wNums_len h.1; have hf := flat_len (w := wR) (c := 203) l fun x hx => wR_len (h.2.2 x hx).2; have := h.2.1; unfold LINE; omega)
    simp -implicitDefEqProofs +decide only [bind_ok, bind_ex, then_ok, then_ex, seq_nx, seq_rt, seq_ex, ite_tt, ite_ff, of_some, okOr_some, v0, v1, v2, v3, v4, v5, v6, v7, v8, v9, n0, n1, n2, n3, n4, n5, n6, n7, n8, n9, d_C, d_Op1, d_Op2, d_Mt0, d_Mt1, d_Args0, d_Args, d_Tup, d_Lst, d_LstC, tupK0, tupK1, tupK2, tupK3, tupK4, tupK9, bK_b, d_And, d_Or, d_Not, d_tE, d_tAnd, d_tOr, d_tNot, d_tYes, d_If, d_CallI, isoE_ok, isoE_ex, iso1, iso2, iso3, iso4, iso5, d_CallS, tgK_some, d_Skip, d_Seq, d_Asg, d_Expr, d_Ret, d_IfS, d_For, d_Raise, d_Drop, drop_nx, drop_rt, drop_ex, wipe0, wipeC, d_fn, fin_rt, fin_nx, fin_ex, isoR_d, isoR_ex, add_ii, add_ss, add_tt, add_ll, add_llC, sub_ii, neg_i, lt_ii, le_ii, gt_ii, ge_ii, dep_s, dep_i, dep_b, dep_n, eq_ii, eq_ss, eq_bb, ne_ss, ne_ii, ne_bb, in_dt, in_dl, notin_dt, notin_dl, isN_n, isN_i, isN_t, isN_s, isN_b, isN_l, notN_b, notN_l, notN_n, notN_i, notN_t, notN_s, t0, t1, t2, t3, l0, l1, l2, l3, len_t, len_l, str_i, int_b, tup_t, tup_l, list_lC, list_tC, list_l, list_t, rev_lC, isi_d, rc_s, d_iSeq, seqK_l, seqK_t, d_iRng1, rngK_i, d_Lc, noEx_k, newL_f, newL_t, rng_zero, len_s, d_iTxt, k_tx, d_Sl, k_Sl, k_Sl2, k_Sl3, k_pt0, k_pt1, k_pt, sl_s, d_Fld, d_Meth, d_Make, d_Store, k_Store, k_Store2, inS_1, k_Op1, k_Op2, k_Op2b, k_Mt0, k_Mt1, k_Args, k_Argsb, k_Tup, k_LstC, k_Andb, k_And, k_Orb, k_Or, k_Notb, k_Not, k_tEb, k_tE, k_tAnd, k_tOr, k_tNot, k_If, k_Asg, k_Expr, k_IfS, k_For, k_Lc, k_Lcb, List.map_cons, List.map_nil, List.cons_append, List.nil_append, List.replicate, List.set_cons_zero, List.set_cons_succ, List.all_cons, List.all_nil, Bool.and_true, Bool.true_and, Bool.and_self, and_self, eq_self, if_true, if_false, decide_true, decide_false, Bool.false_eq_true, List.any_cons, List.any_nil, List.length_nil, List.length_cons, Bool.not_true, Bool.not_false, Pap.enc, Pap.nm, Pap.args, Pap.words, one, lc_nums h.1, lc_rows_rows h.2, h1, List.length_map, List.length_append, hl]
    refine isoR_r (.inl ?_)
    simp [wc]
/-- the paper's text -/
def Pap.text (p : Pap) : Str := Txt.join " " (p.nm :: p.words)
theorem nm_short (p : Pap) : p.nm.length ≤ 6 := by cases p <;> simp only [Pap.nm] <;> decide
theorem join_ok {p : Pap} (h : p.Ok) : ((p.nm :: p.words).map (·.length)).sum + (p.nm :: p.words).length * (" " : Str).length ≤ LINE := by
  have h1 := (Short.cons (nm_short p) (words_short h).1).sum
  have h2 := (words_short h).2
  simp only [List.length_cons, sLen_sp] at h1 ⊢
  unfold LINE
  omega
theorem c_written {p : Pap} (h : p.Ok) : callI g_paper_written [p.enc] = some (.inr (.str p.text)) := by
  have hl : ([PyData.str p.nm].length + (p.words.map PyData.str).length ≤ LINE) = True := eq_true (by have := (words_short h).2; simp only [List.length_cons, List.length_append, List.length_nil, List.length_map]; unfold LINE; omega)
  have hj := @join_l [] " " (p.nm :: p.words) (join_ok h)
  have hp := c_paper h
  simp -implicitDefEqProofs only [bind_ok, bind_ex, then_ok, then_ex, seq_nx, seq_rt, seq_ex, ite_tt, ite_ff, of_some, okOr_some, v0, v1, v2, v3, v4, v5, v6, v7, v8, v9, n0, n1, n2, n3, n4, n5, n6, n7, n8, n9, d_C, d_Op1, d_Op2, d_Mt0, d_Mt1, d_Args0, d_Args, d_Tup, d_Lst, d_LstC, tupK0, tupK1, tupK2, tupK3, tupK4, tupK9, bK_b, d_And, d_Or, d_Not, d_tE, d_tAnd, d_tOr, d_tNot, d_tYes, d_If, d_CallI, isoE_ok, isoE_ex, iso1, iso2, iso3, iso4, iso5, d_CallS, tgK_some, d_Skip, d_Seq, d_Asg, d_Expr, d_Ret, d_IfS, d_For, d_Raise, d_Drop, drop_nx, drop_rt, drop_ex, wipe0, wipeC, d_fn, fin_rt, fin_nx, fin_ex, isoR_d, isoR_ex, add_ii, add_ss, add_tt, add_ll, add_llC, sub_ii, neg_i, lt_ii, le_ii, gt_ii, ge_ii, dep_s, dep_i, dep_b, dep_n, eq_ii, eq_ss, eq_bb, ne_ss, ne_ii, ne_bb, in_dt, in_dl, notin_dt, notin_dl, isN_n, isN_i, isN_t, isN_s, isN_b, isN_l, notN_b, notN_l, notN_n, notN_i, notN_t, notN_s, t0, t1, t2, t3, l0, l1, l2, l3, len_t, len_l, str_i, int_b, tup_t, tup_l, list_lC, list_tC, list_l, list_t, rev_lC, isi_d, rc_s, d_iSeq, seqK_l, seqK_t, d_iRng1, rngK_i, d_Lc, noEx_k, newL_f, newL_t, rng_zero, len_s, d_iTxt, k_tx, d_Sl, k_Sl, k_Sl2, k_Sl3, k_pt0, k_pt1, k_pt, sl_s, d_Fld, d_Meth, d_Make, d_Store, k_Store, k_Store2, inS_1, k_Op1, k_Op2, k_Op2b, k_Mt0, k_Mt1, k_Args, k_Argsb, k_Tup, k_LstC, k_Andb, k_And, k_Orb, k_Or, k_Notb, k_Not, k_tEb, k_tE, k_tAnd, k_tOr, k_tNot, k_If, k_Asg, k_Expr, k_IfS, k_For, k_Lc, k_Lcb, List.map_cons, List.map_nil, List.cons_append, List.nil_append, List.replicate, List.set_cons_zero, List.set_cons_succ, List.all_cons, List.all_nil, Bool.and_true, Bool.true_and, Bool.and_self, and_self, eq_self, if_true, if_false, decide_true, decide_false, Bool.false_eq_true, List.any_cons, List.any_nil, List.length_nil, List.length_cons, Bool.not_true, Bool.not_false, List.length_map] at hl hj
  unfold g_paper_written f_paper_written
  rw [d_iso]
  unfold Pap.enc at hp ⊢
  simp -implicitDefEqProofs +decide only [bind_ok, bind_ex, then_ok, then_ex, seq_nx, seq_rt, seq_ex, ite_tt, ite_ff, of_some, okOr_some, v0, v1, v2, v3, v4, v5, v6, v7, v8, v9, n0, n1, n2, n3, n4, n5, n6, n7, n8, n9, d_C, d_Op1, d_Op2, d_Mt0, d_Mt1, d_Args0, d_Args, d_Tup, d_Lst, d_LstC, tupK0, tupK1, tupK2, tupK3, tupK4, tupK9, bK_b, d_And, d_Or, d_Not, d_tE, d_tAnd, d_tOr, d_tNot, d_tYes, d_If, d_CallI, isoE_ok, isoE_ex, iso1, iso2, iso3, iso4, iso5, d_CallS, tgK_some, d_Skip, d_Seq, d_Asg, d_Expr, d_Ret, d_IfS, d_For, d_Raise, d_Drop, drop_nx, drop_rt, drop_ex, wipe0, wipeC, d_fn, fin_rt, fin_nx, fin_ex, isoR_d, isoR_ex, add_ii, add_ss, add_tt, add_ll, add_llC, sub_ii, neg_i, lt_ii, le_ii, gt_ii, ge_ii, dep_s, dep_i, dep_b, dep_n, eq_ii, eq_ss, eq_bb, ne_ss, ne_ii, ne_bb, in_dt, in_dl, notin_dt, notin_dl, isN_n, isN_i, isN_t, isN_s, isN_b, isN_l, notN_b, notN_l, notN_n, notN_i, notN_t, notN_s, t0, t1, t2, t3, l0, l1, l2, l3, len_t, len_l, str_i, int_b, tup_t, tup_l, list_lC, list_tC, list_l, list_t, rev_lC, isi_d, rc_s, d_iSeq, seqK_l, seqK_t, d_iRng1, rngK_i, d_Lc, noEx_k, newL_f, newL_t, rng_zero, len_s, d_iTxt, k_tx, d_Sl, k_Sl, k_Sl2, k_Sl3, k_pt0, k_pt1, k_pt, sl_s, d_Fld, d_Meth, d_Make, d_Store, k_Store, k_Store2, inS_1, k_Op1, k_Op2, k_Op2b, k_Mt0, k_Mt1, k_Args, k_Argsb, k_Tup, k_LstC, k_Andb, k_And, k_Orb, k_Or, k_Notb, k_Not, k_tEb, k_tE, k_tAnd, k_tOr, k_tNot, k_If, k_Asg, k_Expr, k_IfS, k_For, k_Lc, k_Lcb, List.map_cons, List.map_nil, List.cons_append, List.nil_append, List.replicate, List.set_cons_zero, List.set_cons_succ, List.all_cons, List.all_nil, Bool.and_true, Bool.true_and, Bool.and_self, and_self, eq_self, if_true, if_false, decide_true, decide_false, Bool.false_eq_true, List.any_cons, List.any_nil, List.length_nil, List.length_cons, Bool.not_true, Bool.not_false, hp, List.length_map, hl, hj]
  rfl

/-! what the reader asks besides -/
def fitF : Option Int → Prop
  | none => True
  | some i => i < 60
def Pap.Fit : Pap → Prop
  | .broken => True
  | .clash a b => (∀ s ∈ a, s.1 < 60) ∧ ∀ s ∈ b, s.1 < 60
  | .late a b => (∀ s ∈ a, s.1 < 60) ∧ ∀ s ∈ b, s.1 < 60
  | .cross a => ∀ s ∈ a, s.1 < 60
  | .odd l => ∀ i ∈ l, i < 201
  | .lone f a b => fitF f ∧ (∀ i ∈ a, i < 201) ∧ ∀ i ∈ b, i < 201
  | .plan l => ∀ r ∈ l, r.1 < 60 ∧ fitF r.2.1
  | .sums l => ∀ r ∈ l, r.1 < 60 ∧ ∀ i ∈ r.2.1, i < 60
  | .rows a l => (∀ i ∈ a, i < 60) ∧ ∀ r ∈ l, r.1 < 60 ∧ ∀ i ∈ r.2, i < 60
/-! the tape -/
def tp (t : List Int) : Cell := .lst (t.map fun i => vI i)
def nz (t : List Int) : Int := match t.getLast? with
  | some x => x % 2305843009213693951 * 2049848353892358983 % 2305843009213693951
  | none => 0
def nt (t : List Int) : List Int := t.dropLast
theorem c_mixed {a : Int} : callI g__law_mixed [.int a, .int 2049848353892358983] = some (.inr (.int (a % 2305843009213693951 * 2049848353892358983 % 2305843009213693951))) := by
  unfold g__law_mixed f__law_mixed
  rw [d_iso]
  simp -implicitDefEqProofs only [bind_ok, bind_ex, then_ok, then_ex, seq_nx, seq_rt, seq_ex, ite_tt, ite_ff, of_some, okOr_some, v0, v1, v2, v3, v4, v5, v6, v7, v8, v9, n0, n1, n2, n3, n4, n5, n6, n7, n8, n9, d_C, d_Op1, d_Op2, d_Mt0, d_Mt1, d_Args0, d_Args, d_Tup, d_Lst, d_LstC, tupK0, tupK1, tupK2, tupK3, tupK4, tupK9, bK_b, d_And, d_Or, d_Not, d_tE, d_tAnd, d_tOr, d_tNot, d_tYes, d_If, d_CallI, isoE_ok, isoE_ex, iso1, iso2, iso3, iso4, iso5, d_CallS, tgK_some, d_Skip, d_Seq, d_Asg, d_Expr, d_Ret, d_IfS, d_For, d_Raise, d_Drop, drop_nx, drop_rt, drop_ex, wipe0, wipeC, d_fn, fin_rt, fin_nx, fin_ex, isoR_d, isoR_ex, add_ii, add_ss, add_tt, add_ll, add_llC, sub_ii, neg_i, lt_ii, le_ii, gt_ii, ge_ii, dep_s, dep_i, dep_b, dep_n, eq_ii, eq_ss, eq_bb, ne_ss, ne_ii, ne_bb, in_dt, in_dl, notin_dt, notin_dl, isN_n, isN_i, isN_t, isN_s, isN_b, isN_l, notN_b, notN_l, notN_n, notN_i, notN_t, notN_s, t0, t1, t2, t3, l0, l1, l2, l3, len_t, len_l, str_i, int_b, tup_t, tup_l, list_lC, list_tC, list_l, list_t, rev_lC, isi_d, rc_s, d_iSeq, seqK_l, seqK_t, d_iRng1, rngK_i, d_Lc, noEx_k, newL_f, newL_t, rng_zero, len_s, d_iTxt, k_tx, d_Sl, k_Sl, k_Sl2, k_Sl3, k_pt0, k_pt1, k_pt, sl_s, d_Fld, d_Meth, d_Make, d_Store, k_Store, k_Store2, inS_1, k_Op1, k_Op2, k_Op2b, k_Mt0, k_Mt1, k_Args, k_Argsb, k_Tup, k_LstC, k_Andb, k_And, k_Orb, k_Or, k_Notb, k_Not, k_tEb, k_tE, k_tAnd, k_tOr, k_tNot, k_If, k_Asg, k_Expr, k_IfS, k_For, k_Lc, k_Lcb, List.map_cons, List.map_nil, List.cons_append, List.nil_append, List.replicate, List.set_cons_zero, List.set_cons_succ, List.all_cons, List.all_nil, Bool.and_true, Bool.true_and, Bool.and_self, and_self, eq_self, if_true, if_false, decide_true, decide_false, Bool.false_eq_true, List.any_cons, List.any_nil, List.length_nil, List.length_cons, Bool.not_true, Bool.not_false, mod_ii (show (0 : Int) < 2305843009213693951 by decide), mul_ii (i := a % 2305843009213693951) (j := 2049848353892358983) (.inr (by decide))]
def Lo (R : Sto) : Prop := R.all (Cell.below (R.length + 1)) = true
theorem Lo.ite {α : Type} {R : Sto} (h : Lo R) (a b : α) : (if List.all R (Cell.below (List.length R + 1)) = true then a else b) = a := if_pos h
theorem tp_below (t : List Int) (n : Nat) : (tp t).below n = true := by
  simp [tp, Cell.below, P.below]
theorem nxt (t : List Int) {R : Sto} (hR : Lo R) : callS g__law_next [.r 0] (tp t :: R) = .ok (vI (nz t)) (tp (nt t) :: R) := by
  unfold callS g__law_next f__law_next
  rcases List.eq_nil_or_concat t with rfl | ⟨t', x, rfl⟩
  · have hl : oLen (.r 0) (tp [] :: R) = some (vI (([] : List P).length : Nat), tp [] :: R) := len_r (.inl rfl)
    simp -implicitDefEqProofs +decide only [bind_ok, bind_ex, then_ok, then_ex, seq_nx, seq_rt, seq_ex, ite_tt, ite_ff, of_some, okOr_some, v0, v1, v2, v3, v4, v5, v6, v7, v8, v9, n0, n1, n2, n3, n4, n5, n6, n7, n8, n9, d_C, d_Op1, d_Op2, d_Mt0, d_Mt1, d_Args0, d_Args, d_Tup, d_Lst, d_LstC, tupK0, tupK1, tupK2, tupK3, tupK4, tupK9, bK_b, d_And, d_Or, d_Not, d_tE, d_tAnd, d_tOr, d_tNot, d_tYes, d_If, d_CallI, isoE_ok, isoE_ex, iso1, iso2, iso3, iso4, iso5, d_CallS, tgK_some, d_Skip, d_Seq, d_Asg, d_Expr, d_Ret, d_IfS, d_For, d_Raise, d_Drop, drop_nx, drop_rt, drop_ex, wipe0, wipeC, d_fn, fin_rt, fin_nx, fin_ex, isoR_d, isoR_ex, add_ii, add_ss, add_tt, add_ll, add_llC, sub_ii, neg_i, lt_ii, le_ii, gt_ii, ge_ii, dep_s, dep_i, dep_b, dep_n, eq_ii, eq_ss, eq_bb, ne_ss, ne_ii, ne_bb, in_dt, in_dl, notin_dt, notin_dl, isN_n, isN_i, isN_t, isN_s, isN_b, isN_l, notN_b, notN_l, notN_n, notN_i, notN_t, notN_s, t0, t1, t2, t3, l0, l1, l2, l3, len_t, len_l, str_i, int_b, tup_t, tup_l, list_lC, list_tC, list_l, list_t, rev_lC, isi_d, rc_s, d_iSeq, seqK_l, seqK_t, d_iRng1, rngK_i, d_Lc, noEx_k, newL_f, newL_t, rng_zero, len_s, d_iTxt, k_tx, d_Sl, k_Sl, k_Sl2, k_Sl3, k_pt0, k_pt1, k_pt, sl_s, d_Fld, d_Meth, d_Make, d_Store, k_Store, k_Store2, inS_1, k_Op1, k_Op2, k_Op2b, k_Mt0, k_Mt1, k_Args, k_Argsb, k_Tup, k_LstC, k_Andb, k_And, k_Orb, k_Or, k_Notb, k_Not, k_tEb, k_tE, k_tAnd, k_tOr, k_tNot, k_If, k_Asg, k_Expr, k_IfS, k_For, k_Lc, k_Lcb, List.map_cons, List.map_nil, List.cons_append, List.nil_append, List.replicate, List.set_cons_zero, List.set_cons_succ, List.all_cons, List.all_nil, Bool.and_true, Bool.true_and, Bool.and_self, and_self, eq_self, if_true, if_false, decide_true, decide_false, Bool.false_eq_true, List.any_cons, List.any_nil, List.length_nil, List.length_cons, Bool.not_true, Bool.not_false, hl]
    simp only [List.length_cons, List.take_succ_cons, List.take_length, List.all_cons, tp_below, Bool.true_and]
    rw [hR.ite]
    rfl
  · rw [List.concat_eq_append]
    have hl : oLen (.r 0) (tp (t' ++ [x]) :: R) = some (vI (((t' ++ [x]).map fun i => vI i).length : Nat), tp (t' ++ [x]) :: R) := len_r (.inl rfl)
    have hp : oPop (.r 0) (tp (t' ++ [x]) :: R) = some (vI x, tp t' :: R) := by
      rw [pop_r (l := t'.map fun i => vI i) (x := vI x) (by simp [tp])]; rfl
    have hr : Rc.ok .list (tp (t' ++ [x]) :: R) (.r 0) = true := rfl
    have h0 : decide ((0 : Int) < ((((t' ++ [x]).map fun i => vI i).length : Nat) : Int)) = true := by simp
    simp -implicitDefEqProofs +decide only [bind_ok, bind_ex, then_ok, then_ex, seq_nx, seq_rt, seq_ex, ite_tt, ite_ff, of_some, okOr_some, v0, v1, v2, v3, v4, v5, v6, v7, v8, v9, n0, n1, n2, n3, n4, n5, n6, n7, n8, n9, d_C, d_Op1, d_Op2, d_Mt0, d_Mt1, d_Args0, d_Args, d_Tup, d_Lst, d_LstC, tupK0, tupK1, tupK2, tupK3, tupK4, tupK9, bK_b, d_And, d_Or, d_Not, d_tE, d_tAnd, d_tOr, d_tNot, d_tYes, d_If, d_CallI, isoE_ok, isoE_ex, iso1, iso2, iso3, iso4, iso5, d_CallS, tgK_some, d_Skip, d_Seq, d_Asg, d_Expr, d_Ret, d_IfS, d_For, d_Raise, d_Drop, drop_nx, drop_rt, drop_ex, wipe0, wipeC, d_fn, fin_rt, fin_nx, fin_ex, isoR_d, isoR_ex, add_ii, add_ss, add_tt, add_ll, add_llC, sub_ii, neg_i, lt_ii, le_ii, gt_ii, ge_ii, dep_s, dep_i, dep_b, dep_n, eq_ii, eq_ss, eq_bb, ne_ss, ne_ii, ne_bb, in_dt, in_dl, notin_dt, notin_dl, isN_n, isN_i, isN_t, isN_s, isN_b, isN_l, notN_b, notN_l, notN_n, notN_i, notN_t, notN_s, t0, t1, t2, t3, l0, l1, l2, l3, len_t, len_l, str_i, int_b, tup_t, tup_l, list_lC, list_tC, list_l, list_t, rev_lC, isi_d, rc_s, d_iSeq, seqK_l, seqK_t, d_iRng1, rngK_i, d_Lc, noEx_k, newL_f, newL_t, rng_zero, len_s, d_iTxt, k_tx, d_Sl, k_Sl, k_Sl2, k_Sl3, k_pt0, k_pt1, k_pt, sl_s, d_Fld, d_Meth, d_Make, d_Store, k_Store, k_Store2, inS_1, k_Op1, k_Op2, k_Op2b, k_Mt0, k_Mt1, k_Args, k_Argsb, k_Tup, k_LstC, k_Andb, k_And, k_Orb, k_Or, k_Notb, k_Not, k_tEb, k_tE, k_tAnd, k_tOr, k_tNot, k_If, k_Asg, k_Expr, k_IfS, k_For, k_Lc, k_Lcb, List.map_cons, List.map_nil, List.cons_append, List.nil_append, List.replicate, List.set_cons_zero, List.set_cons_succ, List.all_cons, List.all_nil, Bool.and_true, Bool.true_and, Bool.and_self, and_self, eq_self, if_true, if_false, decide_true, decide_false, Bool.false_eq_true, List.any_cons, List.any_nil, List.length_nil, List.length_cons, Bool.not_true, Bool.not_false, hl, h0, hr, hp, c_mixed]
    simp only [List.length_cons, List.take_succ_cons, List.take_length, List.all_cons, tp_below, Bool.true_and]
    rw [hR.ite]
    simp [nz, nt]
def mz (t : List Int) (m : Int) : Int := if nz t / 6 % 8 = 1 then 60 + nz t / 48 % (m - 59) else nz t % 6
theorem many (t : List Int) {R : Sto} (m : Int) (hm : 59 < m) (hR : Lo R) : callS g__law_many [.r 0, vI m] (tp t :: R) = .ok (vI (mz t m)) (tp (nt t) :: R) := by
  unfold callS g__law_many f__law_many
  have h1 : (0 < m - 59) := by omega
  have h2 := @nxt t R hR
  by_cases h : nz t / 6 % 8 = 1
  · simp -implicitDefEqProofs +decide only [bind_ok, bind_ex, then_ok, then_ex, seq_nx, seq_rt, seq_ex, ite_tt, ite_ff, of_some, okOr_some, v0, v1, v2, v3, v4, v5, v6, v7, v8, v9, n0, n1, n2, n3, n4, n5, n6, n7, n8, n9, d_C, d_Op1, d_Op2, d_Mt0, d_Mt1, d_Args0, d_Args, d_Tup, d_Lst, d_LstC, tupK0, tupK1, tupK2, tupK3, tupK4, tupK9, bK_b, d_And, d_Or, d_Not, d_tE, d_tAnd, d_tOr, d_tNot, d_tYes, d_If, d_CallI, isoE_ok, isoE_ex, iso1, iso2, iso3, iso4, iso5, d_CallS, tgK_some, d_Skip, d_Seq, d_Asg, d_Expr, d_Ret, d_IfS, d_For, d_Raise, d_Drop, drop_nx, drop_rt, drop_ex, wipe0, wipeC, d_fn, fin_rt, fin_nx, fin_ex, isoR_d, isoR_ex, add_ii, add_ss, add_tt, add_ll, add_llC, sub_ii, neg_i, lt_ii, le_ii, gt_ii, ge_ii, dep_s, dep_i, dep_b, dep_n, eq_ii, eq_ss, eq_bb, ne_ss, ne_ii, ne_bb, in_dt, in_dl, notin_dt, notin_dl, isN_n, isN_i, isN_t, isN_s, isN_b, isN_l, notN_b, notN_l, notN_n, notN_i, notN_t, notN_s, t0, t1, t2, t3, l0, l1, l2, l3, len_t, len_l, str_i, int_b, tup_t, tup_l, list_lC, list_tC, list_l, list_t, rev_lC, isi_d, rc_s, d_iSeq, seqK_l, seqK_t, d_iRng1, rngK_i, d_Lc, noEx_k, newL_f, newL_t, rng_zero, len_s, d_iTxt, k_tx, d_Sl, k_Sl, k_Sl2, k_Sl3, k_pt0, k_pt1, k_pt, sl_s, d_Fld, d_Meth, d_Make, d_Store, k_Store, k_Store2, inS_1, k_Op1, k_Op2, k_Op2b, k_Mt0, k_Mt1, k_Args, k_Argsb, k_Tup, k_LstC, k_Andb, k_And, k_Orb, k_Or, k_Notb, k_Not, k_tEb, k_tE, k_tAnd, k_tOr, k_tNot, k_If, k_Asg, k_Expr, k_IfS, k_For, k_Lc, k_Lcb, List.map_cons, List.map_nil, List.cons_append, List.nil_append, List.replicate, List.set_cons_zero, List.set_cons_succ, List.all_cons, List.all_nil, Bool.and_true, Bool.true_and, Bool.and_self, and_self, eq_self, if_true, if_false, decide_true, decide_false, Bool.false_eq_true, List.any_cons, List.any_nil, List.length_nil, List.length_cons, Bool.not_true, Bool.not_false, h2, mod_ii (show (0:Int) < 8 by decide), fdiv_ii (show (0:Int) < 6 ∧ (6 : Int) < 1073741824 by decide), fdiv_ii (show (0:Int) < 48 ∧ (48 : Int) < 1073741824 by decide), mod_ii h1, h]
    simp only [List.length_cons, List.take_succ_cons, List.take_length, List.all_cons, tp_below, Bool.true_and]
    rw [hR.ite]
    simp [mz, h]
  · simp -implicitDefEqProofs +decide only [bind_ok, bind_ex, then_ok, then_ex, seq_nx, seq_rt, seq_ex, ite_tt, ite_ff, of_some, okOr_some, v0, v1, v2, v3, v4, v5, v6, v7, v8, v9, n0, n1, n2, n3, n4, n5, n6, n7, n8, n9, d_C, d_Op1, d_Op2, d_Mt0, d_Mt1, d_Args0, d_Args, d_Tup, d_Lst, d_LstC, tupK0, tupK1, tupK2, tupK3, tupK4, tupK9, bK_b, d_And, d_Or, d_Not, d_tE, d_tAnd, d_tOr, d_tNot, d_tYes, d_If, d_CallI, isoE_ok, isoE_ex, iso1, iso2, iso3, iso4, iso5, d_CallS, tgK_some, d_Skip, d_Seq, d_Asg, d_Expr, d_Ret, d_IfS, d_For, d_Raise, d_Drop, drop_nx, drop_rt, drop_ex, wipe0, wipeC, d_fn, fin_rt, fin_nx, fin_ex, isoR_d, isoR_ex, add_ii, add_ss, add_tt, add_ll, add_llC, sub_ii, neg_i, lt_ii, le_ii, gt_ii, ge_ii, dep_s, dep_i, dep_b, dep_n, eq_ii, eq_ss, eq_bb, ne_ss, ne_ii, ne_bb, in_dt, in_dl, notin_dt, notin_dl, isN_n, isN_i, isN_t, isN_s, isN_b, isN_l, notN_b, notN_l, notN_n, notN_i, notN_t, notN_s, t0, t1, t2, t3, l0, l1, l2, l3, len_t, len_l, str_i, int_b, tup_t, tup_l, list_lC, list_tC, list_l, list_t, rev_lC, isi_d, rc_s, d_iSeq, seqK_l, seqK_t, d_iRng1, rngK_i, d_Lc, noEx_k, newL_f, newL_t, rng_zero, len_s, d_iTxt, k_tx, d_Sl, k_Sl, k_Sl2, k_Sl3, k_pt0, k_pt1, k_pt, sl_s, d_Fld, d_Meth, d_Make, d_Store, k_Store, k_Store2, inS_1, k_Op1, k_Op2, k_Op2b, k_Mt0, k_Mt1, k_Args, k_Argsb, k_Tup, k_LstC, k_Andb, k_And, k_Orb, k_Or, k_Notb, k_Not, k_tEb, k_tE, k_tAnd, k_tOr, k_tNot, k_If, k_Asg, k_Expr, k_IfS, k_For, k_Lc, k_Lcb, List.map_cons, List.map_nil, List.cons_append, List.nil_append, List.replicate, List.set_cons_zero, List.set_cons_succ, List.all_cons, List.all_nil, Bool.and_true, Bool.true_and, Bool.and_self, and_self, eq_self, if_true, if_false, decide_true, decide_false, Bool.false_eq_true, List.any_cons, List.any_nil, List.length_nil, List.length_cons, Bool.not_true, Bool.not_false, h2, mod_ii (show (0:Int) < 8 by decide), fdiv_ii (show (0:Int) < 6 ∧ (6 : Int) < 1073741824 by decide), mod_ii (show (0:Int) < 6 by decide), h]
    simp only [List.length_cons, List.take_succ_cons, List.take_length, List.all_cons, tp_below, Bool.true_and]
    rw [hR.ite]
    simp [mz, h]
theorem mz_le {t : List Int} {m : Int} (hm : 60 ≤ m) : 0 ≤ mz t m ∧ mz t m ≤ m := by
  unfold mz
  split
  · have h1 := Int.emod_nonneg (nz t / 48) (b := m - 59) (by omega)
    have h2 := Int.emod_lt_of_pos (nz t / 48) (b := m - 59) (by omega)
    omega
  · omega
/-- a comprehension whose turns may read on -/
theorem lc_any {τ : Type} {g : Tg} {t : Tx} {e : Ex} {ρ : DK.Env} {f : τ → PyData} (Is : Sto → Prop) (Ok : PyData → Prop) : ∀ (l : List τ) (acc : List PyData) (S : Sto), acc.length + l.length ≤ LINE → Is S → (∀ y ∈ acc, Ok y) →
    (∀ x ∈ l, ∀ S, Is S → ∃ ρ' y S', g (.d (f x)) ρ = some ρ' ∧ t ρ' S = .ok true S ∧ e ρ' S = .ok (.d y) S' ∧ Ok y ∧ Is S') → ∃ r S', lcL g t e ρ (l.map fun x => .d (f x)) acc S = .ok r S' ∧ Is S' ∧ r.length = acc.length + l.length ∧ ∀ y ∈ r, Ok y
  | [], acc, S, _, h, ha, _ => ⟨acc, S, by simp [lcL], h, by simp, ha⟩
  | x :: l, acc, S, hl, h, ha, hx => by
    obtain ⟨ρ', y, S1, h1, h2, h3, h4, h5⟩ := hx x (by simp) S h
    simp only [List.length_cons] at hl
    have hlt : acc.length < LINE := by omega
    obtain ⟨r, S2, q1, q2, q3, q4⟩ := lc_any Is Ok l (acc ++ [y]) S1 (by simp; omega) h5 (fun z hz => by
      rcases List.mem_append.1 hz with hz | hz
      · exact ha z hz
      · rw [List.mem_singleton.1 hz]; exact h4) fun z hz => hx z (by simp [hz])
    refine ⟨r, S2, ?_, q2, by rw [q3]; simp; omega, q4⟩
    simp only [List.map_cons, lcL, h1, h2, bind_ok, ite_tt, h3, toD, if_pos hlt]
    exact q1
theorem all_int {Q : Int → Prop} : ∀ {r : List PyData}, (∀ y ∈ r, ∃ i, y = .int i ∧ Q i) → ∃ l : List Int, r = l.map .int ∧ ∀ i ∈ l, Q i
  | [], _ => ⟨[], rfl, by simp⟩
  | y :: r, h => by
    obtain ⟨i, rfl, hi⟩ := h y (by simp)
    obtain ⟨l, rfl, hl⟩ := all_int (r := r) fun z hz => h z (by simp [hz])
    exact ⟨i :: l, rfl, fun j hj => by
      rcases List.mem_cons.1 hj with rfl | hj
      · exact hi
      · exact hl j hj⟩
theorem numbers (t : List Int) {R : Sto} (m : Int) (hm : 0 < m ∧ m ≤ 1000) (hR : Lo R) : ∃ l t', callS g__law_any_numbers [.r 0, vI m] (tp t :: R) = .ok (.d (eNums l)) (tp t' :: R) ∧ okNums l ∧ ∀ i ∈ l, i < m := by
  have hz := @mz_le t 200 (by decide)
  obtain ⟨r, S', q1, ⟨t', rfl⟩, q3, q4⟩ := lc_any (g := gN 2) (t := tYes) (e := eOp2 (oMod) (eOp2 (oAdd false) (eCallS g__law_next [eVar 0]) (eOp2 (oMul) (eOp2 (oMul) (eC (vI 7919)) (eVar 2)) (eVar 2))) (eVar 1)) (ρ := [some (.r 0), some (vI m), none]) (f := fun k : Nat => .int (0 + (k : Int)))
    (fun S => ∃ t, S = tp t :: R) (fun y => ∃ i, y = .int i ∧ okI i ∧ i < m) (List.range (mz t 200).toNat) [] (tp (nt t) :: R) (by simp; unfold LINE; omega) ⟨_, rfl⟩ (by simp) fun k hk S hS => by
      obtain ⟨t, rfl⟩ := hS
      have hk := List.mem_range.1 hk
      have e1 := Int.emod_nonneg (nz t + 7919 * (0 + (k : Int)) * (0 + (k : Int))) (b := m) (by omega)
      have e2 := Int.emod_lt_of_pos (nz t + 7919 * (0 + (k : Int)) * (0 + (k : Int))) (b := m) (by omega)
      refine ⟨[some (.r 0), some (vI m), some (vI (0 + (k : Int)))], .int ((nz t + 7919 * (0 + (k : Int)) * (0 + (k : Int))) % m), tp (nt t) :: R, rfl, rfl, ?_, ⟨_, rfl, by constructor <;> omega, e2⟩, ⟨_, rfl⟩⟩
      simp -implicitDefEqProofs only [bind_ok, bind_ex, then_ok, then_ex, seq_nx, seq_rt, seq_ex, ite_tt, ite_ff, of_some, okOr_some, v0, v1, v2, v3, v4, v5, v6, v7, v8, v9, n0, n1, n2, n3, n4, n5, n6, n7, n8, n9, d_C, d_Op1, d_Op2, d_Mt0, d_Mt1, d_Args0, d_Args, d_Tup, d_Lst, d_LstC, tupK0, tupK1, tupK2, tupK3, tupK4, tupK9, bK_b, d_And, d_Or, d_Not, d_tE, d_tAnd, d_tOr, d_tNot, d_tYes, d_If, d_CallI, isoE_ok, isoE_ex, iso1, iso2, iso3, iso4, iso5, d_CallS, tgK_some, d_Skip, d_Seq, d_Asg, d_Expr, d_Ret, d_IfS, d_For, d_Raise, d_Drop, drop_nx, drop_rt, drop_ex, wipe0, wipeC, d_fn, fin_rt, fin_nx, fin_ex, isoR_d, isoR_ex, add_ii, add_ss, add_tt, add_ll, add_llC, sub_ii, neg_i, lt_ii, le_ii, gt_ii, ge_ii, dep_s, dep_i, dep_b, dep_n, eq_ii, eq_ss, eq_bb, ne_ss, ne_ii, ne_bb, in_dt, in_dl, notin_dt, notin_dl, isN_n, isN_i, isN_t, isN_s, isN_b, isN_l, notN_b, notN_l, notN_n, notN_i, notN_t, notN_s, t0, t1, t2, t3, l0, l1, l2, l3, len_t, len_l, str_i, int_b, tup_t, tup_l, list_lC, list_tC, list_l, list_t, rev_lC, isi_d, rc_s, d_iSeq, seqK_l, seqK_t, d_iRng1, rngK_i, d_Lc, noEx_k, newL_f, newL_t, rng_zero, len_s, d_iTxt, k_tx, d_Sl, k_Sl, k_Sl2, k_Sl3, k_pt0, k_pt1, k_pt, sl_s, d_Fld, d_Meth, d_Make, d_Store, k_Store, k_Store2, inS_1, k_Op1, k_Op2, k_Op2b, k_Mt0, k_Mt1, k_Args, k_Argsb, k_Tup, k_LstC, k_Andb, k_And, k_Orb, k_Or, k_Notb, k_Not, k_tEb, k_tE, k_tAnd, k_tOr, k_tNot, k_If, k_Asg, k_Expr, k_IfS, k_For, k_Lc, k_Lcb, List.map_cons, List.map_nil, List.cons_append, List.nil_append, List.replicate, List.set_cons_zero, List.set_cons_succ, List.all_cons, List.all_nil, Bool.and_true, Bool.true_and, Bool.and_self, and_self, eq_self, if_true, if_false, decide_true, decide_false, Bool.false_eq_true, List.any_cons, List.any_nil, List.length_nil, List.length_cons, Bool.not_true, Bool.not_false, nxt t hR, mul_ii (i := 7919) (j := 0 + (k : Int)) (.inl (by decide)), mul_ii (i := 7919 * (0 + (k : Int))) (j := 0 + (k : Int)) (.inr (by omega)), mod_ii hm.1]
  obtain ⟨l, rfl, hl⟩ := all_int q4
  refine ⟨l, t', ?_, ⟨?_, fun i hi => (hl i hi).1⟩, fun i hi => (hl i hi).2⟩
  · unfold callS g__law_any_numbers f__law_any_numbers
    have q1' : lcL (gN 2) tYes (eOp2 (oMod) (eOp2 (oAdd false) (eCallS g__law_next [eVar 0]) (eOp2 (oMul) (eOp2 (oMul) (eC (vI 7919)) (eVar 2)) (eVar 2))) (eVar 1)) [some (.r 0), some (vI m), none] (rng 0 (mz t 200).toNat) [] (tp (nt t) :: R) = .ok (l.map .int) (tp t' :: R) := q1
    simp -implicitDefEqProofs only [bind_ok, bind_ex, then_ok, then_ex, seq_nx, seq_rt, seq_ex, ite_tt, ite_ff, of_some, okOr_some, v0, v1, v2, v3, v4, v5, v6, v7, v8, v9, n0, n1, n2, n3, n4, n5, n6, n7, n8, n9, d_C, d_Op1, d_Op2, d_Mt0, d_Mt1, d_Args0, d_Args, d_Tup, d_Lst, d_LstC, tupK0, tupK1, tupK2, tupK3, tupK4, tupK9, bK_b, d_And, d_Or, d_Not, d_tE, d_tAnd, d_tOr, d_tNot, d_tYes, d_If, d_CallI, isoE_ok, isoE_ex, iso1, iso2, iso3, iso4, iso5, d_CallS, tgK_some, d_Skip, d_Seq, d_Asg, d_Expr, d_Ret, d_IfS, d_For, d_Raise, d_Drop, drop_nx, drop_rt, drop_ex, wipe0, wipeC, d_fn, fin_rt, fin_nx, fin_ex, isoR_d, isoR_ex, add_ii, add_ss, add_tt, add_ll, add_llC, sub_ii, neg_i, lt_ii, le_ii, gt_ii, ge_ii, dep_s, dep_i, dep_b, dep_n, eq_ii, eq_ss, eq_bb, ne_ss, ne_ii, ne_bb, in_dt, in_dl, notin_dt, notin_dl, isN_n, isN_i, isN_t, isN_s, isN_b, isN_l, notN_b, notN_l, notN_n, notN_i, notN_t, notN_s, t0, t1, t2, t3, l0, l1, l2, l3, len_t, len_l, str_i, int_b, tup_t, tup_l, list_lC, list_tC, list_l, list_t, rev_lC, isi_d, rc_s, d_iSeq, seqK_l, seqK_t, d_iRng1, rngK_i, d_Lc, noEx_k, newL_f, newL_t, rng_zero, len_s, d_iTxt, k_tx, d_Sl, k_Sl, k_Sl2, k_Sl3, k_pt0, k_pt1, k_pt, sl_s, d_Fld, d_Meth, d_Make, d_Store, k_Store, k_Store2, inS_1, k_Op1, k_Op2, k_Op2b, k_Mt0, k_Mt1, k_Args, k_Argsb, k_Tup, k_LstC, k_Andb, k_And, k_Orb, k_Or, k_Notb, k_Not, k_tEb, k_tE, k_tAnd, k_tOr, k_tNot, k_If, k_Asg, k_Expr, k_IfS, k_For, k_Lc, k_Lcb, List.map_cons, List.map_nil, List.cons_append, List.nil_append, List.replicate, List.set_cons_zero, List.set_cons_succ, List.all_cons, List.all_nil, Bool.and_true, Bool.true_and, Bool.and_self, and_self, eq_self, if_true, if_false, decide_true, decide_false, Bool.false_eq_true, List.any_cons, List.any_nil, List.length_nil, List.length_cons, Bool.not_true, Bool.not_false, many t 200 (by decide) hR, rngK_i (j := mz t 200) (by omega), q1']
    simp only [List.length_cons, List.take_succ_cons, List.take_length, List.all_cons, tp_below, Bool.true_and]
    rw [hR.ite]
    rfl
  · simp at q3; omega
/-- a typed item is appended -/
theorem ac_app {τ : Type} {f : τ → PyData} {S : Sto} {i : Nat} {l : List τ} {x : τ} (e : S[i]? = some (.lst ((l.map f).map .d))) (h : l.length < LINE) : oAppend (.r i) (.d (f x)) S = some (vN, S.set i (.lst (((l ++ [x]).map f).map .d))) := by
  rw [app_r e (by simpa using h)]
  simp
theorem em (a b : Int) (hb : 0 < b) : 0 ≤ a % b ∧ a % b < b := ⟨Int.emod_nonneg _ (by omega), Int.emod_lt_of_pos _ hb⟩
/-- the loop that draws a road -/
theorem road (ta : List Int) : ∃ l t', callS g__law_any_road [.r 0] [tp ta] = .ok (.d (eRoad l)) [tp t'] ∧ okRoad l ∧ ∀ s ∈ l, s.1 < 60 := by
  have hz := @mz_le ta 200 (by decide)
  have hE : Lo [] := rfl
  unfold callS g__law_any_road f__law_any_road
  generalize hB : sDrop _ [2, 3] = B
  obtain ⟨ρ2, S2, h1, t', l, rfl, rfl, h2, h3⟩ := for_inv0 (g := gN 2) (b := B) (f := fun k : Nat => vI (0 + (k : Int))) (l := List.range (mz ta 200).toNat) (ρ := [some (.r 0), some (.r 1), none, none]) (S := [tp (nt ta), .lst []])
    (fun pre ρ S => ∃ t l, ρ = [some (.r 0), some (.r 1), none, none] ∧ S = [tp t, .lst ((l.map eSay).map .d)] ∧ l.length = pre.length ∧ ∀ s ∈ l, okI s.1 ∧ s.1 < 60) ⟨_, [], rfl, rfl, rfl, by simp⟩ fun pre x post ρ S hl hI => by
      obtain ⟨t, l, rfl, rfl, h2, h3⟩ := hI
      have hkm : x ∈ List.range (mz ta 200).toNat := by rw [hl]; simp
      have hk := List.mem_range.1 hkm
      have hpl : pre.length < 1000 := by
        have := congrArg List.length hl
        simp at this; omega
      have e1 := em (nz t + 7919 * (0 + (x : Int)) * (0 + (x : Int))) 60 (by decide)
      have hn : callS g__law_next [.r 0] (tp t :: [.lst ((l.map eSay).map .d)]) = _ := nxt t (R := [.lst ((l.map eSay).map .d)]) (by simp [Lo, Cell.below, P.below])
      have m1 := @mul_ii (tp (nt t) :: [.lst ((l.map eSay).map .d)]) 7919 (0 + (x : Int)) (.inl (by decide))
      have m2 := @mul_ii (tp (nt t) :: [.lst ((l.map eSay).map .d)]) (7919 * (0 + (x : Int))) (0 + (x : Int)) (.inr (by omega))
      have ha : oAppend (.r 1) (.d (.tuple [.int ((nz t + 7919 * (0 + (x : Int)) * (0 + (x : Int))) % 60), .bool (decide ((nz t + 7919 * (0 + (x : Int)) * (0 + (x : Int))) / 60 % 2 = 1))])) [tp (nt t), .lst ((l.map eSay).map .d)] = _ := @ac_app _ eSay _ 1 l ((nz t + 7919 * (0 + (x : Int)) * (0 + (x : Int))) % 60, decide ((nz t + 7919 * (0 + (x : Int)) * (0 + (x : Int))) / 60 % 2 = 1)) rfl (by unfold LINE; omega)
      have hr : Rc.ok .list [tp (nt t), .lst ((l.map eSay).map .d)] (.r 1) = true := rfl
      refine ⟨_, _, [tp (nt t), .lst (((l ++ [((nz t + 7919 * (0 + (x : Int)) * (0 + (x : Int))) % 60, decide ((nz t + 7919 * (0 + (x : Int)) * (0 + (x : Int))) / 60 % 2 = 1))]).map eSay).map .d)], rfl, ?_, _, _, rfl, rfl, by simp [h2], ?_⟩
      · subst hB
        simp -implicitDefEqProofs only [bind_ok, bind_ex, then_ok, then_ex, seq_nx, seq_rt, seq_ex, ite_tt, ite_ff, of_some, okOr_some, v0, v1, v2, v3, v4, v5, v6, v7, v8, v9, n0, n1, n2, n3, n4, n5, n6, n7, n8, n9, d_C, d_Op1, d_Op2, d_Mt0, d_Mt1, d_Args0, d_Args, d_Tup, d_Lst, d_LstC, tupK0, tupK1, tupK2, tupK3, tupK4, tupK9, bK_b, d_And, d_Or, d_Not, d_tE, d_tAnd, d_tOr, d_tNot, d_tYes, d_If, d_CallI, isoE_ok, isoE_ex, iso1, iso2, iso3, iso4, iso5, d_CallS, tgK_some, d_Skip, d_Seq, d_Asg, d_Expr, d_Ret, d_IfS, d_For, d_Raise, d_Drop, drop_nx, drop_rt, drop_ex, wipe0, wipeC, d_fn, fin_rt, fin_nx, fin_ex, isoR_d, isoR_ex, add_ii, add_ss, add_tt, add_ll, add_llC, sub_ii, neg_i, lt_ii, le_ii, gt_ii, ge_ii, dep_s, dep_i, dep_b, dep_n, eq_ii, eq_ss, eq_bb, ne_ss, ne_ii, ne_bb, in_dt, in_dl, notin_dt, notin_dl, isN_n, isN_i, isN_t, isN_s, isN_b, isN_l, notN_b, notN_l, notN_n, notN_i, notN_t, notN_s, t0, t1, t2, t3, l0, l1, l2, l3, len_t, len_l, str_i, int_b, tup_t, tup_l, list_lC, list_tC, list_l, list_t, rev_lC, isi_d, rc_s, d_iSeq, seqK_l, seqK_t, d_iRng1, rngK_i, d_Lc, noEx_k, newL_f, newL_t, rng_zero, len_s, d_iTxt, k_tx, d_Sl, k_Sl, k_Sl2, k_Sl3, k_pt0, k_pt1, k_pt, sl_s, d_Fld, d_Meth, d_Make, d_Store, k_Store, k_Store2, inS_1, k_Op1, k_Op2, k_Op2b, k_Mt0, k_Mt1, k_Args, k_Argsb, k_Tup, k_LstC, k_Andb, k_And, k_Orb, k_Or, k_Notb, k_Not, k_tEb, k_tE, k_tAnd, k_tOr, k_tNot, k_If, k_Asg, k_Expr, k_IfS, k_For, k_Lc, k_Lcb, List.map_cons, List.map_nil, List.cons_append, List.nil_append, List.replicate, List.set_cons_zero, List.set_cons_succ, List.all_cons, List.all_nil, Bool.and_true, Bool.true_and, Bool.and_self, and_self, eq_self, if_true, if_false, decide_true, decide_false, Bool.false_eq_true, List.any_cons, List.any_nil, List.length_nil, List.length_cons, Bool.not_true, Bool.not_false, hn, m1, m2, hr, ha, fdiv_ii (show (0:Int) < 60 ∧ (60 : Int) < 1073741824 by decide), mod_ii (show (0:Int) < 2 by decide), mod_ii (show (0:Int) < 60 by decide)]
      · intro s hs
        rcases List.mem_append.1 hs with hs | hs
        · exact h3 s hs
        · rw [List.mem_singleton.1 hs]; exact ⟨⟨e1.1, by show _ < _; omega⟩, e1.2⟩
  refine ⟨l, t', ?_, ⟨by rw [h2]; simp; omega, fun s hs => (h3 s hs).1⟩, fun s hs => (h3 s hs).2⟩
  have hm := many ta (R := [.lst []]) 200 (by decide) rfl
  have ht := @tup_r [tp t', .lst ((l.map eSay).map .d)] 1 (l.map eSay) (.inl rfl)
  have hg : forL (gN 2) B (rng 0 (mz ta 200).toNat) [some (.r 0), some (.r 1), none, none] [tp (nt ta), .lst []] = _ := h1
  simp -implicitDefEqProofs only [bind_ok, bind_ex, then_ok, then_ex, seq_nx, seq_rt, seq_ex, ite_tt, ite_ff, of_some, okOr_some, v0, v1, v2, v3, v4, v5, v6, v7, v8, v9, n0, n1, n2, n3, n4, n5, n6, n7, n8, n9, d_C, d_Op1, d_Op2, d_Mt0, d_Mt1, d_Args0, d_Args, d_Tup, d_Lst, d_LstC, tupK0, tupK1, tupK2, tupK3, tupK4, tupK9, bK_b, d_And, d_Or, d_Not, d_tE, d_tAnd, d_tOr, d_tNot, d_tYes, d_If, d_CallI, isoE_ok, isoE_ex, iso1, iso2, iso3, iso4, iso5, d_CallS, tgK_some, d_Skip, d_Seq, d_Asg, d_Expr, d_Ret, d_IfS, d_For, d_Raise, d_Drop, drop_nx, drop_rt, drop_ex, wipe0, wipeC, d_fn, fin_rt, fin_nx, fin_ex, isoR_d, isoR_ex, add_ii, add_ss, add_tt, add_ll, add_llC, sub_ii, neg_i, lt_ii, le_ii, gt_ii, ge_ii, dep_s, dep_i, dep_b, dep_n, eq_ii, eq_ss, eq_bb, ne_ss, ne_ii, ne_bb, in_dt, in_dl, notin_dt, notin_dl, isN_n, isN_i, isN_t, isN_s, isN_b, isN_l, notN_b, notN_l, notN_n, notN_i, notN_t, notN_s, t0, t1, t2, t3, l0, l1, l2, l3, len_t, len_l, str_i, int_b, tup_t, tup_l, list_lC, list_tC, list_l, list_t, rev_lC, isi_d, rc_s, d_iSeq, seqK_l, seqK_t, d_iRng1, rngK_i, d_Lc, noEx_k, newL_f, newL_t, rng_zero, len_s, d_iTxt, k_tx, d_Sl, k_Sl, k_Sl2, k_Sl3, k_pt0, k_pt1, k_pt, sl_s, d_Fld, d_Meth, d_Make, d_Store, k_Store, k_Store2, inS_1, k_Op1, k_Op2, k_Op2b, k_Mt0, k_Mt1, k_Args, k_Argsb, k_Tup, k_LstC, k_Andb, k_And, k_Orb, k_Or, k_Notb, k_Not, k_tEb, k_tE, k_tAnd, k_tOr, k_tNot, k_If, k_Asg, k_Expr, k_IfS, k_For, k_Lc, k_Lcb, List.map_cons, List.map_nil, List.cons_append, List.nil_append, List.replicate, List.set_cons_zero, List.set_cons_succ, List.all_cons, List.all_nil, Bool.and_true, Bool.true_and, Bool.and_self, and_self, eq_self, if_true, if_false, decide_true, decide_false, Bool.false_eq_true, List.any_cons, List.any_nil, List.length_nil, List.length_cons, Bool.not_true, Bool.not_false, hm, rngK_i (j := mz ta 200) (by omega), hg, ht]
  simp [tp_below]
  rfl
theorem ix2 {a b : PyData} {z : Int} {S : Sto} : oIx (vL [a, b]) (vI (z % 2)) S = some (.d (if z % 2 = 0 then a else b), S) := by
  rcases (show z % 2 = 0 ∨ z % 2 = 1 by omega) with h | h <;> rw [h] <;> rfl
theorem draw_plan (ta : List Int) : ∃ (l : List (Int × Option Int × Bool)) (t' : List Int), callS g__law_any_rows [.r 0, vS "plan"] [tp ta] = .ok (.d (.tuple (l.map eP))) [tp t'] ∧ l.length ≤ 200 ∧ ∀ s ∈ l, (okI s.1 ∧ okFree s.2.1) ∧ s.1 < 60 ∧ fitF s.2.1 := by
  have hz := @mz_le ta 66 (by decide)
  unfold callS g__law_any_rows f__law_any_rows
  generalize hB : sDrop _ [3, 4] = B
  obtain ⟨ρ2, S2, h1, t', l, rfl, rfl, h2, h3⟩ := for_inv0 (g := gN 3) (b := B) (f := fun k : Nat => vI (0 + (k : Int))) (l := List.range (mz ta 66).toNat) (ρ := [some (.r 0), some (vS "plan"), some (.r 1), none, none]) (S := [tp (nt ta), .lst []])
    (fun pre ρ S => ∃ (t : List Int) (l : List (Int × Option Int × Bool)), ρ = [some (.r 0), some (vS "plan"), some (.r 1), none, none] ∧ S = [tp t, .lst ((l.map eP).map .d)] ∧ l.length = pre.length ∧ ∀ s ∈ l, (okI s.1 ∧ okFree s.2.1) ∧ s.1 < 60 ∧ fitF s.2.1) ⟨_, [], rfl, rfl, rfl, by simp⟩ fun pre x post ρ S hl hI => by
      obtain ⟨t, l, rfl, rfl, h2, h3⟩ := hI
      have hkm : x ∈ List.range (mz ta 66).toNat := by rw [hl]; simp
      have hk := List.mem_range.1 hkm
      have hpl : pre.length < 1000 := by
        have := congrArg List.length hl
        simp at this; omega
      have e1 := em (nz t + 7919 * (0 + (x : Int)) * (0 + (x : Int))) 60 (by decide)
      have hn : callS g__law_next [.r 0] (tp t :: [.lst ((l.map eP).map .d)]) = _ := nxt t (R := [.lst ((l.map eP).map .d)]) (by simp [Lo, Cell.below, P.below])
      have m1 := @mul_ii (tp (nt t) :: [.lst ((l.map eP).map .d)]) 7919 (0 + (x : Int)) (.inl (by decide))
      have m2 := @mul_ii (tp (nt t) :: [.lst ((l.map eP).map .d)]) (7919 * (0 + (x : Int))) (0 + (x : Int)) (.inr (by omega))
      have hE : eP ((nz t + 7919 * (0 + (x : Int)) * (0 + (x : Int))) % 60, (if (nz t + 7919 * (0 + (x : Int)) * (0 + (x : Int))) / 3600 % 2 = 0 then none else some ((nz t + 7919 * (0 + (x : Int)) * (0 + (x : Int))) / 60 % 60)), decide ((nz t + 7919 * (0 + (x : Int)) * (0 + (x : Int))) / 7200 % 2 = 1)) = .tuple [.int ((nz t + 7919 * (0 + (x : Int)) * (0 + (x : Int))) % 60), (if (nz t + 7919 * (0 + (x : Int)) * (0 + (x : Int))) / 3600 % 2 = 0 then .none else .int ((nz t + 7919 * (0 + (x : Int)) * (0 + (x : Int))) / 60 % 60)), .bool (decide ((nz t + 7919 * (0 + (x : Int)) * (0 + (x : Int))) / 7200 % 2 = 1))] := by unfold eP; simp only; split <;> rfl
      have ha : oAppend (.r 1) (.d (.tuple [.int ((nz t + 7919 * (0 + (x : Int)) * (0 + (x : Int))) % 60), (if (nz t + 7919 * (0 + (x : Int)) * (0 + (x : Int))) / 3600 % 2 = 0 then .none else .int ((nz t + 7919 * (0 + (x : Int)) * (0 + (x : Int))) / 60 % 60)), .bool (decide ((nz t + 7919 * (0 + (x : Int)) * (0 + (x : Int))) / 7200 % 2 = 1))])) [tp (nt t), .lst ((l.map eP).map .d)] = _ := hE ▸ @ac_app _ eP _ 1 l ((nz t + 7919 * (0 + (x : Int)) * (0 + (x : Int))) % 60, (if (nz t + 7919 * (0 + (x : Int)) * (0 + (x : Int))) / 3600 % 2 = 0 then none else some ((nz t + 7919 * (0 + (x : Int)) * (0 + (x : Int))) / 60 % 60)), decide ((nz t + 7919 * (0 + (x : Int)) * (0 + (x : Int))) / 7200 % 2 = 1)) rfl (by unfold LINE; omega)
      have hr : Rc.ok .list [tp (nt t), .lst ((l.map eP).map .d)] (.r 1) = true := rfl
      refine ⟨_, _, [tp (nt t), .lst (((l ++ [((nz t + 7919 * (0 + (x : Int)) * (0 + (x : Int))) % 60, (if (nz t + 7919 * (0 + (x : Int)) * (0 + (x : Int))) / 3600 % 2 = 0 then none else some ((nz t + 7919 * (0 + (x : Int)) * (0 + (x : Int))) / 60 % 60)), decide ((nz t + 7919 * (0 + (x : Int)) * (0 + (x : Int))) / 7200 % 2 = 1))]).map eP).map .d)], rfl, ?_, _, _, rfl, rfl, by simp [h2], ?_⟩
      · subst hB
        simp -implicitDefEqProofs +decide only [bind_ok, bind_ex, then_ok, then_ex, seq_nx, seq_rt, seq_ex, ite_tt, ite_ff, of_some, okOr_some, v0, v1, v2, v3, v4, v5, v6, v7, v8, v9, n0, n1, n2, n3, n4, n5, n6, n7, n8, n9, d_C, d_Op1, d_Op2, d_Mt0, d_Mt1, d_Args0, d_Args, d_Tup, d_Lst, d_LstC, tupK0, tupK1, tupK2, tupK3, tupK4, tupK9, bK_b, d_And, d_Or, d_Not, d_tE, d_tAnd, d_tOr, d_tNot, d_tYes, d_If, d_CallI, isoE_ok, isoE_ex, iso1, iso2, iso3, iso4, iso5, d_CallS, tgK_some, d_Skip, d_Seq, d_Asg, d_Expr, d_Ret, d_IfS, d_For, d_Raise, d_Drop, drop_nx, drop_rt, drop_ex, wipe0, wipeC, d_fn, fin_rt, fin_nx, fin_ex, isoR_d, isoR_ex, add_ii, add_ss, add_tt, add_ll, add_llC, sub_ii, neg_i, lt_ii, le_ii, gt_ii, ge_ii, dep_s, dep_i, dep_b, dep_n, eq_ii, eq_ss, eq_bb, ne_ss, ne_ii, ne_bb, in_dt, in_dl, notin_dt, notin_dl, isN_n, isN_i, isN_t, isN_s, isN_b, isN_l, notN_b, notN_l, notN_n, notN_i, notN_t, notN_s, t0, t1, t2, t3, l0, l1, l2, l3, len_t, len_l, str_i, int_b, tup_t, tup_l, list_lC, list_tC, list_l, list_t, rev_lC, isi_d, rc_s, d_iSeq, seqK_l, seqK_t, d_iRng1, rngK_i, d_Lc, noEx_k, newL_f, newL_t, rng_zero, len_s, d_iTxt, k_tx, d_Sl, k_Sl, k_Sl2, k_Sl3, k_pt0, k_pt1, k_pt, sl_s, d_Fld, d_Meth, d_Make, d_Store, k_Store, k_Store2, inS_1, k_Op1, k_Op2, k_Op2b, k_Mt0, k_Mt1, k_Args, k_Argsb, k_Tup, k_LstC, k_Andb, k_And, k_Orb, k_Or, k_Notb, k_Not, k_tEb, k_tE, k_tAnd, k_tOr, k_tNot, k_If, k_Asg, k_Expr, k_IfS, k_For, k_Lc, k_Lcb, List.map_cons, List.map_nil, List.cons_append, List.nil_append, List.replicate, List.set_cons_zero, List.set_cons_succ, List.all_cons, List.all_nil, Bool.and_true, Bool.true_and, Bool.and_self, and_self, eq_self, if_true, if_false, decide_true, decide_false, Bool.false_eq_true, List.any_cons, List.any_nil, List.length_nil, List.length_cons, Bool.not_true, Bool.not_false, hn, m1, m2, hr, ha, ix2, fdiv_ii (show (0:Int) < 60 ∧ (60 : Int) < 1073741824 by decide), fdiv_ii (show (0:Int) < 3600 ∧ (3600 : Int) < 1073741824 by decide), fdiv_ii (show (0:Int) < 7200 ∧ (7200 : Int) < 1073741824 by decide), mod_ii (show (0:Int) < 2 by decide), mod_ii (show (0:Int) < 60 by decide)]
      · intro s hs
        rcases List.mem_append.1 hs with hs | hs
        · exact h3 s hs
        · rw [List.mem_singleton.1 hs]; exact ⟨⟨⟨e1.1, by show _ < _; omega⟩, by show okFree (if _ then _ else _); split; trivial; exact ⟨(em ((nz t + 7919 * (0 + (x : Int)) * (0 + (x : Int))) / 60) 60 (by decide)).1, by have := (em ((nz t + 7919 * (0 + (x : Int)) * (0 + (x : Int))) / 60) 60 (by decide)).2; omega⟩⟩, e1.2, by show fitF (if _ then _ else _); split; trivial; exact (em ((nz t + 7919 * (0 + (x : Int)) * (0 + (x : Int))) / 60) 60 (by decide)).2⟩
  refine ⟨l, t', ?_, by rw [h2]; simp; omega, h3⟩
  have hm := many ta (R := [.lst []]) 66 (by decide) rfl
  have ht := @tup_r [tp t', .lst ((l.map eP).map .d)] 1 (l.map eP) (.inl rfl)
  have hg : forL (gN 3) B (rng 0 (mz ta 66).toNat) [some (.r 0), some (vS "plan"), some (.r 1), none, none] [tp (nt ta), .lst []] = _ := h1
  simp -implicitDefEqProofs only [bind_ok, bind_ex, then_ok, then_ex, seq_nx, seq_rt, seq_ex, ite_tt, ite_ff, of_some, okOr_some, v0, v1, v2, v3, v4, v5, v6, v7, v8, v9, n0, n1, n2, n3, n4, n5, n6, n7, n8, n9, d_C, d_Op1, d_Op2, d_Mt0, d_Mt1, d_Args0, d_Args, d_Tup, d_Lst, d_LstC, tupK0, tupK1, tupK2, tupK3, tupK4, tupK9, bK_b, d_And, d_Or, d_Not, d_tE, d_tAnd, d_tOr, d_tNot, d_tYes, d_If, d_CallI, isoE_ok, isoE_ex, iso1, iso2, iso3, iso4, iso5, d_CallS, tgK_some, d_Skip, d_Seq, d_Asg, d_Expr, d_Ret, d_IfS, d_For, d_Raise, d_Drop, drop_nx, drop_rt, drop_ex, wipe0, wipeC, d_fn, fin_rt, fin_nx, fin_ex, isoR_d, isoR_ex, add_ii, add_ss, add_tt, add_ll, add_llC, sub_ii, neg_i, lt_ii, le_ii, gt_ii, ge_ii, dep_s, dep_i, dep_b, dep_n, eq_ii, eq_ss, eq_bb, ne_ss, ne_ii, ne_bb, in_dt, in_dl, notin_dt, notin_dl, isN_n, isN_i, isN_t, isN_s, isN_b, isN_l, notN_b, notN_l, notN_n, notN_i, notN_t, notN_s, t0, t1, t2, t3, l0, l1, l2, l3, len_t, len_l, str_i, int_b, tup_t, tup_l, list_lC, list_tC, list_l, list_t, rev_lC, isi_d, rc_s, d_iSeq, seqK_l, seqK_t, d_iRng1, rngK_i, d_Lc, noEx_k, newL_f, newL_t, rng_zero, len_s, d_iTxt, k_tx, d_Sl, k_Sl, k_Sl2, k_Sl3, k_pt0, k_pt1, k_pt, sl_s, d_Fld, d_Meth, d_Make, d_Store, k_Store, k_Store2, inS_1, k_Op1, k_Op2, k_Op2b, k_Mt0, k_Mt1, k_Args, k_Argsb, k_Tup, k_LstC, k_Andb, k_And, k_Orb, k_Or, k_Notb, k_Not, k_tEb, k_tE, k_tAnd, k_tOr, k_tNot, k_If, k_Asg, k_Expr, k_IfS, k_For, k_Lc, k_Lcb, List.map_cons, List.map_nil, List.cons_append, List.nil_append, List.replicate, List.set_cons_zero, List.set_cons_succ, List.all_cons, List.all_nil, Bool.and_true, Bool.true_and, Bool.and_self, and_self, eq_self, if_true, if_false, decide_true, decide_false, Bool.false_eq_true, List.any_cons, List.any_nil, List.length_nil, List.length_cons, Bool.not_true, Bool.not_false, hm, rngK_i (j := mz ta 66) (by omega), hg, ht]
  simp [tp_below]
theorem draw_sums (ta : List Int) : ∃ (l : List (Int × List Int × Bool)) (t' : List Int), callS g__law_any_rows [.r 0, vS "sums"] [tp ta] = .ok (.d (.tuple (l.map eU))) [tp t'] ∧ l.length ≤ 200 ∧ ∀ s ∈ l, (okI s.1 ∧ okNums s.2.1) ∧ s.1 < 60 ∧ ∀ i ∈ s.2.1, i < 60 := by
  have hz := @mz_le ta 66 (by decide)
  unfold callS g__law_any_rows f__law_any_rows
  generalize hB : sDrop _ [3, 4] = B
  obtain ⟨ρ2, S2, h1, t', l, rfl, rfl, h2, h3⟩ := for_inv0 (g := gN 3) (b := B) (f := fun k : Nat => vI (0 + (k : Int))) (l := List.range (mz ta 66).toNat) (ρ := [some (.r 0), some (vS "sums"), some (.r 1), none, none]) (S := [tp (nt ta), .lst []])
    (fun pre ρ S => ∃ (t : List Int) (l : List (Int × List Int × Bool)), ρ = [some (.r 0), some (vS "sums"), some (.r 1), none, none] ∧ S = [tp t, .lst ((l.map eU).map .d)] ∧ l.length = pre.length ∧ ∀ s ∈ l, (okI s.1 ∧ okNums s.2.1) ∧ s.1 < 60 ∧ ∀ i ∈ s.2.1, i < 60) ⟨_, [], rfl, rfl, rfl, by simp⟩ fun pre x post ρ S hl hI => by
      obtain ⟨t, l, rfl, rfl, h2, h3⟩ := hI
      have hkm : x ∈ List.range (mz ta 66).toNat := by rw [hl]; simp
      have hk := List.mem_range.1 hkm
      have hpl : pre.length < 1000 := by
        have := congrArg List.length hl
        simp at this; omega
      have e1 := em (nz t + 7919 * (0 + (x : Int)) * (0 + (x : Int))) 60 (by decide)
      have hn : callS g__law_next [.r 0] (tp t :: [.lst ((l.map eU).map .d)]) = _ := nxt t (R := [.lst ((l.map eU).map .d)]) (by simp [Lo, Cell.below, P.below])
      have m1 := @mul_ii (tp (nt t) :: [.lst ((l.map eU).map .d)]) 7919 (0 + (x : Int)) (.inl (by decide))
      have m2 := @mul_ii (tp (nt t) :: [.lst ((l.map eU).map .d)]) (7919 * (0 + (x : Int))) (0 + (x : Int)) (.inr (by omega))
      obtain ⟨nl, tb, hnum, hok, hfit⟩ := numbers (nt t) (R := [.lst ((l.map eU).map .d)]) 60 ⟨by decide, by decide⟩ (by simp [Lo, Cell.below, P.below])
      have ha : oAppend (.r 1) (.d (.tuple [.int ((nz t + 7919 * (0 + (x : Int)) * (0 + (x : Int))) % 60), eNums nl, .bool (decide ((nz t + 7919 * (0 + (x : Int)) * (0 + (x : Int))) / 7200 % 2 = 1))])) [tp tb, .lst ((l.map eU).map .d)] = _ := @ac_app _ eU _ 1 l ((nz t + 7919 * (0 + (x : Int)) * (0 + (x : Int))) % 60, nl, decide ((nz t + 7919 * (0 + (x : Int)) * (0 + (x : Int))) / 7200 % 2 = 1)) rfl (by unfold LINE; omega)
      have hr : Rc.ok .list [tp (nt t), .lst ((l.map eU).map .d)] (.r 1) = true := rfl
      refine ⟨_, _, [tp (tb), .lst (((l ++ [((nz t + 7919 * (0 + (x : Int)) * (0 + (x : Int))) % 60, nl, decide ((nz t + 7919 * (0 + (x : Int)) * (0 + (x : Int))) / 7200 % 2 = 1))]).map eU).map .d)], rfl, ?_, _, _, rfl, rfl, by simp [h2], ?_⟩
      · subst hB
        simp -implicitDefEqProofs +decide only [bind_ok, bind_ex, then_ok, then_ex, seq_nx, seq_rt, seq_ex, ite_tt, ite_ff, of_some, okOr_some, v0, v1, v2, v3, v4, v5, v6, v7, v8, v9, n0, n1, n2, n3, n4, n5, n6, n7, n8, n9, d_C, d_Op1, d_Op2, d_Mt0, d_Mt1, d_Args0, d_Args, d_Tup, d_Lst, d_LstC, tupK0, tupK1, tupK2, tupK3, tupK4, tupK9, bK_b, d_And, d_Or, d_Not, d_tE, d_tAnd, d_tOr, d_tNot, d_tYes, d_If, d_CallI, isoE_ok, isoE_ex, iso1, iso2, iso3, iso4, iso5, d_CallS, tgK_some, d_Skip, d_Seq, d_Asg, d_Expr, d_Ret, d_IfS, d_For, d_Raise, d_Drop, drop_nx, drop_rt, drop_ex, wipe0, wipeC, d_fn, fin_rt, fin_nx, fin_ex, isoR_d, isoR_ex, add_ii, add_ss, add_tt, add_ll, add_llC, sub_ii, neg_i, lt_ii, le_ii, gt_ii, ge_ii, dep_s, dep_i, dep_b, dep_n, eq_ii, eq_ss, eq_bb, ne_ss, ne_ii, ne_bb, in_dt, in_dl, notin_dt, notin_dl, isN_n, isN_i, isN_t, isN_s, isN_b, isN_l, notN_b, notN_l, notN_n, notN_i, notN_t, notN_s, t0, t1, t2, t3, l0, l1, l2, l3, len_t, len_l, str_i, int_b, tup_t, tup_l, list_lC, list_tC, list_l, list_t, rev_lC, isi_d, rc_s, d_iSeq, seqK_l, seqK_t, d_iRng1, rngK_i, d_Lc, noEx_k, newL_f, newL_t, rng_zero, len_s, d_iTxt, k_tx, d_Sl, k_Sl, k_Sl2, k_Sl3, k_pt0, k_pt1, k_pt, sl_s, d_Fld, d_Meth, d_Make, d_Store, k_Store, k_Store2, inS_1, k_Op1, k_Op2, k_Op2b, k_Mt0, k_Mt1, k_Args, k_Argsb, k_Tup, k_LstC, k_Andb, k_And, k_Orb, k_Or, k_Notb, k_Not, k_tEb, k_tE, k_tAnd, k_tOr, k_tNot, k_If, k_Asg, k_Expr, k_IfS, k_For, k_Lc, k_Lcb, List.map_cons, List.map_nil, List.cons_append, List.nil_append, List.replicate, List.set_cons_zero, List.set_cons_succ, List.all_cons, List.all_nil, Bool.and_true, Bool.true_and, Bool.and_self, and_self, eq_self, if_true, if_false, decide_true, decide_false, Bool.false_eq_true, List.any_cons, List.any_nil, List.length_nil, List.length_cons, Bool.not_true, Bool.not_false, hn, m1, m2, hr, hnum, ha, fdiv_ii (show (0:Int) < 60 ∧ (60 : Int) < 1073741824 by decide), fdiv_ii (show (0:Int) < 3600 ∧ (3600 : Int) < 1073741824 by decide), fdiv_ii (show (0:Int) < 7200 ∧ (7200 : Int) < 1073741824 by decide), mod_ii (show (0:Int) < 2 by decide), mod_ii (show (0:Int) < 60 by decide)]
      · intro s hs
        rcases List.mem_append.1 hs with hs | hs
        · exact h3 s hs
        · rw [List.mem_singleton.1 hs]; exact ⟨⟨⟨e1.1, by show _ < _; omega⟩, hok⟩, e1.2, hfit⟩
  refine ⟨l, t', ?_, by rw [h2]; simp; omega, h3⟩
  have hm := many ta (R := [.lst []]) 66 (by decide) rfl
  have ht := @tup_r [tp t', .lst ((l.map eU).map .d)] 1 (l.map eU) (.inl rfl)
  have hg : forL (gN 3) B (rng 0 (mz ta 66).toNat) [some (.r 0), some (vS "sums"), some (.r 1), none, none] [tp (nt ta), .lst []] = _ := h1
  simp -implicitDefEqProofs only [bind_ok, bind_ex, then_ok, then_ex, seq_nx, seq_rt, seq_ex, ite_tt, ite_ff, of_some, okOr_some, v0, v1, v2, v3, v4, v5, v6, v7, v8, v9, n0, n1, n2, n3, n4, n5, n6, n7, n8, n9, d_C, d_Op1, d_Op2, d_Mt0, d_Mt1, d_Args0, d_Args, d_Tup, d_Lst, d_LstC, tupK0, tupK1, tupK2, tupK3, tupK4, tupK9, bK_b, d_And, d_Or, d_Not, d_tE, d_tAnd, d_tOr, d_tNot, d_tYes, d_If, d_CallI, isoE_ok, isoE_ex, iso1, iso2, iso3, iso4, iso5, d_CallS, tgK_some, d_Skip, d_Seq, d_Asg, d_Expr, d_Ret, d_IfS, d_For, d_Raise, d_Drop, drop_nx, drop_rt, drop_ex, wipe0, wipeC, d_fn, fin_rt, fin_nx, fin_ex, isoR_d, isoR_ex, add_ii, add_ss, add_tt, add_ll, add_llC, sub_ii, neg_i, lt_ii, le_ii, gt_ii, ge_ii, dep_s, dep_i, dep_b, dep_n, eq_ii, eq_ss, eq_bb, ne_ss, ne_ii, ne_bb, in_dt, in_dl, notin_dt, notin_dl, isN_n, isN_i, isN_t, isN_s, isN_b, isN_l, notN_b, notN_l, notN_n, notN_i, notN_t, notN_s, t0, t1, t2, t3, l0, l1, l2, l3, len_t, len_l, str_i, int_b, tup_t, tup_l, list_lC, list_tC, list_l, list_t, rev_lC, isi_d, rc_s, d_iSeq, seqK_l, seqK_t, d_iRng1, rngK_i, d_Lc, noEx_k, newL_f, newL_t, rng_zero, len_s, d_iTxt, k_tx, d_Sl, k_Sl, k_Sl2, k_Sl3, k_pt0, k_pt1, k_pt, sl_s, d_Fld, d_Meth, d_Make, d_Store, k_Store, k_Store2, inS_1, k_Op1, k_Op2, k_Op2b, k_Mt0, k_Mt1, k_Args, k_Argsb, k_Tup, k_LstC, k_Andb, k_And, k_Orb, k_Or, k_Notb, k_Not, k_tEb, k_tE, k_tAnd, k_tOr, k_tNot, k_If, k_Asg, k_Expr, k_IfS, k_For, k_Lc, k_Lcb, List.map_cons, List.map_nil, List.cons_append, List.nil_append, List.replicate, List.set_cons_zero, List.set_cons_succ, List.all_cons, List.all_nil, Bool.and_true, Bool.true_and, Bool.and_self, and_self, eq_self, if_true, if_false, decide_true, decide_false, Bool.false_eq_true, List.any_cons, List.any_nil, List.length_nil, List.length_cons, Bool.not_true, Bool.not_false, hm, rngK_i (j := mz ta 66) (by omega), hg, ht]
  simp [tp_below]
theorem draw_rows (ta : List Int) : ∃ (l : List (Int × List Int)) (t' : List Int), callS g__law_any_rows [.r 0, vS "rows"] [tp ta] = .ok (.d (.tuple (l.map eR))) [tp t'] ∧ l.length ≤ 200 ∧ ∀ s ∈ l, (okI s.1 ∧ okNums s.2) ∧ s.1 < 60 ∧ ∀ i ∈ s.2, i < 60 := by
  have hz := @mz_le ta 66 (by decide)
  unfold callS g__law_any_rows f__law_any_rows
  generalize hB : sDrop _ [3, 4] = B
  obtain ⟨ρ2, S2, h1, t', l, rfl, rfl, h2, h3⟩ := for_inv0 (g := gN 3) (b := B) (f := fun k : Nat => vI (0 + (k : Int))) (l := List.range (mz ta 66).toNat) (ρ := [some (.r 0), some (vS "rows"), some (.r 1), none, none]) (S := [tp (nt ta), .lst []])
    (fun pre ρ S => ∃ (t : List Int) (l : List (Int × List Int)), ρ = [some (.r 0), some (vS "rows"), some (.r 1), none, none] ∧ S = [tp t, .lst ((l.map eR).map .d)] ∧ l.length = pre.length ∧ ∀ s ∈ l, (okI s.1 ∧ okNums s.2) ∧ s.1 < 60 ∧ ∀ i ∈ s.2, i < 60) ⟨_, [], rfl, rfl, rfl, by simp⟩ fun pre x post ρ S hl hI => by
      obtain ⟨t, l, rfl, rfl, h2, h3⟩ := hI
      have hkm : x ∈ List.range (mz ta 66).toNat := by rw [hl]; simp
      have hk := List.mem_range.1 hkm
      have hpl : pre.length < 1000 := by
        have := congrArg List.length hl
        simp at this; omega
      have e1 := em (nz t + 7919 * (0 + (x : Int)) * (0 + (x : Int))) 60 (by decide)
      have hn : callS g__law_next [.r 0] (tp t :: [.lst ((l.map eR).map .d)]) = _ := nxt t (R := [.lst ((l.map eR).map .d)]) (by simp [Lo, Cell.below, P.below])
      have m1 := @mul_ii (tp (nt t) :: [.lst ((l.map eR).map .d)]) 7919 (0 + (x : Int)) (.inl (by decide))
      have m2 := @mul_ii (tp (nt t) :: [.lst ((l.map eR).map .d)]) (7919 * (0 + (x : Int))) (0 + (x : Int)) (.inr (by omega))
      obtain ⟨nl, tb, hnum, hok, hfit⟩ := numbers (nt t) (R := [.lst ((l.map eR).map .d)]) 60 ⟨by decide, by decide⟩ (by simp [Lo, Cell.below, P.below])
      have ha : oAppend (.r 1) (.d (.tuple [.int ((nz t + 7919 * (0 + (x : Int)) * (0 + (x : Int))) % 60), eNums nl])) [tp tb, .lst ((l.map eR).map .d)] = _ := @ac_app _ eR _ 1 l ((nz t + 7919 * (0 + (x : Int)) * (0 + (x : Int))) % 60, nl) rfl (by unfold LINE; omega)
      have hr : Rc.ok .list [tp (nt t), .lst ((l.map eR).map .d)] (.r 1) = true := rfl
      refine ⟨_, _, [tp (tb), .lst (((l ++ [((nz t + 7919 * (0 + (x : Int)) * (0 + (x : Int))) % 60, nl)]).map eR).map .d)], rfl, ?_, _, _, rfl, rfl, by simp [h2], ?_⟩
      · subst hB
        simp -implicitDefEqProofs +decide only [bind_ok, bind_ex, then_ok, then_ex, seq_nx, seq_rt, seq_ex, ite_tt, ite_ff, of_some, okOr_some, v0, v1, v2, v3, v4, v5, v6, v7, v8, v9, n0, n1, n2, n3, n4, n5, n6, n7, n8, n9, d_C, d_Op1, d_Op2, d_Mt0, d_Mt1, d_Args0, d_Args, d_Tup, d_Lst, d_LstC, tupK0, tupK1, tupK2, tupK3, tupK4, tupK9, bK_b, d_And, d_Or, d_Not, d_tE, d_tAnd, d_tOr, d_tNot, d_tYes, d_If, d_CallI, isoE_ok, isoE_ex, iso1, iso2, iso3, iso4, iso5, d_CallS, tgK_some, d_Skip, d_Seq, d_Asg, d_Expr, d_Ret, d_IfS, d_For, d_Raise, d_Drop, drop_nx, drop_rt, drop_ex, wipe0, wipeC, d_fn, fin_rt, fin_nx, fin_ex, isoR_d, isoR_ex, add_ii, add_ss, add_tt, add_ll, add_llC, sub_ii, neg_i, lt_ii, le_ii, gt_ii, ge_ii, dep_s, dep_i, dep_b, dep_n, eq_ii, eq_ss, eq_bb, ne_ss, ne_ii, ne_bb, in_dt, in_dl, notin_dt, notin_dl, isN_n, isN_i, isN_t, isN_s, isN_b, isN_l, notN_b, notN_l, notN_n, notN_i, notN_t, notN_s, t0, t1, t2, t3, l0, l1, l2, l3, len_t, len_l, str_i, int_b, tup_t, tup_l, list_lC, list_tC, list_l, list_t, rev_lC, isi_d, rc_s, d_iSeq, seqK_l, seqK_t, d_iRng1, rngK_i, d_Lc, noEx_k, newL_f, newL_t, rng_zero, len_s, d_iTxt, k_tx, d_Sl, k_Sl, k_Sl2, k_Sl3, k_pt0, k_pt1, k_pt, sl_s, d_Fld, d_Meth, d_Make, d_Store, k_Store, k_Store2, inS_1, k_Op1, k_Op2, k_Op2b, k_Mt0, k_Mt1, k_Args, k_Argsb, k_Tup, k_LstC, k_Andb, k_And, k_Orb, k_Or, k_Notb, k_Not, k_tEb, k_tE, k_tAnd, k_tOr, k_tNot, k_If, k_Asg, k_Expr, k_IfS, k_For, k_Lc, k_Lcb, List.map_cons, List.map_nil, List.cons_append, List.nil_append, List.replicate, List.set_cons_zero, List.set_cons_succ, List.all_cons, List.all_nil, Bool.and_true, Bool.true_and, Bool.and_self, and_self, eq_self, if_true, if_false, decide_true, decide_false, Bool.false_eq_true, List.any_cons, List.any_nil, List.length_nil, List.length_cons, Bool.not_true, Bool.not_false, hn, m1, m2, hr, hnum, ha, fdiv_ii (show (0:Int) < 60 ∧ (60 : Int) < 1073741824 by decide), fdiv_ii (show (0:Int) < 3600 ∧ (3600 : Int) < 1073741824 by decide), fdiv_ii (show (0:Int) < 7200 ∧ (7200 : Int) < 1073741824 by decide), mod_ii (show (0:Int) < 2 by decide), mod_ii (show (0:Int) < 60 by decide)]
      · intro s hs
        rcases List.mem_append.1 hs with hs | hs
        · exact h3 s hs
        · rw [List.mem_singleton.1 hs]; exact ⟨⟨⟨e1.1, by show _ < _; omega⟩, hok⟩, e1.2, hfit⟩
  refine ⟨l, t', ?_, by rw [h2]; simp; omega, h3⟩
  have hm := many ta (R := [.lst []]) 66 (by decide) rfl
  have ht := @tup_r [tp t', .lst ((l.map eR).map .d)] 1 (l.map eR) (.inl rfl)
  have hg : forL (gN 3) B (rng 0 (mz ta 66).toNat) [some (.r 0), some (vS "rows"), some (.r 1), none, none] [tp (nt ta), .lst []] = _ := h1
  simp -implicitDefEqProofs only [bind_ok, bind_ex, then_ok, then_ex, seq_nx, seq_rt, seq_ex, ite_tt, ite_ff, of_some, okOr_some, v0, v1, v2, v3, v4, v5, v6, v7, v8, v9, n0, n1, n2, n3, n4, n5, n6, n7, n8, n9, d_C, d_Op1, d_Op2, d_Mt0, d_Mt1, d_Args0, d_Args, d_Tup, d_Lst, d_LstC, tupK0, tupK1, tupK2, tupK3, tupK4, tupK9, bK_b, d_And, d_Or, d_Not, d_tE, d_tAnd, d_tOr, d_tNot, d_tYes, d_If, d_CallI, isoE_ok, isoE_ex, iso1, iso2, iso3, iso4, iso5, d_CallS, tgK_some, d_Skip, d_Seq, d_Asg, d_Expr, d_Ret, d_IfS, d_For, d_Raise, d_Drop, drop_nx, drop_rt, drop_ex, wipe0, wipeC, d_fn, fin_rt, fin_nx, fin_ex, isoR_d, isoR_ex, add_ii, add_ss, add_tt, add_ll, add_llC, sub_ii, neg_i, lt_ii, le_ii, gt_ii, ge_ii, dep_s, dep_i, dep_b, dep_n, eq_ii, eq_ss, eq_bb, ne_ss, ne_ii, ne_bb, in_dt, in_dl, notin_dt, notin_dl, isN_n, isN_i, isN_t, isN_s, isN_b, isN_l, notN_b, notN_l, notN_n, notN_i, notN_t, notN_s, t0, t1, t2, t3, l0, l1, l2, l3, len_t, len_l, str_i, int_b, tup_t, tup_l, list_lC, list_tC, list_l, list_t, rev_lC, isi_d, rc_s, d_iSeq, seqK_l, seqK_t, d_iRng1, rngK_i, d_Lc, noEx_k, newL_f, newL_t, rng_zero, len_s, d_iTxt, k_tx, d_Sl, k_Sl, k_Sl2, k_Sl3, k_pt0, k_pt1, k_pt, sl_s, d_Fld, d_Meth, d_Make, d_Store, k_Store, k_Store2, inS_1, k_Op1, k_Op2, k_Op2b, k_Mt0, k_Mt1, k_Args, k_Argsb, k_Tup, k_LstC, k_Andb, k_And, k_Orb, k_Or, k_Notb, k_Not, k_tEb, k_tE, k_tAnd, k_tOr, k_tNot, k_If, k_Asg, k_Expr, k_IfS, k_For, k_Lc, k_Lcb, List.map_cons, List.map_nil, List.cons_append, List.nil_append, List.replicate, List.set_cons_zero, List.set_cons_succ, List.all_cons, List.all_nil, Bool.and_true, Bool.true_and, Bool.and_self, and_self, eq_self, if_true, if_false, decide_true, decide_false, Bool.false_eq_true, List.any_cons, List.any_nil, List.length_nil, List.length_cons, Bool.not_true, Bool.not_false, hm, rngK_i (j := mz ta 66) (by omega), hg, ht]
  simp [tp_below]
theorem any (t : List Int) : ∃ (p : Pap) (t' : List Int), callS g__law_any [.r 0] [tp t] = .ok (.d p.enc) [tp t'] ∧ p.Ok ∧ p.Fit := by
  have hn := nxt t (R := []) rfl
  have hm9 := mod_ii (S := [tp (nt t)]) (i := nz t) (show (0:Int) < 9 by decide)
  unfold callS g__law_any f__law_any
  rcases (show nz t % 9 = 0 ∨ nz t % 9 = 1 ∨ nz t % 9 = 2 ∨ nz t % 9 = 3 ∨ nz t % 9 = 4 ∨ nz t % 9 = 5 ∨ nz t % 9 = 6 ∨ nz t % 9 = 7 ∨ nz t % 9 = 8 by omega) with h | h | h | h | h | h | h | h | h
  · have hw : oIx (vL [PyData.str "broken", .str "clash", .str "cross", .str "late", .str "odd", .str "lone", .str "plan", .str "sums", .str "rows"]) (vI 0) [tp (nt t)] = some (vS "broken", [tp (nt t)]) := rfl
    refine ⟨.broken, nt t, ?_, trivial, trivial⟩
    simp -implicitDefEqProofs +decide only [bind_ok, bind_ex, then_ok, then_ex, seq_nx, seq_rt, seq_ex, ite_tt, ite_ff, of_some, okOr_some, v0, v1, v2, v3, v4, v5, v6, v7, v8, v9, n0, n1, n2, n3, n4, n5, n6, n7, n8, n9, d_C, d_Op1, d_Op2, d_Mt0, d_Mt1, d_Args0, d_Args, d_Tup, d_Lst, d_LstC, tupK0, tupK1, tupK2, tupK3, tupK4, tupK9, bK_b, d_And, d_Or, d_Not, d_tE, d_tAnd, d_tOr, d_tNot, d_tYes, d_If, d_CallI, isoE_ok, isoE_ex, iso1, iso2, iso3, iso4, iso5, d_CallS, tgK_some, d_Skip, d_Seq, d_Asg, d_Expr, d_Ret, d_IfS, d_For, d_Raise, d_Drop, drop_nx, drop_rt, drop_ex, wipe0, wipeC, d_fn, fin_rt, fin_nx, fin_ex, isoR_d, isoR_ex, add_ii, add_ss, add_tt, add_ll, add_llC, sub_ii, neg_i, lt_ii, le_ii, gt_ii, ge_ii, dep_s, dep_i, dep_b, dep_n, eq_ii, eq_ss, eq_bb, ne_ss, ne_ii, ne_bb, in_dt, in_dl, notin_dt, notin_dl, isN_n, isN_i, isN_t, isN_s, isN_b, isN_l, notN_b, notN_l, notN_n, notN_i, notN_t, notN_s, t0, t1, t2, t3, l0, l1, l2, l3, len_t, len_l, str_i, int_b, tup_t, tup_l, list_lC, list_tC, list_l, list_t, rev_lC, isi_d, rc_s, d_iSeq, seqK_l, seqK_t, d_iRng1, rngK_i, d_Lc, noEx_k, newL_f, newL_t, rng_zero, len_s, d_iTxt, k_tx, d_Sl, k_Sl, k_Sl2, k_Sl3, k_pt0, k_pt1, k_pt, sl_s, d_Fld, d_Meth, d_Make, d_Store, k_Store, k_Store2, inS_1, k_Op1, k_Op2, k_Op2b, k_Mt0, k_Mt1, k_Args, k_Argsb, k_Tup, k_LstC, k_Andb, k_And, k_Orb, k_Or, k_Notb, k_Not, k_tEb, k_tE, k_tAnd, k_tOr, k_tNot, k_If, k_Asg, k_Expr, k_IfS, k_For, k_Lc, k_Lcb, List.map_cons, List.map_nil, List.cons_append, List.nil_append, List.replicate, List.set_cons_zero, List.set_cons_succ, List.all_cons, List.all_nil, Bool.and_true, Bool.true_and, Bool.and_self, and_self, eq_self, if_true, if_false, decide_true, decide_false, Bool.false_eq_true, List.any_cons, List.any_nil, List.length_nil, List.length_cons, Bool.not_true, Bool.not_false, hn, hm9, h, hw, Pap.enc, Pap.nm, Pap.args]
    simp [tp_below]
  · have hw : oIx (vL [PyData.str "broken", .str "clash", .str "cross", .str "late", .str "odd", .str "lone", .str "plan", .str "sums", .str "rows"]) (vI 1) [tp (nt t)] = some (vS "clash", [tp (nt t)]) := rfl
    obtain ⟨a, ta, ha, oa⟩ := road (nt t)
    obtain ⟨b, tb, hb, ob⟩ := road ta
    refine ⟨.clash a b, tb, ?_, ⟨oa.1, ob.1⟩, oa.2, ob.2⟩
    simp -implicitDefEqProofs +decide only [bind_ok, bind_ex, then_ok, then_ex, seq_nx, seq_rt, seq_ex, ite_tt, ite_ff, of_some, okOr_some, v0, v1, v2, v3, v4, v5, v6, v7, v8, v9, n0, n1, n2, n3, n4, n5, n6, n7, n8, n9, d_C, d_Op1, d_Op2, d_Mt0, d_Mt1, d_Args0, d_Args, d_Tup, d_Lst, d_LstC, tupK0, tupK1, tupK2, tupK3, tupK4, tupK9, bK_b, d_And, d_Or, d_Not, d_tE, d_tAnd, d_tOr, d_tNot, d_tYes, d_If, d_CallI, isoE_ok, isoE_ex, iso1, iso2, iso3, iso4, iso5, d_CallS, tgK_some, d_Skip, d_Seq, d_Asg, d_Expr, d_Ret, d_IfS, d_For, d_Raise, d_Drop, drop_nx, drop_rt, drop_ex, wipe0, wipeC, d_fn, fin_rt, fin_nx, fin_ex, isoR_d, isoR_ex, add_ii, add_ss, add_tt, add_ll, add_llC, sub_ii, neg_i, lt_ii, le_ii, gt_ii, ge_ii, dep_s, dep_i, dep_b, dep_n, eq_ii, eq_ss, eq_bb, ne_ss, ne_ii, ne_bb, in_dt, in_dl, notin_dt, notin_dl, isN_n, isN_i, isN_t, isN_s, isN_b, isN_l, notN_b, notN_l, notN_n, notN_i, notN_t, notN_s, t0, t1, t2, t3, l0, l1, l2, l3, len_t, len_l, str_i, int_b, tup_t, tup_l, list_lC, list_tC, list_l, list_t, rev_lC, isi_d, rc_s, d_iSeq, seqK_l, seqK_t, d_iRng1, rngK_i, d_Lc, noEx_k, newL_f, newL_t, rng_zero, len_s, d_iTxt, k_tx, d_Sl, k_Sl, k_Sl2, k_Sl3, k_pt0, k_pt1, k_pt, sl_s, d_Fld, d_Meth, d_Make, d_Store, k_Store, k_Store2, inS_1, k_Op1, k_Op2, k_Op2b, k_Mt0, k_Mt1, k_Args, k_Argsb, k_Tup, k_LstC, k_Andb, k_And, k_Orb, k_Or, k_Notb, k_Not, k_tEb, k_tE, k_tAnd, k_tOr, k_tNot, k_If, k_Asg, k_Expr, k_IfS, k_For, k_Lc, k_Lcb, List.map_cons, List.map_nil, List.cons_append, List.nil_append, List.replicate, List.set_cons_zero, List.set_cons_succ, List.all_cons, List.all_nil, Bool.and_true, Bool.true_and, Bool.and_self, and_self, eq_self, if_true, if_false, decide_true, decide_false, Bool.false_eq_true, List.any_cons, List.any_nil, List.length_nil, List.length_cons, Bool.not_true, Bool.not_false, hn, hm9, h, hw, ha, hb, Pap.enc, Pap.nm, Pap.args]
    simp [tp_below]
  · have hw : oIx (vL [PyData.str "broken", .str "clash", .str "cross", .str "late", .str "odd", .str "lone", .str "plan", .str "sums", .str "rows"]) (vI 2) [tp (nt t)] = some (vS "cross", [tp (nt t)]) := rfl
    obtain ⟨a, ta, ha, oa⟩ := road (nt t)
    refine ⟨.cross a, ta, ?_, oa.1, oa.2⟩
    simp -implicitDefEqProofs +decide only [bind_ok, bind_ex, then_ok, then_ex, seq_nx, seq_rt, seq_ex, ite_tt, ite_ff, of_some, okOr_some, v0, v1, v2, v3, v4, v5, v6, v7, v8, v9, n0, n1, n2, n3, n4, n5, n6, n7, n8, n9, d_C, d_Op1, d_Op2, d_Mt0, d_Mt1, d_Args0, d_Args, d_Tup, d_Lst, d_LstC, tupK0, tupK1, tupK2, tupK3, tupK4, tupK9, bK_b, d_And, d_Or, d_Not, d_tE, d_tAnd, d_tOr, d_tNot, d_tYes, d_If, d_CallI, isoE_ok, isoE_ex, iso1, iso2, iso3, iso4, iso5, d_CallS, tgK_some, d_Skip, d_Seq, d_Asg, d_Expr, d_Ret, d_IfS, d_For, d_Raise, d_Drop, drop_nx, drop_rt, drop_ex, wipe0, wipeC, d_fn, fin_rt, fin_nx, fin_ex, isoR_d, isoR_ex, add_ii, add_ss, add_tt, add_ll, add_llC, sub_ii, neg_i, lt_ii, le_ii, gt_ii, ge_ii, dep_s, dep_i, dep_b, dep_n, eq_ii, eq_ss, eq_bb, ne_ss, ne_ii, ne_bb, in_dt, in_dl, notin_dt, notin_dl, isN_n, isN_i, isN_t, isN_s, isN_b, isN_l, notN_b, notN_l, notN_n, notN_i, notN_t, notN_s, t0, t1, t2, t3, l0, l1, l2, l3, len_t, len_l, str_i, int_b, tup_t, tup_l, list_lC, list_tC, list_l, list_t, rev_lC, isi_d, rc_s, d_iSeq, seqK_l, seqK_t, d_iRng1, rngK_i, d_Lc, noEx_k, newL_f, newL_t, rng_zero, len_s, d_iTxt, k_tx, d_Sl, k_Sl, k_Sl2, k_Sl3, k_pt0, k_pt1, k_pt, sl_s, d_Fld, d_Meth, d_Make, d_Store, k_Store, k_Store2, inS_1, k_Op1, k_Op2, k_Op2b, k_Mt0, k_Mt1, k_Args, k_Argsb, k_Tup, k_LstC, k_Andb, k_And, k_Orb, k_Or, k_Notb, k_Not, k_tEb, k_tE, k_tAnd, k_tOr, k_tNot, k_If, k_Asg, k_Expr, k_IfS, k_For, k_Lc, k_Lcb, List.map_cons, List.map_nil, List.cons_append, List.nil_append, List.replicate, List.set_cons_zero, List.set_cons_succ, List.all_cons, List.all_nil, Bool.and_true, Bool.true_and, Bool.and_self, and_self, eq_self, if_true, if_false, decide_true, decide_false, Bool.false_eq_true, List.any_cons, List.any_nil, List.length_nil, List.length_cons, Bool.not_true, Bool.not_false, hn, hm9, h, hw, ha, Pap.enc, Pap.nm, Pap.args]
    simp [tp_below]
  · have hw : oIx (vL [PyData.str "broken", .str "clash", .str "cross", .str "late", .str "odd", .str "lone", .str "plan", .str "sums", .str "rows"]) (vI 3) [tp (nt t)] = some (vS "late", [tp (nt t)]) := rfl
    obtain ⟨a, ta, ha, oa⟩ := road (nt t)
    obtain ⟨b, tb, hb, ob⟩ := road ta
    refine ⟨.late a b, tb, ?_, ⟨oa.1, ob.1⟩, oa.2, ob.2⟩
    simp -implicitDefEqProofs +decide only [bind_ok, bind_ex, then_ok, then_ex, seq_nx, seq_rt, seq_ex, ite_tt, ite_ff, of_some, okOr_some, v0, v1, v2, v3, v4, v5, v6, v7, v8, v9, n0, n1, n2, n3, n4, n5, n6, n7, n8, n9, d_C, d_Op1, d_Op2, d_Mt0, d_Mt1, d_Args0, d_Args, d_Tup, d_Lst, d_LstC, tupK0, tupK1, tupK2, tupK3, tupK4, tupK9, bK_b, d_And, d_Or, d_Not, d_tE, d_tAnd, d_tOr, d_tNot, d_tYes, d_If, d_CallI, isoE_ok, isoE_ex, iso1, iso2, iso3, iso4, iso5, d_CallS, tgK_some, d_Skip, d_Seq, d_Asg, d_Expr, d_Ret, d_IfS, d_For, d_Raise, d_Drop, drop_nx, drop_rt, drop_ex, wipe0, wipeC, d_fn, fin_rt, fin_nx, fin_ex, isoR_d, isoR_ex, add_ii, add_ss, add_tt, add_ll, add_llC, sub_ii, neg_i, lt_ii, le_ii, gt_ii, ge_ii, dep_s, dep_i, dep_b, dep_n, eq_ii, eq_ss, eq_bb, ne_ss, ne_ii, ne_bb, in_dt, in_dl, notin_dt, notin_dl, isN_n, isN_i, isN_t, isN_s, isN_b, isN_l, notN_b, notN_l, notN_n, notN_i, notN_t, notN_s, t0, t1, t2, t3, l0, l1, l2, l3, len_t, len_l, str_i, int_b, tup_t, tup_l, list_lC, list_tC, list_l, list_t, rev_lC, isi_d, rc_s, d_iSeq, seqK_l, seqK_t, d_iRng1, rngK_i, d_Lc, noEx_k, newL_f, newL_t, rng_zero, len_s, d_iTxt, k_tx, d_Sl, k_Sl, k_Sl2, k_Sl3, k_pt0, k_pt1, k_pt, sl_s, d_Fld, d_Meth, d_Make, d_Store, k_Store, k_Store2, inS_1, k_Op1, k_Op2, k_Op2b, k_Mt0, k_Mt1, k_Args, k_Argsb, k_Tup, k_LstC, k_Andb, k_And, k_Orb, k_Or, k_Notb, k_Not, k_tEb, k_tE, k_tAnd, k_tOr, k_tNot, k_If, k_Asg, k_Expr, k_IfS, k_For, k_Lc, k_Lcb, List.map_cons, List.map_nil, List.cons_append, List.nil_append, List.replicate, List.set_cons_zero, List.set_cons_succ, List.all_cons, List.all_nil, Bool.and_true, Bool.true_and, Bool.and_self, and_self, eq_self, if_true, if_false, decide_true, decide_false, Bool.false_eq_true, List.any_cons, List.any_nil, List.length_nil, List.length_cons, Bool.not_true, Bool.not_false, hn, hm9, h, hw, ha, hb, Pap.enc, Pap.nm, Pap.args]
    simp [tp_below]
  · have hw : oIx (vL [PyData.str "broken", .str "clash", .str "cross", .str "late", .str "odd", .str "lone", .str "plan", .str "sums", .str "rows"]) (vI 4) [tp (nt t)] = some (vS "odd", [tp (nt t)]) := rfl
    obtain ⟨a, ta, ha, oa⟩ := numbers (nt t) (R := []) 201 ⟨by decide, by decide⟩ rfl
    refine ⟨.odd a, ta, ?_, oa.1, oa.2⟩
    simp -implicitDefEqProofs +decide only [bind_ok, bind_ex, then_ok, then_ex, seq_nx, seq_rt, seq_ex, ite_tt, ite_ff, of_some, okOr_some, v0, v1, v2, v3, v4, v5, v6, v7, v8, v9, n0, n1, n2, n3, n4, n5, n6, n7, n8, n9, d_C, d_Op1, d_Op2, d_Mt0, d_Mt1, d_Args0, d_Args, d_Tup, d_Lst, d_LstC, tupK0, tupK1, tupK2, tupK3, tupK4, tupK9, bK_b, d_And, d_Or, d_Not, d_tE, d_tAnd, d_tOr, d_tNot, d_tYes, d_If, d_CallI, isoE_ok, isoE_ex, iso1, iso2, iso3, iso4, iso5, d_CallS, tgK_some, d_Skip, d_Seq, d_Asg, d_Expr, d_Ret, d_IfS, d_For, d_Raise, d_Drop, drop_nx, drop_rt, drop_ex, wipe0, wipeC, d_fn, fin_rt, fin_nx, fin_ex, isoR_d, isoR_ex, add_ii, add_ss, add_tt, add_ll, add_llC, sub_ii, neg_i, lt_ii, le_ii, gt_ii, ge_ii, dep_s, dep_i, dep_b, dep_n, eq_ii, eq_ss, eq_bb, ne_ss, ne_ii, ne_bb, in_dt, in_dl, notin_dt, notin_dl, isN_n, isN_i, isN_t, isN_s, isN_b, isN_l, notN_b, notN_l, notN_n, notN_i, notN_t, notN_s, t0, t1, t2, t3, l0, l1, l2, l3, len_t, len_l, str_i, int_b, tup_t, tup_l, list_lC, list_tC, list_l, list_t, rev_lC, isi_d, rc_s, d_iSeq, seqK_l, seqK_t, d_iRng1, rngK_i, d_Lc, noEx_k, newL_f, newL_t, rng_zero, len_s, d_iTxt, k_tx, d_Sl, k_Sl, k_Sl2, k_Sl3, k_pt0, k_pt1, k_pt, sl_s, d_Fld, d_Meth, d_Make, d_Store, k_Store, k_Store2, inS_1, k_Op1, k_Op2, k_Op2b, k_Mt0, k_Mt1, k_Args, k_Argsb, k_Tup, k_LstC, k_Andb, k_And, k_Orb, k_Or, k_Notb, k_Not, k_tEb, k_tE, k_tAnd, k_tOr, k_tNot, k_If, k_Asg, k_Expr, k_IfS, k_For, k_Lc, k_Lcb, List.map_cons, List.map_nil, List.cons_append, List.nil_append, List.replicate, List.set_cons_zero, List.set_cons_succ, List.all_cons, List.all_nil, Bool.and_true, Bool.true_and, Bool.and_self, and_self, eq_self, if_true, if_false, decide_true, decide_false, Bool.false_eq_true, List.any_cons, List.any_nil, List.length_nil, List.length_cons, Bool.not_true, Bool.not_false, hn, hm9, h, hw, ha, Pap.enc, Pap.nm, Pap.args]
    simp [tp_below]
  · have hw : oIx (vL [PyData.str "broken", .str "clash", .str "cross", .str "late", .str "odd", .str "lone", .str "plan", .str "sums", .str "rows"]) (vI 5) [tp (nt t)] = some (vS "lone", [tp (nt t)]) := rfl
    obtain ⟨a, ta, ha, oa⟩ := numbers (nt t) (R := []) 201 ⟨by decide, by decide⟩ rfl
    obtain ⟨b, tb, hb, ob⟩ := numbers ta (R := []) 201 ⟨by decide, by decide⟩ rfl
    have e1 := em (nz t / 9) 60 (by decide)
    refine ⟨.lone (if nz t / 540 % 2 = 0 then none else some (nz t / 9 % 60)) a b, tb, ?_, ⟨?_, oa.1, ob.1⟩, ?_, oa.2, ob.2⟩
    rotate_left
    · split
      · trivial
      · exact ⟨e1.1, by omega⟩
    · split
      · trivial
      · exact e1.2
    have hE : eFree (if nz t / 540 % 2 = 0 then none else some (nz t / 9 % 60)) = if nz t / 540 % 2 = 0 then .none else .int (nz t / 9 % 60) := by split <;> rfl
    simp -implicitDefEqProofs +decide only [bind_ok, bind_ex, then_ok, then_ex, seq_nx, seq_rt, seq_ex, ite_tt, ite_ff, of_some, okOr_some, v0, v1, v2, v3, v4, v5, v6, v7, v8, v9, n0, n1, n2, n3, n4, n5, n6, n7, n8, n9, d_C, d_Op1, d_Op2, d_Mt0, d_Mt1, d_Args0, d_Args, d_Tup, d_Lst, d_LstC, tupK0, tupK1, tupK2, tupK3, tupK4, tupK9, bK_b, d_And, d_Or, d_Not, d_tE, d_tAnd, d_tOr, d_tNot, d_tYes, d_If, d_CallI, isoE_ok, isoE_ex, iso1, iso2, iso3, iso4, iso5, d_CallS, tgK_some, d_Skip, d_Seq, d_Asg, d_Expr, d_Ret, d_IfS, d_For, d_Raise, d_Drop, drop_nx, drop_rt, drop_ex, wipe0, wipeC, d_fn, fin_rt, fin_nx, fin_ex, isoR_d, isoR_ex, add_ii, add_ss, add_tt, add_ll, add_llC, sub_ii, neg_i, lt_ii, le_ii, gt_ii, ge_ii, dep_s, dep_i, dep_b, dep_n, eq_ii, eq_ss, eq_bb, ne_ss, ne_ii, ne_bb, in_dt, in_dl, notin_dt, notin_dl, isN_n, isN_i, isN_t, isN_s, isN_b, isN_l, notN_b, notN_l, notN_n, notN_i, notN_t, notN_s, t0, t1, t2, t3, l0, l1, l2, l3, len_t, len_l, str_i, int_b, tup_t, tup_l, list_lC, list_tC, list_l, list_t, rev_lC, isi_d, rc_s, d_iSeq, seqK_l, seqK_t, d_iRng1, rngK_i, d_Lc, noEx_k, newL_f, newL_t, rng_zero, len_s, d_iTxt, k_tx, d_Sl, k_Sl, k_Sl2, k_Sl3, k_pt0, k_pt1, k_pt, sl_s, d_Fld, d_Meth, d_Make, d_Store, k_Store, k_Store2, inS_1, k_Op1, k_Op2, k_Op2b, k_Mt0, k_Mt1, k_Args, k_Argsb, k_Tup, k_LstC, k_Andb, k_And, k_Orb, k_Or, k_Notb, k_Not, k_tEb, k_tE, k_tAnd, k_tOr, k_tNot, k_If, k_Asg, k_Expr, k_IfS, k_For, k_Lc, k_Lcb, List.map_cons, List.map_nil, List.cons_append, List.nil_append, List.replicate, List.set_cons_zero, List.set_cons_succ, List.all_cons, List.all_nil, Bool.and_true, Bool.true_and, Bool.and_self, and_self, eq_self, if_true, if_false, decide_true, decide_false, Bool.false_eq_true, List.any_cons, List.any_nil, List.length_nil, List.length_cons, Bool.not_true, Bool.not_false, hn, hm9, h, hw, ha, hb, ix2, hE, fdiv_ii (show (0:Int) < 9 ∧ (9 : Int) < 1073741824 by decide), fdiv_ii (show (0:Int) < 540 ∧ (540 : Int) < 1073741824 by decide), mod_ii (show (0:Int) < 2 by decide), mod_ii (show (0:Int) < 60 by decide), Pap.enc, Pap.nm, Pap.args]
    simp [tp_below]
  · have hw : oIx (vL [PyData.str "broken", .str "clash", .str "cross", .str "late", .str "odd", .str "lone", .str "plan", .str "sums", .str "rows"]) (vI 6) [tp (nt t)] = some (vS "plan", [tp (nt t)]) := rfl
    obtain ⟨a, ta, ha, oa⟩ := draw_plan (nt t)
    refine ⟨.plan a, ta, ?_, ⟨oa.1, fun s hs => (oa.2 s hs).1⟩, fun s hs => (oa.2 s hs).2⟩
    simp -implicitDefEqProofs +decide only [bind_ok, bind_ex, then_ok, then_ex, seq_nx, seq_rt, seq_ex, ite_tt, ite_ff, of_some, okOr_some, v0, v1, v2, v3, v4, v5, v6, v7, v8, v9, n0, n1, n2, n3, n4, n5, n6, n7, n8, n9, d_C, d_Op1, d_Op2, d_Mt0, d_Mt1, d_Args0, d_Args, d_Tup, d_Lst, d_LstC, tupK0, tupK1, tupK2, tupK3, tupK4, tupK9, bK_b, d_And, d_Or, d_Not, d_tE, d_tAnd, d_tOr, d_tNot, d_tYes, d_If, d_CallI, isoE_ok, isoE_ex, iso1, iso2, iso3, iso4, iso5, d_CallS, tgK_some, d_Skip, d_Seq, d_Asg, d_Expr, d_Ret, d_IfS, d_For, d_Raise, d_Drop, drop_nx, drop_rt, drop_ex, wipe0, wipeC, d_fn, fin_rt, fin_nx, fin_ex, isoR_d, isoR_ex, add_ii, add_ss, add_tt, add_ll, add_llC, sub_ii, neg_i, lt_ii, le_ii, gt_ii, ge_ii, dep_s, dep_i, dep_b, dep_n, eq_ii, eq_ss, eq_bb, ne_ss, ne_ii, ne_bb, in_dt, in_dl, notin_dt, notin_dl, isN_n, isN_i, isN_t, isN_s, isN_b, isN_l, notN_b, notN_l, notN_n, notN_i, notN_t, notN_s, t0, t1, t2, t3, l0, l1, l2, l3, len_t, len_l, str_i, int_b, tup_t, tup_l, list_lC, list_tC, list_l, list_t, rev_lC, isi_d, rc_s, d_iSeq, seqK_l, seqK_t, d_iRng1, rngK_i, d_Lc, noEx_k, newL_f, newL_t, rng_zero, len_s, d_iTxt, k_tx, d_Sl, k_Sl, k_Sl2, k_Sl3, k_pt0, k_pt1, k_pt, sl_s, d_Fld, d_Meth, d_Make, d_Store, k_Store, k_Store2, inS_1, k_Op1, k_Op2, k_Op2b, k_Mt0, k_Mt1, k_Args, k_Argsb, k_Tup, k_LstC, k_Andb, k_And, k_Orb, k_Or, k_Notb, k_Not, k_tEb, k_tE, k_tAnd, k_tOr, k_tNot, k_If, k_Asg, k_Expr, k_IfS, k_For, k_Lc, k_Lcb, List.map_cons, List.map_nil, List.cons_append, List.nil_append, List.replicate, List.set_cons_zero, List.set_cons_succ, List.all_cons, List.all_nil, Bool.and_true, Bool.true_and, Bool.and_self, and_self, eq_self, if_true, if_false, decide_true, decide_false, Bool.false_eq_true, List.any_cons, List.any_nil, List.length_nil, List.length_cons, Bool.not_true, Bool.not_false, hn, hm9, h, hw, ha, Pap.enc, Pap.nm, Pap.args]
    simp [tp_below]
  · have hw : oIx (vL [PyData.str "broken", .str "clash", .str "cross", .str "late", .str "odd", .str "lone", .str "plan", .str "sums", .str "rows"]) (vI 7) [tp (nt t)] = some (vS "sums", [tp (nt t)]) := rfl
    obtain ⟨a, ta, ha, oa⟩ := draw_sums (nt t)
    refine ⟨.sums a, ta, ?_, ⟨oa.1, fun s hs => (oa.2 s hs).1⟩, fun s hs => (oa.2 s hs).2⟩
    simp -implicitDefEqProofs +decide only [bind_ok, bind_ex, then_ok, then_ex, seq_nx, seq_rt, seq_ex, ite_tt, ite_ff, of_some, okOr_some, v0, v1, v2, v3, v4, v5, v6, v7, v8, v9, n0, n1, n2, n3, n4, n5, n6, n7, n8, n9, d_C, d_Op1, d_Op2, d_Mt0, d_Mt1, d_Args0, d_Args, d_Tup, d_Lst, d_LstC, tupK0, tupK1, tupK2, tupK3, tupK4, tupK9, bK_b, d_And, d_Or, d_Not, d_tE, d_tAnd, d_tOr, d_tNot, d_tYes, d_If, d_CallI, isoE_ok, isoE_ex, iso1, iso2, iso3, iso4, iso5, d_CallS, tgK_some, d_Skip, d_Seq, d_Asg, d_Expr, d_Ret, d_IfS, d_For, d_Raise, d_Drop, drop_nx, drop_rt, drop_ex, wipe0, wipeC, d_fn, fin_rt, fin_nx, fin_ex, isoR_d, isoR_ex, add_ii, add_ss, add_tt, add_ll, add_llC, sub_ii, neg_i, lt_ii, le_ii, gt_ii, ge_ii, dep_s, dep_i, dep_b, dep_n, eq_ii, eq_ss, eq_bb, ne_ss, ne_ii, ne_bb, in_dt, in_dl, notin_dt, notin_dl, isN_n, isN_i, isN_t, isN_s, isN_b, isN_l, notN_b, notN_l, notN_n, notN_i, notN_t, notN_s, t0, t1, t2, t3, l0, l1, l2, l3, len_t, len_l, str_i, int_b, tup_t, tup_l, list_lC, list_tC, list_l, list_t, rev_lC, isi_d, rc_s, d_iSeq, seqK_l, seqK_t, d_iRng1, rngK_i, d_Lc, noEx_k, newL_f, newL_t, rng_zero, len_s, d_iTxt, k_tx, d_Sl, k_Sl, k_Sl2, k_Sl3, k_pt0, k_pt1, k_pt, sl_s, d_Fld, d_Meth, d_Make, d_Store, k_Store, k_Store2, inS_1, k_Op1, k_Op2, k_Op2b, k_Mt0, k_Mt1, k_Args, k_Argsb, k_Tup, k_LstC, k_Andb, k_And, k_Orb, k_Or, k_Notb, k_Not, k_tEb, k_tE, k_tAnd, k_tOr, k_tNot, k_If, k_Asg, k_Expr, k_IfS, k_For, k_Lc, k_Lcb, List.map_cons, List.map_nil, List.cons_append, List.nil_append, List.replicate, List.set_cons_zero, List.set_cons_succ, List.all_cons, List.all_nil, Bool.and_true, Bool.true_and, Bool.and_self, and_self, eq_self, if_true, if_false, decide_true, decide_false, Bool.false_eq_true, List.any_cons, List.any_nil, List.length_nil, List.length_cons, Bool.not_true, Bool.not_false, hn, hm9, h, hw, ha, Pap.enc, Pap.nm, Pap.args]
    simp [tp_below]
  · have hw : oIx (vL [PyData.str "broken", .str "clash", .str "cross", .str "late", .str "odd", .str "lone", .str "plan", .str "sums", .str "rows"]) (vI 8) [tp (nt t)] = some (vS "rows", [tp (nt t)]) := rfl
    obtain ⟨a, ta, ha, oa⟩ := numbers (nt t) (R := []) 60 ⟨by decide, by decide⟩ rfl
    obtain ⟨b, tb, hb, ob⟩ := draw_rows ta
    refine ⟨.rows a b, tb, ?_, ⟨oa.1, ob.1, fun s hs => (ob.2 s hs).1⟩, oa.2, fun s hs => (ob.2 s hs).2⟩
    simp -implicitDefEqProofs +decide only [bind_ok, bind_ex, then_ok, then_ex, seq_nx, seq_rt, seq_ex, ite_tt, ite_ff, of_some, okOr_some, v0, v1, v2, v3, v4, v5, v6, v7, v8, v9, n0, n1, n2, n3, n4, n5, n6, n7, n8, n9, d_C, d_Op1, d_Op2, d_Mt0, d_Mt1, d_Args0, d_Args, d_Tup, d_Lst, d_LstC, tupK0, tupK1, tupK2, tupK3, tupK4, tupK9, bK_b, d_And, d_Or, d_Not, d_tE, d_tAnd, d_tOr, d_tNot, d_tYes, d_If, d_CallI, isoE_ok, isoE_ex, iso1, iso2, iso3, iso4, iso5, d_CallS, tgK_some, d_Skip, d_Seq, d_Asg, d_Expr, d_Ret, d_IfS, d_For, d_Raise, d_Drop, drop_nx, drop_rt, drop_ex, wipe0, wipeC, d_fn, fin_rt, fin_nx, fin_ex, isoR_d, isoR_ex, add_ii, add_ss, add_tt, add_ll, add_llC, sub_ii, neg_i, lt_ii, le_ii, gt_ii, ge_ii, dep_s, dep_i, dep_b, dep_n, eq_ii, eq_ss, eq_bb, ne_ss, ne_ii, ne_bb, in_dt, in_dl, notin_dt, notin_dl, isN_n, isN_i, isN_t, isN_s, isN_b, isN_l, notN_b, notN_l, notN_n, notN_i, notN_t, notN_s, t0, t1, t2, t3, l0, l1, l2, l3, len_t, len_l, str_i, int_b, tup_t, tup_l, list_lC, list_tC, list_l, list_t, rev_lC, isi_d, rc_s, d_iSeq, seqK_l, seqK_t, d_iRng1, rngK_i, d_Lc, noEx_k, newL_f, newL_t, rng_zero, len_s, d_iTxt, k_tx, d_Sl, k_Sl, k_Sl2, k_Sl3, k_pt0, k_pt1, k_pt, sl_s, d_Fld, d_Meth, d_Make, d_Store, k_Store, k_Store2, inS_1, k_Op1, k_Op2, k_Op2b, k_Mt0, k_Mt1, k_Args, k_Argsb, k_Tup, k_LstC, k_Andb, k_And, k_Orb, k_Or, k_Notb, k_Not, k_tEb, k_tE, k_tAnd, k_tOr, k_tNot, k_If, k_Asg, k_Expr, k_IfS, k_For, k_Lc, k_Lcb, List.map_cons, List.map_nil, List.cons_append, List.nil_append, List.replicate, List.set_cons_zero, List.set_cons_succ, List.all_cons, List.all_nil, Bool.and_true, Bool.true_and, Bool.and_self, and_self, eq_self, if_true, if_false, decide_true, decide_false, Bool.false_eq_true, List.any_cons, List.any_nil, List.length_nil, List.length_cons, Bool.not_true, Bool.not_false, hn, hm9, h, hw, ha, hb, Pap.enc, Pap.nm, Pap.args]
    simp [tp_below]
/-! facts of the small numbers, by running through them -/
def numOk (n : Nat) : Bool := let x := nS n; decide (1 ≤ x.length) && decide (x.length ≤ 3) && x.cps.toList.all (fun c => decide (c ∈ ("0123456789" : Str).cps.toList)) && (decide (x.cps.toList[0]? = some 48 → x.length = 1)) && decide (PySem.intText? x = some (n : Int)) && decide (32 ∉ x.cps.toList) && PyData.strOk x && decide (x ≠ "none")
theorem num_ok : ∀ n : Nat, n < 201 → numOk n = true := by decide +kernel
def say (b : Bool) (n : Nat) : Str := if b = true then ("+" : Str) ++ nS n else ("-" : Str) ++ nS n
def sayOk (b : Bool) (n : Nat) : Bool := decide (L2.cutS (say b n) none (some 1) = if b = true then "+" else "-") && decide (L2.cutS (say b n) (some 1) none = nS n) && decide (32 ∉ (say b n).cps.toList) && PyData.strOk (say b n) && decide (L2.atI (say b n).cps.toList 0 = some (if b = true then 43 else 45))
theorem say_ok : ∀ n : Nat, n < 60 → sayOk true n = true ∧ sayOk false n = true := by decide +kernel
structure NumF (x : Str) (i : Int) : Prop where
  l1 : 1 ≤ x.length
  l3 : x.length ≤ 3
  fig : ∀ c ∈ x.cps.toList, c ∈ ("0123456789" : Str).cps.toList
  lead : x.cps.toList[0]? = some 48 → x.length = 1
  val : PySem.intText? x = some i
  nosp : 32 ∉ x.cps.toList
  ok : PyData.strOk x = true
  nn : x ≠ "none"
theorem numF {i : Int} (h : 0 ≤ i ∧ i < 201) : NumF (nS i) i := by
  obtain ⟨n, rfl⟩ := Int.eq_ofNat_of_zero_le h.1
  have := num_ok n (by omega)
  simp only [numOk, Bool.and_eq_true, decide_eq_true_eq, List.all_eq_true] at this
  obtain ⟨⟨⟨⟨⟨⟨⟨a, b⟩, c⟩, d⟩, e⟩, f⟩, g⟩, k⟩ := this
  exact ⟨a, b, c, d, e, f, g, k⟩
theorem list_at0 {x : Str} {c : Nat} {S : Sto} (h : x.cps.toList[0]? = some c) : oIx (vS x) (vI 0) S = some (vS ⟨#[c]⟩, S) := by
  show okOr (L2.atI x.cps.toList 0) (fun c => some (vS ⟨#[c]⟩, S)) = _
  have := L2.atI_nat (j := 0) h
  simp only [Int.cast_ofNat_Int] at this
  rw [show L2.atI x.cps.toList 0 = some c from this]; rfl
theorem eq48 {c : Nat} : decide ((⟨#[c]⟩ : Str) = "0") = decide (c = 48) := by
  rw [show ("0" : Str) = ⟨#[48]⟩ by decide]
  congr 1
  simp
/-- number_of of a small number's text -/
theorem c_num {i : Int} (h : 0 ≤ i ∧ i < 201) : callI g_number_of [.str (nS i)] = some (.inr (.int i)) := by
  have F := numF h
  generalize nS i = x at F
  have hl1 : decide ((x.length : Int) < 1) = false := by have := F.l1; simp; omega
  have hl3 : decide ((3 : Int) < (x.length : Int)) = false := by have := F.l3; simp; omega
  have hne : ∃ c, x.cps.toList[0]? = some c := by
    have := F.l1
    cases e : x.cps.toList with
    | nil =>
      have h3 : x.cps.size = 0 := by rw [← Array.length_toList, e]; rfl
      have h2 : 1 ≤ x.cps.size := F.l1
      omega
    | cons c r => exact ⟨c, rfl⟩
  obtain ⟨c, hc⟩ := hne
  have h0 := list_at0 (S := []) hc
  have hI := intS_s (S := []) (by have := F.l3; omega) F.val
  unfold g_number_of f_number_of
  rw [d_iso]
  generalize hB : sDrop _ [1] = B
  have hfor := for_fold (g := gN 1) (b := B) (f := fun c => vS ⟨#[c]⟩) (st := fun _ : Unit => ([some (vS x), none], ([] : Sto))) (k := fun _ _ => ())
  have hf2 : ∀ l : List Nat, (∀ c ∈ l, c ∈ ("0123456789" : Str).cps.toList) → forL (gN 1) B (l.map fun c => vS ⟨#[c]⟩) [some (vS x), none] [] = .nx [some (vS x), none] [] := by
    intro l
    induction l with
    | nil => intro _; rfl
    | cons c l ih =>
      intro hl
      have hc : decide (c ∈ ("0123456789" : Str).cps.toList) = true := by simpa using hl c (by simp)
      have hb : B [some (vS x), some (vS ⟨#[c]⟩)] [] = .nx [some (vS x), none] [] := by
        subst hB
        simp -implicitDefEqProofs only [bind_ok, bind_ex, then_ok, then_ex, seq_nx, seq_rt, seq_ex, ite_tt, ite_ff, of_some, okOr_some, v0, v1, v2, v3, v4, v5, v6, v7, v8, v9, n0, n1, n2, n3, n4, n5, n6, n7, n8, n9, d_C, d_Op1, d_Op2, d_Mt0, d_Mt1, d_Args0, d_Args, d_Tup, d_Lst, d_LstC, tupK0, tupK1, tupK2, tupK3, tupK4, tupK9, bK_b, d_And, d_Or, d_Not, d_tE, d_tAnd, d_tOr, d_tNot, d_tYes, d_If, d_CallI, isoE_ok, isoE_ex, iso1, iso2, iso3, iso4, iso5, d_CallS, tgK_some, d_Skip, d_Seq, d_Asg, d_Expr, d_Ret, d_IfS, d_For, d_Raise, d_Drop, drop_nx, drop_rt, drop_ex, wipe0, wipeC, d_fn, fin_rt, fin_nx, fin_ex, isoR_d, isoR_ex, add_ii, add_ss, add_tt, add_ll, add_llC, sub_ii, neg_i, lt_ii, le_ii, gt_ii, ge_ii, dep_s, dep_i, dep_b, dep_n, eq_ii, eq_ss, eq_bb, ne_ss, ne_ii, ne_bb, in_dt, in_dl, notin_dt, notin_dl, isN_n, isN_i, isN_t, isN_s, isN_b, isN_l, notN_b, notN_l, notN_n, notN_i, notN_t, notN_s, t0, t1, t2, t3, l0, l1, l2, l3, len_t, len_l, str_i, int_b, tup_t, tup_l, list_lC, list_tC, list_l, list_t, rev_lC, isi_d, rc_s, d_iSeq, seqK_l, seqK_t, d_iRng1, rngK_i, d_Lc, noEx_k, newL_f, newL_t, rng_zero, len_s, d_iTxt, k_tx, d_Sl, k_Sl, k_Sl2, k_Sl3, k_pt0, k_pt1, k_pt, sl_s, d_Fld, d_Meth, d_Make, d_Store, k_Store, k_Store2, inS_1, k_Op1, k_Op2, k_Op2b, k_Mt0, k_Mt1, k_Args, k_Argsb, k_Tup, k_LstC, k_Andb, k_And, k_Orb, k_Or, k_Notb, k_Not, k_tEb, k_tE, k_tAnd, k_tOr, k_tNot, k_If, k_Asg, k_Expr, k_IfS, k_For, k_Lc, k_Lcb, List.map_cons, List.map_nil, List.cons_append, List.nil_append, List.replicate, List.set_cons_zero, List.set_cons_succ, List.all_cons, List.all_nil, Bool.and_true, Bool.true_and, Bool.and_self, and_self, eq_self, if_true, if_false, decide_true, decide_false, Bool.false_eq_true, List.any_cons, List.any_nil, List.length_nil, List.length_cons, Bool.not_true, Bool.not_false, hc]
      simp only [List.map_cons, forL, n1, hb]
      exact ih fun d hd => hl d (by simp [hd])
  have hf := hf2 _ F.fig
  by_cases h48 : c = 48
  · subst h48
    have h1 : decide ((1 : Int) < (x.length : Int)) = false := by have := F.lead hc; simp [this]
    have h4 : decide ((⟨#[48]⟩ : Str) = "0") = true := by decide
    simp -implicitDefEqProofs only [bind_ok, bind_ex, then_ok, then_ex, seq_nx, seq_rt, seq_ex, ite_tt, ite_ff, of_some, okOr_some, v0, v1, v2, v3, v4, v5, v6, v7, v8, v9, n0, n1, n2, n3, n4, n5, n6, n7, n8, n9, d_C, d_Op1, d_Op2, d_Mt0, d_Mt1, d_Args0, d_Args, d_Tup, d_Lst, d_LstC, tupK0, tupK1, tupK2, tupK3, tupK4, tupK9, bK_b, d_And, d_Or, d_Not, d_tE, d_tAnd, d_tOr, d_tNot, d_tYes, d_If, d_CallI, isoE_ok, isoE_ex, iso1, iso2, iso3, iso4, iso5, d_CallS, tgK_some, d_Skip, d_Seq, d_Asg, d_Expr, d_Ret, d_IfS, d_For, d_Raise, d_Drop, drop_nx, drop_rt, drop_ex, wipe0, wipeC, d_fn, fin_rt, fin_nx, fin_ex, isoR_d, isoR_ex, add_ii, add_ss, add_tt, add_ll, add_llC, sub_ii, neg_i, lt_ii, le_ii, gt_ii, ge_ii, dep_s, dep_i, dep_b, dep_n, eq_ii, eq_ss, eq_bb, ne_ss, ne_ii, ne_bb, in_dt, in_dl, notin_dt, notin_dl, isN_n, isN_i, isN_t, isN_s, isN_b, isN_l, notN_b, notN_l, notN_n, notN_i, notN_t, notN_s, t0, t1, t2, t3, l0, l1, l2, l3, len_t, len_l, str_i, int_b, tup_t, tup_l, list_lC, list_tC, list_l, list_t, rev_lC, isi_d, rc_s, d_iSeq, seqK_l, seqK_t, d_iRng1, rngK_i, d_Lc, noEx_k, newL_f, newL_t, rng_zero, len_s, d_iTxt, k_tx, d_Sl, k_Sl, k_Sl2, k_Sl3, k_pt0, k_pt1, k_pt, sl_s, d_Fld, d_Meth, d_Make, d_Store, k_Store, k_Store2, inS_1, k_Op1, k_Op2, k_Op2b, k_Mt0, k_Mt1, k_Args, k_Argsb, k_Tup, k_LstC, k_Andb, k_And, k_Orb, k_Or, k_Notb, k_Not, k_tEb, k_tE, k_tAnd, k_tOr, k_tNot, k_If, k_Asg, k_Expr, k_IfS, k_For, k_Lc, k_Lcb, List.map_cons, List.map_nil, List.cons_append, List.nil_append, List.replicate, List.set_cons_zero, List.set_cons_succ, List.all_cons, List.all_nil, Bool.and_true, Bool.true_and, Bool.and_self, and_self, eq_self, if_true, if_false, decide_true, decide_false, Bool.false_eq_true, List.any_cons, List.any_nil, List.length_nil, List.length_cons, Bool.not_true, Bool.not_false, hl1, hl3, hf, h0, h1, h4, hI]
  · have h4 : decide ((⟨#[c]⟩ : Str) = "0") = false := by rw [eq48]; simp [h48]
    simp -implicitDefEqProofs only [bind_ok, bind_ex, then_ok, then_ex, seq_nx, seq_rt, seq_ex, ite_tt, ite_ff, of_some, okOr_some, v0, v1, v2, v3, v4, v5, v6, v7, v8, v9, n0, n1, n2, n3, n4, n5, n6, n7, n8, n9, d_C, d_Op1, d_Op2, d_Mt0, d_Mt1, d_Args0, d_Args, d_Tup, d_Lst, d_LstC, tupK0, tupK1, tupK2, tupK3, tupK4, tupK9, bK_b, d_And, d_Or, d_Not, d_tE, d_tAnd, d_tOr, d_tNot, d_tYes, d_If, d_CallI, isoE_ok, isoE_ex, iso1, iso2, iso3, iso4, iso5, d_CallS, tgK_some, d_Skip, d_Seq, d_Asg, d_Expr, d_Ret, d_IfS, d_For, d_Raise, d_Drop, drop_nx, drop_rt, drop_ex, wipe0, wipeC, d_fn, fin_rt, fin_nx, fin_ex, isoR_d, isoR_ex, add_ii, add_ss, add_tt, add_ll, add_llC, sub_ii, neg_i, lt_ii, le_ii, gt_ii, ge_ii, dep_s, dep_i, dep_b, dep_n, eq_ii, eq_ss, eq_bb, ne_ss, ne_ii, ne_bb, in_dt, in_dl, notin_dt, notin_dl, isN_n, isN_i, isN_t, isN_s, isN_b, isN_l, notN_b, notN_l, notN_n, notN_i, notN_t, notN_s, t0, t1, t2, t3, l0, l1, l2, l3, len_t, len_l, str_i, int_b, tup_t, tup_l, list_lC, list_tC, list_l, list_t, rev_lC, isi_d, rc_s, d_iSeq, seqK_l, seqK_t, d_iRng1, rngK_i, d_Lc, noEx_k, newL_f, newL_t, rng_zero, len_s, d_iTxt, k_tx, d_Sl, k_Sl, k_Sl2, k_Sl3, k_pt0, k_pt1, k_pt, sl_s, d_Fld, d_Meth, d_Make, d_Store, k_Store, k_Store2, inS_1, k_Op1, k_Op2, k_Op2b, k_Mt0, k_Mt1, k_Args, k_Argsb, k_Tup, k_LstC, k_Andb, k_And, k_Orb, k_Or, k_Notb, k_Not, k_tEb, k_tE, k_tAnd, k_tOr, k_tNot, k_If, k_Asg, k_Expr, k_IfS, k_For, k_Lc, k_Lcb, List.map_cons, List.map_nil, List.cons_append, List.nil_append, List.replicate, List.set_cons_zero, List.set_cons_succ, List.all_cons, List.all_nil, Bool.and_true, Bool.true_and, Bool.and_self, and_self, eq_self, if_true, if_false, decide_true, decide_false, Bool.false_eq_true, List.any_cons, List.any_nil, List.length_nil, List.length_cons, Bool.not_true, Bool.not_false, hl1, hl3, hf, h0, h4, hI]
/-- saying_of of a saying's text -/
theorem sayF {s : Say} (h : 0 ≤ s.1 ∧ s.1 < 60) : L2.cutS (wSay s) none (some 1) = (if s.2 = true then "+" else "-") ∧ L2.cutS (wSay s) (some 1) none = nS s.1 ∧ 32 ∉ (wSay s).cps.toList ∧ PyData.strOk (wSay s) = true ∧ L2.atI (wSay s).cps.toList 0 = some (if s.2 = true then 43 else 45) := by
  obtain ⟨i, b⟩ := s
  obtain ⟨n, rfl⟩ := Int.eq_ofNat_of_zero_le h.1
  have h2 := say_ok n (by have := h.2; simp at this; omega)
  have h3 : sayOk b n = true := by cases b; exact h2.2; exact h2.1
  simp only [sayOk, Bool.and_eq_true, decide_eq_true_eq] at h3
  obtain ⟨⟨⟨⟨a, b⟩, c⟩, d⟩, e⟩ := h3
  exact ⟨a, b, c, d, e⟩
theorem c_say {s : Say} (h : 0 ≤ s.1 ∧ s.1 < 60) : callI g_saying_of [.str (wSay s)] = some (.inr (eSay s)) := by
  obtain ⟨f1, f2, _, _, f3⟩ := sayF h
  have hn := c_num (i := s.1) ⟨h.1, by omega⟩
  have hx : oIx (vS (wSay s)) (vI 0) [] = some (vS ⟨#[if s.2 = true then 43 else 45]⟩, []) := by
    show okOr (L2.atI (wSay s).cps.toList 0) (fun c => some (vS ⟨#[c]⟩, ([] : Sto))) = _
    rw [f3]; rfl
  unfold g_saying_of f_saying_of
  rw [d_iso]
  generalize wSay s = x at f1 f2 hx
  cases hb : s.2
  · rw [hb] at f1 hx
    simp only [Bool.false_eq_true, if_false] at f1 hx
    have h1 : decide (("-" : Str) = "+") = false := by decide
    have h4 : decide ((⟨#[45]⟩ : Str) = "+") = false := by decide
    simp -implicitDefEqProofs only [bind_ok, bind_ex, then_ok, then_ex, seq_nx, seq_rt, seq_ex, ite_tt, ite_ff, of_some, okOr_some, v0, v1, v2, v3, v4, v5, v6, v7, v8, v9, n0, n1, n2, n3, n4, n5, n6, n7, n8, n9, d_C, d_Op1, d_Op2, d_Mt0, d_Mt1, d_Args0, d_Args, d_Tup, d_Lst, d_LstC, tupK0, tupK1, tupK2, tupK3, tupK4, tupK9, bK_b, d_And, d_Or, d_Not, d_tE, d_tAnd, d_tOr, d_tNot, d_tYes, d_If, d_CallI, isoE_ok, isoE_ex, iso1, iso2, iso3, iso4, iso5, d_CallS, tgK_some, d_Skip, d_Seq, d_Asg, d_Expr, d_Ret, d_IfS, d_For, d_Raise, d_Drop, drop_nx, drop_rt, drop_ex, wipe0, wipeC, d_fn, fin_rt, fin_nx, fin_ex, isoR_d, isoR_ex, add_ii, add_ss, add_tt, add_ll, add_llC, sub_ii, neg_i, lt_ii, le_ii, gt_ii, ge_ii, dep_s, dep_i, dep_b, dep_n, eq_ii, eq_ss, eq_bb, ne_ss, ne_ii, ne_bb, in_dt, in_dl, notin_dt, notin_dl, isN_n, isN_i, isN_t, isN_s, isN_b, isN_l, notN_b, notN_l, notN_n, notN_i, notN_t, notN_s, t0, t1, t2, t3, l0, l1, l2, l3, len_t, len_l, str_i, int_b, tup_t, tup_l, list_lC, list_tC, list_l, list_t, rev_lC, isi_d, rc_s, d_iSeq, seqK_l, seqK_t, d_iRng1, rngK_i, d_Lc, noEx_k, newL_f, newL_t, rng_zero, len_s, d_iTxt, k_tx, d_Sl, k_Sl, k_Sl2, k_Sl3, k_pt0, k_pt1, k_pt, sl_s, d_Fld, d_Meth, d_Make, d_Store, k_Store, k_Store2, inS_1, k_Op1, k_Op2, k_Op2b, k_Mt0, k_Mt1, k_Args, k_Argsb, k_Tup, k_LstC, k_Andb, k_And, k_Orb, k_Or, k_Notb, k_Not, k_tEb, k_tE, k_tAnd, k_tOr, k_tNot, k_If, k_Asg, k_Expr, k_IfS, k_For, k_Lc, k_Lcb, List.map_cons, List.map_nil, List.cons_append, List.nil_append, List.replicate, List.set_cons_zero, List.set_cons_succ, List.all_cons, List.all_nil, Bool.and_true, Bool.true_and, Bool.and_self, and_self, eq_self, if_true, if_false, decide_true, decide_false, Bool.false_eq_true, List.any_cons, List.any_nil, List.length_nil, List.length_cons, Bool.not_true, Bool.not_false, f1, f2, h1, hn, hx, h4]
    simp [eSay, hb]
  · rw [hb] at f1 hx
    simp only [if_true] at f1 hx
    have h4 : decide ((⟨#[43]⟩ : Str) = "+") = true := by decide
    simp -implicitDefEqProofs only [bind_ok, bind_ex, then_ok, then_ex, seq_nx, seq_rt, seq_ex, ite_tt, ite_ff, of_some, okOr_some, v0, v1, v2, v3, v4, v5, v6, v7, v8, v9, n0, n1, n2, n3, n4, n5, n6, n7, n8, n9, d_C, d_Op1, d_Op2, d_Mt0, d_Mt1, d_Args0, d_Args, d_Tup, d_Lst, d_LstC, tupK0, tupK1, tupK2, tupK3, tupK4, tupK9, bK_b, d_And, d_Or, d_Not, d_tE, d_tAnd, d_tOr, d_tNot, d_tYes, d_If, d_CallI, isoE_ok, isoE_ex, iso1, iso2, iso3, iso4, iso5, d_CallS, tgK_some, d_Skip, d_Seq, d_Asg, d_Expr, d_Ret, d_IfS, d_For, d_Raise, d_Drop, drop_nx, drop_rt, drop_ex, wipe0, wipeC, d_fn, fin_rt, fin_nx, fin_ex, isoR_d, isoR_ex, add_ii, add_ss, add_tt, add_ll, add_llC, sub_ii, neg_i, lt_ii, le_ii, gt_ii, ge_ii, dep_s, dep_i, dep_b, dep_n, eq_ii, eq_ss, eq_bb, ne_ss, ne_ii, ne_bb, in_dt, in_dl, notin_dt, notin_dl, isN_n, isN_i, isN_t, isN_s, isN_b, isN_l, notN_b, notN_l, notN_n, notN_i, notN_t, notN_s, t0, t1, t2, t3, l0, l1, l2, l3, len_t, len_l, str_i, int_b, tup_t, tup_l, list_lC, list_tC, list_l, list_t, rev_lC, isi_d, rc_s, d_iSeq, seqK_l, seqK_t, d_iRng1, rngK_i, d_Lc, noEx_k, newL_f, newL_t, rng_zero, len_s, d_iTxt, k_tx, d_Sl, k_Sl, k_Sl2, k_Sl3, k_pt0, k_pt1, k_pt, sl_s, d_Fld, d_Meth, d_Make, d_Store, k_Store, k_Store2, inS_1, k_Op1, k_Op2, k_Op2b, k_Mt0, k_Mt1, k_Args, k_Argsb, k_Tup, k_LstC, k_Andb, k_And, k_Orb, k_Or, k_Notb, k_Not, k_tEb, k_tE, k_tAnd, k_tOr, k_tNot, k_If, k_Asg, k_Expr, k_IfS, k_For, k_Lc, k_Lcb, List.map_cons, List.map_nil, List.cons_append, List.nil_append, List.replicate, List.set_cons_zero, List.set_cons_succ, List.all_cons, List.all_nil, Bool.and_true, Bool.true_and, Bool.and_self, and_self, eq_self, if_true, if_false, decide_true, decide_false, Bool.false_eq_true, List.any_cons, List.any_nil, List.length_nil, List.length_cons, Bool.not_true, Bool.not_false, f1, f2, hn, hx, h4]
    simp [eSay, hb]
/-! the words' cell -/
def stW (ws : List Str) (n : Nat) : Sto := [.ins .Words [("row", vL (ws.map .str)), ("done", vI (n : Int))]]
theorem lo_r : (("row" : Str) = "done") = False := by decide
theorem lo_d : (("done" : Str) = "row") = False := by decide
theorem lo_s : (("row" : Str) = "step") = False := by decide
theorem lo_t : (("done" : Str) = "step") = False := by decide
theorem lo_e : (("row" : Str) = "ended") = False := by decide
theorem lo_f : (("done" : Str) = "ended") = False := by decide
theorem f_row {ws : List Str} {n : Nat} : gFld .Words "row" (.r 0) (stW ws n) = .ok (vL (ws.map .str)) (stW ws n) := by
  simp [gFld, flds, stW, lookF]
theorem f_done {ws : List Str} {n : Nat} : gFld .Words "done" (.r 0) (stW ws n) = .ok (vI (n : Int)) (stW ws n) := by
  simp [gFld, flds, stW, lookF, lo_r]
theorem s_done {ws : List Str} {n : Nat} {ρ : DK.Env} : sFldK .Words "done" ρ (vI ((n : Int) + 1)) (.r 0) (stW ws n) = .nx ρ (stW ws (n + 1)) := by
  simp [sFldK, putO, flds, stW, putFs, lo_r]
theorem below_W {ws : List Str} {n k : Nat} : ((stW ws n).take 1).all (Cell.below k) = true := by
  simp [stW, Cell.below, P.below]
theorem len_W {ws : List Str} {n : Nat} : (stW ws n).length = 1 := rfl
theorem take_W {ws : List Str} {n : Nat} : (stW ws n).take 1 = stW ws n := rfl
theorem cS_d {g : Fn} {ps : List P} {ws : List Str} {n m : Nat} {x : PyData} (h : g ps (stW ws n) = .ok (.d x) (stW ws m)) : callS g ps (stW ws n) = .ok (.d x) (stW ws m) := by
  unfold callS
  rw [h]
  dsimp only
  rw [len_W, if_pos below_W, take_W]
theorem step_ok {ws : List Str} {n : Nat} {w : Str} {r : List Str} (h : ws.drop n = w :: r) : g_Words_step [.r 0] (stW ws n) = .ok (vS w) (stW ws (n + 1)) := by
  have hn : n < ws.length := by
    rcases Nat.lt_or_ge n ws.length with h2 | h2
    · exact h2
    · rw [List.drop_eq_nil_of_le h2] at h; cases h
  have hx : oIx (vL (ws.map .str)) (vI (n : Int)) (stW ws n) = some (vS w, stW ws n) := ix_l (L2.atI_nat (by
    rw [List.getElem?_map]
    have : (ws.drop n)[0]? = some w := by rw [h]; rfl
    rw [List.getElem?_drop] at this
    simp only [Nat.add_zero] at this
    rw [this]; rfl))
  have hl : decide ((n : Int) < (((ws.map PyData.str).length : Nat) : Int)) = true := by simp; omega
  unfold g_Words_step f_Words_step
  simp -implicitDefEqProofs only [bind_ok, bind_ex, then_ok, then_ex, seq_nx, seq_rt, seq_ex, ite_tt, ite_ff, of_some, okOr_some, v0, v1, v2, v3, v4, v5, v6, v7, v8, v9, n0, n1, n2, n3, n4, n5, n6, n7, n8, n9, d_C, d_Op1, d_Op2, d_Mt0, d_Mt1, d_Args0, d_Args, d_Tup, d_Lst, d_LstC, tupK0, tupK1, tupK2, tupK3, tupK4, tupK9, bK_b, d_And, d_Or, d_Not, d_tE, d_tAnd, d_tOr, d_tNot, d_tYes, d_If, d_CallI, isoE_ok, isoE_ex, iso1, iso2, iso3, iso4, iso5, d_CallS, tgK_some, d_Skip, d_Seq, d_Asg, d_Expr, d_Ret, d_IfS, d_For, d_Raise, d_Drop, drop_nx, drop_rt, drop_ex, wipe0, wipeC, d_fn, fin_rt, fin_nx, fin_ex, isoR_d, isoR_ex, add_ii, add_ss, add_tt, add_ll, add_llC, sub_ii, neg_i, lt_ii, le_ii, gt_ii, ge_ii, dep_s, dep_i, dep_b, dep_n, eq_ii, eq_ss, eq_bb, ne_ss, ne_ii, ne_bb, in_dt, in_dl, notin_dt, notin_dl, isN_n, isN_i, isN_t, isN_s, isN_b, isN_l, notN_b, notN_l, notN_n, notN_i, notN_t, notN_s, t0, t1, t2, t3, l0, l1, l2, l3, len_t, len_l, str_i, int_b, tup_t, tup_l, list_lC, list_tC, list_l, list_t, rev_lC, isi_d, rc_s, d_iSeq, seqK_l, seqK_t, d_iRng1, rngK_i, d_Lc, noEx_k, newL_f, newL_t, rng_zero, len_s, d_iTxt, k_tx, d_Sl, k_Sl, k_Sl2, k_Sl3, k_pt0, k_pt1, k_pt, sl_s, d_Fld, d_Meth, d_Make, d_Store, k_Store, k_Store2, inS_1, k_Op1, k_Op2, k_Op2b, k_Mt0, k_Mt1, k_Args, k_Argsb, k_Tup, k_LstC, k_Andb, k_And, k_Orb, k_Or, k_Notb, k_Not, k_tEb, k_tE, k_tAnd, k_tOr, k_tNot, k_If, k_Asg, k_Expr, k_IfS, k_For, k_Lc, k_Lcb, List.map_cons, List.map_nil, List.cons_append, List.nil_append, List.replicate, List.set_cons_zero, List.set_cons_succ, List.all_cons, List.all_nil, Bool.and_true, Bool.true_and, Bool.and_self, and_self, eq_self, if_true, if_false, decide_true, decide_false, Bool.false_eq_true, List.any_cons, List.any_nil, List.length_nil, List.length_cons, Bool.not_true, Bool.not_false, f_row, f_done, s_done, hx, hl]
theorem gM_step {ws : List Str} {n : Nat} {w : Str} {r : List Str} {ρ : DK.Env} (h : ws.drop n = w :: r) : gMeth .Words "step" g_Words_step [] ρ (.r 0) (stW ws n) = .ok (vS w) (stW ws (n + 1)) := by
  unfold gMeth
  have hf : flds .Words (stW ws n) (.r 0) = some (0, [(("row" : Str), vL (ws.map .str)), (("done" : Str), vI (n : Int))]) := by simp [flds, stW]
  rw [hf]
  simp only [lookF, lo_s, lo_t, if_false, Option.isNone_none, if_true]
  exact cS_d (step_ok h)
theorem gM_ended {ws : List Str} {n : Nat} {ρ : DK.Env} (h : n = ws.length) : gMeth .Words "ended" g_Words_ended [] ρ (.r 0) (stW ws n) = .ok (vB true) (stW ws n) := by
  unfold gMeth
  have hf : flds .Words (stW ws n) (.r 0) = some (0, [(("row" : Str), vL (ws.map .str)), (("done" : Str), vI (n : Int))]) := by simp [flds, stW]
  rw [hf]
  simp only [lookF, lo_e, lo_f, if_false, Option.isNone_none, if_true]
  show callS g_Words_ended [.r 0] (stW ws n) = _
  refine cS_d ?_
  unfold g_Words_ended f_Words_ended
  have : decide ((n : Int) = (((ws.map PyData.str).length : Nat) : Int)) = true := by simp; omega
  simp -implicitDefEqProofs only [bind_ok, bind_ex, then_ok, then_ex, seq_nx, seq_rt, seq_ex, ite_tt, ite_ff, of_some, okOr_some, v0, v1, v2, v3, v4, v5, v6, v7, v8, v9, n0, n1, n2, n3, n4, n5, n6, n7, n8, n9, d_C, d_Op1, d_Op2, d_Mt0, d_Mt1, d_Args0, d_Args, d_Tup, d_Lst, d_LstC, tupK0, tupK1, tupK2, tupK3, tupK4, tupK9, bK_b, d_And, d_Or, d_Not, d_tE, d_tAnd, d_tOr, d_tNot, d_tYes, d_If, d_CallI, isoE_ok, isoE_ex, iso1, iso2, iso3, iso4, iso5, d_CallS, tgK_some, d_Skip, d_Seq, d_Asg, d_Expr, d_Ret, d_IfS, d_For, d_Raise, d_Drop, drop_nx, drop_rt, drop_ex, wipe0, wipeC, d_fn, fin_rt, fin_nx, fin_ex, isoR_d, isoR_ex, add_ii, add_ss, add_tt, add_ll, add_llC, sub_ii, neg_i, lt_ii, le_ii, gt_ii, ge_ii, dep_s, dep_i, dep_b, dep_n, eq_ii, eq_ss, eq_bb, ne_ss, ne_ii, ne_bb, in_dt, in_dl, notin_dt, notin_dl, isN_n, isN_i, isN_t, isN_s, isN_b, isN_l, notN_b, notN_l, notN_n, notN_i, notN_t, notN_s, t0, t1, t2, t3, l0, l1, l2, l3, len_t, len_l, str_i, int_b, tup_t, tup_l, list_lC, list_tC, list_l, list_t, rev_lC, isi_d, rc_s, d_iSeq, seqK_l, seqK_t, d_iRng1, rngK_i, d_Lc, noEx_k, newL_f, newL_t, rng_zero, len_s, d_iTxt, k_tx, d_Sl, k_Sl, k_Sl2, k_Sl3, k_pt0, k_pt1, k_pt, sl_s, d_Fld, d_Meth, d_Make, d_Store, k_Store, k_Store2, inS_1, k_Op1, k_Op2, k_Op2b, k_Mt0, k_Mt1, k_Args, k_Argsb, k_Tup, k_LstC, k_Andb, k_And, k_Orb, k_Or, k_Notb, k_Not, k_tEb, k_tE, k_tAnd, k_tOr, k_tNot, k_If, k_Asg, k_Expr, k_IfS, k_For, k_Lc, k_Lcb, List.map_cons, List.map_nil, List.cons_append, List.nil_append, List.replicate, List.set_cons_zero, List.set_cons_succ, List.all_cons, List.all_nil, Bool.and_true, Bool.true_and, Bool.and_self, and_self, eq_self, if_true, if_false, decide_true, decide_false, Bool.false_eq_true, List.any_cons, List.any_nil, List.length_nil, List.length_cons, Bool.not_true, Bool.not_false, f_row, f_done, this]
/-- what reads the words l as x -/
def Reads (g : Fn) (as : List P) (l : List Str) (x : PyData) : Prop := ∀ (ws : List Str) (n : Nat) (r : List Str), ws.drop n = l ++ r → callS g (.r 0 :: as) (stW ws n) = .ok (.d x) (stW ws (n + l.length))
theorem drop_next {ws l r : List Str} {n : Nat} (h : ws.drop n = l ++ r) : ws.drop (n + l.length) = r := by
  rw [← List.drop_drop, h]; simp
theorem r_number {i m : Int} (h : 0 ≤ i ∧ i < 201) (hm : i ≤ m) : Reads g_number_read [vI m] [nS i] (.int i) := fun ws n r hw => by
  refine cS_d ?_
  have h1 : decide (m < i) = false := by simp; omega
  unfold g_number_read f_number_read
  simp -implicitDefEqProofs only [bind_ok, bind_ex, then_ok, then_ex, seq_nx, seq_rt, seq_ex, ite_tt, ite_ff, of_some, okOr_some, v0, v1, v2, v3, v4, v5, v6, v7, v8, v9, n0, n1, n2, n3, n4, n5, n6, n7, n8, n9, d_C, d_Op1, d_Op2, d_Mt0, d_Mt1, d_Args0, d_Args, d_Tup, d_Lst, d_LstC, tupK0, tupK1, tupK2, tupK3, tupK4, tupK9, bK_b, d_And, d_Or, d_Not, d_tE, d_tAnd, d_tOr, d_tNot, d_tYes, d_If, d_CallI, isoE_ok, isoE_ex, iso1, iso2, iso3, iso4, iso5, d_CallS, tgK_some, d_Skip, d_Seq, d_Asg, d_Expr, d_Ret, d_IfS, d_For, d_Raise, d_Drop, drop_nx, drop_rt, drop_ex, wipe0, wipeC, d_fn, fin_rt, fin_nx, fin_ex, isoR_d, isoR_ex, add_ii, add_ss, add_tt, add_ll, add_llC, sub_ii, neg_i, lt_ii, le_ii, gt_ii, ge_ii, dep_s, dep_i, dep_b, dep_n, eq_ii, eq_ss, eq_bb, ne_ss, ne_ii, ne_bb, in_dt, in_dl, notin_dt, notin_dl, isN_n, isN_i, isN_t, isN_s, isN_b, isN_l, notN_b, notN_l, notN_n, notN_i, notN_t, notN_s, t0, t1, t2, t3, l0, l1, l2, l3, len_t, len_l, str_i, int_b, tup_t, tup_l, list_lC, list_tC, list_l, list_t, rev_lC, isi_d, rc_s, d_iSeq, seqK_l, seqK_t, d_iRng1, rngK_i, d_Lc, noEx_k, newL_f, newL_t, rng_zero, len_s, d_iTxt, k_tx, d_Sl, k_Sl, k_Sl2, k_Sl3, k_pt0, k_pt1, k_pt, sl_s, d_Fld, d_Meth, d_Make, d_Store, k_Store, k_Store2, inS_1, k_Op1, k_Op2, k_Op2b, k_Mt0, k_Mt1, k_Args, k_Argsb, k_Tup, k_LstC, k_Andb, k_And, k_Orb, k_Or, k_Notb, k_Not, k_tEb, k_tE, k_tAnd, k_tOr, k_tNot, k_If, k_Asg, k_Expr, k_IfS, k_For, k_Lc, k_Lcb, List.map_cons, List.map_nil, List.cons_append, List.nil_append, List.replicate, List.set_cons_zero, List.set_cons_succ, List.all_cons, List.all_nil, Bool.and_true, Bool.true_and, Bool.and_self, and_self, eq_self, if_true, if_false, decide_true, decide_false, Bool.false_eq_true, List.any_cons, List.any_nil, List.length_nil, List.length_cons, Bool.not_true, Bool.not_false, gM_step hw, c_num h, h1, ite_ff]
theorem r_saying {s : Say} (h : 0 ≤ s.1 ∧ s.1 < 60) : Reads g_saying_read [] [wSay s] (eSay s) := fun ws n r hw => by
  refine cS_d ?_
  have hs := c_say h
  have h1 : decide ((60 : Int) ≤ s.1) = false := by simp; omega
  unfold eSay at hs ⊢
  unfold g_saying_read f_saying_read
  simp -implicitDefEqProofs only [bind_ok, bind_ex, then_ok, then_ex, seq_nx, seq_rt, seq_ex, ite_tt, ite_ff, of_some, okOr_some, v0, v1, v2, v3, v4, v5, v6, v7, v8, v9, n0, n1, n2, n3, n4, n5, n6, n7, n8, n9, d_C, d_Op1, d_Op2, d_Mt0, d_Mt1, d_Args0, d_Args, d_Tup, d_Lst, d_LstC, tupK0, tupK1, tupK2, tupK3, tupK4, tupK9, bK_b, d_And, d_Or, d_Not, d_tE, d_tAnd, d_tOr, d_tNot, d_tYes, d_If, d_CallI, isoE_ok, isoE_ex, iso1, iso2, iso3, iso4, iso5, d_CallS, tgK_some, d_Skip, d_Seq, d_Asg, d_Expr, d_Ret, d_IfS, d_For, d_Raise, d_Drop, drop_nx, drop_rt, drop_ex, wipe0, wipeC, d_fn, fin_rt, fin_nx, fin_ex, isoR_d, isoR_ex, add_ii, add_ss, add_tt, add_ll, add_llC, sub_ii, neg_i, lt_ii, le_ii, gt_ii, ge_ii, dep_s, dep_i, dep_b, dep_n, eq_ii, eq_ss, eq_bb, ne_ss, ne_ii, ne_bb, in_dt, in_dl, notin_dt, notin_dl, isN_n, isN_i, isN_t, isN_s, isN_b, isN_l, notN_b, notN_l, notN_n, notN_i, notN_t, notN_s, t0, t1, t2, t3, l0, l1, l2, l3, len_t, len_l, str_i, int_b, tup_t, tup_l, list_lC, list_tC, list_l, list_t, rev_lC, isi_d, rc_s, d_iSeq, seqK_l, seqK_t, d_iRng1, rngK_i, d_Lc, noEx_k, newL_f, newL_t, rng_zero, len_s, d_iTxt, k_tx, d_Sl, k_Sl, k_Sl2, k_Sl3, k_pt0, k_pt1, k_pt, sl_s, d_Fld, d_Meth, d_Make, d_Store, k_Store, k_Store2, inS_1, k_Op1, k_Op2, k_Op2b, k_Mt0, k_Mt1, k_Args, k_Argsb, k_Tup, k_LstC, k_Andb, k_And, k_Orb, k_Or, k_Notb, k_Not, k_tEb, k_tE, k_tAnd, k_tOr, k_tNot, k_If, k_Asg, k_Expr, k_IfS, k_For, k_Lc, k_Lcb, List.map_cons, List.map_nil, List.cons_append, List.nil_append, List.replicate, List.set_cons_zero, List.set_cons_succ, List.all_cons, List.all_nil, Bool.and_true, Bool.true_and, Bool.and_self, and_self, eq_self, if_true, if_false, decide_true, decide_false, Bool.false_eq_true, List.any_cons, List.any_nil, List.length_nil, List.length_cons, Bool.not_true, Bool.not_false, gM_step hw, hs, h1, ite_ff]
theorem r_free {f : Option Int} (h : okFree f) (h2 : fitF f) : Reads g_free_read [] [wFree f] (eFree f) := fun ws n r hw => by
  refine cS_d ?_
  unfold g_free_read f_free_read
  cases f with
  | none =>
    have hw : ws.drop n = ("none" : Str) :: r := hw
    simp -implicitDefEqProofs only [bind_ok, bind_ex, then_ok, then_ex, seq_nx, seq_rt, seq_ex, ite_tt, ite_ff, of_some, okOr_some, v0, v1, v2, v3, v4, v5, v6, v7, v8, v9, n0, n1, n2, n3, n4, n5, n6, n7, n8, n9, d_C, d_Op1, d_Op2, d_Mt0, d_Mt1, d_Args0, d_Args, d_Tup, d_Lst, d_LstC, tupK0, tupK1, tupK2, tupK3, tupK4, tupK9, bK_b, d_And, d_Or, d_Not, d_tE, d_tAnd, d_tOr, d_tNot, d_tYes, d_If, d_CallI, isoE_ok, isoE_ex, iso1, iso2, iso3, iso4, iso5, d_CallS, tgK_some, d_Skip, d_Seq, d_Asg, d_Expr, d_Ret, d_IfS, d_For, d_Raise, d_Drop, drop_nx, drop_rt, drop_ex, wipe0, wipeC, d_fn, fin_rt, fin_nx, fin_ex, isoR_d, isoR_ex, add_ii, add_ss, add_tt, add_ll, add_llC, sub_ii, neg_i, lt_ii, le_ii, gt_ii, ge_ii, dep_s, dep_i, dep_b, dep_n, eq_ii, eq_ss, eq_bb, ne_ss, ne_ii, ne_bb, in_dt, in_dl, notin_dt, notin_dl, isN_n, isN_i, isN_t, isN_s, isN_b, isN_l, notN_b, notN_l, notN_n, notN_i, notN_t, notN_s, t0, t1, t2, t3, l0, l1, l2, l3, len_t, len_l, str_i, int_b, tup_t, tup_l, list_lC, list_tC, list_l, list_t, rev_lC, isi_d, rc_s, d_iSeq, seqK_l, seqK_t, d_iRng1, rngK_i, d_Lc, noEx_k, newL_f, newL_t, rng_zero, len_s, d_iTxt, k_tx, d_Sl, k_Sl, k_Sl2, k_Sl3, k_pt0, k_pt1, k_pt, sl_s, d_Fld, d_Meth, d_Make, d_Store, k_Store, k_Store2, inS_1, k_Op1, k_Op2, k_Op2b, k_Mt0, k_Mt1, k_Args, k_Argsb, k_Tup, k_LstC, k_Andb, k_And, k_Orb, k_Or, k_Notb, k_Not, k_tEb, k_tE, k_tAnd, k_tOr, k_tNot, k_If, k_Asg, k_Expr, k_IfS, k_For, k_Lc, k_Lcb, List.map_cons, List.map_nil, List.cons_append, List.nil_append, List.replicate, List.set_cons_zero, List.set_cons_succ, List.all_cons, List.all_nil, Bool.and_true, Bool.true_and, Bool.and_self, and_self, eq_self, if_true, if_false, decide_true, decide_false, Bool.false_eq_true, List.any_cons, List.any_nil, List.length_nil, List.length_cons, Bool.not_true, Bool.not_false, gM_step hw, eFree]
  | some i =>
    have h2 : i < 60 := h2
    have hw : ws.drop n = nS i :: r := hw
    have hi : 0 ≤ i ∧ i < 201 := ⟨h.1, by omega⟩
    have h1 : decide (nS i = ("none" : Str)) = false := by simpa using (numF hi).nn
    have h3 : decide ((60 : Int) ≤ i) = false := by simp; omega
    simp -implicitDefEqProofs only [bind_ok, bind_ex, then_ok, then_ex, seq_nx, seq_rt, seq_ex, ite_tt, ite_ff, of_some, okOr_some, v0, v1, v2, v3, v4, v5, v6, v7, v8, v9, n0, n1, n2, n3, n4, n5, n6, n7, n8, n9, d_C, d_Op1, d_Op2, d_Mt0, d_Mt1, d_Args0, d_Args, d_Tup, d_Lst, d_LstC, tupK0, tupK1, tupK2, tupK3, tupK4, tupK9, bK_b, d_And, d_Or, d_Not, d_tE, d_tAnd, d_tOr, d_tNot, d_tYes, d_If, d_CallI, isoE_ok, isoE_ex, iso1, iso2, iso3, iso4, iso5, d_CallS, tgK_some, d_Skip, d_Seq, d_Asg, d_Expr, d_Ret, d_IfS, d_For, d_Raise, d_Drop, drop_nx, drop_rt, drop_ex, wipe0, wipeC, d_fn, fin_rt, fin_nx, fin_ex, isoR_d, isoR_ex, add_ii, add_ss, add_tt, add_ll, add_llC, sub_ii, neg_i, lt_ii, le_ii, gt_ii, ge_ii, dep_s, dep_i, dep_b, dep_n, eq_ii, eq_ss, eq_bb, ne_ss, ne_ii, ne_bb, in_dt, in_dl, notin_dt, notin_dl, isN_n, isN_i, isN_t, isN_s, isN_b, isN_l, notN_b, notN_l, notN_n, notN_i, notN_t, notN_s, t0, t1, t2, t3, l0, l1, l2, l3, len_t, len_l, str_i, int_b, tup_t, tup_l, list_lC, list_tC, list_l, list_t, rev_lC, isi_d, rc_s, d_iSeq, seqK_l, seqK_t, d_iRng1, rngK_i, d_Lc, noEx_k, newL_f, newL_t, rng_zero, len_s, d_iTxt, k_tx, d_Sl, k_Sl, k_Sl2, k_Sl3, k_pt0, k_pt1, k_pt, sl_s, d_Fld, d_Meth, d_Make, d_Store, k_Store, k_Store2, inS_1, k_Op1, k_Op2, k_Op2b, k_Mt0, k_Mt1, k_Args, k_Argsb, k_Tup, k_LstC, k_Andb, k_And, k_Orb, k_Or, k_Notb, k_Not, k_tEb, k_tE, k_tAnd, k_tOr, k_tNot, k_If, k_Asg, k_Expr, k_IfS, k_For, k_Lc, k_Lcb, List.map_cons, List.map_nil, List.cons_append, List.nil_append, List.replicate, List.set_cons_zero, List.set_cons_succ, List.all_cons, List.all_nil, Bool.and_true, Bool.true_and, Bool.and_self, and_self, eq_self, if_true, if_false, decide_true, decide_false, Bool.false_eq_true, List.any_cons, List.any_nil, List.length_nil, List.length_cons, Bool.not_true, Bool.not_false, gM_step hw, eFree, h1, c_num hi, h3, ite_ff]
theorem r_truth {b : Bool} : Reads g_truth_read [] [wTruth b] (.bool b) := fun ws n r hw => by
  refine cS_d ?_
  unfold g_truth_read f_truth_read
  cases b
  · have hw : ws.drop n = ("no" : Str) :: r := hw
    simp -implicitDefEqProofs +decide only [bind_ok, bind_ex, then_ok, then_ex, seq_nx, seq_rt, seq_ex, ite_tt, ite_ff, of_some, okOr_some, v0, v1, v2, v3, v4, v5, v6, v7, v8, v9, n0, n1, n2, n3, n4, n5, n6, n7, n8, n9, d_C, d_Op1, d_Op2, d_Mt0, d_Mt1, d_Args0, d_Args, d_Tup, d_Lst, d_LstC, tupK0, tupK1, tupK2, tupK3, tupK4, tupK9, bK_b, d_And, d_Or, d_Not, d_tE, d_tAnd, d_tOr, d_tNot, d_tYes, d_If, d_CallI, isoE_ok, isoE_ex, iso1, iso2, iso3, iso4, iso5, d_CallS, tgK_some, d_Skip, d_Seq, d_Asg, d_Expr, d_Ret, d_IfS, d_For, d_Raise, d_Drop, drop_nx, drop_rt, drop_ex, wipe0, wipeC, d_fn, fin_rt, fin_nx, fin_ex, isoR_d, isoR_ex, add_ii, add_ss, add_tt, add_ll, add_llC, sub_ii, neg_i, lt_ii, le_ii, gt_ii, ge_ii, dep_s, dep_i, dep_b, dep_n, eq_ii, eq_ss, eq_bb, ne_ss, ne_ii, ne_bb, in_dt, in_dl, notin_dt, notin_dl, isN_n, isN_i, isN_t, isN_s, isN_b, isN_l, notN_b, notN_l, notN_n, notN_i, notN_t, notN_s, t0, t1, t2, t3, l0, l1, l2, l3, len_t, len_l, str_i, int_b, tup_t, tup_l, list_lC, list_tC, list_l, list_t, rev_lC, isi_d, rc_s, d_iSeq, seqK_l, seqK_t, d_iRng1, rngK_i, d_Lc, noEx_k, newL_f, newL_t, rng_zero, len_s, d_iTxt, k_tx, d_Sl, k_Sl, k_Sl2, k_Sl3, k_pt0, k_pt1, k_pt, sl_s, d_Fld, d_Meth, d_Make, d_Store, k_Store, k_Store2, inS_1, k_Op1, k_Op2, k_Op2b, k_Mt0, k_Mt1, k_Args, k_Argsb, k_Tup, k_LstC, k_Andb, k_And, k_Orb, k_Or, k_Notb, k_Not, k_tEb, k_tE, k_tAnd, k_tOr, k_tNot, k_If, k_Asg, k_Expr, k_IfS, k_For, k_Lc, k_Lcb, List.map_cons, List.map_nil, List.cons_append, List.nil_append, List.replicate, List.set_cons_zero, List.set_cons_succ, List.all_cons, List.all_nil, Bool.and_true, Bool.true_and, Bool.and_self, and_self, eq_self, if_true, if_false, decide_true, decide_false, Bool.false_eq_true, List.any_cons, List.any_nil, List.length_nil, List.length_cons, Bool.not_true, Bool.not_false, gM_step hw, PyData.eqv, Bool.or_false]
  · have hw : ws.drop n = ("yes" : Str) :: r := hw
    simp -implicitDefEqProofs +decide only [bind_ok, bind_ex, then_ok, then_ex, seq_nx, seq_rt, seq_ex, ite_tt, ite_ff, of_some, okOr_some, v0, v1, v2, v3, v4, v5, v6, v7, v8, v9, n0, n1, n2, n3, n4, n5, n6, n7, n8, n9, d_C, d_Op1, d_Op2, d_Mt0, d_Mt1, d_Args0, d_Args, d_Tup, d_Lst, d_LstC, tupK0, tupK1, tupK2, tupK3, tupK4, tupK9, bK_b, d_And, d_Or, d_Not, d_tE, d_tAnd, d_tOr, d_tNot, d_tYes, d_If, d_CallI, isoE_ok, isoE_ex, iso1, iso2, iso3, iso4, iso5, d_CallS, tgK_some, d_Skip, d_Seq, d_Asg, d_Expr, d_Ret, d_IfS, d_For, d_Raise, d_Drop, drop_nx, drop_rt, drop_ex, wipe0, wipeC, d_fn, fin_rt, fin_nx, fin_ex, isoR_d, isoR_ex, add_ii, add_ss, add_tt, add_ll, add_llC, sub_ii, neg_i, lt_ii, le_ii, gt_ii, ge_ii, dep_s, dep_i, dep_b, dep_n, eq_ii, eq_ss, eq_bb, ne_ss, ne_ii, ne_bb, in_dt, in_dl, notin_dt, notin_dl, isN_n, isN_i, isN_t, isN_s, isN_b, isN_l, notN_b, notN_l, notN_n, notN_i, notN_t, notN_s, t0, t1, t2, t3, l0, l1, l2, l3, len_t, len_l, str_i, int_b, tup_t, tup_l, list_lC, list_tC, list_l, list_t, rev_lC, isi_d, rc_s, d_iSeq, seqK_l, seqK_t, d_iRng1, rngK_i, d_Lc, noEx_k, newL_f, newL_t, rng_zero, len_s, d_iTxt, k_tx, d_Sl, k_Sl, k_Sl2, k_Sl3, k_pt0, k_pt1, k_pt, sl_s, d_Fld, d_Meth, d_Make, d_Store, k_Store, k_Store2, inS_1, k_Op1, k_Op2, k_Op2b, k_Mt0, k_Mt1, k_Args, k_Argsb, k_Tup, k_LstC, k_Andb, k_And, k_Orb, k_Or, k_Notb, k_Not, k_tEb, k_tE, k_tAnd, k_tOr, k_tNot, k_If, k_Asg, k_Expr, k_IfS, k_For, k_Lc, k_Lcb, List.map_cons, List.map_nil, List.cons_append, List.nil_append, List.replicate, List.set_cons_zero, List.set_cons_succ, List.all_cons, List.all_nil, Bool.and_true, Bool.true_and, Bool.and_self, and_self, eq_self, if_true, if_false, decide_true, decide_false, Bool.false_eq_true, List.any_cons, List.any_nil, List.length_nil, List.length_cons, Bool.not_true, Bool.not_false, gM_step hw, PyData.eqv, Bool.or_false]
/-- a comprehension that reads item after item -/
theorem lc_words {τ : Type} {g : Tg} {e : Ex} {ρ : DK.Env} {ws : List Str} (enc : τ → PyData) (w : τ → List Str) : ∀ (l : List τ) (ks : List P) (acc : List PyData) (n : Nat) (r : List Str), ks.length = l.length → acc.length + l.length ≤ LINE → ws.drop n = l.flatMap w ++ r →
    (∀ p ∈ ks, ∃ ρ', g p ρ = some ρ' ∧ ∀ (n : Nat) (r : List Str), ∀ x ∈ l, ws.drop n = w x ++ r → e ρ' (stW ws n) = .ok (.d (enc x)) (stW ws (n + (w x).length))) →
    lcL g tYes e ρ ks acc (stW ws n) = .ok (acc ++ l.map enc) (stW ws (n + (l.flatMap w).length))
  | [], [], acc, n, r, _, _, _, _ => by simp [lcL]
  | x :: l, k :: ks, acc, n, r, hk, hl, hw, he => by
    obtain ⟨ρ', h1, h2⟩ := he k (by simp)
    simp only [List.length_cons] at hl hk
    rw [List.flatMap_cons, List.append_assoc] at hw
    have h3 := h2 n _ x (by simp) hw
    have hlt : acc.length < LINE := by omega
    simp only [lcL, h1, d_tYes, bind_ok, ite_tt, h3, toD, if_pos hlt]
    rw [lc_words enc w l ks (acc ++ [enc x]) (n + (w x).length) r (by omega) (by simp; omega) (drop_next hw) fun p hp => by
      obtain ⟨ρ2, a, b⟩ := he p (by simp [hp])
      exact ⟨ρ2, a, fun n r y hy => b n r y (by simp [hy])⟩]
    simp [Nat.add_assoc]
theorem rng_len {n : Nat} : (rng 0 n).length = n := by simp [rng]
theorem r_numbers {l : List Int} {m : Int} (h : okNums l) (h2 : ∀ i ∈ l, i < m + 1) (hm : m ≤ 200) : Reads g_numbers_read [vI m] (wNums l) (eNums l) := fun ws n r hw => by
  refine cS_d ?_
  have hw : ws.drop n = [nS (l.length : Int)] ++ (l.map nS ++ r) := hw
  have hc := r_number (i := (l.length : Int)) (m := 200) ⟨by omega, by have := h.1; omega⟩ (by have := h.1; omega) ws n _ hw
  have hl := lc_words (g := gN 2) (e := eCallS g_number_read [eVar 0, eVar 1]) (ρ := [some (.r 0), some (vI m), none]) (ws := ws) PyData.int (fun i => [nS i]) l (rng 0 l.length) [] (n + 1) r rng_len (by have := h.1; unfold LINE; simp; omega)
    (by rw [show ws.drop (n + 1) = _ from drop_next (l := [nS (l.length : Int)]) hw]; simp [List.map_eq_flatMap]) fun p hp => ⟨[some (.r 0), some (vI m), some p], rfl, fun n r x hx hw => by
      have := r_number (i := x) (m := m) ⟨(h.2 x hx).1, by have := h2 x hx; omega⟩ (by have := h2 x hx; omega) ws n r hw
      simp only [List.length_cons, List.length_nil] at this
      simp -implicitDefEqProofs only [bind_ok, bind_ex, then_ok, then_ex, seq_nx, seq_rt, seq_ex, ite_tt, ite_ff, of_some, okOr_some, v0, v1, v2, v3, v4, v5, v6, v7, v8, v9, n0, n1, n2, n3, n4, n5, n6, n7, n8, n9, d_C, d_Op1, d_Op2, d_Mt0, d_Mt1, d_Args0, d_Args, d_Tup, d_Lst, d_LstC, tupK0, tupK1, tupK2, tupK3, tupK4, tupK9, bK_b, d_And, d_Or, d_Not, d_tE, d_tAnd, d_tOr, d_tNot, d_tYes, d_If, d_CallI, isoE_ok, isoE_ex, iso1, iso2, iso3, iso4, iso5, d_CallS, tgK_some, d_Skip, d_Seq, d_Asg, d_Expr, d_Ret, d_IfS, d_For, d_Raise, d_Drop, drop_nx, drop_rt, drop_ex, wipe0, wipeC, d_fn, fin_rt, fin_nx, fin_ex, isoR_d, isoR_ex, add_ii, add_ss, add_tt, add_ll, add_llC, sub_ii, neg_i, lt_ii, le_ii, gt_ii, ge_ii, dep_s, dep_i, dep_b, dep_n, eq_ii, eq_ss, eq_bb, ne_ss, ne_ii, ne_bb, in_dt, in_dl, notin_dt, notin_dl, isN_n, isN_i, isN_t, isN_s, isN_b, isN_l, notN_b, notN_l, notN_n, notN_i, notN_t, notN_s, t0, t1, t2, t3, l0, l1, l2, l3, len_t, len_l, str_i, int_b, tup_t, tup_l, list_lC, list_tC, list_l, list_t, rev_lC, isi_d, rc_s, d_iSeq, seqK_l, seqK_t, d_iRng1, rngK_i, d_Lc, noEx_k, newL_f, newL_t, rng_zero, len_s, d_iTxt, k_tx, d_Sl, k_Sl, k_Sl2, k_Sl3, k_pt0, k_pt1, k_pt, sl_s, d_Fld, d_Meth, d_Make, d_Store, k_Store, k_Store2, inS_1, k_Op1, k_Op2, k_Op2b, k_Mt0, k_Mt1, k_Args, k_Argsb, k_Tup, k_LstC, k_Andb, k_And, k_Orb, k_Or, k_Notb, k_Not, k_tEb, k_tE, k_tAnd, k_tOr, k_tNot, k_If, k_Asg, k_Expr, k_IfS, k_For, k_Lc, k_Lcb, List.map_cons, List.map_nil, List.cons_append, List.nil_append, List.replicate, List.set_cons_zero, List.set_cons_succ, List.all_cons, List.all_nil, Bool.and_true, Bool.true_and, Bool.and_self, and_self, eq_self, if_true, if_false, decide_true, decide_false, Bool.false_eq_true, List.any_cons, List.any_nil, List.length_nil, List.length_cons, Bool.not_true, Bool.not_false, this]⟩
  simp only [List.length_cons, List.length_nil, List.nil_append] at hc hl
  unfold g_numbers_read f_numbers_read
  simp -implicitDefEqProofs only [bind_ok, bind_ex, then_ok, then_ex, seq_nx, seq_rt, seq_ex, ite_tt, ite_ff, of_some, okOr_some, v0, v1, v2, v3, v4, v5, v6, v7, v8, v9, n0, n1, n2, n3, n4, n5, n6, n7, n8, n9, d_C, d_Op1, d_Op2, d_Mt0, d_Mt1, d_Args0, d_Args, d_Tup, d_Lst, d_LstC, tupK0, tupK1, tupK2, tupK3, tupK4, tupK9, bK_b, d_And, d_Or, d_Not, d_tE, d_tAnd, d_tOr, d_tNot, d_tYes, d_If, d_CallI, isoE_ok, isoE_ex, iso1, iso2, iso3, iso4, iso5, d_CallS, tgK_some, d_Skip, d_Seq, d_Asg, d_Expr, d_Ret, d_IfS, d_For, d_Raise, d_Drop, drop_nx, drop_rt, drop_ex, wipe0, wipeC, d_fn, fin_rt, fin_nx, fin_ex, isoR_d, isoR_ex, add_ii, add_ss, add_tt, add_ll, add_llC, sub_ii, neg_i, lt_ii, le_ii, gt_ii, ge_ii, dep_s, dep_i, dep_b, dep_n, eq_ii, eq_ss, eq_bb, ne_ss, ne_ii, ne_bb, in_dt, in_dl, notin_dt, notin_dl, isN_n, isN_i, isN_t, isN_s, isN_b, isN_l, notN_b, notN_l, notN_n, notN_i, notN_t, notN_s, t0, t1, t2, t3, l0, l1, l2, l3, len_t, len_l, str_i, int_b, tup_t, tup_l, list_lC, list_tC, list_l, list_t, rev_lC, isi_d, rc_s, d_iSeq, seqK_l, seqK_t, d_iRng1, rngK_i, d_Lc, noEx_k, newL_f, newL_t, rng_zero, len_s, d_iTxt, k_tx, d_Sl, k_Sl, k_Sl2, k_Sl3, k_pt0, k_pt1, k_pt, sl_s, d_Fld, d_Meth, d_Make, d_Store, k_Store, k_Store2, inS_1, k_Op1, k_Op2, k_Op2b, k_Mt0, k_Mt1, k_Args, k_Argsb, k_Tup, k_LstC, k_Andb, k_And, k_Orb, k_Or, k_Notb, k_Not, k_tEb, k_tE, k_tAnd, k_tOr, k_tNot, k_If, k_Asg, k_Expr, k_IfS, k_For, k_Lc, k_Lcb, List.map_cons, List.map_nil, List.cons_append, List.nil_append, List.replicate, List.set_cons_zero, List.set_cons_succ, List.all_cons, List.all_nil, Bool.and_true, Bool.true_and, Bool.and_self, and_self, eq_self, if_true, if_false, decide_true, decide_false, Bool.false_eq_true, List.any_cons, List.any_nil, List.length_nil, List.length_cons, Bool.not_true, Bool.not_false, hc, rngK_i (j := (l.length : Int)) (by have := h.1; omega), Int.toNat_natCast, hl]
  rw [show (wNums l).length = 1 + (l.flatMap fun i => [nS i]).length by simp [wNums, ← List.map_eq_flatMap]; omega, ← Nat.add_assoc]
  rfl
theorem r_road {l : List Say} (h : okRoad l) (h2 : ∀ s ∈ l, s.1 < 60) : Reads g_road_read [] (wRoad l) (eRoad l) := fun ws n r hw => by
  refine cS_d ?_
  have hw : ws.drop n = [nS (l.length : Int)] ++ (l.map wSay ++ r) := hw
  have hc := r_number (i := (l.length : Int)) (m := 200) ⟨by omega, by have := h.1; omega⟩ (by have := h.1; omega) ws n _ hw
  have hl := lc_words (g := gN 1) (e := eCallS g_saying_read [eVar 0]) (ρ := [some (.r 0), none]) (ws := ws) eSay (fun i => [wSay i]) l (rng 0 l.length) [] (n + 1) r rng_len (by have := h.1; unfold LINE; simp; omega)
    (by rw [show ws.drop (n + 1) = _ from drop_next (l := [nS (l.length : Int)]) hw]; simp [List.map_eq_flatMap]) fun p hp => ⟨[some (.r 0), some p], rfl, fun n r x hx hw => by
      have := r_saying (s := x) ⟨(h.2 x hx).1, h2 x hx⟩ ws n r hw
      simp only [List.length_cons, List.length_nil] at this
      simp -implicitDefEqProofs only [bind_ok, bind_ex, then_ok, then_ex, seq_nx, seq_rt, seq_ex, ite_tt, ite_ff, of_some, okOr_some, v0, v1, v2, v3, v4, v5, v6, v7, v8, v9, n0, n1, n2, n3, n4, n5, n6, n7, n8, n9, d_C, d_Op1, d_Op2, d_Mt0, d_Mt1, d_Args0, d_Args, d_Tup, d_Lst, d_LstC, tupK0, tupK1, tupK2, tupK3, tupK4, tupK9, bK_b, d_And, d_Or, d_Not, d_tE, d_tAnd, d_tOr, d_tNot, d_tYes, d_If, d_CallI, isoE_ok, isoE_ex, iso1, iso2, iso3, iso4, iso5, d_CallS, tgK_some, d_Skip, d_Seq, d_Asg, d_Expr, d_Ret, d_IfS, d_For, d_Raise, d_Drop, drop_nx, drop_rt, drop_ex, wipe0, wipeC, d_fn, fin_rt, fin_nx, fin_ex, isoR_d, isoR_ex, add_ii, add_ss, add_tt, add_ll, add_llC, sub_ii, neg_i, lt_ii, le_ii, gt_ii, ge_ii, dep_s, dep_i, dep_b, dep_n, eq_ii, eq_ss, eq_bb, ne_ss, ne_ii, ne_bb, in_dt, in_dl, notin_dt, notin_dl, isN_n, isN_i, isN_t, isN_s, isN_b, isN_l, notN_b, notN_l, notN_n, notN_i, notN_t, notN_s, t0, t1, t2, t3, l0, l1, l2, l3, len_t, len_l, str_i, int_b, tup_t, tup_l, list_lC, list_tC, list_l, list_t, rev_lC, isi_d, rc_s, d_iSeq, seqK_l, seqK_t, d_iRng1, rngK_i, d_Lc, noEx_k, newL_f, newL_t, rng_zero, len_s, d_iTxt, k_tx, d_Sl, k_Sl, k_Sl2, k_Sl3, k_pt0, k_pt1, k_pt, sl_s, d_Fld, d_Meth, d_Make, d_Store, k_Store, k_Store2, inS_1, k_Op1, k_Op2, k_Op2b, k_Mt0, k_Mt1, k_Args, k_Argsb, k_Tup, k_LstC, k_Andb, k_And, k_Orb, k_Or, k_Notb, k_Not, k_tEb, k_tE, k_tAnd, k_tOr, k_tNot, k_If, k_Asg, k_Expr, k_IfS, k_For, k_Lc, k_Lcb, List.map_cons, List.map_nil, List.cons_append, List.nil_append, List.replicate, List.set_cons_zero, List.set_cons_succ, List.all_cons, List.all_nil, Bool.and_true, Bool.true_and, Bool.and_self, and_self, eq_self, if_true, if_false, decide_true, decide_false, Bool.false_eq_true, List.any_cons, List.any_nil, List.length_nil, List.length_cons, Bool.not_true, Bool.not_false, this]⟩
  simp only [List.length_cons, List.length_nil, List.nil_append] at hc hl
  unfold g_road_read f_road_read
  simp -implicitDefEqProofs only [bind_ok, bind_ex, then_ok, then_ex, seq_nx, seq_rt, seq_ex, ite_tt, ite_ff, of_some, okOr_some, v0, v1, v2, v3, v4, v5, v6, v7, v8, v9, n0, n1, n2, n3, n4, n5, n6, n7, n8, n9, d_C, d_Op1, d_Op2, d_Mt0, d_Mt1, d_Args0, d_Args, d_Tup, d_Lst, d_LstC, tupK0, tupK1, tupK2, tupK3, tupK4, tupK9, bK_b, d_And, d_Or, d_Not, d_tE, d_tAnd, d_tOr, d_tNot, d_tYes, d_If, d_CallI, isoE_ok, isoE_ex, iso1, iso2, iso3, iso4, iso5, d_CallS, tgK_some, d_Skip, d_Seq, d_Asg, d_Expr, d_Ret, d_IfS, d_For, d_Raise, d_Drop, drop_nx, drop_rt, drop_ex, wipe0, wipeC, d_fn, fin_rt, fin_nx, fin_ex, isoR_d, isoR_ex, add_ii, add_ss, add_tt, add_ll, add_llC, sub_ii, neg_i, lt_ii, le_ii, gt_ii, ge_ii, dep_s, dep_i, dep_b, dep_n, eq_ii, eq_ss, eq_bb, ne_ss, ne_ii, ne_bb, in_dt, in_dl, notin_dt, notin_dl, isN_n, isN_i, isN_t, isN_s, isN_b, isN_l, notN_b, notN_l, notN_n, notN_i, notN_t, notN_s, t0, t1, t2, t3, l0, l1, l2, l3, len_t, len_l, str_i, int_b, tup_t, tup_l, list_lC, list_tC, list_l, list_t, rev_lC, isi_d, rc_s, d_iSeq, seqK_l, seqK_t, d_iRng1, rngK_i, d_Lc, noEx_k, newL_f, newL_t, rng_zero, len_s, d_iTxt, k_tx, d_Sl, k_Sl, k_Sl2, k_Sl3, k_pt0, k_pt1, k_pt, sl_s, d_Fld, d_Meth, d_Make, d_Store, k_Store, k_Store2, inS_1, k_Op1, k_Op2, k_Op2b, k_Mt0, k_Mt1, k_Args, k_Argsb, k_Tup, k_LstC, k_Andb, k_And, k_Orb, k_Or, k_Notb, k_Not, k_tEb, k_tE, k_tAnd, k_tOr, k_tNot, k_If, k_Asg, k_Expr, k_IfS, k_For, k_Lc, k_Lcb, List.map_cons, List.map_nil, List.cons_append, List.nil_append, List.replicate, List.set_cons_zero, List.set_cons_succ, List.all_cons, List.all_nil, Bool.and_true, Bool.true_and, Bool.and_self, and_self, eq_self, if_true, if_false, decide_true, decide_false, Bool.false_eq_true, List.any_cons, List.any_nil, List.length_nil, List.length_cons, Bool.not_true, Bool.not_false, hc, rngK_i (j := (l.length : Int)) (by have := h.1; omega), Int.toNat_natCast, hl]
  rw [show (wRoad l).length = 1 + (l.flatMap fun i => [wSay i]).length by simp [wRoad, ← List.map_eq_flatMap]; omega, ← Nat.add_assoc]
  rfl
theorem r_rowP {x : Int × Option Int × Bool} (h : okI x.1 ∧ okFree x.2.1) (h2 : x.1 < 60 ∧ fitF x.2.1) : Reads g_row_read [vS "plan"] (wP x) (eP x) := fun ws n r hw => by
  refine cS_d ?_
  have hw : ws.drop n = [nS x.1] ++ ([wFree x.2.1] ++ ([wTruth x.2.2] ++ r)) := hw
  have h1 := r_number (i := x.1) (m := 59) ⟨h.1.1, by omega⟩ (by omega) ws n _ hw
  have w2 := drop_next hw
  have h3 := r_free h.2 h2.2 ws _ _ w2
  have h4 := r_truth (b := x.2.2) ws _ _ (drop_next w2)
  simp only [List.length_cons, List.length_nil, Nat.zero_add] at h1 h3 h4
  unfold g_row_read f_row_read
  have e59 : (60 : Int) - 1 = 59 := rfl
  cases hf : eFree x.2.1 <;> rw [hf] at h3 <;> simp -implicitDefEqProofs +decide only [bind_ok, bind_ex, then_ok, then_ex, seq_nx, seq_rt, seq_ex, ite_tt, ite_ff, of_some, okOr_some, v0, v1, v2, v3, v4, v5, v6, v7, v8, v9, n0, n1, n2, n3, n4, n5, n6, n7, n8, n9, d_C, d_Op1, d_Op2, d_Mt0, d_Mt1, d_Args0, d_Args, d_Tup, d_Lst, d_LstC, tupK0, tupK1, tupK2, tupK3, tupK4, tupK9, bK_b, d_And, d_Or, d_Not, d_tE, d_tAnd, d_tOr, d_tNot, d_tYes, d_If, d_CallI, isoE_ok, isoE_ex, iso1, iso2, iso3, iso4, iso5, d_CallS, tgK_some, d_Skip, d_Seq, d_Asg, d_Expr, d_Ret, d_IfS, d_For, d_Raise, d_Drop, drop_nx, drop_rt, drop_ex, wipe0, wipeC, d_fn, fin_rt, fin_nx, fin_ex, isoR_d, isoR_ex, add_ii, add_ss, add_tt, add_ll, add_llC, sub_ii, neg_i, lt_ii, le_ii, gt_ii, ge_ii, dep_s, dep_i, dep_b, dep_n, eq_ii, eq_ss, eq_bb, ne_ss, ne_ii, ne_bb, in_dt, in_dl, notin_dt, notin_dl, isN_n, isN_i, isN_t, isN_s, isN_b, isN_l, notN_b, notN_l, notN_n, notN_i, notN_t, notN_s, t0, t1, t2, t3, l0, l1, l2, l3, len_t, len_l, str_i, int_b, tup_t, tup_l, list_lC, list_tC, list_l, list_t, rev_lC, isi_d, rc_s, d_iSeq, seqK_l, seqK_t, d_iRng1, rngK_i, d_Lc, noEx_k, newL_f, newL_t, rng_zero, len_s, d_iTxt, k_tx, d_Sl, k_Sl, k_Sl2, k_Sl3, k_pt0, k_pt1, k_pt, sl_s, d_Fld, d_Meth, d_Make, d_Store, k_Store, k_Store2, inS_1, k_Op1, k_Op2, k_Op2b, k_Mt0, k_Mt1, k_Args, k_Argsb, k_Tup, k_LstC, k_Andb, k_And, k_Orb, k_Or, k_Notb, k_Not, k_tEb, k_tE, k_tAnd, k_tOr, k_tNot, k_If, k_Asg, k_Expr, k_IfS, k_For, k_Lc, k_Lcb, List.map_cons, List.map_nil, List.cons_append, List.nil_append, List.replicate, List.set_cons_zero, List.set_cons_succ, List.all_cons, List.all_nil, Bool.and_true, Bool.true_and, Bool.and_self, and_self, eq_self, if_true, if_false, decide_true, decide_false, Bool.false_eq_true, List.any_cons, List.any_nil, List.length_nil, List.length_cons, Bool.not_true, Bool.not_false, e59, h1, h3, h4, eP, wP, hf]
theorem r_rowU {x : Int × List Int × Bool} (h : okI x.1 ∧ okNums x.2.1) (h2 : x.1 < 60 ∧ ∀ i ∈ x.2.1, i < 60) : Reads g_row_read [vS "sums"] (wU x) (eU x) := fun ws n r hw => by
  refine cS_d ?_
  have hw : ws.drop n = [nS x.1] ++ (wNums x.2.1 ++ ([wTruth x.2.2] ++ r)) := by rw [hw]; simp [wU]
  have h1 := r_number (i := x.1) (m := 59) ⟨h.1.1, by omega⟩ (by omega) ws n _ hw
  have w2 := drop_next hw
  have h3 := r_numbers (m := 59) h.2 (by simpa using h2.2) (by decide) ws _ _ w2
  have h4 := r_truth (b := x.2.2) ws _ _ (drop_next w2)
  simp only [List.length_cons, List.length_nil, Nat.zero_add] at h1 h3 h4
  unfold g_row_read f_row_read
  have e59 : (60 : Int) - 1 = 59 := rfl
  simp -implicitDefEqProofs +decide only [bind_ok, bind_ex, then_ok, then_ex, seq_nx, seq_rt, seq_ex, ite_tt, ite_ff, of_some, okOr_some, v0, v1, v2, v3, v4, v5, v6, v7, v8, v9, n0, n1, n2, n3, n4, n5, n6, n7, n8, n9, d_C, d_Op1, d_Op2, d_Mt0, d_Mt1, d_Args0, d_Args, d_Tup, d_Lst, d_LstC, tupK0, tupK1, tupK2, tupK3, tupK4, tupK9, bK_b, d_And, d_Or, d_Not, d_tE, d_tAnd, d_tOr, d_tNot, d_tYes, d_If, d_CallI, isoE_ok, isoE_ex, iso1, iso2, iso3, iso4, iso5, d_CallS, tgK_some, d_Skip, d_Seq, d_Asg, d_Expr, d_Ret, d_IfS, d_For, d_Raise, d_Drop, drop_nx, drop_rt, drop_ex, wipe0, wipeC, d_fn, fin_rt, fin_nx, fin_ex, isoR_d, isoR_ex, add_ii, add_ss, add_tt, add_ll, add_llC, sub_ii, neg_i, lt_ii, le_ii, gt_ii, ge_ii, dep_s, dep_i, dep_b, dep_n, eq_ii, eq_ss, eq_bb, ne_ss, ne_ii, ne_bb, in_dt, in_dl, notin_dt, notin_dl, isN_n, isN_i, isN_t, isN_s, isN_b, isN_l, notN_b, notN_l, notN_n, notN_i, notN_t, notN_s, t0, t1, t2, t3, l0, l1, l2, l3, len_t, len_l, str_i, int_b, tup_t, tup_l, list_lC, list_tC, list_l, list_t, rev_lC, isi_d, rc_s, d_iSeq, seqK_l, seqK_t, d_iRng1, rngK_i, d_Lc, noEx_k, newL_f, newL_t, rng_zero, len_s, d_iTxt, k_tx, d_Sl, k_Sl, k_Sl2, k_Sl3, k_pt0, k_pt1, k_pt, sl_s, d_Fld, d_Meth, d_Make, d_Store, k_Store, k_Store2, inS_1, k_Op1, k_Op2, k_Op2b, k_Mt0, k_Mt1, k_Args, k_Argsb, k_Tup, k_LstC, k_Andb, k_And, k_Orb, k_Or, k_Notb, k_Not, k_tEb, k_tE, k_tAnd, k_tOr, k_tNot, k_If, k_Asg, k_Expr, k_IfS, k_For, k_Lc, k_Lcb, List.map_cons, List.map_nil, List.cons_append, List.nil_append, List.replicate, List.set_cons_zero, List.set_cons_succ, List.all_cons, List.all_nil, Bool.and_true, Bool.true_and, Bool.and_self, and_self, eq_self, if_true, if_false, decide_true, decide_false, Bool.false_eq_true, List.any_cons, List.any_nil, List.length_nil, List.length_cons, Bool.not_true, Bool.not_false, e59, h1, h3, h4, eU, wU, eNums]
  refine congrArg (fun k => Out.ok _ (stW ws k)) ?_
  first | omega | (simp only [List.length_append, List.length_cons, List.length_nil]; omega)
theorem r_rowR {x : Int × List Int} (h : okI x.1 ∧ okNums x.2) (h2 : x.1 < 60 ∧ ∀ i ∈ x.2, i < 60) : Reads g_row_read [vS "rows"] (wR x) (eR x) := fun ws n r hw => by
  refine cS_d ?_
  have hw : ws.drop n = [nS x.1] ++ (wNums x.2 ++ r) := by rw [hw]; simp [wR]
  have h1 := r_number (i := x.1) (m := 59) ⟨h.1.1, by omega⟩ (by omega) ws n _ hw
  have w2 := drop_next hw
  have h3 := r_numbers (m := 59) h.2 (by simpa using h2.2) (by decide) ws _ _ w2
  simp only [List.length_cons, List.length_nil, Nat.zero_add] at h1 h3
  unfold g_row_read f_row_read
  have e59 : (60 : Int) - 1 = 59 := rfl
  simp -implicitDefEqProofs +decide only [bind_ok, bind_ex, then_ok, then_ex, seq_nx, seq_rt, seq_ex, ite_tt, ite_ff, of_some, okOr_some, v0, v1, v2, v3, v4, v5, v6, v7, v8, v9, n0, n1, n2, n3, n4, n5, n6, n7, n8, n9, d_C, d_Op1, d_Op2, d_Mt0, d_Mt1, d_Args0, d_Args, d_Tup, d_Lst, d_LstC, tupK0, tupK1, tupK2, tupK3, tupK4, tupK9, bK_b, d_And, d_Or, d_Not, d_tE, d_tAnd, d_tOr, d_tNot, d_tYes, d_If, d_CallI, isoE_ok, isoE_ex, iso1, iso2, iso3, iso4, iso5, d_CallS, tgK_some, d_Skip, d_Seq, d_Asg, d_Expr, d_Ret, d_IfS, d_For, d_Raise, d_Drop, drop_nx, drop_rt, drop_ex, wipe0, wipeC, d_fn, fin_rt, fin_nx, fin_ex, isoR_d, isoR_ex, add_ii, add_ss, add_tt, add_ll, add_llC, sub_ii, neg_i, lt_ii, le_ii, gt_ii, ge_ii, dep_s, dep_i, dep_b, dep_n, eq_ii, eq_ss, eq_bb, ne_ss, ne_ii, ne_bb, in_dt, in_dl, notin_dt, notin_dl, isN_n, isN_i, isN_t, isN_s, isN_b, isN_l, notN_b, notN_l, notN_n, notN_i, notN_t, notN_s, t0, t1, t2, t3, l0, l1, l2, l3, len_t, len_l, str_i, int_b, tup_t, tup_l, list_lC, list_tC, list_l, list_t, rev_lC, isi_d, rc_s, d_iSeq, seqK_l, seqK_t, d_iRng1, rngK_i, d_Lc, noEx_k, newL_f, newL_t, rng_zero, len_s, d_iTxt, k_tx, d_Sl, k_Sl, k_Sl2, k_Sl3, k_pt0, k_pt1, k_pt, sl_s, d_Fld, d_Meth, d_Make, d_Store, k_Store, k_Store2, inS_1, k_Op1, k_Op2, k_Op2b, k_Mt0, k_Mt1, k_Args, k_Argsb, k_Tup, k_LstC, k_Andb, k_And, k_Orb, k_Or, k_Notb, k_Not, k_tEb, k_tE, k_tAnd, k_tOr, k_tNot, k_If, k_Asg, k_Expr, k_IfS, k_For, k_Lc, k_Lcb, List.map_cons, List.map_nil, List.cons_append, List.nil_append, List.replicate, List.set_cons_zero, List.set_cons_succ, List.all_cons, List.all_nil, Bool.and_true, Bool.true_and, Bool.and_self, and_self, eq_self, if_true, if_false, decide_true, decide_false, Bool.false_eq_true, List.any_cons, List.any_nil, List.length_nil, List.length_cons, Bool.not_true, Bool.not_false, e59, h1, h3, eR, wR, eNums]
  refine congrArg (fun k => Out.ok _ (stW ws k)) ?_
  first | omega | (simp only [List.length_append, List.length_cons, List.length_nil]; omega)
theorem r_rows {τ : Type} {k : Str} (enc : τ → PyData) (w : τ → List Str) (l : List τ) (h : l.length ≤ 200) (hr : ∀ x ∈ l, Reads g_row_read [vS k] (w x) (enc x)) : Reads g_rows_read [vS k] (nS (l.length : Int) :: l.flatMap w) (.tuple (l.map enc)) := fun ws n r hw => by
  refine cS_d ?_
  have hw : ws.drop n = [nS (l.length : Int)] ++ (l.flatMap w ++ r) := hw
  have hc := r_number (i := (l.length : Int)) (m := 200) ⟨by omega, by omega⟩ (by omega) ws n _ hw
  have hl := lc_words (g := gN 2) (e := eCallS g_row_read [eVar 0, eVar 1]) (ρ := [some (.r 0), some (vS k), none]) (ws := ws) enc w l (rng 0 l.length) [] (n + 1) r rng_len (by unfold LINE; simp; omega)
    (drop_next (l := [nS (l.length : Int)]) hw) fun p hp => ⟨[some (.r 0), some (vS k), some p], rfl, fun n r x hx hw => by
      have := hr x hx ws n r hw
      simp -implicitDefEqProofs only [bind_ok, bind_ex, then_ok, then_ex, seq_nx, seq_rt, seq_ex, ite_tt, ite_ff, of_some, okOr_some, v0, v1, v2, v3, v4, v5, v6, v7, v8, v9, n0, n1, n2, n3, n4, n5, n6, n7, n8, n9, d_C, d_Op1, d_Op2, d_Mt0, d_Mt1, d_Args0, d_Args, d_Tup, d_Lst, d_LstC, tupK0, tupK1, tupK2, tupK3, tupK4, tupK9, bK_b, d_And, d_Or, d_Not, d_tE, d_tAnd, d_tOr, d_tNot, d_tYes, d_If, d_CallI, isoE_ok, isoE_ex, iso1, iso2, iso3, iso4, iso5, d_CallS, tgK_some, d_Skip, d_Seq, d_Asg, d_Expr, d_Ret, d_IfS, d_For, d_Raise, d_Drop, drop_nx, drop_rt, drop_ex, wipe0, wipeC, d_fn, fin_rt, fin_nx, fin_ex, isoR_d, isoR_ex, add_ii, add_ss, add_tt, add_ll, add_llC, sub_ii, neg_i, lt_ii, le_ii, gt_ii, ge_ii, dep_s, dep_i, dep_b, dep_n, eq_ii, eq_ss, eq_bb, ne_ss, ne_ii, ne_bb, in_dt, in_dl, notin_dt, notin_dl, isN_n, isN_i, isN_t, isN_s, isN_b, isN_l, notN_b, notN_l, notN_n, notN_i, notN_t, notN_s, t0, t1, t2, t3, l0, l1, l2, l3, len_t, len_l, str_i, int_b, tup_t, tup_l, list_lC, list_tC, list_l, list_t, rev_lC, isi_d, rc_s, d_iSeq, seqK_l, seqK_t, d_iRng1, rngK_i, d_Lc, noEx_k, newL_f, newL_t, rng_zero, len_s, d_iTxt, k_tx, d_Sl, k_Sl, k_Sl2, k_Sl3, k_pt0, k_pt1, k_pt, sl_s, d_Fld, d_Meth, d_Make, d_Store, k_Store, k_Store2, inS_1, k_Op1, k_Op2, k_Op2b, k_Mt0, k_Mt1, k_Args, k_Argsb, k_Tup, k_LstC, k_Andb, k_And, k_Orb, k_Or, k_Notb, k_Not, k_tEb, k_tE, k_tAnd, k_tOr, k_tNot, k_If, k_Asg, k_Expr, k_IfS, k_For, k_Lc, k_Lcb, List.map_cons, List.map_nil, List.cons_append, List.nil_append, List.replicate, List.set_cons_zero, List.set_cons_succ, List.all_cons, List.all_nil, Bool.and_true, Bool.true_and, Bool.and_self, and_self, eq_self, if_true, if_false, decide_true, decide_false, Bool.false_eq_true, List.any_cons, List.any_nil, List.length_nil, List.length_cons, Bool.not_true, Bool.not_false, this]⟩
  simp only [List.length_cons, List.length_nil, List.nil_append] at hc hl
  unfold g_rows_read f_rows_read
  simp -implicitDefEqProofs only [bind_ok, bind_ex, then_ok, then_ex, seq_nx, seq_rt, seq_ex, ite_tt, ite_ff, of_some, okOr_some, v0, v1, v2, v3, v4, v5, v6, v7, v8, v9, n0, n1, n2, n3, n4, n5, n6, n7, n8, n9, d_C, d_Op1, d_Op2, d_Mt0, d_Mt1, d_Args0, d_Args, d_Tup, d_Lst, d_LstC, tupK0, tupK1, tupK2, tupK3, tupK4, tupK9, bK_b, d_And, d_Or, d_Not, d_tE, d_tAnd, d_tOr, d_tNot, d_tYes, d_If, d_CallI, isoE_ok, isoE_ex, iso1, iso2, iso3, iso4, iso5, d_CallS, tgK_some, d_Skip, d_Seq, d_Asg, d_Expr, d_Ret, d_IfS, d_For, d_Raise, d_Drop, drop_nx, drop_rt, drop_ex, wipe0, wipeC, d_fn, fin_rt, fin_nx, fin_ex, isoR_d, isoR_ex, add_ii, add_ss, add_tt, add_ll, add_llC, sub_ii, neg_i, lt_ii, le_ii, gt_ii, ge_ii, dep_s, dep_i, dep_b, dep_n, eq_ii, eq_ss, eq_bb, ne_ss, ne_ii, ne_bb, in_dt, in_dl, notin_dt, notin_dl, isN_n, isN_i, isN_t, isN_s, isN_b, isN_l, notN_b, notN_l, notN_n, notN_i, notN_t, notN_s, t0, t1, t2, t3, l0, l1, l2, l3, len_t, len_l, str_i, int_b, tup_t, tup_l, list_lC, list_tC, list_l, list_t, rev_lC, isi_d, rc_s, d_iSeq, seqK_l, seqK_t, d_iRng1, rngK_i, d_Lc, noEx_k, newL_f, newL_t, rng_zero, len_s, d_iTxt, k_tx, d_Sl, k_Sl, k_Sl2, k_Sl3, k_pt0, k_pt1, k_pt, sl_s, d_Fld, d_Meth, d_Make, d_Store, k_Store, k_Store2, inS_1, k_Op1, k_Op2, k_Op2b, k_Mt0, k_Mt1, k_Args, k_Argsb, k_Tup, k_LstC, k_Andb, k_And, k_Orb, k_Or, k_Notb, k_Not, k_tEb, k_tE, k_tAnd, k_tOr, k_tNot, k_If, k_Asg, k_Expr, k_IfS, k_For, k_Lc, k_Lcb, List.map_cons, List.map_nil, List.cons_append, List.nil_append, List.replicate, List.set_cons_zero, List.set_cons_succ, List.all_cons, List.all_nil, Bool.and_true, Bool.true_and, Bool.and_self, and_self, eq_self, if_true, if_false, decide_true, decide_false, Bool.false_eq_true, List.any_cons, List.any_nil, List.length_nil, List.length_cons, Bool.not_true, Bool.not_false, hc, rngK_i (j := (l.length : Int)) (by omega), Int.toNat_natCast, hl]
  exact congrArg (fun k => Out.ok _ (stW ws k)) (by omega)
theorem i1 (m : Int) (l : List Int) (h : ∀ i ∈ l, i < 60) : ∀ i ∈ l, i < 59 + 1 := by simpa using h
theorem r_paper {p : Pap} (h : p.Ok) (h2 : p.Fit) : Reads g_paper_next [] (p.nm :: p.words) p.enc := fun ws n r hw => by
  refine cS_d ?_
  have e59 : (60 : Int) - 1 = 59 := rfl
  unfold g_paper_next f_paper_next
  have w1 : ws.drop (n + 1) = p.words ++ r := drop_next (l := [p.nm]) hw
  have hs := @gM_step ws n p.nm (p.words ++ r)
  cases p with
  | broken =>
    have hw : ws.drop n = ("broken" : Str) :: r := hw
    simp -implicitDefEqProofs +decide only [bind_ok, bind_ex, then_ok, then_ex, seq_nx, seq_rt, seq_ex, ite_tt, ite_ff, of_some, okOr_some, v0, v1, v2, v3, v4, v5, v6, v7, v8, v9, n0, n1, n2, n3, n4, n5, n6, n7, n8, n9, d_C, d_Op1, d_Op2, d_Mt0, d_Mt1, d_Args0, d_Args, d_Tup, d_Lst, d_LstC, tupK0, tupK1, tupK2, tupK3, tupK4, tupK9, bK_b, d_And, d_Or, d_Not, d_tE, d_tAnd, d_tOr, d_tNot, d_tYes, d_If, d_CallI, isoE_ok, isoE_ex, iso1, iso2, iso3, iso4, iso5, d_CallS, tgK_some, d_Skip, d_Seq, d_Asg, d_Expr, d_Ret, d_IfS, d_For, d_Raise, d_Drop, drop_nx, drop_rt, drop_ex, wipe0, wipeC, d_fn, fin_rt, fin_nx, fin_ex, isoR_d, isoR_ex, add_ii, add_ss, add_tt, add_ll, add_llC, sub_ii, neg_i, lt_ii, le_ii, gt_ii, ge_ii, dep_s, dep_i, dep_b, dep_n, eq_ii, eq_ss, eq_bb, ne_ss, ne_ii, ne_bb, in_dt, in_dl, notin_dt, notin_dl, isN_n, isN_i, isN_t, isN_s, isN_b, isN_l, notN_b, notN_l, notN_n, notN_i, notN_t, notN_s, t0, t1, t2, t3, l0, l1, l2, l3, len_t, len_l, str_i, int_b, tup_t, tup_l, list_lC, list_tC, list_l, list_t, rev_lC, isi_d, rc_s, d_iSeq, seqK_l, seqK_t, d_iRng1, rngK_i, d_Lc, noEx_k, newL_f, newL_t, rng_zero, len_s, d_iTxt, k_tx, d_Sl, k_Sl, k_Sl2, k_Sl3, k_pt0, k_pt1, k_pt, sl_s, d_Fld, d_Meth, d_Make, d_Store, k_Store, k_Store2, inS_1, k_Op1, k_Op2, k_Op2b, k_Mt0, k_Mt1, k_Args, k_Argsb, k_Tup, k_LstC, k_Andb, k_And, k_Orb, k_Or, k_Notb, k_Not, k_tEb, k_tE, k_tAnd, k_tOr, k_tNot, k_If, k_Asg, k_Expr, k_IfS, k_For, k_Lc, k_Lcb, List.map_cons, List.map_nil, List.cons_append, List.nil_append, List.replicate, List.set_cons_zero, List.set_cons_succ, List.all_cons, List.all_nil, Bool.and_true, Bool.true_and, Bool.and_self, and_self, eq_self, if_true, if_false, decide_true, decide_false, Bool.false_eq_true, List.any_cons, List.any_nil, List.length_nil, List.length_cons, Bool.not_true, Bool.not_false, gM_step hw, Pap.enc, Pap.nm, Pap.args, Pap.words]
  | clash a b =>
    have hw : ws.drop n = ("clash" : Str) :: (wRoad a ++ (wRoad b ++ r)) := by rw [hw]; simp [Pap.nm, Pap.words]
    have w1 : ws.drop (n + 1) = wRoad a ++ (wRoad b ++ r) := by rw [w1]; simp [Pap.words]
    have r1 := r_road h.1 h2.1 ws _ _ w1
    have r2 := r_road h.2 h2.2 ws _ _ (drop_next w1)
    unfold eRoad at r1 r2
    simp -implicitDefEqProofs +decide only [bind_ok, bind_ex, then_ok, then_ex, seq_nx, seq_rt, seq_ex, ite_tt, ite_ff, of_some, okOr_some, v0, v1, v2, v3, v4, v5, v6, v7, v8, v9, n0, n1, n2, n3, n4, n5, n6, n7, n8, n9, d_C, d_Op1, d_Op2, d_Mt0, d_Mt1, d_Args0, d_Args, d_Tup, d_Lst, d_LstC, tupK0, tupK1, tupK2, tupK3, tupK4, tupK9, bK_b, d_And, d_Or, d_Not, d_tE, d_tAnd, d_tOr, d_tNot, d_tYes, d_If, d_CallI, isoE_ok, isoE_ex, iso1, iso2, iso3, iso4, iso5, d_CallS, tgK_some, d_Skip, d_Seq, d_Asg, d_Expr, d_Ret, d_IfS, d_For, d_Raise, d_Drop, drop_nx, drop_rt, drop_ex, wipe0, wipeC, d_fn, fin_rt, fin_nx, fin_ex, isoR_d, isoR_ex, add_ii, add_ss, add_tt, add_ll, add_llC, sub_ii, neg_i, lt_ii, le_ii, gt_ii, ge_ii, dep_s, dep_i, dep_b, dep_n, eq_ii, eq_ss, eq_bb, ne_ss, ne_ii, ne_bb, in_dt, in_dl, notin_dt, notin_dl, isN_n, isN_i, isN_t, isN_s, isN_b, isN_l, notN_b, notN_l, notN_n, notN_i, notN_t, notN_s, t0, t1, t2, t3, l0, l1, l2, l3, len_t, len_l, str_i, int_b, tup_t, tup_l, list_lC, list_tC, list_l, list_t, rev_lC, isi_d, rc_s, d_iSeq, seqK_l, seqK_t, d_iRng1, rngK_i, d_Lc, noEx_k, newL_f, newL_t, rng_zero, len_s, d_iTxt, k_tx, d_Sl, k_Sl, k_Sl2, k_Sl3, k_pt0, k_pt1, k_pt, sl_s, d_Fld, d_Meth, d_Make, d_Store, k_Store, k_Store2, inS_1, k_Op1, k_Op2, k_Op2b, k_Mt0, k_Mt1, k_Args, k_Argsb, k_Tup, k_LstC, k_Andb, k_And, k_Orb, k_Or, k_Notb, k_Not, k_tEb, k_tE, k_tAnd, k_tOr, k_tNot, k_If, k_Asg, k_Expr, k_IfS, k_For, k_Lc, k_Lcb, List.map_cons, List.map_nil, List.cons_append, List.nil_append, List.replicate, List.set_cons_zero, List.set_cons_succ, List.all_cons, List.all_nil, Bool.and_true, Bool.true_and, Bool.and_self, and_self, eq_self, if_true, if_false, decide_true, decide_false, Bool.false_eq_true, List.any_cons, List.any_nil, List.length_nil, List.length_cons, Bool.not_true, Bool.not_false, gM_step hw, Pap.enc, Pap.nm, Pap.args, Pap.words, PyData.eqv, Bool.or_false, r1, r2, eRoad]
    refine congrArg (fun k => Out.ok _ (stW ws k)) ?_
    first | omega | (simp only [List.length_append, List.length_cons, List.length_nil]; omega)
  | late a b =>
    have hw : ws.drop n = ("late" : Str) :: (wRoad a ++ (wRoad b ++ r)) := by rw [hw]; simp [Pap.nm, Pap.words]
    have w1 : ws.drop (n + 1) = wRoad a ++ (wRoad b ++ r) := by rw [w1]; simp [Pap.words]
    have r1 := r_road h.1 h2.1 ws _ _ w1
    have r2 := r_road h.2 h2.2 ws _ _ (drop_next w1)
    unfold eRoad at r1 r2
    simp -implicitDefEqProofs +decide only [bind_ok, bind_ex, then_ok, then_ex, seq_nx, seq_rt, seq_ex, ite_tt, ite_ff, of_some, okOr_some, v0, v1, v2, v3, v4, v5, v6, v7, v8, v9, n0, n1, n2, n3, n4, n5, n6, n7, n8, n9, d_C, d_Op1, d_Op2, d_Mt0, d_Mt1, d_Args0, d_Args, d_Tup, d_Lst, d_LstC, tupK0, tupK1, tupK2, tupK3, tupK4, tupK9, bK_b, d_And, d_Or, d_Not, d_tE, d_tAnd, d_tOr, d_tNot, d_tYes, d_If, d_CallI, isoE_ok, isoE_ex, iso1, iso2, iso3, iso4, iso5, d_CallS, tgK_some, d_Skip, d_Seq, d_Asg, d_Expr, d_Ret, d_IfS, d_For, d_Raise, d_Drop, drop_nx, drop_rt, drop_ex, wipe0, wipeC, d_fn, fin_rt, fin_nx, fin_ex, isoR_d, isoR_ex, add_ii, add_ss, add_tt, add_ll, add_llC, sub_ii, neg_i, lt_ii, le_ii, gt_ii, ge_ii, dep_s, dep_i, dep_b, dep_n, eq_ii, eq_ss, eq_bb, ne_ss, ne_ii, ne_bb, in_dt, in_dl, notin_dt, notin_dl, isN_n, isN_i, isN_t, isN_s, isN_b, isN_l, notN_b, notN_l, notN_n, notN_i, notN_t, notN_s, t0, t1, t2, t3, l0, l1, l2, l3, len_t, len_l, str_i, int_b, tup_t, tup_l, list_lC, list_tC, list_l, list_t, rev_lC, isi_d, rc_s, d_iSeq, seqK_l, seqK_t, d_iRng1, rngK_i, d_Lc, noEx_k, newL_f, newL_t, rng_zero, len_s, d_iTxt, k_tx, d_Sl, k_Sl, k_Sl2, k_Sl3, k_pt0, k_pt1, k_pt, sl_s, d_Fld, d_Meth, d_Make, d_Store, k_Store, k_Store2, inS_1, k_Op1, k_Op2, k_Op2b, k_Mt0, k_Mt1, k_Args, k_Argsb, k_Tup, k_LstC, k_Andb, k_And, k_Orb, k_Or, k_Notb, k_Not, k_tEb, k_tE, k_tAnd, k_tOr, k_tNot, k_If, k_Asg, k_Expr, k_IfS, k_For, k_Lc, k_Lcb, List.map_cons, List.map_nil, List.cons_append, List.nil_append, List.replicate, List.set_cons_zero, List.set_cons_succ, List.all_cons, List.all_nil, Bool.and_true, Bool.true_and, Bool.and_self, and_self, eq_self, if_true, if_false, decide_true, decide_false, Bool.false_eq_true, List.any_cons, List.any_nil, List.length_nil, List.length_cons, Bool.not_true, Bool.not_false, gM_step hw, Pap.enc, Pap.nm, Pap.args, Pap.words, PyData.eqv, Bool.or_false, r1, r2, eRoad]
    refine congrArg (fun k => Out.ok _ (stW ws k)) ?_
    first | omega | (simp only [List.length_append, List.length_cons, List.length_nil]; omega)
  | cross a =>
    have hw : ws.drop n = ("cross" : Str) :: (wRoad a ++ r) := hw
    have r1 := r_road h h2 ws _ _ w1
    unfold eRoad at r1
    simp -implicitDefEqProofs +decide only [bind_ok, bind_ex, then_ok, then_ex, seq_nx, seq_rt, seq_ex, ite_tt, ite_ff, of_some, okOr_some, v0, v1, v2, v3, v4, v5, v6, v7, v8, v9, n0, n1, n2, n3, n4, n5, n6, n7, n8, n9, d_C, d_Op1, d_Op2, d_Mt0, d_Mt1, d_Args0, d_Args, d_Tup, d_Lst, d_LstC, tupK0, tupK1, tupK2, tupK3, tupK4, tupK9, bK_b, d_And, d_Or, d_Not, d_tE, d_tAnd, d_tOr, d_tNot, d_tYes, d_If, d_CallI, isoE_ok, isoE_ex, iso1, iso2, iso3, iso4, iso5, d_CallS, tgK_some, d_Skip, d_Seq, d_Asg, d_Expr, d_Ret, d_IfS, d_For, d_Raise, d_Drop, drop_nx, drop_rt, drop_ex, wipe0, wipeC, d_fn, fin_rt, fin_nx, fin_ex, isoR_d, isoR_ex, add_ii, add_ss, add_tt, add_ll, add_llC, sub_ii, neg_i, lt_ii, le_ii, gt_ii, ge_ii, dep_s, dep_i, dep_b, dep_n, eq_ii, eq_ss, eq_bb, ne_ss, ne_ii, ne_bb, in_dt, in_dl, notin_dt, notin_dl, isN_n, isN_i, isN_t, isN_s, isN_b, isN_l, notN_b, notN_l, notN_n, notN_i, notN_t, notN_s, t0, t1, t2, t3, l0, l1, l2, l3, len_t, len_l, str_i, int_b, tup_t, tup_l, list_lC, list_tC, list_l, list_t, rev_lC, isi_d, rc_s, d_iSeq, seqK_l, seqK_t, d_iRng1, rngK_i, d_Lc, noEx_k, newL_f, newL_t, rng_zero, len_s, d_iTxt, k_tx, d_Sl, k_Sl, k_Sl2, k_Sl3, k_pt0, k_pt1, k_pt, sl_s, d_Fld, d_Meth, d_Make, d_Store, k_Store, k_Store2, inS_1, k_Op1, k_Op2, k_Op2b, k_Mt0, k_Mt1, k_Args, k_Argsb, k_Tup, k_LstC, k_Andb, k_And, k_Orb, k_Or, k_Notb, k_Not, k_tEb, k_tE, k_tAnd, k_tOr, k_tNot, k_If, k_Asg, k_Expr, k_IfS, k_For, k_Lc, k_Lcb, List.map_cons, List.map_nil, List.cons_append, List.nil_append, List.replicate, List.set_cons_zero, List.set_cons_succ, List.all_cons, List.all_nil, Bool.and_true, Bool.true_and, Bool.and_self, and_self, eq_self, if_true, if_false, decide_true, decide_false, Bool.false_eq_true, List.any_cons, List.any_nil, List.length_nil, List.length_cons, Bool.not_true, Bool.not_false, gM_step hw, Pap.enc, Pap.nm, Pap.args, Pap.words, PyData.eqv, Bool.or_false, r1, eRoad]
    refine congrArg (fun k => Out.ok _ (stW ws k)) ?_
    first | omega | (simp only [List.length_append, List.length_cons, List.length_nil]; omega)
  | odd a =>
    have hw : ws.drop n = ("odd" : Str) :: (wNums a ++ r) := hw
    have r1 := r_numbers (m := 200) h h2 (by decide) ws _ _ w1
    unfold eNums at r1
    simp -implicitDefEqProofs +decide only [bind_ok, bind_ex, then_ok, then_ex, seq_nx, seq_rt, seq_ex, ite_tt, ite_ff, of_some, okOr_some, v0, v1, v2, v3, v4, v5, v6, v7, v8, v9, n0, n1, n2, n3, n4, n5, n6, n7, n8, n9, d_C, d_Op1, d_Op2, d_Mt0, d_Mt1, d_Args0, d_Args, d_Tup, d_Lst, d_LstC, tupK0, tupK1, tupK2, tupK3, tupK4, tupK9, bK_b, d_And, d_Or, d_Not, d_tE, d_tAnd, d_tOr, d_tNot, d_tYes, d_If, d_CallI, isoE_ok, isoE_ex, iso1, iso2, iso3, iso4, iso5, d_CallS, tgK_some, d_Skip, d_Seq, d_Asg, d_Expr, d_Ret, d_IfS, d_For, d_Raise, d_Drop, drop_nx, drop_rt, drop_ex, wipe0, wipeC, d_fn, fin_rt, fin_nx, fin_ex, isoR_d, isoR_ex, add_ii, add_ss, add_tt, add_ll, add_llC, sub_ii, neg_i, lt_ii, le_ii, gt_ii, ge_ii, dep_s, dep_i, dep_b, dep_n, eq_ii, eq_ss, eq_bb, ne_ss, ne_ii, ne_bb, in_dt, in_dl, notin_dt, notin_dl, isN_n, isN_i, isN_t, isN_s, isN_b, isN_l, notN_b, notN_l, notN_n, notN_i, notN_t, notN_s, t0, t1, t2, t3, l0, l1, l2, l3, len_t, len_l, str_i, int_b, tup_t, tup_l, list_lC, list_tC, list_l, list_t, rev_lC, isi_d, rc_s, d_iSeq, seqK_l, seqK_t, d_iRng1, rngK_i, d_Lc, noEx_k, newL_f, newL_t, rng_zero, len_s, d_iTxt, k_tx, d_Sl, k_Sl, k_Sl2, k_Sl3, k_pt0, k_pt1, k_pt, sl_s, d_Fld, d_Meth, d_Make, d_Store, k_Store, k_Store2, inS_1, k_Op1, k_Op2, k_Op2b, k_Mt0, k_Mt1, k_Args, k_Argsb, k_Tup, k_LstC, k_Andb, k_And, k_Orb, k_Or, k_Notb, k_Not, k_tEb, k_tE, k_tAnd, k_tOr, k_tNot, k_If, k_Asg, k_Expr, k_IfS, k_For, k_Lc, k_Lcb, List.map_cons, List.map_nil, List.cons_append, List.nil_append, List.replicate, List.set_cons_zero, List.set_cons_succ, List.all_cons, List.all_nil, Bool.and_true, Bool.true_and, Bool.and_self, and_self, eq_self, if_true, if_false, decide_true, decide_false, Bool.false_eq_true, List.any_cons, List.any_nil, List.length_nil, List.length_cons, Bool.not_true, Bool.not_false, gM_step hw, Pap.enc, Pap.nm, Pap.args, Pap.words, PyData.eqv, Bool.or_false, r1, eNums]
    refine congrArg (fun k => Out.ok _ (stW ws k)) ?_
    first | omega | (simp only [List.length_append, List.length_cons, List.length_nil]; omega)
  | lone f a b =>
    have hw : ws.drop n = ("lone" : Str) :: ([wFree f] ++ (wNums a ++ (wNums b ++ r))) := by rw [hw]; simp [Pap.nm, Pap.words]
    have w1 : ws.drop (n + 1) = [wFree f] ++ (wNums a ++ (wNums b ++ r)) := by rw [w1]; simp [Pap.words]
    have r0 := r_free h.1 h2.1 ws _ _ w1
    have w2 := drop_next w1
    have r1 := r_numbers (m := 200) h.2.1 h2.2.1 (by decide) ws _ _ w2
    have r2 := r_numbers (m := 200) h.2.2 h2.2.2 (by decide) ws _ _ (drop_next w2)
    unfold eNums at r1 r2
    simp only [List.length_cons, List.length_nil, Nat.zero_add] at r0 r1 r2
    cases hf : eFree f <;> rw [hf] at r0 <;> simp -implicitDefEqProofs +decide only [bind_ok, bind_ex, then_ok, then_ex, seq_nx, seq_rt, seq_ex, ite_tt, ite_ff, of_some, okOr_some, v0, v1, v2, v3, v4, v5, v6, v7, v8, v9, n0, n1, n2, n3, n4, n5, n6, n7, n8, n9, d_C, d_Op1, d_Op2, d_Mt0, d_Mt1, d_Args0, d_Args, d_Tup, d_Lst, d_LstC, tupK0, tupK1, tupK2, tupK3, tupK4, tupK9, bK_b, d_And, d_Or, d_Not, d_tE, d_tAnd, d_tOr, d_tNot, d_tYes, d_If, d_CallI, isoE_ok, isoE_ex, iso1, iso2, iso3, iso4, iso5, d_CallS, tgK_some, d_Skip, d_Seq, d_Asg, d_Expr, d_Ret, d_IfS, d_For, d_Raise, d_Drop, drop_nx, drop_rt, drop_ex, wipe0, wipeC, d_fn, fin_rt, fin_nx, fin_ex, isoR_d, isoR_ex, add_ii, add_ss, add_tt, add_ll, add_llC, sub_ii, neg_i, lt_ii, le_ii, gt_ii, ge_ii, dep_s, dep_i, dep_b, dep_n, eq_ii, eq_ss, eq_bb, ne_ss, ne_ii, ne_bb, in_dt, in_dl, notin_dt, notin_dl, isN_n, isN_i, isN_t, isN_s, isN_b, isN_l, notN_b, notN_l, notN_n, notN_i, notN_t, notN_s, t0, t1, t2, t3, l0, l1, l2, l3, len_t, len_l, str_i, int_b, tup_t, tup_l, list_lC, list_tC, list_l, list_t, rev_lC, isi_d, rc_s, d_iSeq, seqK_l, seqK_t, d_iRng1, rngK_i, d_Lc, noEx_k, newL_f, newL_t, rng_zero, len_s, d_iTxt, k_tx, d_Sl, k_Sl, k_Sl2, k_Sl3, k_pt0, k_pt1, k_pt, sl_s, d_Fld, d_Meth, d_Make, d_Store, k_Store, k_Store2, inS_1, k_Op1, k_Op2, k_Op2b, k_Mt0, k_Mt1, k_Args, k_Argsb, k_Tup, k_LstC, k_Andb, k_And, k_Orb, k_Or, k_Notb, k_Not, k_tEb, k_tE, k_tAnd, k_tOr, k_tNot, k_If, k_Asg, k_Expr, k_IfS, k_For, k_Lc, k_Lcb, List.map_cons, List.map_nil, List.cons_append, List.nil_append, List.replicate, List.set_cons_zero, List.set_cons_succ, List.all_cons, List.all_nil, Bool.and_true, Bool.true_and, Bool.and_self, and_self, eq_self, if_true, if_false, decide_true, decide_false, Bool.false_eq_true, List.any_cons, List.any_nil, List.length_nil, List.length_cons, Bool.not_true, Bool.not_false, gM_step hw, Pap.enc, Pap.nm, Pap.args, Pap.words, PyData.eqv, Bool.or_false, r0, r1, r2, eNums, hf] <;> exact congrArg (fun k => Out.ok _ (stW ws k)) (by first | omega | (simp only [List.length_append, List.length_cons, List.length_nil]; omega))
  | plan l =>
    have hw : ws.drop n = ("plan" : Str) :: (nS l.length :: l.flatMap wP ++ r) := hw
    have r1 := r_rows (k := "plan") eP wP l h.1 (fun x hx => r_rowP (h.2 x hx) (h2 x hx)) ws _ _ w1
    simp -implicitDefEqProofs +decide only [bind_ok, bind_ex, then_ok, then_ex, seq_nx, seq_rt, seq_ex, ite_tt, ite_ff, of_some, okOr_some, v0, v1, v2, v3, v4, v5, v6, v7, v8, v9, n0, n1, n2, n3, n4, n5, n6, n7, n8, n9, d_C, d_Op1, d_Op2, d_Mt0, d_Mt1, d_Args0, d_Args, d_Tup, d_Lst, d_LstC, tupK0, tupK1, tupK2, tupK3, tupK4, tupK9, bK_b, d_And, d_Or, d_Not, d_tE, d_tAnd, d_tOr, d_tNot, d_tYes, d_If, d_CallI, isoE_ok, isoE_ex, iso1, iso2, iso3, iso4, iso5, d_CallS, tgK_some, d_Skip, d_Seq, d_Asg, d_Expr, d_Ret, d_IfS, d_For, d_Raise, d_Drop, drop_nx, drop_rt, drop_ex, wipe0, wipeC, d_fn, fin_rt, fin_nx, fin_ex, isoR_d, isoR_ex, add_ii, add_ss, add_tt, add_ll, add_llC, sub_ii, neg_i, lt_ii, le_ii, gt_ii, ge_ii, dep_s, dep_i, dep_b, dep_n, eq_ii, eq_ss, eq_bb, ne_ss, ne_ii, ne_bb, in_dt, in_dl, notin_dt, notin_dl, isN_n, isN_i, isN_t, isN_s, isN_b, isN_l, notN_b, notN_l, notN_n, notN_i, notN_t, notN_s, t0, t1, t2, t3, l0, l1, l2, l3, len_t, len_l, str_i, int_b, tup_t, tup_l, list_lC, list_tC, list_l, list_t, rev_lC, isi_d, rc_s, d_iSeq, seqK_l, seqK_t, d_iRng1, rngK_i, d_Lc, noEx_k, newL_f, newL_t, rng_zero, len_s, d_iTxt, k_tx, d_Sl, k_Sl, k_Sl2, k_Sl3, k_pt0, k_pt1, k_pt, sl_s, d_Fld, d_Meth, d_Make, d_Store, k_Store, k_Store2, inS_1, k_Op1, k_Op2, k_Op2b, k_Mt0, k_Mt1, k_Args, k_Argsb, k_Tup, k_LstC, k_Andb, k_And, k_Orb, k_Or, k_Notb, k_Not, k_tEb, k_tE, k_tAnd, k_tOr, k_tNot, k_If, k_Asg, k_Expr, k_IfS, k_For, k_Lc, k_Lcb, List.map_cons, List.map_nil, List.cons_append, List.nil_append, List.replicate, List.set_cons_zero, List.set_cons_succ, List.all_cons, List.all_nil, Bool.and_true, Bool.true_and, Bool.and_self, and_self, eq_self, if_true, if_false, decide_true, decide_false, Bool.false_eq_true, List.any_cons, List.any_nil, List.length_nil, List.length_cons, Bool.not_true, Bool.not_false, gM_step hw, Pap.enc, Pap.nm, Pap.args, Pap.words, PyData.eqv, Bool.or_false, r1]
    refine congrArg (fun k => Out.ok _ (stW ws k)) ?_
    first | omega | (simp only [List.length_append, List.length_cons, List.length_nil]; omega)
  | sums l =>
    have hw : ws.drop n = ("sums" : Str) :: (nS l.length :: l.flatMap wU ++ r) := hw
    have r1 := r_rows (k := "sums") eU wU l h.1 (fun x hx => r_rowU (h.2 x hx) (h2 x hx)) ws _ _ w1
    simp -implicitDefEqProofs +decide only [bind_ok, bind_ex, then_ok, then_ex, seq_nx, seq_rt, seq_ex, ite_tt, ite_ff, of_some, okOr_some, v0, v1, v2, v3, v4, v5, v6, v7, v8, v9, n0, n1, n2, n3, n4, n5, n6, n7, n8, n9, d_C, d_Op1, d_Op2, d_Mt0, d_Mt1, d_Args0, d_Args, d_Tup, d_Lst, d_LstC, tupK0, tupK1, tupK2, tupK3, tupK4, tupK9, bK_b, d_And, d_Or, d_Not, d_tE, d_tAnd, d_tOr, d_tNot, d_tYes, d_If, d_CallI, isoE_ok, isoE_ex, iso1, iso2, iso3, iso4, iso5, d_CallS, tgK_some, d_Skip, d_Seq, d_Asg, d_Expr, d_Ret, d_IfS, d_For, d_Raise, d_Drop, drop_nx, drop_rt, drop_ex, wipe0, wipeC, d_fn, fin_rt, fin_nx, fin_ex, isoR_d, isoR_ex, add_ii, add_ss, add_tt, add_ll, add_llC, sub_ii, neg_i, lt_ii, le_ii, gt_ii, ge_ii, dep_s, dep_i, dep_b, dep_n, eq_ii, eq_ss, eq_bb, ne_ss, ne_ii, ne_bb, in_dt, in_dl, notin_dt, notin_dl, isN_n, isN_i, isN_t, isN_s, isN_b, isN_l, notN_b, notN_l, notN_n, notN_i, notN_t, notN_s, t0, t1, t2, t3, l0, l1, l2, l3, len_t, len_l, str_i, int_b, tup_t, tup_l, list_lC, list_tC, list_l, list_t, rev_lC, isi_d, rc_s, d_iSeq, seqK_l, seqK_t, d_iRng1, rngK_i, d_Lc, noEx_k, newL_f, newL_t, rng_zero, len_s, d_iTxt, k_tx, d_Sl, k_Sl, k_Sl2, k_Sl3, k_pt0, k_pt1, k_pt, sl_s, d_Fld, d_Meth, d_Make, d_Store, k_Store, k_Store2, inS_1, k_Op1, k_Op2, k_Op2b, k_Mt0, k_Mt1, k_Args, k_Argsb, k_Tup, k_LstC, k_Andb, k_And, k_Orb, k_Or, k_Notb, k_Not, k_tEb, k_tE, k_tAnd, k_tOr, k_tNot, k_If, k_Asg, k_Expr, k_IfS, k_For, k_Lc, k_Lcb, List.map_cons, List.map_nil, List.cons_append, List.nil_append, List.replicate, List.set_cons_zero, List.set_cons_succ, List.all_cons, List.all_nil, Bool.and_true, Bool.true_and, Bool.and_self, and_self, eq_self, if_true, if_false, decide_true, decide_false, Bool.false_eq_true, List.any_cons, List.any_nil, List.length_nil, List.length_cons, Bool.not_true, Bool.not_false, gM_step hw, Pap.enc, Pap.nm, Pap.args, Pap.words, PyData.eqv, Bool.or_false, r1]
    refine congrArg (fun k => Out.ok _ (stW ws k)) ?_
    first | omega | (simp only [List.length_append, List.length_cons, List.length_nil]; omega)
  | rows a l =>
    have hw : ws.drop n = ("rows" : Str) :: (wNums a ++ (nS l.length :: l.flatMap wR ++ r)) := by rw [hw]; simp [Pap.nm, Pap.words]
    have w1 : ws.drop (n + 1) = wNums a ++ (nS l.length :: l.flatMap wR ++ r) := by rw [w1]; simp [Pap.words]
    have r0 := r_numbers (m := 59) h.1 (by simpa using h2.1) (by decide) ws _ _ w1
    have r1 := r_rows (k := "rows") eR wR l h.2.1 (fun x hx => r_rowR (h.2.2 x hx) (h2.2 x hx)) ws _ _ (drop_next w1)
    unfold eNums at r0
    simp -implicitDefEqProofs +decide only [bind_ok, bind_ex, then_ok, then_ex, seq_nx, seq_rt, seq_ex, ite_tt, ite_ff, of_some, okOr_some, v0, v1, v2, v3, v4, v5, v6, v7, v8, v9, n0, n1, n2, n3, n4, n5, n6, n7, n8, n9, d_C, d_Op1, d_Op2, d_Mt0, d_Mt1, d_Args0, d_Args, d_Tup, d_Lst, d_LstC, tupK0, tupK1, tupK2, tupK3, tupK4, tupK9, bK_b, d_And, d_Or, d_Not, d_tE, d_tAnd, d_tOr, d_tNot, d_tYes, d_If, d_CallI, isoE_ok, isoE_ex, iso1, iso2, iso3, iso4, iso5, d_CallS, tgK_some, d_Skip, d_Seq, d_Asg, d_Expr, d_Ret, d_IfS, d_For, d_Raise, d_Drop, drop_nx, drop_rt, drop_ex, wipe0, wipeC, d_fn, fin_rt, fin_nx, fin_ex, isoR_d, isoR_ex, add_ii, add_ss, add_tt, add_ll, add_llC, sub_ii, neg_i, lt_ii, le_ii, gt_ii, ge_ii, dep_s, dep_i, dep_b, dep_n, eq_ii, eq_ss, eq_bb, ne_ss, ne_ii, ne_bb, in_dt, in_dl, notin_dt, notin_dl, isN_n, isN_i, isN_t, isN_s, isN_b, isN_l, notN_b, notN_l, notN_n, notN_i, notN_t, notN_s, t0, t1, t2, t3, l0, l1, l2, l3, len_t, len_l, str_i, int_b, tup_t, tup_l, list_lC, list_tC, list_l, list_t, rev_lC, isi_d, rc_s, d_iSeq, seqK_l, seqK_t, d_iRng1, rngK_i, d_Lc, noEx_k, newL_f, newL_t, rng_zero, len_s, d_iTxt, k_tx, d_Sl, k_Sl, k_Sl2, k_Sl3, k_pt0, k_pt1, k_pt, sl_s, d_Fld, d_Meth, d_Make, d_Store, k_Store, k_Store2, inS_1, k_Op1, k_Op2, k_Op2b, k_Mt0, k_Mt1, k_Args, k_Argsb, k_Tup, k_LstC, k_Andb, k_And, k_Orb, k_Or, k_Notb, k_Not, k_tEb, k_tE, k_tAnd, k_tOr, k_tNot, k_If, k_Asg, k_Expr, k_IfS, k_For, k_Lc, k_Lcb, List.map_cons, List.map_nil, List.cons_append, List.nil_append, List.replicate, List.set_cons_zero, List.set_cons_succ, List.all_cons, List.all_nil, Bool.and_true, Bool.true_and, Bool.and_self, and_self, eq_self, if_true, if_false, decide_true, decide_false, Bool.false_eq_true, List.any_cons, List.any_nil, List.length_nil, List.length_cons, Bool.not_true, Bool.not_false, gM_step hw, Pap.enc, Pap.nm, Pap.args, Pap.words, PyData.eqv, Bool.or_false, r0, r1, e59, eNums]
    refine congrArg (fun k => Out.ok _ (stW ws k)) ?_
    first | omega | (simp only [List.length_append, List.length_cons, List.length_nil]; omega)
/-! the law's own comparison -/
def okS : Nat → PyData → Prop
  | _, .none => True
  | _, .bool _ => True
  | _, .int _ => True
  | _, .str _ => True
  | j + 1, .tuple l => l.length ≤ 1000 ∧ ∀ y ∈ l, okS j y
  | 0, .tuple _ => False
  | _, .list _ => False
  | _, .dict _ => False

theorem same_0 : ∀ {x : PyData}, okS 0 x → callI g__law_same__0 [x, x] = some (.inr (.bool true)) := by
  intro x h
  unfold g__law_same__0 f__law_same__0
  rw [d_iso]
  cases x with
  | none => simp -implicitDefEqProofs only [bind_ok, bind_ex, then_ok, then_ex, seq_nx, seq_rt, seq_ex, ite_tt, ite_ff, of_some, okOr_some, v0, v1, v2, v3, v4, v5, v6, v7, v8, v9, n0, n1, n2, n3, n4, n5, n6, n7, n8, n9, d_C, d_Op1, d_Op2, d_Mt0, d_Mt1, d_Args0, d_Args, d_Tup, d_Lst, d_LstC, tupK0, tupK1, tupK2, tupK3, tupK4, tupK9, bK_b, d_And, d_Or, d_Not, d_tE, d_tAnd, d_tOr, d_tNot, d_tYes, d_If, d_CallI, isoE_ok, isoE_ex, iso1, iso2, iso3, iso4, iso5, d_CallS, tgK_some, d_Skip, d_Seq, d_Asg, d_Expr, d_Ret, d_IfS, d_For, d_Raise, d_Drop, drop_nx, drop_rt, drop_ex, wipe0, wipeC, d_fn, fin_rt, fin_nx, fin_ex, isoR_d, isoR_ex, add_ii, add_ss, add_tt, add_ll, add_llC, sub_ii, neg_i, lt_ii, le_ii, gt_ii, ge_ii, dep_s, dep_i, dep_b, dep_n, eq_ii, eq_ss, eq_bb, ne_ss, ne_ii, ne_bb, in_dt, in_dl, notin_dt, notin_dl, isN_n, isN_i, isN_t, isN_s, isN_b, isN_l, notN_b, notN_l, notN_n, notN_i, notN_t, notN_s, t0, t1, t2, t3, l0, l1, l2, l3, len_t, len_l, str_i, int_b, tup_t, tup_l, list_lC, list_tC, list_l, list_t, rev_lC, isi_d, rc_s, d_iSeq, seqK_l, seqK_t, d_iRng1, rngK_i, d_Lc, noEx_k, newL_f, newL_t, rng_zero, len_s, d_iTxt, k_tx, d_Sl, k_Sl, k_Sl2, k_Sl3, k_pt0, k_pt1, k_pt, sl_s, d_Fld, d_Meth, d_Make, d_Store, k_Store, k_Store2, inS_1, k_Op1, k_Op2, k_Op2b, k_Mt0, k_Mt1, k_Args, k_Argsb, k_Tup, k_LstC, k_Andb, k_And, k_Orb, k_Or, k_Notb, k_Not, k_tEb, k_tE, k_tAnd, k_tOr, k_tNot, k_If, k_Asg, k_Expr, k_IfS, k_For, k_Lc, k_Lcb, List.map_cons, List.map_nil, List.cons_append, List.nil_append, List.replicate, List.set_cons_zero, List.set_cons_succ, List.all_cons, List.all_nil, Bool.and_true, Bool.true_and, Bool.and_self, and_self, eq_self, if_true, if_false, decide_true, decide_false, Bool.false_eq_true, List.any_cons, List.any_nil, List.length_nil, List.length_cons, Bool.not_true, Bool.not_false, isi_d, isI]
  | bool b => cases b <;> simp -implicitDefEqProofs +decide only [bind_ok, bind_ex, then_ok, then_ex, seq_nx, seq_rt, seq_ex, ite_tt, ite_ff, of_some, okOr_some, v0, v1, v2, v3, v4, v5, v6, v7, v8, v9, n0, n1, n2, n3, n4, n5, n6, n7, n8, n9, d_C, d_Op1, d_Op2, d_Mt0, d_Mt1, d_Args0, d_Args, d_Tup, d_Lst, d_LstC, tupK0, tupK1, tupK2, tupK3, tupK4, tupK9, bK_b, d_And, d_Or, d_Not, d_tE, d_tAnd, d_tOr, d_tNot, d_tYes, d_If, d_CallI, isoE_ok, isoE_ex, iso1, iso2, iso3, iso4, iso5, d_CallS, tgK_some, d_Skip, d_Seq, d_Asg, d_Expr, d_Ret, d_IfS, d_For, d_Raise, d_Drop, drop_nx, drop_rt, drop_ex, wipe0, wipeC, d_fn, fin_rt, fin_nx, fin_ex, isoR_d, isoR_ex, add_ii, add_ss, add_tt, add_ll, add_llC, sub_ii, neg_i, lt_ii, le_ii, gt_ii, ge_ii, dep_s, dep_i, dep_b, dep_n, eq_ii, eq_ss, eq_bb, ne_ss, ne_ii, ne_bb, in_dt, in_dl, notin_dt, notin_dl, isN_n, isN_i, isN_t, isN_s, isN_b, isN_l, notN_b, notN_l, notN_n, notN_i, notN_t, notN_s, t0, t1, t2, t3, l0, l1, l2, l3, len_t, len_l, str_i, int_b, tup_t, tup_l, list_lC, list_tC, list_l, list_t, rev_lC, isi_d, rc_s, d_iSeq, seqK_l, seqK_t, d_iRng1, rngK_i, d_Lc, noEx_k, newL_f, newL_t, rng_zero, len_s, d_iTxt, k_tx, d_Sl, k_Sl, k_Sl2, k_Sl3, k_pt0, k_pt1, k_pt, sl_s, d_Fld, d_Meth, d_Make, d_Store, k_Store, k_Store2, inS_1, k_Op1, k_Op2, k_Op2b, k_Mt0, k_Mt1, k_Args, k_Argsb, k_Tup, k_LstC, k_Andb, k_And, k_Orb, k_Or, k_Notb, k_Not, k_tEb, k_tE, k_tAnd, k_tOr, k_tNot, k_If, k_Asg, k_Expr, k_IfS, k_For, k_Lc, k_Lcb, List.map_cons, List.map_nil, List.cons_append, List.nil_append, List.replicate, List.set_cons_zero, List.set_cons_succ, List.all_cons, List.all_nil, Bool.and_true, Bool.true_and, Bool.and_self, and_self, eq_self, if_true, if_false, decide_true, decide_false, Bool.false_eq_true, List.any_cons, List.any_nil, List.length_nil, List.length_cons, Bool.not_true, Bool.not_false, isi_d, isI] <;> rfl
  | int i => simp -implicitDefEqProofs +decide only [bind_ok, bind_ex, then_ok, then_ex, seq_nx, seq_rt, seq_ex, ite_tt, ite_ff, of_some, okOr_some, v0, v1, v2, v3, v4, v5, v6, v7, v8, v9, n0, n1, n2, n3, n4, n5, n6, n7, n8, n9, d_C, d_Op1, d_Op2, d_Mt0, d_Mt1, d_Args0, d_Args, d_Tup, d_Lst, d_LstC, tupK0, tupK1, tupK2, tupK3, tupK4, tupK9, bK_b, d_And, d_Or, d_Not, d_tE, d_tAnd, d_tOr, d_tNot, d_tYes, d_If, d_CallI, isoE_ok, isoE_ex, iso1, iso2, iso3, iso4, iso5, d_CallS, tgK_some, d_Skip, d_Seq, d_Asg, d_Expr, d_Ret, d_IfS, d_For, d_Raise, d_Drop, drop_nx, drop_rt, drop_ex, wipe0, wipeC, d_fn, fin_rt, fin_nx, fin_ex, isoR_d, isoR_ex, add_ii, add_ss, add_tt, add_ll, add_llC, sub_ii, neg_i, lt_ii, le_ii, gt_ii, ge_ii, dep_s, dep_i, dep_b, dep_n, eq_ii, eq_ss, eq_bb, ne_ss, ne_ii, ne_bb, in_dt, in_dl, notin_dt, notin_dl, isN_n, isN_i, isN_t, isN_s, isN_b, isN_l, notN_b, notN_l, notN_n, notN_i, notN_t, notN_s, t0, t1, t2, t3, l0, l1, l2, l3, len_t, len_l, str_i, int_b, tup_t, tup_l, list_lC, list_tC, list_l, list_t, rev_lC, isi_d, rc_s, d_iSeq, seqK_l, seqK_t, d_iRng1, rngK_i, d_Lc, noEx_k, newL_f, newL_t, rng_zero, len_s, d_iTxt, k_tx, d_Sl, k_Sl, k_Sl2, k_Sl3, k_pt0, k_pt1, k_pt, sl_s, d_Fld, d_Meth, d_Make, d_Store, k_Store, k_Store2, inS_1, k_Op1, k_Op2, k_Op2b, k_Mt0, k_Mt1, k_Args, k_Argsb, k_Tup, k_LstC, k_Andb, k_And, k_Orb, k_Or, k_Notb, k_Not, k_tEb, k_tE, k_tAnd, k_tOr, k_tNot, k_If, k_Asg, k_Expr, k_IfS, k_For, k_Lc, k_Lcb, List.map_cons, List.map_nil, List.cons_append, List.nil_append, List.replicate, List.set_cons_zero, List.set_cons_succ, List.all_cons, List.all_nil, Bool.and_true, Bool.true_and, Bool.and_self, and_self, eq_self, if_true, if_false, decide_true, decide_false, Bool.false_eq_true, List.any_cons, List.any_nil, List.length_nil, List.length_cons, Bool.not_true, Bool.not_false, isi_d, isI]
  | str z => simp -implicitDefEqProofs +decide only [bind_ok, bind_ex, then_ok, then_ex, seq_nx, seq_rt, seq_ex, ite_tt, ite_ff, of_some, okOr_some, v0, v1, v2, v3, v4, v5, v6, v7, v8, v9, n0, n1, n2, n3, n4, n5, n6, n7, n8, n9, d_C, d_Op1, d_Op2, d_Mt0, d_Mt1, d_Args0, d_Args, d_Tup, d_Lst, d_LstC, tupK0, tupK1, tupK2, tupK3, tupK4, tupK9, bK_b, d_And, d_Or, d_Not, d_tE, d_tAnd, d_tOr, d_tNot, d_tYes, d_If, d_CallI, isoE_ok, isoE_ex, iso1, iso2, iso3, iso4, iso5, d_CallS, tgK_some, d_Skip, d_Seq, d_Asg, d_Expr, d_Ret, d_IfS, d_For, d_Raise, d_Drop, drop_nx, drop_rt, drop_ex, wipe0, wipeC, d_fn, fin_rt, fin_nx, fin_ex, isoR_d, isoR_ex, add_ii, add_ss, add_tt, add_ll, add_llC, sub_ii, neg_i, lt_ii, le_ii, gt_ii, ge_ii, dep_s, dep_i, dep_b, dep_n, eq_ii, eq_ss, eq_bb, ne_ss, ne_ii, ne_bb, in_dt, in_dl, notin_dt, notin_dl, isN_n, isN_i, isN_t, isN_s, isN_b, isN_l, notN_b, notN_l, notN_n, notN_i, notN_t, notN_s, t0, t1, t2, t3, l0, l1, l2, l3, len_t, len_l, str_i, int_b, tup_t, tup_l, list_lC, list_tC, list_l, list_t, rev_lC, isi_d, rc_s, d_iSeq, seqK_l, seqK_t, d_iRng1, rngK_i, d_Lc, noEx_k, newL_f, newL_t, rng_zero, len_s, d_iTxt, k_tx, d_Sl, k_Sl, k_Sl2, k_Sl3, k_pt0, k_pt1, k_pt, sl_s, d_Fld, d_Meth, d_Make, d_Store, k_Store, k_Store2, inS_1, k_Op1, k_Op2, k_Op2b, k_Mt0, k_Mt1, k_Args, k_Argsb, k_Tup, k_LstC, k_Andb, k_And, k_Orb, k_Or, k_Notb, k_Not, k_tEb, k_tE, k_tAnd, k_tOr, k_tNot, k_If, k_Asg, k_Expr, k_IfS, k_For, k_Lc, k_Lcb, List.map_cons, List.map_nil, List.cons_append, List.nil_append, List.replicate, List.set_cons_zero, List.set_cons_succ, List.all_cons, List.all_nil, Bool.and_true, Bool.true_and, Bool.and_self, and_self, eq_self, if_true, if_false, decide_true, decide_false, Bool.false_eq_true, List.any_cons, List.any_nil, List.length_nil, List.length_cons, Bool.not_true, Bool.not_false, isi_d, isI]
  | list l => exact h.elim
  | dict l => exact h.elim
  | tuple l => exact h.elim


theorem same_1 : ∀ {x : PyData}, okS 1 x → callI g__law_same__1 [x, x] = some (.inr (.bool true)) := by
  intro x h
  unfold g__law_same__1 f__law_same__1
  rw [d_iso]
  cases x with
  | none => simp -implicitDefEqProofs only [bind_ok, bind_ex, then_ok, then_ex, seq_nx, seq_rt, seq_ex, ite_tt, ite_ff, of_some, okOr_some, v0, v1, v2, v3, v4, v5, v6, v7, v8, v9, n0, n1, n2, n3, n4, n5, n6, n7, n8, n9, d_C, d_Op1, d_Op2, d_Mt0, d_Mt1, d_Args0, d_Args, d_Tup, d_Lst, d_LstC, tupK0, tupK1, tupK2, tupK3, tupK4, tupK9, bK_b, d_And, d_Or, d_Not, d_tE, d_tAnd, d_tOr, d_tNot, d_tYes, d_If, d_CallI, isoE_ok, isoE_ex, iso1, iso2, iso3, iso4, iso5, d_CallS, tgK_some, d_Skip, d_Seq, d_Asg, d_Expr, d_Ret, d_IfS, d_For, d_Raise, d_Drop, drop_nx, drop_rt, drop_ex, wipe0, wipeC, d_fn, fin_rt, fin_nx, fin_ex, isoR_d, isoR_ex, add_ii, add_ss, add_tt, add_ll, add_llC, sub_ii, neg_i, lt_ii, le_ii, gt_ii, ge_ii, dep_s, dep_i, dep_b, dep_n, eq_ii, eq_ss, eq_bb, ne_ss, ne_ii, ne_bb, in_dt, in_dl, notin_dt, notin_dl, isN_n, isN_i, isN_t, isN_s, isN_b, isN_l, notN_b, notN_l, notN_n, notN_i, notN_t, notN_s, t0, t1, t2, t3, l0, l1, l2, l3, len_t, len_l, str_i, int_b, tup_t, tup_l, list_lC, list_tC, list_l, list_t, rev_lC, isi_d, rc_s, d_iSeq, seqK_l, seqK_t, d_iRng1, rngK_i, d_Lc, noEx_k, newL_f, newL_t, rng_zero, len_s, d_iTxt, k_tx, d_Sl, k_Sl, k_Sl2, k_Sl3, k_pt0, k_pt1, k_pt, sl_s, d_Fld, d_Meth, d_Make, d_Store, k_Store, k_Store2, inS_1, k_Op1, k_Op2, k_Op2b, k_Mt0, k_Mt1, k_Args, k_Argsb, k_Tup, k_LstC, k_Andb, k_And, k_Orb, k_Or, k_Notb, k_Not, k_tEb, k_tE, k_tAnd, k_tOr, k_tNot, k_If, k_Asg, k_Expr, k_IfS, k_For, k_Lc, k_Lcb, List.map_cons, List.map_nil, List.cons_append, List.nil_append, List.replicate, List.set_cons_zero, List.set_cons_succ, List.all_cons, List.all_nil, Bool.and_true, Bool.true_and, Bool.and_self, and_self, eq_self, if_true, if_false, decide_true, decide_false, Bool.false_eq_true, List.any_cons, List.any_nil, List.length_nil, List.length_cons, Bool.not_true, Bool.not_false, isi_d, isI]
  | bool b => cases b <;> simp -implicitDefEqProofs +decide only [bind_ok, bind_ex, then_ok, then_ex, seq_nx, seq_rt, seq_ex, ite_tt, ite_ff, of_some, okOr_some, v0, v1, v2, v3, v4, v5, v6, v7, v8, v9, n0, n1, n2, n3, n4, n5, n6, n7, n8, n9, d_C, d_Op1, d_Op2, d_Mt0, d_Mt1, d_Args0, d_Args, d_Tup, d_Lst, d_LstC, tupK0, tupK1, tupK2, tupK3, tupK4, tupK9, bK_b, d_And, d_Or, d_Not, d_tE, d_tAnd, d_tOr, d_tNot, d_tYes, d_If, d_CallI, isoE_ok, isoE_ex, iso1, iso2, iso3, iso4, iso5, d_CallS, tgK_some, d_Skip, d_Seq, d_Asg, d_Expr, d_Ret, d_IfS, d_For, d_Raise, d_Drop, drop_nx, drop_rt, drop_ex, wipe0, wipeC, d_fn, fin_rt, fin_nx, fin_ex, isoR_d, isoR_ex, add_ii, add_ss, add_tt, add_ll, add_llC, sub_ii, neg_i, lt_ii, le_ii, gt_ii, ge_ii, dep_s, dep_i, dep_b, dep_n, eq_ii, eq_ss, eq_bb, ne_ss, ne_ii, ne_bb, in_dt, in_dl, notin_dt, notin_dl, isN_n, isN_i, isN_t, isN_s, isN_b, isN_l, notN_b, notN_l, notN_n, notN_i, notN_t, notN_s, t0, t1, t2, t3, l0, l1, l2, l3, len_t, len_l, str_i, int_b, tup_t, tup_l, list_lC, list_tC, list_l, list_t, rev_lC, isi_d, rc_s, d_iSeq, seqK_l, seqK_t, d_iRng1, rngK_i, d_Lc, noEx_k, newL_f, newL_t, rng_zero, len_s, d_iTxt, k_tx, d_Sl, k_Sl, k_Sl2, k_Sl3, k_pt0, k_pt1, k_pt, sl_s, d_Fld, d_Meth, d_Make, d_Store, k_Store, k_Store2, inS_1, k_Op1, k_Op2, k_Op2b, k_Mt0, k_Mt1, k_Args, k_Argsb, k_Tup, k_LstC, k_Andb, k_And, k_Orb, k_Or, k_Notb, k_Not, k_tEb, k_tE, k_tAnd, k_tOr, k_tNot, k_If, k_Asg, k_Expr, k_IfS, k_For, k_Lc, k_Lcb, List.map_cons, List.map_nil, List.cons_append, List.nil_append, List.replicate, List.set_cons_zero, List.set_cons_succ, List.all_cons, List.all_nil, Bool.and_true, Bool.true_and, Bool.and_self, and_self, eq_self, if_true, if_false, decide_true, decide_false, Bool.false_eq_true, List.any_cons, List.any_nil, List.length_nil, List.length_cons, Bool.not_true, Bool.not_false, isi_d, isI] <;> rfl
  | int i => simp -implicitDefEqProofs +decide only [bind_ok, bind_ex, then_ok, then_ex, seq_nx, seq_rt, seq_ex, ite_tt, ite_ff, of_some, okOr_some, v0, v1, v2, v3, v4, v5, v6, v7, v8, v9, n0, n1, n2, n3, n4, n5, n6, n7, n8, n9, d_C, d_Op1, d_Op2, d_Mt0, d_Mt1, d_Args0, d_Args, d_Tup, d_Lst, d_LstC, tupK0, tupK1, tupK2, tupK3, tupK4, tupK9, bK_b, d_And, d_Or, d_Not, d_tE, d_tAnd, d_tOr, d_tNot, d_tYes, d_If, d_CallI, isoE_ok, isoE_ex, iso1, iso2, iso3, iso4, iso5, d_CallS, tgK_some, d_Skip, d_Seq, d_Asg, d_Expr, d_Ret, d_IfS, d_For, d_Raise, d_Drop, drop_nx, drop_rt, drop_ex, wipe0, wipeC, d_fn, fin_rt, fin_nx, fin_ex, isoR_d, isoR_ex, add_ii, add_ss, add_tt, add_ll, add_llC, sub_ii, neg_i, lt_ii, le_ii, gt_ii, ge_ii, dep_s, dep_i, dep_b, dep_n, eq_ii, eq_ss, eq_bb, ne_ss, ne_ii, ne_bb, in_dt, in_dl, notin_dt, notin_dl, isN_n, isN_i, isN_t, isN_s, isN_b, isN_l, notN_b, notN_l, notN_n, notN_i, notN_t, notN_s, t0, t1, t2, t3, l0, l1, l2, l3, len_t, len_l, str_i, int_b, tup_t, tup_l, list_lC, list_tC, list_l, list_t, rev_lC, isi_d, rc_s, d_iSeq, seqK_l, seqK_t, d_iRng1, rngK_i, d_Lc, noEx_k, newL_f, newL_t, rng_zero, len_s, d_iTxt, k_tx, d_Sl, k_Sl, k_Sl2, k_Sl3, k_pt0, k_pt1, k_pt, sl_s, d_Fld, d_Meth, d_Make, d_Store, k_Store, k_Store2, inS_1, k_Op1, k_Op2, k_Op2b, k_Mt0, k_Mt1, k_Args, k_Argsb, k_Tup, k_LstC, k_Andb, k_And, k_Orb, k_Or, k_Notb, k_Not, k_tEb, k_tE, k_tAnd, k_tOr, k_tNot, k_If, k_Asg, k_Expr, k_IfS, k_For, k_Lc, k_Lcb, List.map_cons, List.map_nil, List.cons_append, List.nil_append, List.replicate, List.set_cons_zero, List.set_cons_succ, List.all_cons, List.all_nil, Bool.and_true, Bool.true_and, Bool.and_self, and_self, eq_self, if_true, if_false, decide_true, decide_false, Bool.false_eq_true, List.any_cons, List.any_nil, List.length_nil, List.length_cons, Bool.not_true, Bool.not_false, isi_d, isI]
  | str z => simp -implicitDefEqProofs +decide only [bind_ok, bind_ex, then_ok, then_ex, seq_nx, seq_rt, seq_ex, ite_tt, ite_ff, of_some, okOr_some, v0, v1, v2, v3, v4, v5, v6, v7, v8, v9, n0, n1, n2, n3, n4, n5, n6, n7, n8, n9, d_C, d_Op1, d_Op2, d_Mt0, d_Mt1, d_Args0, d_Args, d_Tup, d_Lst, d_LstC, tupK0, tupK1, tupK2, tupK3, tupK4, tupK9, bK_b, d_And, d_Or, d_Not, d_tE, d_tAnd, d_tOr, d_tNot, d_tYes, d_If, d_CallI, isoE_ok, isoE_ex, iso1, iso2, iso3, iso4, iso5, d_CallS, tgK_some, d_Skip, d_Seq, d_Asg, d_Expr, d_Ret, d_IfS, d_For, d_Raise, d_Drop, drop_nx, drop_rt, drop_ex, wipe0, wipeC, d_fn, fin_rt, fin_nx, fin_ex, isoR_d, isoR_ex, add_ii, add_ss, add_tt, add_ll, add_llC, sub_ii, neg_i, lt_ii, le_ii, gt_ii, ge_ii, dep_s, dep_i, dep_b, dep_n, eq_ii, eq_ss, eq_bb, ne_ss, ne_ii, ne_bb, in_dt, in_dl, notin_dt, notin_dl, isN_n, isN_i, isN_t, isN_s, isN_b, isN_l, notN_b, notN_l, notN_n, notN_i, notN_t, notN_s, t0, t1, t2, t3, l0, l1, l2, l3, len_t, len_l, str_i, int_b, tup_t, tup_l, list_lC, list_tC, list_l, list_t, rev_lC, isi_d, rc_s, d_iSeq, seqK_l, seqK_t, d_iRng1, rngK_i, d_Lc, noEx_k, newL_f, newL_t, rng_zero, len_s, d_iTxt, k_tx, d_Sl, k_Sl, k_Sl2, k_Sl3, k_pt0, k_pt1, k_pt, sl_s, d_Fld, d_Meth, d_Make, d_Store, k_Store, k_Store2, inS_1, k_Op1, k_Op2, k_Op2b, k_Mt0, k_Mt1, k_Args, k_Argsb, k_Tup, k_LstC, k_Andb, k_And, k_Orb, k_Or, k_Notb, k_Not, k_tEb, k_tE, k_tAnd, k_tOr, k_tNot, k_If, k_Asg, k_Expr, k_IfS, k_For, k_Lc, k_Lcb, List.map_cons, List.map_nil, List.cons_append, List.nil_append, List.replicate, List.set_cons_zero, List.set_cons_succ, List.all_cons, List.all_nil, Bool.and_true, Bool.true_and, Bool.and_self, and_self, eq_self, if_true, if_false, decide_true, decide_false, Bool.false_eq_true, List.any_cons, List.any_nil, List.length_nil, List.length_cons, Bool.not_true, Bool.not_false, isi_d, isI]
  | list l => exact h.elim
  | dict l => exact h.elim
  | tuple l =>
    have h : l.length ≤ 1000 ∧ ∀ y ∈ l, okS 0 y := h
    have hl := lc_pure (g := gN 2) (t := tYes) (e := eCallI g__law_same__0 [eOp2 oIx (eVar 0) (eVar 2), eOp2 oIx (eVar 1) (eVar 2)]) (ρ := [some (vT l), some (vT l), none]) (S := []) (f := fun k : Nat => .int (0 + (k : Int))) (h := fun _ => .bool true) (List.range l.length) [] (by unfold LINE; simp; omega) fun k hk => ⟨[some (vT l), some (vT l), some (vI (0 + (k : Int)))], rfl, rfl, by
      have hk := List.mem_range.1 hk
      have hx : oIx (vT l) (vI (0 + (k : Int))) [] = some (.d l[k], []) := by
        rw [Int.zero_add]
        exact ix_t (L2.atI_nat (List.getElem?_eq_getElem hk))
      simp -implicitDefEqProofs only [bind_ok, bind_ex, then_ok, then_ex, seq_nx, seq_rt, seq_ex, ite_tt, ite_ff, of_some, okOr_some, v0, v1, v2, v3, v4, v5, v6, v7, v8, v9, n0, n1, n2, n3, n4, n5, n6, n7, n8, n9, d_C, d_Op1, d_Op2, d_Mt0, d_Mt1, d_Args0, d_Args, d_Tup, d_Lst, d_LstC, tupK0, tupK1, tupK2, tupK3, tupK4, tupK9, bK_b, d_And, d_Or, d_Not, d_tE, d_tAnd, d_tOr, d_tNot, d_tYes, d_If, d_CallI, isoE_ok, isoE_ex, iso1, iso2, iso3, iso4, iso5, d_CallS, tgK_some, d_Skip, d_Seq, d_Asg, d_Expr, d_Ret, d_IfS, d_For, d_Raise, d_Drop, drop_nx, drop_rt, drop_ex, wipe0, wipeC, d_fn, fin_rt, fin_nx, fin_ex, isoR_d, isoR_ex, add_ii, add_ss, add_tt, add_ll, add_llC, sub_ii, neg_i, lt_ii, le_ii, gt_ii, ge_ii, dep_s, dep_i, dep_b, dep_n, eq_ii, eq_ss, eq_bb, ne_ss, ne_ii, ne_bb, in_dt, in_dl, notin_dt, notin_dl, isN_n, isN_i, isN_t, isN_s, isN_b, isN_l, notN_b, notN_l, notN_n, notN_i, notN_t, notN_s, t0, t1, t2, t3, l0, l1, l2, l3, len_t, len_l, str_i, int_b, tup_t, tup_l, list_lC, list_tC, list_l, list_t, rev_lC, isi_d, rc_s, d_iSeq, seqK_l, seqK_t, d_iRng1, rngK_i, d_Lc, noEx_k, newL_f, newL_t, rng_zero, len_s, d_iTxt, k_tx, d_Sl, k_Sl, k_Sl2, k_Sl3, k_pt0, k_pt1, k_pt, sl_s, d_Fld, d_Meth, d_Make, d_Store, k_Store, k_Store2, inS_1, k_Op1, k_Op2, k_Op2b, k_Mt0, k_Mt1, k_Args, k_Argsb, k_Tup, k_LstC, k_Andb, k_And, k_Orb, k_Or, k_Notb, k_Not, k_tEb, k_tE, k_tAnd, k_tOr, k_tNot, k_If, k_Asg, k_Expr, k_IfS, k_For, k_Lc, k_Lcb, List.map_cons, List.map_nil, List.cons_append, List.nil_append, List.replicate, List.set_cons_zero, List.set_cons_succ, List.all_cons, List.all_nil, Bool.and_true, Bool.true_and, Bool.and_self, and_self, eq_self, if_true, if_false, decide_true, decide_false, Bool.false_eq_true, List.any_cons, List.any_nil, List.length_nil, List.length_cons, Bool.not_true, Bool.not_false, hx, same_0 (h.2 _ (List.getElem_mem hk))]⟩
    have hl' : lcL (gN 2) tYes (eCallI g__law_same__0 [eOp2 oIx (eVar 0) (eVar 2), eOp2 oIx (eVar 1) (eVar 2)]) [some (vT l), some (vT l), none] (rng 0 l.length) [] [] = _ := hl
    have ha := @all_l [] ((List.range l.length).map fun _ => true)
    rw [List.map_map] at ha
    have ht : (((List.range l.length).map fun _ => true).all id) = true := by simp
    rw [ht] at ha
    simp only [Function.comp_def] at ha
    simp -implicitDefEqProofs +decide only [bind_ok, bind_ex, then_ok, then_ex, seq_nx, seq_rt, seq_ex, ite_tt, ite_ff, of_some, okOr_some, v0, v1, v2, v3, v4, v5, v6, v7, v8, v9, n0, n1, n2, n3, n4, n5, n6, n7, n8, n9, d_C, d_Op1, d_Op2, d_Mt0, d_Mt1, d_Args0, d_Args, d_Tup, d_Lst, d_LstC, tupK0, tupK1, tupK2, tupK3, tupK4, tupK9, bK_b, d_And, d_Or, d_Not, d_tE, d_tAnd, d_tOr, d_tNot, d_tYes, d_If, d_CallI, isoE_ok, isoE_ex, iso1, iso2, iso3, iso4, iso5, d_CallS, tgK_some, d_Skip, d_Seq, d_Asg, d_Expr, d_Ret, d_IfS, d_For, d_Raise, d_Drop, drop_nx, drop_rt, drop_ex, wipe0, wipeC, d_fn, fin_rt, fin_nx, fin_ex, isoR_d, isoR_ex, add_ii, add_ss, add_tt, add_ll, add_llC, sub_ii, neg_i, lt_ii, le_ii, gt_ii, ge_ii, dep_s, dep_i, dep_b, dep_n, eq_ii, eq_ss, eq_bb, ne_ss, ne_ii, ne_bb, in_dt, in_dl, notin_dt, notin_dl, isN_n, isN_i, isN_t, isN_s, isN_b, isN_l, notN_b, notN_l, notN_n, notN_i, notN_t, notN_s, t0, t1, t2, t3, l0, l1, l2, l3, len_t, len_l, str_i, int_b, tup_t, tup_l, list_lC, list_tC, list_l, list_t, rev_lC, isi_d, rc_s, d_iSeq, seqK_l, seqK_t, d_iRng1, rngK_i, d_Lc, noEx_k, newL_f, newL_t, rng_zero, len_s, d_iTxt, k_tx, d_Sl, k_Sl, k_Sl2, k_Sl3, k_pt0, k_pt1, k_pt, sl_s, d_Fld, d_Meth, d_Make, d_Store, k_Store, k_Store2, inS_1, k_Op1, k_Op2, k_Op2b, k_Mt0, k_Mt1, k_Args, k_Argsb, k_Tup, k_LstC, k_Andb, k_And, k_Orb, k_Or, k_Notb, k_Not, k_tEb, k_tE, k_tAnd, k_tOr, k_tNot, k_If, k_Asg, k_Expr, k_IfS, k_For, k_Lc, k_Lcb, List.map_cons, List.map_nil, List.cons_append, List.nil_append, List.replicate, List.set_cons_zero, List.set_cons_succ, List.all_cons, List.all_nil, Bool.and_true, Bool.true_and, Bool.and_self, and_self, eq_self, if_true, if_false, decide_true, decide_false, Bool.false_eq_true, List.any_cons, List.any_nil, List.length_nil, List.length_cons, Bool.not_true, Bool.not_false, isi_d, isI, rngK_i (j := (l.length : Int)) (by omega), Int.toNat_natCast, hl', ha]


theorem same_2 : ∀ {x : PyData}, okS 2 x → callI g__law_same__2 [x, x] = some (.inr (.bool true)) := by
  intro x h
  unfold g__law_same__2 f__law_same__2
  rw [d_iso]
  cases x with
  | none => simp -implicitDefEqProofs only [bind_ok, bind_ex, then_ok, then_ex, seq_nx, seq_rt, seq_ex, ite_tt, ite_ff, of_some, okOr_some, v0, v1, v2, v3, v4, v5, v6, v7, v8, v9, n0, n1, n2, n3, n4, n5, n6, n7, n8, n9, d_C, d_Op1, d_Op2, d_Mt0, d_Mt1, d_Args0, d_Args, d_Tup, d_Lst, d_LstC, tupK0, tupK1, tupK2, tupK3, tupK4, tupK9, bK_b, d_And, d_Or, d_Not, d_tE, d_tAnd, d_tOr, d_tNot, d_tYes, d_If, d_CallI, isoE_ok, isoE_ex, iso1, iso2, iso3, iso4, iso5, d_CallS, tgK_some, d_Skip, d_Seq, d_Asg, d_Expr, d_Ret, d_IfS, d_For, d_Raise, d_Drop, drop_nx, drop_rt, drop_ex, wipe0, wipeC, d_fn, fin_rt, fin_nx, fin_ex, isoR_d, isoR_ex, add_ii, add_ss, add_tt, add_ll, add_llC, sub_ii, neg_i, lt_ii, le_ii, gt_ii, ge_ii, dep_s, dep_i, dep_b, dep_n, eq_ii, eq_ss, eq_bb, ne_ss, ne_ii, ne_bb, in_dt, in_dl, notin_dt, notin_dl, isN_n, isN_i, isN_t, isN_s, isN_b, isN_l, notN_b, notN_l, notN_n, notN_i, notN_t, notN_s, t0, t1, t2, t3, l0, l1, l2, l3, len_t, len_l, str_i, int_b, tup_t, tup_l, list_lC, list_tC, list_l, list_t, rev_lC, isi_d, rc_s, d_iSeq, seqK_l, seqK_t, d_iRng1, rngK_i, d_Lc, noEx_k, newL_f, newL_t, rng_zero, len_s, d_iTxt, k_tx, d_Sl, k_Sl, k_Sl2, k_Sl3, k_pt0, k_pt1, k_pt, sl_s, d_Fld, d_Meth, d_Make, d_Store, k_Store, k_Store2, inS_1, k_Op1, k_Op2, k_Op2b, k_Mt0, k_Mt1, k_Args, k_Argsb, k_Tup, k_LstC, k_Andb, k_And, k_Orb, k_Or, k_Notb, k_Not, k_tEb, k_tE, k_tAnd, k_tOr, k_tNot, k_If, k_Asg, k_Expr, k_IfS, k_For, k_Lc, k_Lcb, List.map_cons, List.map_nil, List.cons_append, List.nil_append, List.replicate, List.set_cons_zero, List.set_cons_succ, List.all_cons, List.all_nil, Bool.and_true, Bool.true_and, Bool.and_self, and_self, eq_self, if_true, if_false, decide_true, decide_false, Bool.false_eq_true, List.any_cons, List.any_nil, List.length_nil, List.length_cons, Bool.not_true, Bool.not_false, isi_d, isI]
  | bool b => cases b <;> simp -implicitDefEqProofs +decide only [bind_ok, bind_ex, then_ok, then_ex, seq_nx, seq_rt, seq_ex, ite_tt, ite_ff, of_some, okOr_some, v0, v1, v2, v3, v4, v5, v6, v7, v8, v9, n0, n1, n2, n3, n4, n5, n6, n7, n8, n9, d_C, d_Op1, d_Op2, d_Mt0, d_Mt1, d_Args0, d_Args, d_Tup, d_Lst, d_LstC, tupK0, tupK1, tupK2, tupK3, tupK4, tupK9, bK_b, d_And, d_Or, d_Not, d_tE, d_tAnd, d_tOr, d_tNot, d_tYes, d_If, d_CallI, isoE_ok, isoE_ex, iso1, iso2, iso3, iso4, iso5, d_CallS, tgK_some, d_Skip, d_Seq, d_Asg, d_Expr, d_Ret, d_IfS, d_For, d_Raise, d_Drop, drop_nx, drop_rt, drop_ex, wipe0, wipeC, d_fn, fin_rt, fin_nx, fin_ex, isoR_d, isoR_ex, add_ii, add_ss, add_tt, add_ll, add_llC, sub_ii, neg_i, lt_ii, le_ii, gt_ii, ge_ii, dep_s, dep_i, dep_b, dep_n, eq_ii, eq_ss, eq_bb, ne_ss, ne_ii, ne_bb, in_dt, in_dl, notin_dt, notin_dl, isN_n, isN_i, isN_t, isN_s, isN_b, isN_l, notN_b, notN_l, notN_n, notN_i, notN_t, notN_s, t0, t1, t2, t3, l0, l1, l2, l3, len_t, len_l, str_i, int_b, tup_t, tup_l, list_lC, list_tC, list_l, list_t, rev_lC, isi_d, rc_s, d_iSeq, seqK_l, seqK_t, d_iRng1, rngK_i, d_Lc, noEx_k, newL_f, newL_t, rng_zero, len_s, d_iTxt, k_tx, d_Sl, k_Sl, k_Sl2, k_Sl3, k_pt0, k_pt1, k_pt, sl_s, d_Fld, d_Meth, d_Make, d_Store, k_Store, k_Store2, inS_1, k_Op1, k_Op2, k_Op2b, k_Mt0, k_Mt1, k_Args, k_Argsb, k_Tup, k_LstC, k_Andb, k_And, k_Orb, k_Or, k_Notb, k_Not, k_tEb, k_tE, k_tAnd, k_tOr, k_tNot, k_If, k_Asg, k_Expr, k_IfS, k_For, k_Lc, k_Lcb, List.map_cons, List.map_nil, List.cons_append, List.nil_append, List.replicate, List.set_cons_zero, List.set_cons_succ, List.all_cons, List.all_nil, Bool.and_true, Bool.true_and, Bool.and_self, and_self, eq_self, if_true, if_false, decide_true, decide_false, Bool.false_eq_true, List.any_cons, List.any_nil, List.length_nil, List.length_cons, Bool.not_true, Bool.not_false, isi_d, isI] <;> rfl
  | int i => simp -implicitDefEqProofs +decide only [bind_ok, bind_ex, then_ok, then_ex, seq_nx, seq_rt, seq_ex, ite_tt, ite_ff, of_some, okOr_some, v0, v1, v2, v3, v4, v5, v6, v7, v8, v9, n0, n1, n2, n3, n4, n5, n6, n7, n8, n9, d_C, d_Op1, d_Op2, d_Mt0, d_Mt1, d_Args0, d_Args, d_Tup, d_Lst, d_LstC, tupK0, tupK1, tupK2, tupK3, tupK4, tupK9, bK_b, d_And, d_Or, d_Not, d_tE, d_tAnd, d_tOr, d_tNot, d_tYes, d_If, d_CallI, isoE_ok, isoE_ex, iso1, iso2, iso3, iso4, iso5, d_CallS, tgK_some, d_Skip, d_Seq, d_Asg, d_Expr, d_Ret, d_IfS, d_For, d_Raise, d_Drop, drop_nx, drop_rt, drop_ex, wipe0, wipeC, d_fn, fin_rt, fin_nx, fin_ex, isoR_d, isoR_ex, add_ii, add_ss, add_tt, add_ll, add_llC, sub_ii, neg_i, lt_ii, le_ii, gt_ii, ge_ii, dep_s, dep_i, dep_b, dep_n, eq_ii, eq_ss, eq_bb, ne_ss, ne_ii, ne_bb, in_dt, in_dl, notin_dt, notin_dl, isN_n, isN_i, isN_t, isN_s, isN_b, isN_l, notN_b, notN_l, notN_n, notN_i, notN_t, notN_s, t0, t1, t2, t3, l0, l1, l2, l3, len_t, len_l, str_i, int_b, tup_t, tup_l, list_lC, list_tC, list_l, list_t, rev_lC, isi_d, rc_s, d_iSeq, seqK_l, seqK_t, d_iRng1, rngK_i, d_Lc, noEx_k, newL_f, newL_t, rng_zero, len_s, d_iTxt, k_tx, d_Sl, k_Sl, k_Sl2, k_Sl3, k_pt0, k_pt1, k_pt, sl_s, d_Fld, d_Meth, d_Make, d_Store, k_Store, k_Store2, inS_1, k_Op1, k_Op2, k_Op2b, k_Mt0, k_Mt1, k_Args, k_Argsb, k_Tup, k_LstC, k_Andb, k_And, k_Orb, k_Or, k_Notb, k_Not, k_tEb, k_tE, k_tAnd, k_tOr, k_tNot, k_If, k_Asg, k_Expr, k_IfS, k_For, k_Lc, k_Lcb, List.map_cons, List.map_nil, List.cons_append, List.nil_append, List.replicate, List.set_cons_zero, List.set_cons_succ, List.all_cons, List.all_nil, Bool.and_true, Bool.true_and, Bool.and_self, and_self, eq_self, if_true, if_false, decide_true, decide_false, Bool.false_eq_true, List.any_cons, List.any_nil, List.length_nil, List.length_cons, Bool.not_true, Bool.not_false, isi_d, isI]
  | str z => simp -implicitDefEqProofs +decide only [bind_ok, bind_ex, then_ok, then_ex, seq_nx, seq_rt, seq_ex, ite_tt, ite_ff, of_some, okOr_some, v0, v1, v2, v3, v4, v5, v6, v7, v8, v9, n0, n1, n2, n3, n4, n5, n6, n7, n8, n9, d_C, d_Op1, d_Op2, d_Mt0, d_Mt1, d_Args0, d_Args, d_Tup, d_Lst, d_LstC, tupK0, tupK1, tupK2, tupK3, tupK4, tupK9, bK_b, d_And, d_Or, d_Not, d_tE, d_tAnd, d_tOr, d_tNot, d_tYes, d_If, d_CallI, isoE_ok, isoE_ex, iso1, iso2, iso3, iso4, iso5, d_CallS, tgK_some, d_Skip, d_Seq, d_Asg, d_Expr, d_Ret, d_IfS, d_For, d_Raise, d_Drop, drop_nx, drop_rt, drop_ex, wipe0, wipeC, d_fn, fin_rt, fin_nx, fin_ex, isoR_d, isoR_ex, add_ii, add_ss, add_tt, add_ll, add_llC, sub_ii, neg_i, lt_ii, le_ii, gt_ii, ge_ii, dep_s, dep_i, dep_b, dep_n, eq_ii, eq_ss, eq_bb, ne_ss, ne_ii, ne_bb, in_dt, in_dl, notin_dt, notin_dl, isN_n, isN_i, isN_t, isN_s, isN_b, isN_l, notN_b, notN_l, notN_n, notN_i, notN_t, notN_s, t0, t1, t2, t3, l0, l1, l2, l3, len_t, len_l, str_i, int_b, tup_t, tup_l, list_lC, list_tC, list_l, list_t, rev_lC, isi_d, rc_s, d_iSeq, seqK_l, seqK_t, d_iRng1, rngK_i, d_Lc, noEx_k, newL_f, newL_t, rng_zero, len_s, d_iTxt, k_tx, d_Sl, k_Sl, k_Sl2, k_Sl3, k_pt0, k_pt1, k_pt, sl_s, d_Fld, d_Meth, d_Make, d_Store, k_Store, k_Store2, inS_1, k_Op1, k_Op2, k_Op2b, k_Mt0, k_Mt1, k_Args, k_Argsb, k_Tup, k_LstC, k_Andb, k_And, k_Orb, k_Or, k_Notb, k_Not, k_tEb, k_tE, k_tAnd, k_tOr, k_tNot, k_If, k_Asg, k_Expr, k_IfS, k_For, k_Lc, k_Lcb, List.map_cons, List.map_nil, List.cons_append, List.nil_append, List.replicate, List.set_cons_zero, List.set_cons_succ, List.all_cons, List.all_nil, Bool.and_true, Bool.true_and, Bool.and_self, and_self, eq_self, if_true, if_false, decide_true, decide_false, Bool.false_eq_true, List.any_cons, List.any_nil, List.length_nil, List.length_cons, Bool.not_true, Bool.not_false, isi_d, isI]
  | list l => exact h.elim
  | dict l => exact h.elim
  | tuple l =>
    have h : l.length ≤ 1000 ∧ ∀ y ∈ l, okS 1 y := h
    have hl := lc_pure (g := gN 2) (t := tYes) (e := eCallI g__law_same__1 [eOp2 oIx (eVar 0) (eVar 2), eOp2 oIx (eVar 1) (eVar 2)]) (ρ := [some (vT l), some (vT l), none]) (S := []) (f := fun k : Nat => .int (0 + (k : Int))) (h := fun _ => .bool true) (List.range l.length) [] (by unfold LINE; simp; omega) fun k hk => ⟨[some (vT l), some (vT l), some (vI (0 + (k : Int)))], rfl, rfl, by
      have hk := List.mem_range.1 hk
      have hx : oIx (vT l) (vI (0 + (k : Int))) [] = some (.d l[k], []) := by
        rw [Int.zero_add]
        exact ix_t (L2.atI_nat (List.getElem?_eq_getElem hk))
      simp -implicitDefEqProofs only [bind_ok, bind_ex, then_ok, then_ex, seq_nx, seq_rt, seq_ex, ite_tt, ite_ff, of_some, okOr_some, v0, v1, v2, v3, v4, v5, v6, v7, v8, v9, n0, n1, n2, n3, n4, n5, n6, n7, n8, n9, d_C, d_Op1, d_Op2, d_Mt0, d_Mt1, d_Args0, d_Args, d_Tup, d_Lst, d_LstC, tupK0, tupK1, tupK2, tupK3, tupK4, tupK9, bK_b, d_And, d_Or, d_Not, d_tE, d_tAnd, d_tOr, d_tNot, d_tYes, d_If, d_CallI, isoE_ok, isoE_ex, iso1, iso2, iso3, iso4, iso5, d_CallS, tgK_some, d_Skip, d_Seq, d_Asg, d_Expr, d_Ret, d_IfS, d_For, d_Raise, d_Drop, drop_nx, drop_rt, drop_ex, wipe0, wipeC, d_fn, fin_rt, fin_nx, fin_ex, isoR_d, isoR_ex, add_ii, add_ss, add_tt, add_ll, add_llC, sub_ii, neg_i, lt_ii, le_ii, gt_ii, ge_ii, dep_s, dep_i, dep_b, dep_n, eq_ii, eq_ss, eq_bb, ne_ss, ne_ii, ne_bb, in_dt, in_dl, notin_dt, notin_dl, isN_n, isN_i, isN_t, isN_s, isN_b, isN_l, notN_b, notN_l, notN_n, notN_i, notN_t, notN_s, t0, t1, t2, t3, l0, l1, l2, l3, len_t, len_l, str_i, int_b, tup_t, tup_l, list_lC, list_tC, list_l, list_t, rev_lC, isi_d, rc_s, d_iSeq, seqK_l, seqK_t, d_iRng1, rngK_i, d_Lc, noEx_k, newL_f, newL_t, rng_zero, len_s, d_iTxt, k_tx, d_Sl, k_Sl, k_Sl2, k_Sl3, k_pt0, k_pt1, k_pt, sl_s, d_Fld, d_Meth, d_Make, d_Store, k_Store, k_Store2, inS_1, k_Op1, k_Op2, k_Op2b, k_Mt0, k_Mt1, k_Args, k_Argsb, k_Tup, k_LstC, k_Andb, k_And, k_Orb, k_Or, k_Notb, k_Not, k_tEb, k_tE, k_tAnd, k_tOr, k_tNot, k_If, k_Asg, k_Expr, k_IfS, k_For, k_Lc, k_Lcb, List.map_cons, List.map_nil, List.cons_append, List.nil_append, List.replicate, List.set_cons_zero, List.set_cons_succ, List.all_cons, List.all_nil, Bool.and_true, Bool.true_and, Bool.and_self, and_self, eq_self, if_true, if_false, decide_true, decide_false, Bool.false_eq_true, List.any_cons, List.any_nil, List.length_nil, List.length_cons, Bool.not_true, Bool.not_false, hx, same_1 (h.2 _ (List.getElem_mem hk))]⟩
    have hl' : lcL (gN 2) tYes (eCallI g__law_same__1 [eOp2 oIx (eVar 0) (eVar 2), eOp2 oIx (eVar 1) (eVar 2)]) [some (vT l), some (vT l), none] (rng 0 l.length) [] [] = _ := hl
    have ha := @all_l [] ((List.range l.length).map fun _ => true)
    rw [List.map_map] at ha
    have ht : (((List.range l.length).map fun _ => true).all id) = true := by simp
    rw [ht] at ha
    simp only [Function.comp_def] at ha
    simp -implicitDefEqProofs +decide only [bind_ok, bind_ex, then_ok, then_ex, seq_nx, seq_rt, seq_ex, ite_tt, ite_ff, of_some, okOr_some, v0, v1, v2, v3, v4, v5, v6, v7, v8, v9, n0, n1, n2, n3, n4, n5, n6, n7, n8, n9, d_C, d_Op1, d_Op2, d_Mt0, d_Mt1, d_Args0, d_Args, d_Tup, d_Lst, d_LstC, tupK0, tupK1, tupK2, tupK3, tupK4, tupK9, bK_b, d_And, d_Or, d_Not, d_tE, d_tAnd, d_tOr, d_tNot, d_tYes, d_If, d_CallI, isoE_ok, isoE_ex, iso1, iso2, iso3, iso4, iso5, d_CallS, tgK_some, d_Skip, d_Seq, d_Asg, d_Expr, d_Ret, d_IfS, d_For, d_Raise, d_Drop, drop_nx, drop_rt, drop_ex, wipe0, wipeC, d_fn, fin_rt, fin_nx, fin_ex, isoR_d, isoR_ex, add_ii, add_ss, add_tt, add_ll, add_llC, sub_ii, neg_i, lt_ii, le_ii, gt_ii, ge_ii, dep_s, dep_i, dep_b, dep_n, eq_ii, eq_ss, eq_bb, ne_ss, ne_ii, ne_bb, in_dt, in_dl, notin_dt, notin_dl, isN_n, isN_i, isN_t, isN_s, isN_b, isN_l, notN_b, notN_l, notN_n, notN_i, notN_t, notN_s, t0, t1, t2, t3, l0, l1, l2, l3, len_t, len_l, str_i, int_b, tup_t, tup_l, list_lC, list_tC, list_l, list_t, rev_lC, isi_d, rc_s, d_iSeq, seqK_l, seqK_t, d_iRng1, rngK_i, d_Lc, noEx_k, newL_f, newL_t, rng_zero, len_s, d_iTxt, k_tx, d_Sl, k_Sl, k_Sl2, k_Sl3, k_pt0, k_pt1, k_pt, sl_s, d_Fld, d_Meth, d_Make, d_Store, k_Store, k_Store2, inS_1, k_Op1, k_Op2, k_Op2b, k_Mt0, k_Mt1, k_Args, k_Argsb, k_Tup, k_LstC, k_Andb, k_And, k_Orb, k_Or, k_Notb, k_Not, k_tEb, k_tE, k_tAnd, k_tOr, k_tNot, k_If, k_Asg, k_Expr, k_IfS, k_For, k_Lc, k_Lcb, List.map_cons, List.map_nil, List.cons_append, List.nil_append, List.replicate, List.set_cons_zero, List.set_cons_succ, List.all_cons, List.all_nil, Bool.and_true, Bool.true_and, Bool.and_self, and_self, eq_self, if_true, if_false, decide_true, decide_false, Bool.false_eq_true, List.any_cons, List.any_nil, List.length_nil, List.length_cons, Bool.not_true, Bool.not_false, isi_d, isI, rngK_i (j := (l.length : Int)) (by omega), Int.toNat_natCast, hl', ha]


theorem same_3 : ∀ {x : PyData}, okS 3 x → callI g__law_same__3 [x, x] = some (.inr (.bool true)) := by
  intro x h
  unfold g__law_same__3 f__law_same__3
  rw [d_iso]
  cases x with
  | none => simp -implicitDefEqProofs only [bind_ok, bind_ex, then_ok, then_ex, seq_nx, seq_rt, seq_ex, ite_tt, ite_ff, of_some, okOr_some, v0, v1, v2, v3, v4, v5, v6, v7, v8, v9, n0, n1, n2, n3, n4, n5, n6, n7, n8, n9, d_C, d_Op1, d_Op2, d_Mt0, d_Mt1, d_Args0, d_Args, d_Tup, d_Lst, d_LstC, tupK0, tupK1, tupK2, tupK3, tupK4, tupK9, bK_b, d_And, d_Or, d_Not, d_tE, d_tAnd, d_tOr, d_tNot, d_tYes, d_If, d_CallI, isoE_ok, isoE_ex, iso1, iso2, iso3, iso4, iso5, d_CallS, tgK_some, d_Skip, d_Seq, d_Asg, d_Expr, d_Ret, d_IfS, d_For, d_Raise, d_Drop, drop_nx, drop_rt, drop_ex, wipe0, wipeC, d_fn, fin_rt, fin_nx, fin_ex, isoR_d, isoR_ex, add_ii, add_ss, add_tt, add_ll, add_llC, sub_ii, neg_i, lt_ii, le_ii, gt_ii, ge_ii, dep_s, dep_i, dep_b, dep_n, eq_ii, eq_ss, eq_bb, ne_ss, ne_ii, ne_bb, in_dt, in_dl, notin_dt, notin_dl, isN_n, isN_i, isN_t, isN_s, isN_b, isN_l, notN_b, notN_l, notN_n, notN_i, notN_t, notN_s, t0, t1, t2, t3, l0, l1, l2, l3, len_t, len_l, str_i, int_b, tup_t, tup_l, list_lC, list_tC, list_l, list_t, rev_lC, isi_d, rc_s, d_iSeq, seqK_l, seqK_t, d_iRng1, rngK_i, d_Lc, noEx_k, newL_f, newL_t, rng_zero, len_s, d_iTxt, k_tx, d_Sl, k_Sl, k_Sl2, k_Sl3, k_pt0, k_pt1, k_pt, sl_s, d_Fld, d_Meth, d_Make, d_Store, k_Store, k_Store2, inS_1, k_Op1, k_Op2, k_Op2b, k_Mt0, k_Mt1, k_Args, k_Argsb, k_Tup, k_LstC, k_Andb, k_And, k_Orb, k_Or, k_Notb, k_Not, k_tEb, k_tE, k_tAnd, k_tOr, k_tNot, k_If, k_Asg, k_Expr, k_IfS, k_For, k_Lc, k_Lcb, List.map_cons, List.map_nil, List.cons_append, List.nil_append, List.replicate, List.set_cons_zero, List.set_cons_succ, List.all_cons, List.all_nil, Bool.and_true, Bool.true_and, Bool.and_self, and_self, eq_self, if_true, if_false, decide_true, decide_false, Bool.false_eq_true, List.any_cons, List.any_nil, List.length_nil, List.length_cons, Bool.not_true, Bool.not_false, isi_d, isI]
  | bool b => cases b <;> simp -implicitDefEqProofs +decide only [bind_ok, bind_ex, then_ok, then_ex, seq_nx, seq_rt, seq_ex, ite_tt, ite_ff, of_some, okOr_some, v0, v1, v2, v3, v4, v5, v6, v7, v8, v9, n0, n1, n2, n3, n4, n5, n6, n7, n8, n9, d_C, d_Op1, d_Op2, d_Mt0, d_Mt1, d_Args0, d_Args, d_Tup, d_Lst, d_LstC, tupK0, tupK1, tupK2, tupK3, tupK4, tupK9, bK_b, d_And, d_Or, d_Not, d_tE, d_tAnd, d_tOr, d_tNot, d_tYes, d_If, d_CallI, isoE_ok, isoE_ex, iso1, iso2, iso3, iso4, iso5, d_CallS, tgK_some, d_Skip, d_Seq, d_Asg, d_Expr, d_Ret, d_IfS, d_For, d_Raise, d_Drop, drop_nx, drop_rt, drop_ex, wipe0, wipeC, d_fn, fin_rt, fin_nx, fin_ex, isoR_d, isoR_ex, add_ii, add_ss, add_tt, add_ll, add_llC, sub_ii, neg_i, lt_ii, le_ii, gt_ii, ge_ii, dep_s, dep_i, dep_b, dep_n, eq_ii, eq_ss, eq_bb, ne_ss, ne_ii, ne_bb, in_dt, in_dl, notin_dt, notin_dl, isN_n, isN_i, isN_t, isN_s, isN_b, isN_l, notN_b, notN_l, notN_n, notN_i, notN_t, notN_s, t0, t1, t2, t3, l0, l1, l2, l3, len_t, len_l, str_i, int_b, tup_t, tup_l, list_lC, list_tC, list_l, list_t, rev_lC, isi_d, rc_s, d_iSeq, seqK_l, seqK_t, d_iRng1, rngK_i, d_Lc, noEx_k, newL_f, newL_t, rng_zero, len_s, d_iTxt, k_tx, d_Sl, k_Sl, k_Sl2, k_Sl3, k_pt0, k_pt1, k_pt, sl_s, d_Fld, d_Meth, d_Make, d_Store, k_Store, k_Store2, inS_1, k_Op1, k_Op2, k_Op2b, k_Mt0, k_Mt1, k_Args, k_Argsb, k_Tup, k_LstC, k_Andb, k_And, k_Orb, k_Or, k_Notb, k_Not, k_tEb, k_tE, k_tAnd, k_tOr, k_tNot, k_If, k_Asg, k_Expr, k_IfS, k_For, k_Lc, k_Lcb, List.map_cons, List.map_nil, List.cons_append, List.nil_append, List.replicate, List.set_cons_zero, List.set_cons_succ, List.all_cons, List.all_nil, Bool.and_true, Bool.true_and, Bool.and_self, and_self, eq_self, if_true, if_false, decide_true, decide_false, Bool.false_eq_true, List.any_cons, List.any_nil, List.length_nil, List.length_cons, Bool.not_true, Bool.not_false, isi_d, isI] <;> rfl
  | int i => simp -implicitDefEqProofs +decide only [bind_ok, bind_ex, then_ok, then_ex, seq_nx, seq_rt, seq_ex, ite_tt, ite_ff, of_some, okOr_some, v0, v1, v2, v3, v4, v5, v6, v7, v8, v9, n0, n1, n2, n3, n4, n5, n6, n7, n8, n9, d_C, d_Op1, d_Op2, d_Mt0, d_Mt1, d_Args0, d_Args, d_Tup, d_Lst, d_LstC, tupK0, tupK1, tupK2, tupK3, tupK4, tupK9, bK_b, d_And, d_Or, d_Not, d_tE, d_tAnd, d_tOr, d_tNot, d_tYes, d_If, d_CallI, isoE_ok, isoE_ex, iso1, iso2, iso3, iso4, iso5, d_CallS, tgK_some, d_Skip, d_Seq, d_Asg, d_Expr, d_Ret, d_IfS, d_For, d_Raise, d_Drop, drop_nx, drop_rt, drop_ex, wipe0, wipeC, d_fn, fin_rt, fin_nx, fin_ex, isoR_d, isoR_ex, add_ii, add_ss, add_tt, add_ll, add_llC, sub_ii, neg_i, lt_ii, le_ii, gt_ii, ge_ii, dep_s, dep_i, dep_b, dep_n, eq_ii, eq_ss, eq_bb, ne_ss, ne_ii, ne_bb, in_dt, in_dl, notin_dt, notin_dl, isN_n, isN_i, isN_t, isN_s, isN_b, isN_l, notN_b, notN_l, notN_n, notN_i, notN_t, notN_s, t0, t1, t2, t3, l0, l1, l2, l3, len_t, len_l, str_i, int_b, tup_t, tup_l, list_lC, list_tC, list_l, list_t, rev_lC, isi_d, rc_s, d_iSeq, seqK_l, seqK_t, d_iRng1, rngK_i, d_Lc, noEx_k, newL_f, newL_t, rng_zero, len_s, d_iTxt, k_tx, d_Sl, k_Sl, k_Sl2, k_Sl3, k_pt0, k_pt1, k_pt, sl_s, d_Fld, d_Meth, d_Make, d_Store, k_Store, k_Store2, inS_1, k_Op1, k_Op2, k_Op2b, k_Mt0, k_Mt1, k_Args, k_Argsb, k_Tup, k_LstC, k_Andb, k_And, k_Orb, k_Or, k_Notb, k_Not, k_tEb, k_tE, k_tAnd, k_tOr, k_tNot, k_If, k_Asg, k_Expr, k_IfS, k_For, k_Lc, k_Lcb, List.map_cons, List.map_nil, List.cons_append, List.nil_append, List.replicate, List.set_cons_zero, List.set_cons_succ, List.all_cons, List.all_nil, Bool.and_true, Bool.true_and, Bool.and_self, and_self, eq_self, if_true, if_false, decide_true, decide_false, Bool.false_eq_true, List.any_cons, List.any_nil, List.length_nil, List.length_cons, Bool.not_true, Bool.not_false, isi_d, isI]
  | str z => simp -implicitDefEqProofs +decide only [bind_ok, bind_ex, then_ok, then_ex, seq_nx, seq_rt, seq_ex, ite_tt, ite_ff, of_some, okOr_some, v0, v1, v2, v3, v4, v5, v6, v7, v8, v9, n0, n1, n2, n3, n4, n5, n6, n7, n8, n9, d_C, d_Op1, d_Op2, d_Mt0, d_Mt1, d_Args0, d_Args, d_Tup, d_Lst, d_LstC, tupK0, tupK1, tupK2, tupK3, tupK4, tupK9, bK_b, d_And, d_Or, d_Not, d_tE, d_tAnd, d_tOr, d_tNot, d_tYes, d_If, d_CallI, isoE_ok, isoE_ex, iso1, iso2, iso3, iso4, iso5, d_CallS, tgK_some, d_Skip, d_Seq, d_Asg, d_Expr, d_Ret, d_IfS, d_For, d_Raise, d_Drop, drop_nx, drop_rt, drop_ex, wipe0, wipeC, d_fn, fin_rt, fin_nx, fin_ex, isoR_d, isoR_ex, add_ii, add_ss, add_tt, add_ll, add_llC, sub_ii, neg_i, lt_ii, le_ii, gt_ii, ge_ii, dep_s, dep_i, dep_b, dep_n, eq_ii, eq_ss, eq_bb, ne_ss, ne_ii, ne_bb, in_dt, in_dl, notin_dt, notin_dl, isN_n, isN_i, isN_t, isN_s, isN_b, isN_l, notN_b, notN_l, notN_n, notN_i, notN_t, notN_s, t0, t1, t2, t3, l0, l1, l2, l3, len_t, len_l, str_i, int_b, tup_t, tup_l, list_lC, list_tC, list_l, list_t, rev_lC, isi_d, rc_s, d_iSeq, seqK_l, seqK_t, d_iRng1, rngK_i, d_Lc, noEx_k, newL_f, newL_t, rng_zero, len_s, d_iTxt, k_tx, d_Sl, k_Sl, k_Sl2, k_Sl3, k_pt0, k_pt1, k_pt, sl_s, d_Fld, d_Meth, d_Make, d_Store, k_Store, k_Store2, inS_1, k_Op1, k_Op2, k_Op2b, k_Mt0, k_Mt1, k_Args, k_Argsb, k_Tup, k_LstC, k_Andb, k_And, k_Orb, k_Or, k_Notb, k_Not, k_tEb, k_tE, k_tAnd, k_tOr, k_tNot, k_If, k_Asg, k_Expr, k_IfS, k_For, k_Lc, k_Lcb, List.map_cons, List.map_nil, List.cons_append, List.nil_append, List.replicate, List.set_cons_zero, List.set_cons_succ, List.all_cons, List.all_nil, Bool.and_true, Bool.true_and, Bool.and_self, and_self, eq_self, if_true, if_false, decide_true, decide_false, Bool.false_eq_true, List.any_cons, List.any_nil, List.length_nil, List.length_cons, Bool.not_true, Bool.not_false, isi_d, isI]
  | list l => exact h.elim
  | dict l => exact h.elim
  | tuple l =>
    have h : l.length ≤ 1000 ∧ ∀ y ∈ l, okS 2 y := h
    have hl := lc_pure (g := gN 2) (t := tYes) (e := eCallI g__law_same__2 [eOp2 oIx (eVar 0) (eVar 2), eOp2 oIx (eVar 1) (eVar 2)]) (ρ := [some (vT l), some (vT l), none]) (S := []) (f := fun k : Nat => .int (0 + (k : Int))) (h := fun _ => .bool true) (List.range l.length) [] (by unfold LINE; simp; omega) fun k hk => ⟨[some (vT l), some (vT l), some (vI (0 + (k : Int)))], rfl, rfl, by
      have hk := List.mem_range.1 hk
      have hx : oIx (vT l) (vI (0 + (k : Int))) [] = some (.d l[k], []) := by
        rw [Int.zero_add]
        exact ix_t (L2.atI_nat (List.getElem?_eq_getElem hk))
      simp -implicitDefEqProofs only [bind_ok, bind_ex, then_ok, then_ex, seq_nx, seq_rt, seq_ex, ite_tt, ite_ff, of_some, okOr_some, v0, v1, v2, v3, v4, v5, v6, v7, v8, v9, n0, n1, n2, n3, n4, n5, n6, n7, n8, n9, d_C, d_Op1, d_Op2, d_Mt0, d_Mt1, d_Args0, d_Args, d_Tup, d_Lst, d_LstC, tupK0, tupK1, tupK2, tupK3, tupK4, tupK9, bK_b, d_And, d_Or, d_Not, d_tE, d_tAnd, d_tOr, d_tNot, d_tYes, d_If, d_CallI, isoE_ok, isoE_ex, iso1, iso2, iso3, iso4, iso5, d_CallS, tgK_some, d_Skip, d_Seq, d_Asg, d_Expr, d_Ret, d_IfS, d_For, d_Raise, d_Drop, drop_nx, drop_rt, drop_ex, wipe0, wipeC, d_fn, fin_rt, fin_nx, fin_ex, isoR_d, isoR_ex, add_ii, add_ss, add_tt, add_ll, add_llC, sub_ii, neg_i, lt_ii, le_ii, gt_ii, ge_ii, dep_s, dep_i, dep_b, dep_n, eq_ii, eq_ss, eq_bb, ne_ss, ne_ii, ne_bb, in_dt, in_dl, notin_dt, notin_dl, isN_n, isN_i, isN_t, isN_s, isN_b, isN_l, notN_b, notN_l, notN_n, notN_i, notN_t, notN_s, t0, t1, t2, t3, l0, l1, l2, l3, len_t, len_l, str_i, int_b, tup_t, tup_l, list_lC, list_tC, list_l, list_t, rev_lC, isi_d, rc_s, d_iSeq, seqK_l, seqK_t, d_iRng1, rngK_i, d_Lc, noEx_k, newL_f, newL_t, rng_zero, len_s, d_iTxt, k_tx, d_Sl, k_Sl, k_Sl2, k_Sl3, k_pt0, k_pt1, k_pt, sl_s, d_Fld, d_Meth, d_Make, d_Store, k_Store, k_Store2, inS_1, k_Op1, k_Op2, k_Op2b, k_Mt0, k_Mt1, k_Args, k_Argsb, k_Tup, k_LstC, k_Andb, k_And, k_Orb, k_Or, k_Notb, k_Not, k_tEb, k_tE, k_tAnd, k_tOr, k_tNot, k_If, k_Asg, k_Expr, k_IfS, k_For, k_Lc, k_Lcb, List.map_cons, List.map_nil, List.cons_append, List.nil_append, List.replicate, List.set_cons_zero, List.set_cons_succ, List.all_cons, List.all_nil, Bool.and_true, Bool.true_and, Bool.and_self, and_self, eq_self, if_true, if_false, decide_true, decide_false, Bool.false_eq_true, List.any_cons, List.any_nil, List.length_nil, List.length_cons, Bool.not_true, Bool.not_false, hx, same_2 (h.2 _ (List.getElem_mem hk))]⟩
    have hl' : lcL (gN 2) tYes (eCallI g__law_same__2 [eOp2 oIx (eVar 0) (eVar 2), eOp2 oIx (eVar 1) (eVar 2)]) [some (vT l), some (vT l), none] (rng 0 l.length) [] [] = _ := hl
    have ha := @all_l [] ((List.range l.length).map fun _ => true)
    rw [List.map_map] at ha
    have ht : (((List.range l.length).map fun _ => true).all id) = true := by simp
    rw [ht] at ha
    simp only [Function.comp_def] at ha
    simp -implicitDefEqProofs +decide only [bind_ok, bind_ex, then_ok, then_ex, seq_nx, seq_rt, seq_ex, ite_tt, ite_ff, of_some, okOr_some, v0, v1, v2, v3, v4, v5, v6, v7, v8, v9, n0, n1, n2, n3, n4, n5, n6, n7, n8, n9, d_C, d_Op1, d_Op2, d_Mt0, d_Mt1, d_Args0, d_Args, d_Tup, d_Lst, d_LstC, tupK0, tupK1, tupK2, tupK3, tupK4, tupK9, bK_b, d_And, d_Or, d_Not, d_tE, d_tAnd, d_tOr, d_tNot, d_tYes, d_If, d_CallI, isoE_ok, isoE_ex, iso1, iso2, iso3, iso4, iso5, d_CallS, tgK_some, d_Skip, d_Seq, d_Asg, d_Expr, d_Ret, d_IfS, d_For, d_Raise, d_Drop, drop_nx, drop_rt, drop_ex, wipe0, wipeC, d_fn, fin_rt, fin_nx, fin_ex, isoR_d, isoR_ex, add_ii, add_ss, add_tt, add_ll, add_llC, sub_ii, neg_i, lt_ii, le_ii, gt_ii, ge_ii, dep_s, dep_i, dep_b, dep_n, eq_ii, eq_ss, eq_bb, ne_ss, ne_ii, ne_bb, in_dt, in_dl, notin_dt, notin_dl, isN_n, isN_i, isN_t, isN_s, isN_b, isN_l, notN_b, notN_l, notN_n, notN_i, notN_t, notN_s, t0, t1, t2, t3, l0, l1, l2, l3, len_t, len_l, str_i, int_b, tup_t, tup_l, list_lC, list_tC, list_l, list_t, rev_lC, isi_d, rc_s, d_iSeq, seqK_l, seqK_t, d_iRng1, rngK_i, d_Lc, noEx_k, newL_f, newL_t, rng_zero, len_s, d_iTxt, k_tx, d_Sl, k_Sl, k_Sl2, k_Sl3, k_pt0, k_pt1, k_pt, sl_s, d_Fld, d_Meth, d_Make, d_Store, k_Store, k_Store2, inS_1, k_Op1, k_Op2, k_Op2b, k_Mt0, k_Mt1, k_Args, k_Argsb, k_Tup, k_LstC, k_Andb, k_And, k_Orb, k_Or, k_Notb, k_Not, k_tEb, k_tE, k_tAnd, k_tOr, k_tNot, k_If, k_Asg, k_Expr, k_IfS, k_For, k_Lc, k_Lcb, List.map_cons, List.map_nil, List.cons_append, List.nil_append, List.replicate, List.set_cons_zero, List.set_cons_succ, List.all_cons, List.all_nil, Bool.and_true, Bool.true_and, Bool.and_self, and_self, eq_self, if_true, if_false, decide_true, decide_false, Bool.false_eq_true, List.any_cons, List.any_nil, List.length_nil, List.length_cons, Bool.not_true, Bool.not_false, isi_d, isI, rngK_i (j := (l.length : Int)) (by omega), Int.toNat_natCast, hl', ha]


theorem same_4 : ∀ {x : PyData}, okS 4 x → callI g__law_same__4 [x, x] = some (.inr (.bool true)) := by
  intro x h
  unfold g__law_same__4 f__law_same__4
  rw [d_iso]
  cases x with
  | none => simp -implicitDefEqProofs only [bind_ok, bind_ex, then_ok, then_ex, seq_nx, seq_rt, seq_ex, ite_tt, ite_ff, of_some, okOr_some, v0, v1, v2, v3, v4, v5, v6, v7, v8, v9, n0, n1, n2, n3, n4, n5, n6, n7, n8, n9, d_C, d_Op1, d_Op2, d_Mt0, d_Mt1, d_Args0, d_Args, d_Tup, d_Lst, d_LstC, tupK0, tupK1, tupK2, tupK3, tupK4, tupK9, bK_b, d_And, d_Or, d_Not, d_tE, d_tAnd, d_tOr, d_tNot, d_tYes, d_If, d_CallI, isoE_ok, isoE_ex, iso1, iso2, iso3, iso4, iso5, d_CallS, tgK_some, d_Skip, d_Seq, d_Asg, d_Expr, d_Ret, d_IfS, d_For, d_Raise, d_Drop, drop_nx, drop_rt, drop_ex, wipe0, wipeC, d_fn, fin_rt, fin_nx, fin_ex, isoR_d, isoR_ex, add_ii, add_ss, add_tt, add_ll, add_llC, sub_ii, neg_i, lt_ii, le_ii, gt_ii, ge_ii, dep_s, dep_i, dep_b, dep_n, eq_ii, eq_ss, eq_bb, ne_ss, ne_ii, ne_bb, in_dt, in_dl, notin_dt, notin_dl, isN_n, isN_i, isN_t, isN_s, isN_b, isN_l, notN_b, notN_l, notN_n, notN_i, notN_t, notN_s, t0, t1, t2, t3, l0, l1, l2, l3, len_t, len_l, str_i, int_b, tup_t, tup_l, list_lC, list_tC, list_l, list_t, rev_lC, isi_d, rc_s, d_iSeq, seqK_l, seqK_t, d_iRng1, rngK_i, d_Lc, noEx_k, newL_f, newL_t, rng_zero, len_s, d_iTxt, k_tx, d_Sl, k_Sl, k_Sl2, k_Sl3, k_pt0, k_pt1, k_pt, sl_s, d_Fld, d_Meth, d_Make, d_Store, k_Store, k_Store2, inS_1, k_Op1, k_Op2, k_Op2b, k_Mt0, k_Mt1, k_Args, k_Argsb, k_Tup, k_LstC, k_Andb, k_And, k_Orb, k_Or, k_Notb, k_Not, k_tEb, k_tE, k_tAnd, k_tOr, k_tNot, k_If, k_Asg, k_Expr, k_IfS, k_For, k_Lc, k_Lcb, List.map_cons, List.map_nil, List.cons_append, List.nil_append, List.replicate, List.set_cons_zero, List.set_cons_succ, List.all_cons, List.all_nil, Bool.and_true, Bool.true_and, Bool.and_self, and_self, eq_self, if_true, if_false, decide_true, decide_false, Bool.false_eq_true, List.any_cons, List.any_nil, List.length_nil, List.length_cons, Bool.not_true, Bool.not_false, isi_d, isI]
  | bool b => cases b <;> simp -implicitDefEqProofs +decide only [bind_ok, bind_ex, then_ok, then_ex, seq_nx, seq_rt, seq_ex, ite_tt, ite_ff, of_some, okOr_some, v0, v1, v2, v3, v4, v5, v6, v7, v8, v9, n0, n1, n2, n3, n4, n5, n6, n7, n8, n9, d_C, d_Op1, d_Op2, d_Mt0, d_Mt1, d_Args0, d_Args, d_Tup, d_Lst, d_LstC, tupK0, tupK1, tupK2, tupK3, tupK4, tupK9, bK_b, d_And, d_Or, d_Not, d_tE, d_tAnd, d_tOr, d_tNot, d_tYes, d_If, d_CallI, isoE_ok, isoE_ex, iso1, iso2, iso3, iso4, iso5, d_CallS, tgK_some, d_Skip, d_Seq, d_Asg, d_Expr, d_Ret, d_IfS, d_For, d_Raise, d_Drop, drop_nx, drop_rt, drop_ex, wipe0, wipeC, d_fn, fin_rt, fin_nx, fin_ex, isoR_d, isoR_ex, add_ii, add_ss, add_tt, add_ll, add_llC, sub_ii, neg_i, lt_ii, le_ii, gt_ii, ge_ii, dep_s, dep_i, dep_b, dep_n, eq_ii, eq_ss, eq_bb, ne_ss, ne_ii, ne_bb, in_dt, in_dl, notin_dt, notin_dl, isN_n, isN_i, isN_t, isN_s, isN_b, isN_l, notN_b, notN_l, notN_n, notN_i, notN_t, notN_s, t0, t1, t2, t3, l0, l1, l2, l3, len_t, len_l, str_i, int_b, tup_t, tup_l, list_lC, list_tC, list_l, list_t, rev_lC, isi_d, rc_s, d_iSeq, seqK_l, seqK_t, d_iRng1, rngK_i, d_Lc, noEx_k, newL_f, newL_t, rng_zero, len_s, d_iTxt, k_tx, d_Sl, k_Sl, k_Sl2, k_Sl3, k_pt0, k_pt1, k_pt, sl_s, d_Fld, d_Meth, d_Make, d_Store, k_Store, k_Store2, inS_1, k_Op1, k_Op2, k_Op2b, k_Mt0, k_Mt1, k_Args, k_Argsb, k_Tup, k_LstC, k_Andb, k_And, k_Orb, k_Or, k_Notb, k_Not, k_tEb, k_tE, k_tAnd, k_tOr, k_tNot, k_If, k_Asg, k_Expr, k_IfS, k_For, k_Lc, k_Lcb, List.map_cons, List.map_nil, List.cons_append, List.nil_append, List.replicate, List.set_cons_zero, List.set_cons_succ, List.all_cons, List.all_nil, Bool.and_true, Bool.true_and, Bool.and_self, and_self, eq_self, if_true, if_false, decide_true, decide_false, Bool.false_eq_true, List.any_cons, List.any_nil, List.length_nil, List.length_cons, Bool.not_true, Bool.not_false, isi_d, isI] <;> rfl
  | int i => simp -implicitDefEqProofs +decide only [bind_ok, bind_ex, then_ok, then_ex, seq_nx, seq_rt, seq_ex, ite_tt, ite_ff, of_some, okOr_some, v0, v1, v2, v3, v4, v5, v6, v7, v8, v9, n0, n1, n2, n3, n4, n5, n6, n7, n8, n9, d_C, d_Op1, d_Op2, d_Mt0, d_Mt1, d_Args0, d_Args, d_Tup, d_Lst, d_LstC, tupK0, tupK1, tupK2, tupK3, tupK4, tupK9, bK_b, d_And, d_Or, d_Not, d_tE, d_tAnd, d_tOr, d_tNot, d_tYes, d_If, d_CallI, isoE_ok, isoE_ex, iso1, iso2, iso3, iso4, iso5, d_CallS, tgK_some, d_Skip, d_Seq, d_Asg, d_Expr, d_Ret, d_IfS, d_For, d_Raise, d_Drop, drop_nx, drop_rt, drop_ex, wipe0, wipeC, d_fn, fin_rt, fin_nx, fin_ex, isoR_d, isoR_ex, add_ii, add_ss, add_tt, add_ll, add_llC, sub_ii, neg_i, lt_ii, le_ii, gt_ii, ge_ii, dep_s, dep_i, dep_b, dep_n, eq_ii, eq_ss, eq_bb, ne_ss, ne_ii, ne_bb, in_dt, in_dl, notin_dt, notin_dl, isN_n, isN_i, isN_t, isN_s, isN_b, isN_l, notN_b, notN_l, notN_n, notN_i, notN_t, notN_s, t0, t1, t2, t3, l0, l1, l2, l3, len_t, len_l, str_i, int_b, tup_t, tup_l, list_lC, list_tC, list_l, list_t, rev_lC, isi_d, rc_s, d_iSeq, seqK_l, seqK_t, d_iRng1, rngK_i, d_Lc, noEx_k, newL_f, newL_t, rng_zero, len_s, d_iTxt, k_tx, d_Sl, k_Sl, k_Sl2, k_Sl3, k_pt0, k_pt1, k_pt, sl_s, d_Fld, d_Meth, d_Make, d_Store, k_Store, k_Store2, inS_1, k_Op1, k_Op2, k_Op2b, k_Mt0, k_Mt1, k_Args, k_Argsb, k_Tup, k_LstC, k_Andb, k_And, k_Orb, k_Or, k_Notb, k_Not, k_tEb, k_tE, k_tAnd, k_tOr, k_tNot, k_If, k_Asg, k_Expr, k_IfS, k_For, k_Lc, k_Lcb, List.map_cons, List.map_nil, List.cons_append, List.nil_append, List.replicate, List.set_cons_zero, List.set_cons_succ, List.all_cons, List.all_nil, Bool.and_true, Bool.true_and, Bool.and_self, and_self, eq_self, if_true, if_false, decide_true, decide_false, Bool.false_eq_true, List.any_cons, List.any_nil, List.length_nil, List.length_cons, Bool.not_true, Bool.not_false, isi_d, isI]
  | str z => simp -implicitDefEqProofs +decide only [bind_ok, bind_ex, then_ok, then_ex, seq_nx, seq_rt, seq_ex, ite_tt, ite_ff, of_some, okOr_some, v0, v1, v2, v3, v4, v5, v6, v7, v8, v9, n0, n1, n2, n3, n4, n5, n6, n7, n8, n9, d_C, d_Op1, d_Op2, d_Mt0, d_Mt1, d_Args0, d_Args, d_Tup, d_Lst, d_LstC, tupK0, tupK1, tupK2, tupK3, tupK4, tupK9, bK_b, d_And, d_Or, d_Not, d_tE, d_tAnd, d_tOr, d_tNot, d_tYes, d_If, d_CallI, isoE_ok, isoE_ex, iso1, iso2, iso3, iso4, iso5, d_CallS, tgK_some, d_Skip, d_Seq, d_Asg, d_Expr, d_Ret, d_IfS, d_For, d_Raise, d_Drop, drop_nx, drop_rt, drop_ex, wipe0, wipeC, d_fn, fin_rt, fin_nx, fin_ex, isoR_d, isoR_ex, add_ii, add_ss, add_tt, add_ll, add_llC, sub_ii, neg_i, lt_ii, le_ii, gt_ii, ge_ii, dep_s, dep_i, dep_b, dep_n, eq_ii, eq_ss, eq_bb, ne_ss, ne_ii, ne_bb, in_dt, in_dl, notin_dt, notin_dl, isN_n, isN_i, isN_t, isN_s, isN_b, isN_l, notN_b, notN_l, notN_n, notN_i, notN_t, notN_s, t0, t1, t2, t3, l0, l1, l2, l3, len_t, len_l, str_i, int_b, tup_t, tup_l, list_lC, list_tC, list_l, list_t, rev_lC, isi_d, rc_s, d_iSeq, seqK_l, seqK_t, d_iRng1, rngK_i, d_Lc, noEx_k, newL_f, newL_t, rng_zero, len_s, d_iTxt, k_tx, d_Sl, k_Sl, k_Sl2, k_Sl3, k_pt0, k_pt1, k_pt, sl_s, d_Fld, d_Meth, d_Make, d_Store, k_Store, k_Store2, inS_1, k_Op1, k_Op2, k_Op2b, k_Mt0, k_Mt1, k_Args, k_Argsb, k_Tup, k_LstC, k_Andb, k_And, k_Orb, k_Or, k_Notb, k_Not, k_tEb, k_tE, k_tAnd, k_tOr, k_tNot, k_If, k_Asg, k_Expr, k_IfS, k_For, k_Lc, k_Lcb, List.map_cons, List.map_nil, List.cons_append, List.nil_append, List.replicate, List.set_cons_zero, List.set_cons_succ, List.all_cons, List.all_nil, Bool.and_true, Bool.true_and, Bool.and_self, and_self, eq_self, if_true, if_false, decide_true, decide_false, Bool.false_eq_true, List.any_cons, List.any_nil, List.length_nil, List.length_cons, Bool.not_true, Bool.not_false, isi_d, isI]
  | list l => exact h.elim
  | dict l => exact h.elim
  | tuple l =>
    have h : l.length ≤ 1000 ∧ ∀ y ∈ l, okS 3 y := h
    have hl := lc_pure (g := gN 2) (t := tYes) (e := eCallI g__law_same__3 [eOp2 oIx (eVar 0) (eVar 2), eOp2 oIx (eVar 1) (eVar 2)]) (ρ := [some (vT l), some (vT l), none]) (S := []) (f := fun k : Nat => .int (0 + (k : Int))) (h := fun _ => .bool true) (List.range l.length) [] (by unfold LINE; simp; omega) fun k hk => ⟨[some (vT l), some (vT l), some (vI (0 + (k : Int)))], rfl, rfl, by
      have hk := List.mem_range.1 hk
      have hx : oIx (vT l) (vI (0 + (k : Int))) [] = some (.d l[k], []) := by
        rw [Int.zero_add]
        exact ix_t (L2.atI_nat (List.getElem?_eq_getElem hk))
      simp -implicitDefEqProofs only [bind_ok, bind_ex, then_ok, then_ex, seq_nx, seq_rt, seq_ex, ite_tt, ite_ff, of_some, okOr_some, v0, v1, v2, v3, v4, v5, v6, v7, v8, v9, n0, n1, n2, n3, n4, n5, n6, n7, n8, n9, d_C, d_Op1, d_Op2, d_Mt0, d_Mt1, d_Args0, d_Args, d_Tup, d_Lst, d_LstC, tupK0, tupK1, tupK2, tupK3, tupK4, tupK9, bK_b, d_And, d_Or, d_Not, d_tE, d_tAnd, d_tOr, d_tNot, d_tYes, d_If, d_CallI, isoE_ok, isoE_ex, iso1, iso2, iso3, iso4, iso5, d_CallS, tgK_some, d_Skip, d_Seq, d_Asg, d_Expr, d_Ret, d_IfS, d_For, d_Raise, d_Drop, drop_nx, drop_rt, drop_ex, wipe0, wipeC, d_fn, fin_rt, fin_nx, fin_ex, isoR_d, isoR_ex, add_ii, add_ss, add_tt, add_ll, add_llC, sub_ii, neg_i, lt_ii, le_ii, gt_ii, ge_ii, dep_s, dep_i, dep_b, dep_n, eq_ii, eq_ss, eq_bb, ne_ss, ne_ii, ne_bb, in_dt, in_dl, notin_dt, notin_dl, isN_n, isN_i, isN_t, isN_s, isN_b, isN_l, notN_b, notN_l, notN_n, notN_i, notN_t, notN_s, t0, t1, t2, t3, l0, l1, l2, l3, len_t, len_l, str_i, int_b, tup_t, tup_l, list_lC, list_tC, list_l, list_t, rev_lC, isi_d, rc_s, d_iSeq, seqK_l, seqK_t, d_iRng1, rngK_i, d_Lc, noEx_k, newL_f, newL_t, rng_zero, len_s, d_iTxt, k_tx, d_Sl, k_Sl, k_Sl2, k_Sl3, k_pt0, k_pt1, k_pt, sl_s, d_Fld, d_Meth, d_Make, d_Store, k_Store, k_Store2, inS_1, k_Op1, k_Op2, k_Op2b, k_Mt0, k_Mt1, k_Args, k_Argsb, k_Tup, k_LstC, k_Andb, k_And, k_Orb, k_Or, k_Notb, k_Not, k_tEb, k_tE, k_tAnd, k_tOr, k_tNot, k_If, k_Asg, k_Expr, k_IfS, k_For, k_Lc, k_Lcb, List.map_cons, List.map_nil, List.cons_append, List.nil_append, List.replicate, List.set_cons_zero, List.set_cons_succ, List.all_cons, List.all_nil, Bool.and_true, Bool.true_and, Bool.and_self, and_self, eq_self, if_true, if_false, decide_true, decide_false, Bool.false_eq_true, List.any_cons, List.any_nil, List.length_nil, List.length_cons, Bool.not_true, Bool.not_false, hx, same_3 (h.2 _ (List.getElem_mem hk))]⟩
    have hl' : lcL (gN 2) tYes (eCallI g__law_same__3 [eOp2 oIx (eVar 0) (eVar 2), eOp2 oIx (eVar 1) (eVar 2)]) [some (vT l), some (vT l), none] (rng 0 l.length) [] [] = _ := hl
    have ha := @all_l [] ((List.range l.length).map fun _ => true)
    rw [List.map_map] at ha
    have ht : (((List.range l.length).map fun _ => true).all id) = true := by simp
    rw [ht] at ha
    simp only [Function.comp_def] at ha
    simp -implicitDefEqProofs +decide only [bind_ok, bind_ex, then_ok, then_ex, seq_nx, seq_rt, seq_ex, ite_tt, ite_ff, of_some, okOr_some, v0, v1, v2, v3, v4, v5, v6, v7, v8, v9, n0, n1, n2, n3, n4, n5, n6, n7, n8, n9, d_C, d_Op1, d_Op2, d_Mt0, d_Mt1, d_Args0, d_Args, d_Tup, d_Lst, d_LstC, tupK0, tupK1, tupK2, tupK3, tupK4, tupK9, bK_b, d_And, d_Or, d_Not, d_tE, d_tAnd, d_tOr, d_tNot, d_tYes, d_If, d_CallI, isoE_ok, isoE_ex, iso1, iso2, iso3, iso4, iso5, d_CallS, tgK_some, d_Skip, d_Seq, d_Asg, d_Expr, d_Ret, d_IfS, d_For, d_Raise, d_Drop, drop_nx, drop_rt, drop_ex, wipe0, wipeC, d_fn, fin_rt, fin_nx, fin_ex, isoR_d, isoR_ex, add_ii, add_ss, add_tt, add_ll, add_llC, sub_ii, neg_i, lt_ii, le_ii, gt_ii, ge_ii, dep_s, dep_i, dep_b, dep_n, eq_ii, eq_ss, eq_bb, ne_ss, ne_ii, ne_bb, in_dt, in_dl, notin_dt, notin_dl, isN_n, isN_i, isN_t, isN_s, isN_b, isN_l, notN_b, notN_l, notN_n, notN_i, notN_t, notN_s, t0, t1, t2, t3, l0, l1, l2, l3, len_t, len_l, str_i, int_b, tup_t, tup_l, list_lC, list_tC, list_l, list_t, rev_lC, isi_d, rc_s, d_iSeq, seqK_l, seqK_t, d_iRng1, rngK_i, d_Lc, noEx_k, newL_f, newL_t, rng_zero, len_s, d_iTxt, k_tx, d_Sl, k_Sl, k_Sl2, k_Sl3, k_pt0, k_pt1, k_pt, sl_s, d_Fld, d_Meth, d_Make, d_Store, k_Store, k_Store2, inS_1, k_Op1, k_Op2, k_Op2b, k_Mt0, k_Mt1, k_Args, k_Argsb, k_Tup, k_LstC, k_Andb, k_And, k_Orb, k_Or, k_Notb, k_Not, k_tEb, k_tE, k_tAnd, k_tOr, k_tNot, k_If, k_Asg, k_Expr, k_IfS, k_For, k_Lc, k_Lcb, List.map_cons, List.map_nil, List.cons_append, List.nil_append, List.replicate, List.set_cons_zero, List.set_cons_succ, List.all_cons, List.all_nil, Bool.and_true, Bool.true_and, Bool.and_self, and_self, eq_self, if_true, if_false, decide_true, decide_false, Bool.false_eq_true, List.any_cons, List.any_nil, List.length_nil, List.length_cons, Bool.not_true, Bool.not_false, isi_d, isI, rngK_i (j := (l.length : Int)) (by omega), Int.toNat_natCast, hl', ha]

theorem okS_int {j : Nat} {i : Int} : okS j (.int i) := by cases j <;> trivial
theorem okS_str {j : Nat} {i : Str} : okS j (.str i) := by cases j <;> trivial
theorem okS_bool {j : Nat} {i : Bool} : okS j (.bool i) := by cases j <;> trivial
theorem okS_free {j : Nat} {f : Option Int} : okS j (eFree f) := by cases f <;> cases j <;> trivial
theorem okS_map {τ : Type} {j : Nat} {f : τ → PyData} {l : List τ} (h : l.length ≤ 200) (h2 : ∀ x ∈ l, okS j (f x)) : okS (j + 1) (.tuple (l.map f)) := ⟨by simp; omega, fun y hy => by
  obtain ⟨x, hx, rfl⟩ := List.mem_map.1 hy
  exact h2 x hx⟩
theorem okS_nums {j : Nat} {l : List Int} (h : okNums l) : okS (j + 1) (eNums l) := okS_map h.1 fun _ _ => okS_int
theorem okS_road {j : Nat} {l : List Say} (h : okRoad l) : okS (j + 2) (eRoad l) := okS_map h.1 fun s _ => ⟨by simp, by simp [okS_int, okS_bool]⟩
theorem okS_pap {p : Pap} (h : p.Ok) : okS 4 p.enc := by
  refine ⟨by cases p <;> simp [Pap.args], fun y hy => ?_⟩
  rcases List.mem_cons.1 hy with rfl | hy
  · exact okS_str
  · cases p with
    | broken => simp [Pap.args] at hy
    | clash a b =>
      simp only [Pap.args, List.mem_cons, List.not_mem_nil, or_false] at hy
      rcases hy with rfl | rfl
      · exact okS_road h.1
      · exact okS_road h.2
    | late a b =>
      simp only [Pap.args, List.mem_cons, List.not_mem_nil, or_false] at hy
      rcases hy with rfl | rfl
      · exact okS_road h.1
      · exact okS_road h.2
    | cross a =>
      simp only [Pap.args, List.mem_cons, List.not_mem_nil, or_false] at hy
      subst hy; exact okS_road h
    | odd a =>
      simp only [Pap.args, List.mem_cons, List.not_mem_nil, or_false] at hy
      subst hy; exact okS_nums h
    | lone f a b =>
      simp only [Pap.args, List.mem_cons, List.not_mem_nil, or_false] at hy
      rcases hy with rfl | rfl | rfl
      · exact okS_free
      · exact okS_nums h.2.1
      · exact okS_nums h.2.2
    | plan l =>
      simp only [Pap.args, List.mem_cons, List.not_mem_nil, or_false] at hy
      subst hy
      exact okS_map h.1 fun x _ => ⟨by simp, by simp [okS_int, okS_bool, okS_free]⟩
    | sums l =>
      simp only [Pap.args, List.mem_cons, List.not_mem_nil, or_false] at hy
      subst hy
      exact okS_map h.1 fun x hx => ⟨by simp, by simp [okS_int, okS_bool, okS_nums (j := 0) (h.2 x hx).2]⟩
    | rows a l =>
      simp only [Pap.args, List.mem_cons, List.not_mem_nil, or_false] at hy
      rcases hy with rfl | rfl
      · exact okS_nums h.1
      · exact okS_map h.2.1 fun x hx => ⟨by simp, by simp [okS_int, okS_nums (j := 0) (h.2.2 x hx).2]⟩
/-! the text, split -/
theorem joinL_len (S : List Nat) : ∀ l : List (List Nat), (TL.joinL S l).length ≤ (l.map List.length).sum + l.length * S.length
  | [] => by simp [TL.joinL]
  | [p] => by simp [TL.joinL]
  | p :: q :: r => by
    have := joinL_len S (q :: r)
    simp only [TL.joinL, List.length_append, List.map_cons, List.sum_cons, List.length_cons, Nat.succ_mul] at this ⊢
    omega
theorem text_len {l : List Str} (h : Short l) (h2 : l.length ≤ 60001) : (Txt.join " " l).length + 2 ≤ LINE := by
  have h1 := h.sum
  have h3 : (Txt.join " " l).length = (TL.tl (Str.join " " l)).length := by rw [TL.join_eq]; exact (Array.length_toList).symm
  rw [h3, TL.tl_join]
  have h4 := joinL_len (TL.tl " ") (l.map TL.tl)
  have h5 : (l.map TL.tl).map List.length = l.map (·.length) := by rw [List.map_map]; exact List.map_congr_left fun x _ => Array.length_toList
  rw [h5, List.length_map, show (TL.tl " ").length = 1 from rfl] at h4
  unfold LINE
  omega
theorem nosp_num {i : Int} (h : 0 ≤ i ∧ i < 201) : 32 ∉ TL.tl (nS i) := (numF h).nosp
theorem nosp_nums {l : List Int} (h : okNums l) (h2 : ∀ i ∈ l, i < 201) : ∀ w ∈ wNums l, 32 ∉ TL.tl w := fun w hw => by
  rcases List.mem_cons.1 hw with rfl | hw
  · exact nosp_num ⟨by omega, by have := h.1; omega⟩
  · obtain ⟨i, hi, rfl⟩ := List.mem_map.1 hw
    exact nosp_num ⟨(h.2 i hi).1, h2 i hi⟩
theorem nosp_road {l : List Say} (h : okRoad l) (h2 : ∀ i ∈ l, i.1 < 60) : ∀ w ∈ wRoad l, 32 ∉ TL.tl w := fun w hw => by
  rcases List.mem_cons.1 hw with rfl | hw
  · exact nosp_num ⟨by omega, by have := h.1; omega⟩
  · obtain ⟨i, hi, rfl⟩ := List.mem_map.1 hw
    exact (sayF ⟨(h.2 i hi).1, h2 i hi⟩).2.2.1
theorem nosp_free {f : Option Int} (h : okFree f) (h2 : fitF f) : 32 ∉ TL.tl (wFree f) := by
  cases f with
  | none => decide
  | some i => exact nosp_num ⟨h.1, by have : i < 60 := h2; omega⟩
theorem nosp_truth {b : Bool} : 32 ∉ TL.tl (wTruth b) := by cases b <;> decide
theorem lt201 {l : List Int} (h : ∀ i ∈ l, i < 60) : ∀ i ∈ l, i < 201 := fun i hi => by have := h i hi; omega
theorem nosp {p : Pap} (h : p.Ok) (h2 : p.Fit) : ∀ w ∈ p.nm :: p.words, 32 ∉ TL.tl w := fun w hw => by
  rcases List.mem_cons.1 hw with rfl | hw
  · cases p <;> simp only [Pap.nm] <;> decide
  · cases p with
    | broken => simp [Pap.words] at hw
    | clash a b => exact (List.mem_append.1 hw).elim (nosp_road h.1 h2.1 w) (nosp_road h.2 h2.2 w)
    | late a b => exact (List.mem_append.1 hw).elim (nosp_road h.1 h2.1 w) (nosp_road h.2 h2.2 w)
    | cross a => exact nosp_road h h2 w hw
    | odd a => exact nosp_nums h h2 w hw
    | lone f a b =>
      rcases List.mem_cons.1 hw with rfl | hw
      · exact nosp_free h.1 h2.1
      · exact (List.mem_append.1 hw).elim (nosp_nums h.2.1 h2.2.1 w) (nosp_nums h.2.2 h2.2.2 w)
    | plan l =>
      rcases List.mem_cons.1 hw with rfl | hw
      · exact nosp_num ⟨by omega, by have := h.1; omega⟩
      · obtain ⟨x, hx, hw⟩ := List.mem_flatMap.1 hw
        simp only [wP, List.mem_cons, List.not_mem_nil, or_false] at hw
        rcases hw with rfl | rfl | rfl
        · exact nosp_num ⟨(h.2 x hx).1.1, by have := (h2 x hx).1; omega⟩
        · exact nosp_free (h.2 x hx).2 (h2 x hx).2
        · exact nosp_truth
    | sums l =>
      rcases List.mem_cons.1 hw with rfl | hw
      · exact nosp_num ⟨by omega, by have := h.1; omega⟩
      · obtain ⟨x, hx, hw⟩ := List.mem_flatMap.1 hw
        rcases List.mem_cons.1 hw with rfl | hw
        · exact nosp_num ⟨(h.2 x hx).1.1, by have := (h2 x hx).1; omega⟩
        · rcases List.mem_append.1 hw with hw | hw
          · exact nosp_nums (h.2 x hx).2 (lt201 (h2 x hx).2) w hw
          · rw [List.mem_singleton.1 hw]; exact nosp_truth
    | rows a l =>
      rcases List.mem_append.1 hw with hw | hw
      · exact nosp_nums h.1 (lt201 h2.1) w hw
      · rcases List.mem_cons.1 hw with rfl | hw
        · exact nosp_num ⟨by omega, by have := h.2.1; omega⟩
        · obtain ⟨x, hx, hw⟩ := List.mem_flatMap.1 hw
          rcases List.mem_cons.1 hw with rfl | hw
          · exact nosp_num ⟨(h.2.2 x hx).1.1, by have := (h2.2 x hx).1; omega⟩
          · exact nosp_nums (h.2.2 x hx).2 (lt201 (h2.2 x hx).2) w hw
/-- a paper's text is read as the paper -/
theorem c_read {p : Pap} (h : p.Ok) (h2 : p.Fit) : callI g_paper_read [.str p.text] = some (.inr p.enc) := by
  have hsp : Txt.split p.text " " = p.nm :: p.words := TL.split_join (y := " ") (s := 32) (S := []) rfl (by decide +kernel) (by simp) (nosp h h2)
  have hs := @split_s [.ins .Words []] p.text " " ⟨by decide, text_len (.cons (nm_short p) (words_short h).1) (by have := (words_short h).2; simp; omega)⟩
  rw [hsp] at hs
  have hi : mkO .Words g_Words_init [vS p.text] [] = .ok (.r 0) (stW (p.nm :: p.words) 0) := by
    unfold mkO g_Words_init f_Words_init
    have h1 : ∀ ρ : DK.Env, ∀ v : P, sFldK .Words "row" ρ v (.r 0) [.ins .Words []] = .nx ρ [.ins .Words [("row", v)]] := fun _ _ => by simp [sFldK, putO, flds, putFs]
    have h3 : ∀ ρ : DK.Env, ∀ v w : P, sFldK .Words "done" ρ v (.r 0) [.ins .Words [("row", w)]] = .nx ρ [.ins .Words [("row", w), ("done", v)]] := fun _ _ _ => by simp [sFldK, putO, flds, putFs, lo_r]
    simp -implicitDefEqProofs only [bind_ok, bind_ex, then_ok, then_ex, seq_nx, seq_rt, seq_ex, ite_tt, ite_ff, of_some, okOr_some, v0, v1, v2, v3, v4, v5, v6, v7, v8, v9, n0, n1, n2, n3, n4, n5, n6, n7, n8, n9, d_C, d_Op1, d_Op2, d_Mt0, d_Mt1, d_Args0, d_Args, d_Tup, d_Lst, d_LstC, tupK0, tupK1, tupK2, tupK3, tupK4, tupK9, bK_b, d_And, d_Or, d_Not, d_tE, d_tAnd, d_tOr, d_tNot, d_tYes, d_If, d_CallI, isoE_ok, isoE_ex, iso1, iso2, iso3, iso4, iso5, d_CallS, tgK_some, d_Skip, d_Seq, d_Asg, d_Expr, d_Ret, d_IfS, d_For, d_Raise, d_Drop, drop_nx, drop_rt, drop_ex, wipe0, wipeC, d_fn, fin_rt, fin_nx, fin_ex, isoR_d, isoR_ex, add_ii, add_ss, add_tt, add_ll, add_llC, sub_ii, neg_i, lt_ii, le_ii, gt_ii, ge_ii, dep_s, dep_i, dep_b, dep_n, eq_ii, eq_ss, eq_bb, ne_ss, ne_ii, ne_bb, in_dt, in_dl, notin_dt, notin_dl, isN_n, isN_i, isN_t, isN_s, isN_b, isN_l, notN_b, notN_l, notN_n, notN_i, notN_t, notN_s, t0, t1, t2, t3, l0, l1, l2, l3, len_t, len_l, str_i, int_b, tup_t, tup_l, list_lC, list_tC, list_l, list_t, rev_lC, isi_d, rc_s, d_iSeq, seqK_l, seqK_t, d_iRng1, rngK_i, d_Lc, noEx_k, newL_f, newL_t, rng_zero, len_s, d_iTxt, k_tx, d_Sl, k_Sl, k_Sl2, k_Sl3, k_pt0, k_pt1, k_pt, sl_s, d_Fld, d_Meth, d_Make, d_Store, k_Store, k_Store2, inS_1, k_Op1, k_Op2, k_Op2b, k_Mt0, k_Mt1, k_Args, k_Argsb, k_Tup, k_LstC, k_Andb, k_And, k_Orb, k_Or, k_Notb, k_Not, k_tEb, k_tE, k_tAnd, k_tOr, k_tNot, k_If, k_Asg, k_Expr, k_IfS, k_For, k_Lc, k_Lcb, List.map_cons, List.map_nil, List.cons_append, List.nil_append, List.replicate, List.set_cons_zero, List.set_cons_succ, List.all_cons, List.all_nil, Bool.and_true, Bool.true_and, Bool.and_self, and_self, eq_self, if_true, if_false, decide_true, decide_false, Bool.false_eq_true, List.any_cons, List.any_nil, List.length_nil, List.length_cons, Bool.not_true, Bool.not_false, hs, h1, h3]
    rfl
  have hp := r_paper h h2 (p.nm :: p.words) 0 [] (by simp)
  have he := @gM_ended (p.nm :: p.words) (0 + (p.nm :: p.words).length)
  unfold g_paper_read f_paper_read
  rw [d_iso]
  simp -implicitDefEqProofs only [bind_ok, bind_ex, then_ok, then_ex, seq_nx, seq_rt, seq_ex, ite_tt, ite_ff, of_some, okOr_some, v0, v1, v2, v3, v4, v5, v6, v7, v8, v9, n0, n1, n2, n3, n4, n5, n6, n7, n8, n9, d_C, d_Op1, d_Op2, d_Mt0, d_Mt1, d_Args0, d_Args, d_Tup, d_Lst, d_LstC, tupK0, tupK1, tupK2, tupK3, tupK4, tupK9, bK_b, d_And, d_Or, d_Not, d_tE, d_tAnd, d_tOr, d_tNot, d_tYes, d_If, d_CallI, isoE_ok, isoE_ex, iso1, iso2, iso3, iso4, iso5, d_CallS, tgK_some, d_Skip, d_Seq, d_Asg, d_Expr, d_Ret, d_IfS, d_For, d_Raise, d_Drop, drop_nx, drop_rt, drop_ex, wipe0, wipeC, d_fn, fin_rt, fin_nx, fin_ex, isoR_d, isoR_ex, add_ii, add_ss, add_tt, add_ll, add_llC, sub_ii, neg_i, lt_ii, le_ii, gt_ii, ge_ii, dep_s, dep_i, dep_b, dep_n, eq_ii, eq_ss, eq_bb, ne_ss, ne_ii, ne_bb, in_dt, in_dl, notin_dt, notin_dl, isN_n, isN_i, isN_t, isN_s, isN_b, isN_l, notN_b, notN_l, notN_n, notN_i, notN_t, notN_s, t0, t1, t2, t3, l0, l1, l2, l3, len_t, len_l, str_i, int_b, tup_t, tup_l, list_lC, list_tC, list_l, list_t, rev_lC, isi_d, rc_s, d_iSeq, seqK_l, seqK_t, d_iRng1, rngK_i, d_Lc, noEx_k, newL_f, newL_t, rng_zero, len_s, d_iTxt, k_tx, d_Sl, k_Sl, k_Sl2, k_Sl3, k_pt0, k_pt1, k_pt, sl_s, d_Fld, d_Meth, d_Make, d_Store, k_Store, k_Store2, inS_1, k_Op1, k_Op2, k_Op2b, k_Mt0, k_Mt1, k_Args, k_Argsb, k_Tup, k_LstC, k_Andb, k_And, k_Orb, k_Or, k_Notb, k_Not, k_tEb, k_tE, k_tAnd, k_tOr, k_tNot, k_If, k_Asg, k_Expr, k_IfS, k_For, k_Lc, k_Lcb, List.map_cons, List.map_nil, List.cons_append, List.nil_append, List.replicate, List.set_cons_zero, List.set_cons_succ, List.all_cons, List.all_nil, Bool.and_true, Bool.true_and, Bool.and_self, and_self, eq_self, if_true, if_false, decide_true, decide_false, Bool.false_eq_true, List.any_cons, List.any_nil, List.length_nil, List.length_cons, Bool.not_true, Bool.not_false, hi] at hp he ⊢
  simp -implicitDefEqProofs only [bind_ok, bind_ex, then_ok, then_ex, seq_nx, seq_rt, seq_ex, ite_tt, ite_ff, of_some, okOr_some, v0, v1, v2, v3, v4, v5, v6, v7, v8, v9, n0, n1, n2, n3, n4, n5, n6, n7, n8, n9, d_C, d_Op1, d_Op2, d_Mt0, d_Mt1, d_Args0, d_Args, d_Tup, d_Lst, d_LstC, tupK0, tupK1, tupK2, tupK3, tupK4, tupK9, bK_b, d_And, d_Or, d_Not, d_tE, d_tAnd, d_tOr, d_tNot, d_tYes, d_If, d_CallI, isoE_ok, isoE_ex, iso1, iso2, iso3, iso4, iso5, d_CallS, tgK_some, d_Skip, d_Seq, d_Asg, d_Expr, d_Ret, d_IfS, d_For, d_Raise, d_Drop, drop_nx, drop_rt, drop_ex, wipe0, wipeC, d_fn, fin_rt, fin_nx, fin_ex, isoR_d, isoR_ex, add_ii, add_ss, add_tt, add_ll, add_llC, sub_ii, neg_i, lt_ii, le_ii, gt_ii, ge_ii, dep_s, dep_i, dep_b, dep_n, eq_ii, eq_ss, eq_bb, ne_ss, ne_ii, ne_bb, in_dt, in_dl, notin_dt, notin_dl, isN_n, isN_i, isN_t, isN_s, isN_b, isN_l, notN_b, notN_l, notN_n, notN_i, notN_t, notN_s, t0, t1, t2, t3, l0, l1, l2, l3, len_t, len_l, str_i, int_b, tup_t, tup_l, list_lC, list_tC, list_l, list_t, rev_lC, isi_d, rc_s, d_iSeq, seqK_l, seqK_t, d_iRng1, rngK_i, d_Lc, noEx_k, newL_f, newL_t, rng_zero, len_s, d_iTxt, k_tx, d_Sl, k_Sl, k_Sl2, k_Sl3, k_pt0, k_pt1, k_pt, sl_s, d_Fld, d_Meth, d_Make, d_Store, k_Store, k_Store2, inS_1, k_Op1, k_Op2, k_Op2b, k_Mt0, k_Mt1, k_Args, k_Argsb, k_Tup, k_LstC, k_Andb, k_And, k_Orb, k_Or, k_Notb, k_Not, k_tEb, k_tE, k_tAnd, k_tOr, k_tNot, k_If, k_Asg, k_Expr, k_IfS, k_For, k_Lc, k_Lcb, List.map_cons, List.map_nil, List.cons_append, List.nil_append, List.replicate, List.set_cons_zero, List.set_cons_succ, List.all_cons, List.all_nil, Bool.and_true, Bool.true_and, Bool.and_self, and_self, eq_self, if_true, if_false, decide_true, decide_false, Bool.false_eq_true, List.any_cons, List.any_nil, List.length_nil, List.length_cons, Bool.not_true, Bool.not_false, hp, he (Nat.zero_add _)]
theorem law_true : ∀ ns : List Int, ns.length ≤ 63 → ∃ S', g_law [.d (.list (ns.map .int))] [] = .ok (.d (.bool true)) S' := by
  intro ns _
  have hrv := @rev_lC [] (ns.map .int)
  unfold g_law f_law
  generalize hB : sDrop _ _ = B
  obtain ⟨ρ2, S2, h1, t', rfl, rfl⟩ := for_inv0 (g := gN 2) (b := B) (f := fun k : Nat => vI (0 + (k : Int))) (l := List.range 4) (ρ := [some (vL (ns.map .int)), some (.r 0), none, none]) (S := [tp ns.reverse])
    (fun pre ρ S => ∃ t : List Int, ρ = [some (vL (ns.map .int)), some (.r 0), none, none] ∧ S = [tp t]) ⟨_, rfl, rfl⟩ fun pre x post ρ S hl hI => by
      obtain ⟨t, rfl, rfl⟩ := hI
      obtain ⟨p, tb, ha, ok, ft⟩ := any t
      refine ⟨_, _, [tp tb], rfl, ?_, _, rfl, rfl⟩
      subst hB
      have hj := @join_l [tp tb] " " (p.nm :: p.words) (join_ok ok)
      have hx : Txt.join " " (p.nm :: p.words) = p.text := rfl
      have hj' : oJoin (vS " ") (vL (.str p.nm :: p.words.map .str)) [tp tb] = some (vS p.text, [tp tb]) := hj
      simp -implicitDefEqProofs +decide only [bind_ok, bind_ex, then_ok, then_ex, seq_nx, seq_rt, seq_ex, ite_tt, ite_ff, of_some, okOr_some, v0, v1, v2, v3, v4, v5, v6, v7, v8, v9, n0, n1, n2, n3, n4, n5, n6, n7, n8, n9, d_C, d_Op1, d_Op2, d_Mt0, d_Mt1, d_Args0, d_Args, d_Tup, d_Lst, d_LstC, tupK0, tupK1, tupK2, tupK3, tupK4, tupK9, bK_b, d_And, d_Or, d_Not, d_tE, d_tAnd, d_tOr, d_tNot, d_tYes, d_If, d_CallI, isoE_ok, isoE_ex, iso1, iso2, iso3, iso4, iso5, d_CallS, tgK_some, d_Skip, d_Seq, d_Asg, d_Expr, d_Ret, d_IfS, d_For, d_Raise, d_Drop, drop_nx, drop_rt, drop_ex, wipe0, wipeC, d_fn, fin_rt, fin_nx, fin_ex, isoR_d, isoR_ex, add_ii, add_ss, add_tt, add_ll, add_llC, sub_ii, neg_i, lt_ii, le_ii, gt_ii, ge_ii, dep_s, dep_i, dep_b, dep_n, eq_ii, eq_ss, eq_bb, ne_ss, ne_ii, ne_bb, in_dt, in_dl, notin_dt, notin_dl, isN_n, isN_i, isN_t, isN_s, isN_b, isN_l, notN_b, notN_l, notN_n, notN_i, notN_t, notN_s, t0, t1, t2, t3, l0, l1, l2, l3, len_t, len_l, str_i, int_b, tup_t, tup_l, list_lC, list_tC, list_l, list_t, rev_lC, isi_d, rc_s, d_iSeq, seqK_l, seqK_t, d_iRng1, rngK_i, d_Lc, noEx_k, newL_f, newL_t, rng_zero, len_s, d_iTxt, k_tx, d_Sl, k_Sl, k_Sl2, k_Sl3, k_pt0, k_pt1, k_pt, sl_s, d_Fld, d_Meth, d_Make, d_Store, k_Store, k_Store2, inS_1, k_Op1, k_Op2, k_Op2b, k_Mt0, k_Mt1, k_Args, k_Argsb, k_Tup, k_LstC, k_Andb, k_And, k_Orb, k_Or, k_Notb, k_Not, k_tEb, k_tE, k_tAnd, k_tOr, k_tNot, k_If, k_Asg, k_Expr, k_IfS, k_For, k_Lc, k_Lcb, List.map_cons, List.map_nil, List.cons_append, List.nil_append, List.replicate, List.set_cons_zero, List.set_cons_succ, List.all_cons, List.all_nil, Bool.and_true, Bool.true_and, Bool.and_self, and_self, eq_self, if_true, if_false, decide_true, decide_false, Bool.false_eq_true, List.any_cons, List.any_nil, List.length_nil, List.length_cons, Bool.not_true, Bool.not_false, ha, c_written ok, lc_paper ok, hj', c_read ok ft, same_4 (okS_pap ok)]
  refine ⟨[tp t'], ?_⟩
  have hr : oListRev true (vL (ns.map .int)) [] = some (.r 0, [tp ns.reverse]) := by rw [hrv]; simp [tp]
  have hg : forL (gN 2) B (rng 0 4) [some (vL (ns.map .int)), some (.r 0), none, none] [tp ns.reverse] = _ := h1
  simp -implicitDefEqProofs +decide only [bind_ok, bind_ex, then_ok, then_ex, seq_nx, seq_rt, seq_ex, ite_tt, ite_ff, of_some, okOr_some, v0, v1, v2, v3, v4, v5, v6, v7, v8, v9, n0, n1, n2, n3, n4, n5, n6, n7, n8, n9, d_C, d_Op1, d_Op2, d_Mt0, d_Mt1, d_Args0, d_Args, d_Tup, d_Lst, d_LstC, tupK0, tupK1, tupK2, tupK3, tupK4, tupK9, bK_b, d_And, d_Or, d_Not, d_tE, d_tAnd, d_tOr, d_tNot, d_tYes, d_If, d_CallI, isoE_ok, isoE_ex, iso1, iso2, iso3, iso4, iso5, d_CallS, tgK_some, d_Skip, d_Seq, d_Asg, d_Expr, d_Ret, d_IfS, d_For, d_Raise, d_Drop, drop_nx, drop_rt, drop_ex, wipe0, wipeC, d_fn, fin_rt, fin_nx, fin_ex, isoR_d, isoR_ex, add_ii, add_ss, add_tt, add_ll, add_llC, sub_ii, neg_i, lt_ii, le_ii, gt_ii, ge_ii, dep_s, dep_i, dep_b, dep_n, eq_ii, eq_ss, eq_bb, ne_ss, ne_ii, ne_bb, in_dt, in_dl, notin_dt, notin_dl, isN_n, isN_i, isN_t, isN_s, isN_b, isN_l, notN_b, notN_l, notN_n, notN_i, notN_t, notN_s, t0, t1, t2, t3, l0, l1, l2, l3, len_t, len_l, str_i, int_b, tup_t, tup_l, list_lC, list_tC, list_l, list_t, rev_lC, isi_d, rc_s, d_iSeq, seqK_l, seqK_t, d_iRng1, rngK_i, d_Lc, noEx_k, newL_f, newL_t, rng_zero, len_s, d_iTxt, k_tx, d_Sl, k_Sl, k_Sl2, k_Sl3, k_pt0, k_pt1, k_pt, sl_s, d_Fld, d_Meth, d_Make, d_Store, k_Store, k_Store2, inS_1, k_Op1, k_Op2, k_Op2b, k_Mt0, k_Mt1, k_Args, k_Argsb, k_Tup, k_LstC, k_Andb, k_And, k_Orb, k_Or, k_Notb, k_Not, k_tEb, k_tE, k_tAnd, k_tOr, k_tNot, k_If, k_Asg, k_Expr, k_IfS, k_For, k_Lc, k_Lcb, List.map_cons, List.map_nil, List.cons_append, List.nil_append, List.replicate, List.set_cons_zero, List.set_cons_succ, List.all_cons, List.all_nil, Bool.and_true, Bool.true_and, Bool.and_self, and_self, eq_self, if_true, if_false, decide_true, decide_false, Bool.false_eq_true, List.any_cons, List.any_nil, List.length_nil, List.length_cons, Bool.not_true, Bool.not_false, hr, show rngK (vI 4) [tp ns.reverse] = .ok (rng 0 4) [tp ns.reverse] from rfl, hg]
end K59

end SMath

section SDer
set_option Elab.async false
set_option linter.all false
set_option maxRecDepth 100000
set_option maxHeartbeats 4000000
namespace K59
open PySem PySem.Spec PyProof.Rows L2 DK
def topS (i : Nat) : Stmt := PySem.Challenge.pw_duskbook_k59_papers_read.main.body.getD i (.Pass ⟨0, 0, 0, 0⟩)
abbrev s_number_of : Stmt := topS 6
abbrev N_number_of : List Str := ["word", "sign"]
theorem sc_number_of : FnScope N_number_of ["word"] (defScope s_number_of) := ⟨rfl, rfl, rfl, by decide +kernel, rfl, by decide +kernel, by decide +kernel⟩
abbrev s_saying_of : Stmt := topS 7
abbrev N_saying_of : List Str := ["word", "beacon"]
theorem sc_saying_of : FnScope N_saying_of ["word"] (defScope s_saying_of) := ⟨rfl, rfl, rfl, by decide +kernel, rfl, by decide +kernel, by decide +kernel⟩
abbrev s_saying_word : Stmt := topS 8
abbrev N_saying_word : List Str := ["saying"]
theorem sc_saying_word : FnScope N_saying_word ["saying"] (defScope s_saying_word) := ⟨rfl, rfl, rfl, by decide +kernel, rfl, by decide +kernel, by decide +kernel⟩
abbrev s_road_words : Stmt := topS 11
abbrev N_road_words : List Str := ["road", "saying"]
theorem sc_road_words : FnScope N_road_words ["road"] (defScope s_road_words) := ⟨rfl, rfl, rfl, by decide +kernel, rfl, by decide +kernel, by decide +kernel⟩
abbrev s_number_words : Stmt := topS 12
abbrev N_number_words : List Str := ["numbers", "number"]
theorem sc_number_words : FnScope N_number_words ["numbers"] (defScope s_number_words) := ⟨rfl, rfl, rfl, by decide +kernel, rfl, by decide +kernel, by decide +kernel⟩
abbrev s_free_word : Stmt := topS 13
abbrev N_free_word : List Str := ["beacon"]
theorem sc_free_word : FnScope N_free_word ["beacon"] (defScope s_free_word) := ⟨rfl, rfl, rfl, by decide +kernel, rfl, by decide +kernel, by decide +kernel⟩
abbrev s_truth_word : Stmt := topS 14
abbrev N_truth_word : List Str := ["truth"]
theorem sc_truth_word : FnScope N_truth_word ["truth"] (defScope s_truth_word) := ⟨rfl, rfl, rfl, by decide +kernel, rfl, by decide +kernel, by decide +kernel⟩
abbrev s_rows_words : Stmt := topS 15
abbrev N_rows_words : List Str := ["word", "rows", "words", "row"]
theorem sc_rows_words : FnScope N_rows_words ["word", "rows"] (defScope s_rows_words) := ⟨rfl, rfl, rfl, by decide +kernel, rfl, by decide +kernel, by decide +kernel⟩
abbrev s_paper_words : Stmt := topS 16
abbrev N_paper_words : List Str := ["paper", "word"]
theorem sc_paper_words : FnScope N_paper_words ["paper"] (defScope s_paper_words) := ⟨rfl, rfl, rfl, by decide +kernel, rfl, by decide +kernel, by decide +kernel⟩
abbrev s_paper_written : Stmt := topS 17
abbrev N_paper_written : List Str := ["paper"]
theorem sc_paper_written : FnScope N_paper_written ["paper"] (defScope s_paper_written) := ⟨rfl, rfl, rfl, by decide +kernel, rfl, by decide +kernel, by decide +kernel⟩
abbrev s_Words_init : Stmt := inCls (topS 18) 0
abbrev N_Words_init : List Str := ["self", "text"]
theorem sc_Words_init : FnScope N_Words_init ["self", "text"] (defScope s_Words_init) := ⟨rfl, rfl, rfl, by decide +kernel, rfl, by decide +kernel, by decide +kernel⟩
abbrev s_Words_step : Stmt := inCls (topS 18) 1
abbrev N_Words_step : List Str := ["self", "word"]
theorem sc_Words_step : FnScope N_Words_step ["self"] (defScope s_Words_step) := ⟨rfl, rfl, rfl, by decide +kernel, rfl, by decide +kernel, by decide +kernel⟩
abbrev s_Words_ended : Stmt := inCls (topS 18) 2
abbrev N_Words_ended : List Str := ["self"]
theorem sc_Words_ended : FnScope N_Words_ended ["self"] (defScope s_Words_ended) := ⟨rfl, rfl, rfl, by decide +kernel, rfl, by decide +kernel, by decide +kernel⟩
abbrev s_number_read : Stmt := topS 19
abbrev N_number_read : List Str := ["words", "most", "number"]
theorem sc_number_read : FnScope N_number_read ["words", "most"] (defScope s_number_read) := ⟨rfl, rfl, rfl, by decide +kernel, rfl, by decide +kernel, by decide +kernel⟩
abbrev s_numbers_read : Stmt := topS 20
abbrev N_numbers_read : List Str := ["words", "most", "k"]
theorem sc_numbers_read : FnScope N_numbers_read ["words", "most"] (defScope s_numbers_read) := ⟨rfl, rfl, rfl, by decide +kernel, rfl, by decide +kernel, by decide +kernel⟩
abbrev s_saying_read : Stmt := topS 21
abbrev N_saying_read : List Str := ["words", "saying"]
theorem sc_saying_read : FnScope N_saying_read ["words"] (defScope s_saying_read) := ⟨rfl, rfl, rfl, by decide +kernel, rfl, by decide +kernel, by decide +kernel⟩
abbrev s_road_read : Stmt := topS 22
abbrev N_road_read : List Str := ["words", "k"]
theorem sc_road_read : FnScope N_road_read ["words"] (defScope s_road_read) := ⟨rfl, rfl, rfl, by decide +kernel, rfl, by decide +kernel, by decide +kernel⟩
abbrev s_free_read : Stmt := topS 23
abbrev N_free_read : List Str := ["words", "word", "beacon"]
theorem sc_free_read : FnScope N_free_read ["words"] (defScope s_free_read) := ⟨rfl, rfl, rfl, by decide +kernel, rfl, by decide +kernel, by decide +kernel⟩
abbrev s_truth_read : Stmt := topS 24
abbrev N_truth_read : List Str := ["words", "word"]
theorem sc_truth_read : FnScope N_truth_read ["words"] (defScope s_truth_read) := ⟨rfl, rfl, rfl, by decide +kernel, rfl, by decide +kernel, by decide +kernel⟩
abbrev s_row_read : Stmt := topS 25
abbrev N_row_read : List Str := ["words", "word", "beacon", "source", "beacons"]
theorem sc_row_read : FnScope N_row_read ["words", "word"] (defScope s_row_read) := ⟨rfl, rfl, rfl, by decide +kernel, rfl, by decide +kernel, by decide +kernel⟩
abbrev s_rows_read : Stmt := topS 26
abbrev N_rows_read : List Str := ["words", "word", "k"]
theorem sc_rows_read : FnScope N_rows_read ["words", "word"] (defScope s_rows_read) := ⟨rfl, rfl, rfl, by decide +kernel, rfl, by decide +kernel, by decide +kernel⟩
abbrev s_paper_next : Stmt := topS 27
abbrev N_paper_next : List Str := ["words", "word", "road", "beacon", "places", "beacons"]
theorem sc_paper_next : FnScope N_paper_next ["words"] (defScope s_paper_next) := ⟨rfl, rfl, rfl, by decide +kernel, rfl, by decide +kernel, by decide +kernel⟩
abbrev s_paper_read : Stmt := topS 28
abbrev N_paper_read : List Str := ["text", "words", "paper"]
theorem sc_paper_read : FnScope N_paper_read ["text"] (defScope s_paper_read) := ⟨rfl, rfl, rfl, by decide +kernel, rfl, by decide +kernel, by decide +kernel⟩
abbrev s__law_mixed : Stmt := topS 30
abbrev N__law_mixed : List Str := ["cell", "by"]
theorem sc__law_mixed : FnScope N__law_mixed ["cell", "by"] (defScope s__law_mixed) := ⟨rfl, rfl, rfl, by decide +kernel, rfl, by decide +kernel, by decide +kernel⟩
abbrev s__law_next : Stmt := topS 31
abbrev N__law_next : List Str := ["tape"]
theorem sc__law_next : FnScope N__law_next ["tape"] (defScope s__law_next) := ⟨rfl, rfl, rfl, by decide +kernel, rfl, by decide +kernel, by decide +kernel⟩
abbrev s__law_many : Stmt := topS 32
abbrev N__law_many : List Str := ["tape", "most", "left"]
theorem sc__law_many : FnScope N__law_many ["tape", "most"] (defScope s__law_many) := ⟨rfl, rfl, rfl, by decide +kernel, rfl, by decide +kernel, by decide +kernel⟩
abbrev s__law_any_road : Stmt := topS 33
abbrev N__law_any_road : List Str := ["tape", "road", "k", "left"]
theorem sc__law_any_road : FnScope N__law_any_road ["tape"] (defScope s__law_any_road) := ⟨rfl, rfl, rfl, by decide +kernel, rfl, by decide +kernel, by decide +kernel⟩
abbrev s__law_any_numbers : Stmt := topS 34
abbrev N__law_any_numbers : List Str := ["tape", "most", "k"]
theorem sc__law_any_numbers : FnScope N__law_any_numbers ["tape", "most"] (defScope s__law_any_numbers) := ⟨rfl, rfl, rfl, by decide +kernel, rfl, by decide +kernel, by decide +kernel⟩
abbrev s__law_any_rows : Stmt := topS 35
abbrev N__law_any_rows : List Str := ["tape", "word", "rows", "k", "left"]
theorem sc__law_any_rows : FnScope N__law_any_rows ["tape", "word"] (defScope s__law_any_rows) := ⟨rfl, rfl, rfl, by decide +kernel, rfl, by decide +kernel, by decide +kernel⟩
abbrev s__law_any : Stmt := topS 36
abbrev N__law_any : List Str := ["tape", "left", "word", "road", "places", "numbers"]
theorem sc__law_any : FnScope N__law_any ["tape"] (defScope s__law_any) := ⟨rfl, rfl, rfl, by decide +kernel, rfl, by decide +kernel, by decide +kernel⟩
abbrev s__law_number_words : Stmt := topS 37
abbrev N__law_number_words : List Str := ["numbers", "number"]
theorem sc__law_number_words : FnScope N__law_number_words ["numbers"] (defScope s__law_number_words) := ⟨rfl, rfl, rfl, by decide +kernel, rfl, by decide +kernel, by decide +kernel⟩
abbrev s__law_road_words : Stmt := topS 38
abbrev N__law_road_words : List Str := ["road", "saying"]
theorem sc__law_road_words : FnScope N__law_road_words ["road"] (defScope s__law_road_words) := ⟨rfl, rfl, rfl, by decide +kernel, rfl, by decide +kernel, by decide +kernel⟩
abbrev s__law_free_word : Stmt := topS 39
abbrev N__law_free_word : List Str := ["beacon"]
theorem sc__law_free_word : FnScope N__law_free_word ["beacon"] (defScope s__law_free_word) := ⟨rfl, rfl, rfl, by decide +kernel, rfl, by decide +kernel, by decide +kernel⟩
abbrev s__law_rows_words : Stmt := topS 40
abbrev N__law_rows_words : List Str := ["word", "rows", "words", "row"]
theorem sc__law_rows_words : FnScope N__law_rows_words ["word", "rows"] (defScope s__law_rows_words) := ⟨rfl, rfl, rfl, by decide +kernel, rfl, by decide +kernel, by decide +kernel⟩
abbrev s__law_paper_words : Stmt := topS 41
abbrev N__law_paper_words : List Str := ["paper", "word", "words"]
theorem sc__law_paper_words : FnScope N__law_paper_words ["paper"] (defScope s__law_paper_words) := ⟨rfl, rfl, rfl, by decide +kernel, rfl, by decide +kernel, by decide +kernel⟩
abbrev s__law_same : Stmt := topS 42
abbrev N__law_same : List Str := ["found", "due", "k"]
theorem sc__law_same : FnScope N__law_same ["found", "due"] (defScope s__law_same) := ⟨rfl, rfl, rfl, by decide +kernel, rfl, by decide +kernel, by decide +kernel⟩
abbrev s_law : Stmt := topS 43
abbrev N_law : List Str := ["script", "tape", "k", "paper"]
theorem sc_law : FnScope N_law ["script"] (defScope s_law) := ⟨rfl, rfl, rfl, by decide +kernel, rfl, by decide +kernel, by decide +kernel⟩
structure Tx (K : PySem.W.Frag) (mg : Str → Option Value) : Prop where
  z_all : mg "all" = none
  z_bool : mg "bool" = none
  z_int : mg "int" = none
  z_isinstance : mg "isinstance" = none
  z_len : mg "len" = none
  z_list : mg "list" = none
  z_range : mg "range" = none
  z_reversed : mg "reversed" = none
  z_str : mg "str" = none
  z_tuple : mg "tuple" = none
  g_BEACONS : ∃ t, mg "BEACONS" = some (.int 60 t)
  g_FIGURES : ∃ t, mg "FIGURES" = some (.str "0123456789" t)
  g_MOST : ∃ t, mg "MOST" = some (.int 200 t)
  k_Words : ∃ C : Addr, mg "Words" = some (.ref C) ∧ Cls K C ∧ NoAttr K C "row" ∧ NoAttr K C "done"
  d_number_of : DefAt K mg "number_of" "number_of" s_number_of ["word"]
  d_saying_of : DefAt K mg "saying_of" "saying_of" s_saying_of ["word"]
  d_saying_word : DefAt K mg "saying_word" "saying_word" s_saying_word ["saying"]
  d_road_words : DefAt K mg "road_words" "road_words" s_road_words ["road"]
  d_number_words : DefAt K mg "number_words" "number_words" s_number_words ["numbers"]
  d_free_word : DefAt K mg "free_word" "free_word" s_free_word ["beacon"]
  d_truth_word : DefAt K mg "truth_word" "truth_word" s_truth_word ["truth"]
  d_rows_words : DefAt K mg "rows_words" "rows_words" s_rows_words ["word", "rows"]
  d_paper_words : DefAt K mg "paper_words" "paper_words" s_paper_words ["paper"]
  d_paper_written : DefAt K mg "paper_written" "paper_written" s_paper_written ["paper"]
  d_Words_init : InitAt K mg .Words "Words.__init__" s_Words_init ["self", "text"]
  d_Words_step : MethAt K mg .Words "step" "Words.step" s_Words_step ["self"]
  d_Words_ended : MethAt K mg .Words "ended" "Words.ended" s_Words_ended ["self"]
  d_number_read : DefAt K mg "number_read" "number_read" s_number_read ["words", "most"]
  d_numbers_read : DefAt K mg "numbers_read" "numbers_read" s_numbers_read ["words", "most"]
  d_saying_read : DefAt K mg "saying_read" "saying_read" s_saying_read ["words"]
  d_road_read : DefAt K mg "road_read" "road_read" s_road_read ["words"]
  d_free_read : DefAt K mg "free_read" "free_read" s_free_read ["words"]
  d_truth_read : DefAt K mg "truth_read" "truth_read" s_truth_read ["words"]
  d_row_read : DefAt K mg "row_read" "row_read" s_row_read ["words", "word"]
  d_rows_read : DefAt K mg "rows_read" "rows_read" s_rows_read ["words", "word"]
  d_paper_next : DefAt K mg "paper_next" "paper_next" s_paper_next ["words"]
  d_paper_read : DefAt K mg "paper_read" "paper_read" s_paper_read ["text"]
  d__law_mixed : DefAt K mg "_law_mixed" "_law_mixed" s__law_mixed ["cell", "by"]
  d__law_next : DefAt K mg "_law_next" "_law_next" s__law_next ["tape"]
  d__law_many : DefAt K mg "_law_many" "_law_many" s__law_many ["tape", "most"]
  d__law_any_road : DefAt K mg "_law_any_road" "_law_any_road" s__law_any_road ["tape"]
  d__law_any_numbers : DefAt K mg "_law_any_numbers" "_law_any_numbers" s__law_any_numbers ["tape", "most"]
  d__law_any_rows : DefAt K mg "_law_any_rows" "_law_any_rows" s__law_any_rows ["tape", "word"]
  d__law_any : DefAt K mg "_law_any" "_law_any" s__law_any ["tape"]
  d__law_number_words : DefAt K mg "_law_number_words" "_law_number_words" s__law_number_words ["numbers"]
  d__law_road_words : DefAt K mg "_law_road_words" "_law_road_words" s__law_road_words ["road"]
  d__law_free_word : DefAt K mg "_law_free_word" "_law_free_word" s__law_free_word ["beacon"]
  d__law_rows_words : DefAt K mg "_law_rows_words" "_law_rows_words" s__law_rows_words ["word", "rows"]
  d__law_paper_words : DefAt K mg "_law_paper_words" "_law_paper_words" s__law_paper_words ["paper"]
  d__law_same : DefAt K mg "_law_same" "_law_same" s__law_same ["found", "due"]
  d_law : DefAt K mg "law" "law" s_law ["script"]
section
variable {P : Program} {w : World} {K : PySem.W.Frag} {mg : Str → Option Value}
theorem ok_number_of (T : Tx K mg) : Has P w K mg 1 "number_of" ["word"] g_number_of := by
  obtain ⟨C_Words, hC_Words, hc_Words, hn_Words_row, hn_Words_done⟩ := T.k_Words
  obtain ⟨f, fd, hm, F, hb⟩ := T.d_number_of.ex
  refine has_def F hm sc_number_of hb (by decide) fun base cdv A outer s H E hr => ?_
  have tk := takes_of (X := cxOf (L2.CX P w) P w K mg base N_number_of "number_of" (defScope s_number_of) f cdv A outer s H E) (E := E) rfl rfl rfl rfl
  have hu : (cxOf (L2.CX P w) P w K mg base N_number_of "number_of" (defScope s_number_of) f cdv A outer s H E).A.units + 64 < cLine := hr.units
  have hv : (cxOf (L2.CX P w) P w K mg base N_number_of "number_of" (defScope s_number_of) f cdv A outer s H E).A.units + 65 < cLine := by have := hr.un; exact Nat.lt_of_le_of_lt (Nat.add_le_add_left (by omega) _) this
  have nd := sc_number_of.nd
  exact (fss_cons (fs_if (ft_w (fw_or (ft_cmp om_lt (fe_callB cm_len (by rfl) T.z_len PySem.boot_len (fe_var 0)) (fe_int)) (fw_or1 (ft_cmp om_gt (fe_callB cm_len (by rfl) T.z_len PySem.boot_len (fe_var 0)) (fe_int))))) (fss_one (fs_ret (fe_non))) (fss_nil)) (fss_cons (fs_for (passes_of rfl) rfl (fi_txt (fe_var 0)) (fg_name (i := 1) nd rfl (by first | exact Or.inl rfl | exact Or.inr rfl)) (fss_drop (is := [1]) (fss_one (fs_if (ft_cmp om_notInS (fe_var 1) (fe_gstr T.g_FIGURES (by rfl))) (fss_one (fs_ret (fe_non))) (fss_nil))))) (fss_cons (fs_if (ft_w (fw_and (ft_cmp (om_eq hu) (fe_ix xm_ix (fe_var 0) (fe_int)) (fe_str)) (fw_and1 (ft_cmp om_gt (fe_callB cm_len (by rfl) T.z_len PySem.boot_len (fe_var 0)) (fe_int))))) (fss_one (fs_ret (fe_non))) (fss_nil)) (fss_one (fs_ret (fe_callT cm_intS (by rfl) T.z_int boot_int (fe_var 0)))))))
theorem ok_saying_of (T : Tx K mg) : Has P w K mg 2 "saying_of" ["word"] g_saying_of := by
  obtain ⟨C_Words, hC_Words, hc_Words, hn_Words_row, hn_Words_done⟩ := T.k_Words
  obtain ⟨f, fd, hm, F, hb⟩ := T.d_saying_of.ex
  refine has_def F hm sc_saying_of hb (by decide) fun base cdv A outer s H E hr => ?_
  have tk := takes_of (X := cxOf (L2.CX P w) P w K mg base N_saying_of "saying_of" (defScope s_saying_of) f cdv A outer s H E) (E := E) rfl rfl rfl rfl
  have hu : (cxOf (L2.CX P w) P w K mg base N_saying_of "saying_of" (defScope s_saying_of) f cdv A outer s H E).A.units + 64 < cLine := hr.units
  have hv : (cxOf (L2.CX P w) P w K mg base N_saying_of "saying_of" (defScope s_saying_of) f cdv A outer s H E).A.units + 65 < cLine := by have := hr.un; exact Nat.lt_of_le_of_lt (Nat.add_le_add_left (by omega) _) this
  have nd := sc_saying_of.nd
  exact (fss_cons (fs_if (ft_w (fw_and (ft_cmp (om_ne hu) (fe_sl (fe_var 0) fpt_none (fpt_some (fe_int))) (fe_str)) (fw_and1 (ft_cmp (om_ne hu) (fe_sl (fe_var 0) fpt_none (fpt_some (fe_int))) (fe_str))))) (fss_one (fs_ret (fe_non))) (fss_nil)) (fss_cons (fs_set (i := 1) nd rfl (by first | exact Or.inl rfl | exact Or.inr rfl) (fe_callI (ok_number_of T) (hr.mono (by decide)) (by rfl) tk (fa_cons (fe_sl (fe_var 0) (fpt_some (fe_int)) fpt_none) (fa_nil)))) (fss_cons (fs_if (ft_isN (fe_var 1)) (fss_one (fs_ret (fe_non))) (fss_nil)) (fss_one (fs_ret (fe_tup (fa_cons (fe_var 1) (fa_cons (fe_cmp (om_eq hu) (fe_ix xm_ix (fe_var 0) (fe_int)) (fe_str)) (fa_nil)))))))))
theorem ok_saying_word (T : Tx K mg) : Has P w K mg 1 "saying_word" ["saying"] g_saying_word := by
  obtain ⟨C_Words, hC_Words, hc_Words, hn_Words_row, hn_Words_done⟩ := T.k_Words
  obtain ⟨f, fd, hm, F, hb⟩ := T.d_saying_word.ex
  refine has_def F hm sc_saying_word hb (by decide) fun base cdv A outer s H E hr => ?_
  have tk := takes_of (X := cxOf (L2.CX P w) P w K mg base N_saying_word "saying_word" (defScope s_saying_word) f cdv A outer s H E) (E := E) rfl rfl rfl rfl
  have hu : (cxOf (L2.CX P w) P w K mg base N_saying_word "saying_word" (defScope s_saying_word) f cdv A outer s H E).A.units + 64 < cLine := hr.units
  have hv : (cxOf (L2.CX P w) P w K mg base N_saying_word "saying_word" (defScope s_saying_word) f cdv A outer s H E).A.units + 65 < cLine := by have := hr.un; exact Nat.lt_of_le_of_lt (Nat.add_le_add_left (by omega) _) this
  have nd := sc_saying_word.nd
  exact (fss_cons (fs_if (ft_val (fe_ix xm_ix (fe_var 0) (fe_int))) (fss_one (fs_ret (fe_bin om_add (fe_str) (fe_callT cm_str (by rfl) T.z_str boot_str (fe_ix xm_ix (fe_var 0) (fe_int)))))) (fss_nil)) (fss_one (fs_ret (fe_bin om_add (fe_str) (fe_callT cm_str (by rfl) T.z_str boot_str (fe_ix xm_ix (fe_var 0) (fe_int)))))))
theorem ok_road_words (T : Tx K mg) : Has P w K mg 2 "road_words" ["road"] g_road_words := by
  obtain ⟨C_Words, hC_Words, hc_Words, hn_Words_row, hn_Words_done⟩ := T.k_Words
  obtain ⟨f, fd, hm, F, hb⟩ := T.d_road_words.ex
  refine has_def F hm sc_road_words hb (by decide) fun base cdv A outer s H E hr => ?_
  have tk := takes_of (X := cxOf (L2.CX P w) P w K mg base N_road_words "road_words" (defScope s_road_words) f cdv A outer s H E) (E := E) rfl rfl rfl rfl
  have hu : (cxOf (L2.CX P w) P w K mg base N_road_words "road_words" (defScope s_road_words) f cdv A outer s H E).A.units + 64 < cLine := hr.units
  have hv : (cxOf (L2.CX P w) P w K mg base N_road_words "road_words" (defScope s_road_words) f cdv A outer s H E).A.units + 65 < cLine := by have := hr.un; exact Nat.lt_of_le_of_lt (Nat.add_le_add_left (by omega) _) this
  have nd := sc_road_words.nd
  exact (fss_one (fs_ret (fe_bin om_add (fe_lst (fa_cons (fe_callT cm_str (by rfl) T.z_str boot_str (fe_callB cm_len (by rfl) T.z_len PySem.boot_len (fe_var 0))) (fa_nil))) (fe_lc (own := [("saying", 1)]) rfl nd (fi_seq (fe_var 0)) (blkOk_by (N := N_road_words) (sc := defScope s_road_words) (by decide +kernel)) (fun _ _ _ _ _ => fg_name (i := 1) nd rfl (by first | exact Or.inl rfl | exact Or.inr rfl)) (fun _ _ _ _ _ => fts_nil) (fun _ _ _ _ _ => fe_callI (ok_saying_word T) (hr.mono (by decide)) (by rfl) takes0 (fa_cons (fe_var 1) (fa_nil)))))))
theorem ok_number_words (T : Tx K mg) : Has P w K mg 1 "number_words" ["numbers"] g_number_words := by
  obtain ⟨C_Words, hC_Words, hc_Words, hn_Words_row, hn_Words_done⟩ := T.k_Words
  obtain ⟨f, fd, hm, F, hb⟩ := T.d_number_words.ex
  refine has_def F hm sc_number_words hb (by decide) fun base cdv A outer s H E hr => ?_
  have tk := takes_of (X := cxOf (L2.CX P w) P w K mg base N_number_words "number_words" (defScope s_number_words) f cdv A outer s H E) (E := E) rfl rfl rfl rfl
  have hu : (cxOf (L2.CX P w) P w K mg base N_number_words "number_words" (defScope s_number_words) f cdv A outer s H E).A.units + 64 < cLine := hr.units
  have hv : (cxOf (L2.CX P w) P w K mg base N_number_words "number_words" (defScope s_number_words) f cdv A outer s H E).A.units + 65 < cLine := by have := hr.un; exact Nat.lt_of_le_of_lt (Nat.add_le_add_left (by omega) _) this
  have nd := sc_number_words.nd
  exact (fss_one (fs_ret (fe_bin om_add (fe_lst (fa_cons (fe_callT cm_str (by rfl) T.z_str boot_str (fe_callB cm_len (by rfl) T.z_len PySem.boot_len (fe_var 0))) (fa_nil))) (fe_lc (own := [("number", 1)]) rfl nd (fi_seq (fe_var 0)) (blkOk_by (N := N_number_words) (sc := defScope s_number_words) (by decide +kernel)) (fun _ _ _ _ _ => fg_name (i := 1) nd rfl (by first | exact Or.inl rfl | exact Or.inr rfl)) (fun _ _ _ _ _ => fts_nil) (fun _ _ _ _ _ => fe_callT cm_str (by rfl) T.z_str boot_str (fe_var 1))))))
theorem ok_free_word (T : Tx K mg) : Has P w K mg 1 "free_word" ["beacon"] g_free_word := by
  obtain ⟨C_Words, hC_Words, hc_Words, hn_Words_row, hn_Words_done⟩ := T.k_Words
  obtain ⟨f, fd, hm, F, hb⟩ := T.d_free_word.ex
  refine has_def F hm sc_free_word hb (by decide) fun base cdv A outer s H E hr => ?_
  have tk := takes_of (X := cxOf (L2.CX P w) P w K mg base N_free_word "free_word" (defScope s_free_word) f cdv A outer s H E) (E := E) rfl rfl rfl rfl
  have hu : (cxOf (L2.CX P w) P w K mg base N_free_word "free_word" (defScope s_free_word) f cdv A outer s H E).A.units + 64 < cLine := hr.units
  have hv : (cxOf (L2.CX P w) P w K mg base N_free_word "free_word" (defScope s_free_word) f cdv A outer s H E).A.units + 65 < cLine := by have := hr.un; exact Nat.lt_of_le_of_lt (Nat.add_le_add_left (by omega) _) this
  have nd := sc_free_word.nd
  exact (fss_cons (fs_if (ft_isN (fe_var 0)) (fss_one (fs_ret (fe_str))) (fss_nil)) (fss_one (fs_ret (fe_callT cm_str (by rfl) T.z_str boot_str (fe_var 0)))))
theorem ok_truth_word (T : Tx K mg) : Has P w K mg 1 "truth_word" ["truth"] g_truth_word := by
  obtain ⟨C_Words, hC_Words, hc_Words, hn_Words_row, hn_Words_done⟩ := T.k_Words
  obtain ⟨f, fd, hm, F, hb⟩ := T.d_truth_word.ex
  refine has_def F hm sc_truth_word hb (by decide) fun base cdv A outer s H E hr => ?_
  have tk := takes_of (X := cxOf (L2.CX P w) P w K mg base N_truth_word "truth_word" (defScope s_truth_word) f cdv A outer s H E) (E := E) rfl rfl rfl rfl
  have hu : (cxOf (L2.CX P w) P w K mg base N_truth_word "truth_word" (defScope s_truth_word) f cdv A outer s H E).A.units + 64 < cLine := hr.units
  have hv : (cxOf (L2.CX P w) P w K mg base N_truth_word "truth_word" (defScope s_truth_word) f cdv A outer s H E).A.units + 65 < cLine := by have := hr.un; exact Nat.lt_of_le_of_lt (Nat.add_le_add_left (by omega) _) this
  have nd := sc_truth_word.nd
  exact (fss_cons (fs_if (ft_val (fe_var 0)) (fss_one (fs_ret (fe_str))) (fss_nil)) (fss_one (fs_ret (fe_str))))
theorem ok_rows_words (T : Tx K mg) : Has P w K mg 2 "rows_words" ["word", "rows"] g_rows_words := by
  obtain ⟨C_Words, hC_Words, hc_Words, hn_Words_row, hn_Words_done⟩ := T.k_Words
  obtain ⟨f, fd, hm, F, hb⟩ := T.d_rows_words.ex
  refine has_def F hm sc_rows_words hb (by decide) fun base cdv A outer s H E hr => ?_
  have tk := takes_of (X := cxOf (L2.CX P w) P w K mg base N_rows_words "rows_words" (defScope s_rows_words) f cdv A outer s H E) (E := E) rfl rfl rfl rfl
  have hu : (cxOf (L2.CX P w) P w K mg base N_rows_words "rows_words" (defScope s_rows_words) f cdv A outer s H E).A.units + 64 < cLine := hr.units
  have hv : (cxOf (L2.CX P w) P w K mg base N_rows_words "rows_words" (defScope s_rows_words) f cdv A outer s H E).A.units + 65 < cLine := by have := hr.un; exact Nat.lt_of_le_of_lt (Nat.add_le_add_left (by omega) _) this
  have nd := sc_rows_words.nd
  exact (fss_cons (fs_set (i := 2) nd rfl (by first | exact Or.inl rfl | exact Or.inr rfl) (fe_lstC (fa_cons (fe_callT cm_str (by rfl) T.z_str boot_str (fe_callB cm_len (by rfl) T.z_len PySem.boot_len (fe_var 1))) (fa_nil)))) (fss_cons (fs_for (passes_of rfl) rfl (fi_seq (fe_var 1)) (fg_name (i := 3) nd rfl (by first | exact Or.inl rfl | exact Or.inr rfl)) (fss_drop (is := [3]) (fss_cons (fs_expr (fe_mt1 (c := .list) PySem.F.plainAttrs_list PySem.F.slot_list_append PySem.F.type_list_append mm_append (fe_var 2) (fe_callT cm_str (by rfl) T.z_str boot_str (fe_ix xm_ix (fe_var 3) (fe_int))))) (fss_cons (fs_if (ft_cmp (om_eq hu) (fe_var 0) (fe_str)) (fss_one (fs_set (i := 2) nd rfl (by first | exact Or.inl rfl | exact Or.inr rfl) (fe_bin om_add (fe_var 2) (fe_lst (fa_cons (fe_callI (ok_free_word T) (hr.mono (by decide)) (by rfl) tk (fa_cons (fe_ix xm_ix (fe_var 3) (fe_int)) (fa_nil))) (fa_cons (fe_callI (ok_truth_word T) (hr.mono (by decide)) (by rfl) tk (fa_cons (fe_ix xm_ix (fe_var 3) (fe_int)) (fa_nil))) (fa_nil))))))) (fss_one (fs_set (i := 2) nd rfl (by first | exact Or.inl rfl | exact Or.inr rfl) (fe_bin om_add (fe_var 2) (fe_callI (ok_number_words T) (hr.mono (by decide)) (by rfl) tk (fa_cons (fe_ix xm_ix (fe_var 3) (fe_int)) (fa_nil))))))) (fss_one (fs_if (ft_cmp (om_eq hu) (fe_var 0) (fe_str)) (fss_one (fs_expr (fe_mt1 (c := .list) PySem.F.plainAttrs_list PySem.F.slot_list_append PySem.F.type_list_append mm_append (fe_var 2) (fe_callI (ok_truth_word T) (hr.mono (by decide)) (by rfl) tk (fa_cons (fe_ix xm_ix (fe_var 3) (fe_int)) (fa_nil)))))) (fss_nil))))))) (fss_one (fs_ret (fe_var 2)))))
theorem ok_paper_words (T : Tx K mg) : Has P w K mg 3 "paper_words" ["paper"] g_paper_words := by
  obtain ⟨C_Words, hC_Words, hc_Words, hn_Words_row, hn_Words_done⟩ := T.k_Words
  obtain ⟨f, fd, hm, F, hb⟩ := T.d_paper_words.ex
  refine has_def F hm sc_paper_words hb (by decide) fun base cdv A outer s H E hr => ?_
  have tk := takes_of (X := cxOf (L2.CX P w) P w K mg base N_paper_words "paper_words" (defScope s_paper_words) f cdv A outer s H E) (E := E) rfl rfl rfl rfl
  have hu : (cxOf (L2.CX P w) P w K mg base N_paper_words "paper_words" (defScope s_paper_words) f cdv A outer s H E).A.units + 64 < cLine := hr.units
  have hv : (cxOf (L2.CX P w) P w K mg base N_paper_words "paper_words" (defScope s_paper_words) f cdv A outer s H E).A.units + 65 < cLine := by have := hr.un; exact Nat.lt_of_le_of_lt (Nat.add_le_add_left (by omega) _) this
  have nd := sc_paper_words.nd
  exact (fss_cons (fs_set (i := 1) nd rfl (by first | exact Or.inl rfl | exact Or.inr rfl) (fe_ix xm_ix (fe_var 0) (fe_int))) (fss_cons (fs_if (ft_cmp (om_in hv) (fe_var 1) (fe_tup (fa_cons (fe_str) (fa_cons (fe_str) (fa_nil))))) (fss_one (fs_ret (fe_bin om_add (fe_callI (ok_road_words T) (hr.mono (by decide)) (by rfl) tk (fa_cons (fe_ix xm_ix (fe_var 0) (fe_int)) (fa_nil))) (fe_callI (ok_road_words T) (hr.mono (by decide)) (by rfl) tk (fa_cons (fe_ix xm_ix (fe_var 0) (fe_int)) (fa_nil)))))) (fss_nil)) (fss_cons (fs_if (ft_cmp (om_eq hu) (fe_var 1) (fe_str)) (fss_one (fs_ret (fe_callI (ok_road_words T) (hr.mono (by decide)) (by rfl) tk (fa_cons (fe_ix xm_ix (fe_var 0) (fe_int)) (fa_nil))))) (fss_nil)) (fss_cons (fs_if (ft_cmp (om_eq hu) (fe_var 1) (fe_str)) (fss_one (fs_ret (fe_callI (ok_number_words T) (hr.mono (by decide)) (by rfl) tk (fa_cons (fe_ix xm_ix (fe_var 0) (fe_int)) (fa_nil))))) (fss_nil)) (fss_cons (fs_if (ft_cmp (om_eq hu) (fe_var 1) (fe_str)) (fss_one (fs_ret (fe_bin om_add (fe_bin om_add (fe_lst (fa_cons (fe_callI (ok_free_word T) (hr.mono (by decide)) (by rfl) tk (fa_cons (fe_ix xm_ix (fe_var 0) (fe_int)) (fa_nil))) (fa_nil))) (fe_callI (ok_number_words T) (hr.mono (by decide)) (by rfl) tk (fa_cons (fe_ix xm_ix (fe_var 0) (fe_int)) (fa_nil)))) (fe_callI (ok_number_words T) (hr.mono (by decide)) (by rfl) tk (fa_cons (fe_ix xm_ix (fe_var 0) (fe_int)) (fa_nil)))))) (fss_nil)) (fss_cons (fs_if (ft_cmp (om_in hv) (fe_var 1) (fe_tup (fa_cons (fe_str) (fa_cons (fe_str) (fa_nil))))) (fss_one (fs_ret (fe_callI (ok_rows_words T) (hr.mono (by decide)) (by rfl) tk (fa_cons (fe_var 1) (fa_cons (fe_ix xm_ix (fe_var 0) (fe_int)) (fa_nil)))))) (fss_nil)) (fss_cons (fs_if (ft_cmp (om_eq hu) (fe_var 1) (fe_str)) (fss_one (fs_ret (fe_bin om_add (fe_callI (ok_number_words T) (hr.mono (by decide)) (by rfl) tk (fa_cons (fe_ix xm_ix (fe_var 0) (fe_int)) (fa_nil))) (fe_callI (ok_rows_words T) (hr.mono (by decide)) (by rfl) tk (fa_cons (fe_var 1) (fa_cons (fe_ix xm_ix (fe_var 0) (fe_int)) (fa_nil))))))) (fss_nil)) (fss_one (fs_ret (fe_lst (fa_nil)))))))))))
theorem ok_paper_written (T : Tx K mg) : Has P w K mg 4 "paper_written" ["paper"] g_paper_written := by
  obtain ⟨C_Words, hC_Words, hc_Words, hn_Words_row, hn_Words_done⟩ := T.k_Words
  obtain ⟨f, fd, hm, F, hb⟩ := T.d_paper_written.ex
  refine has_def F hm sc_paper_written hb (by decide) fun base cdv A outer s H E hr => ?_
  have tk := takes_of (X := cxOf (L2.CX P w) P w K mg base N_paper_written "paper_written" (defScope s_paper_written) f cdv A outer s H E) (E := E) rfl rfl rfl rfl
  have hu : (cxOf (L2.CX P w) P w K mg base N_paper_written "paper_written" (defScope s_paper_written) f cdv A outer s H E).A.units + 64 < cLine := hr.units
  have hv : (cxOf (L2.CX P w) P w K mg base N_paper_written "paper_written" (defScope s_paper_written) f cdv A outer s H E).A.units + 65 < cLine := by have := hr.un; exact Nat.lt_of_le_of_lt (Nat.add_le_add_left (by omega) _) this
  have nd := sc_paper_written.nd
  exact (fss_one (fs_ret (fe_mt1 (c := .str) PySem.F.plainAttrs_str PySem.F.slot_str_join PySem.F.type_str_join mm_join (fe_str) (fe_bin om_add (fe_lst (fa_cons (fe_ix xm_ix (fe_var 0) (fe_int)) (fa_nil))) (fe_callI (ok_paper_words T) (hr.mono (by decide)) (by rfl) tk (fa_cons (fe_var 0) (fa_nil)))))))
theorem ok_Words_init (T : Tx K mg) : HasI P w K mg 1 .Words ["self", "text"] g_Words_init := by
  obtain ⟨C_Words, hC_Words, hc_Words, hn_Words_row, hn_Words_done⟩ := T.k_Words
  obtain ⟨C, f, fd, hC, hM, F, hb⟩ := T.d_Words_init.ex
  refine ⟨C, f, fd, hC, hM, hb, fn_ok F sc_Words_init (by decide) fun base cdv A outer s H E hr => ?_⟩
  have tk := takes_of (X := cxOf (L2.CX P w) P w K mg base N_Words_init "Words.__init__" (defScope s_Words_init) f cdv A outer s H E) (E := E) rfl rfl rfl rfl
  have hu : (cxOf (L2.CX P w) P w K mg base N_Words_init "Words.__init__" (defScope s_Words_init) f cdv A outer s H E).A.units + 64 < cLine := hr.units
  have hv : (cxOf (L2.CX P w) P w K mg base N_Words_init "Words.__init__" (defScope s_Words_init) f cdv A outer s H E).A.units + 65 < cLine := by have := hr.un; exact Nat.lt_of_le_of_lt (Nat.add_le_add_left (by omega) _) this
  have nd := sc_Words_init.nd
  exact (fss_cons (fs_store (c := .Words) hC_Words hc_Words hn_Words_row (fe_var 0) (fe_mt1 (c := .str) PySem.F.plainAttrs_str PySem.F.slot_str_split PySem.F.type_str_split mm_split (fe_var 1) (fe_str))) (fss_one (fs_store (c := .Words) hC_Words hc_Words hn_Words_done (fe_var 0) (fe_int))))
theorem ok_Words_step (T : Tx K mg) : HasM P w K mg 1 .Words "step" ["self"] g_Words_step := by
  obtain ⟨C_Words, hC_Words, hc_Words, hn_Words_row, hn_Words_done⟩ := T.k_Words
  obtain ⟨C, f, fd, hC, hc, hM, F, hb⟩ := T.d_Words_step.ex
  refine ⟨C, f, fd, hC, hc, hM, hb, fn_ok F sc_Words_step (by decide) fun base cdv A outer s H E hr => ?_⟩
  have tk := takes_of (X := cxOf (L2.CX P w) P w K mg base N_Words_step "Words.step" (defScope s_Words_step) f cdv A outer s H E) (E := E) rfl rfl rfl rfl
  have hu : (cxOf (L2.CX P w) P w K mg base N_Words_step "Words.step" (defScope s_Words_step) f cdv A outer s H E).A.units + 64 < cLine := hr.units
  have hv : (cxOf (L2.CX P w) P w K mg base N_Words_step "Words.step" (defScope s_Words_step) f cdv A outer s H E).A.units + 65 < cLine := by have := hr.un; exact Nat.lt_of_le_of_lt (Nat.add_le_add_left (by omega) _) this
  have nd := sc_Words_step.nd
  exact (fss_cons (fs_set (i := 1) nd rfl (by first | exact Or.inl rfl | exact Or.inr rfl) (fe_str)) (fss_cons (fs_if (ft_cmp om_lt (fe_fld (c := .Words) hC_Words hc_Words hn_Words_done (fe_var 0)) (fe_callB cm_len (by rfl) T.z_len PySem.boot_len (fe_fld (c := .Words) hC_Words hc_Words hn_Words_row (fe_var 0)))) (fss_one (fs_set (i := 1) nd rfl (by first | exact Or.inl rfl | exact Or.inr rfl) (fe_ix xm_ix (fe_fld (c := .Words) hC_Words hc_Words hn_Words_row (fe_var 0)) (fe_fld (c := .Words) hC_Words hc_Words hn_Words_done (fe_var 0))))) (fss_nil)) (fss_cons (fs_store (c := .Words) hC_Words hc_Words hn_Words_done (fe_var 0) (fe_bin om_add (fe_fld (c := .Words) hC_Words hc_Words hn_Words_done (fe_var 0)) (fe_int))) (fss_one (fs_ret (fe_var 1))))))
theorem ok_Words_ended (T : Tx K mg) : HasM P w K mg 1 .Words "ended" ["self"] g_Words_ended := by
  obtain ⟨C_Words, hC_Words, hc_Words, hn_Words_row, hn_Words_done⟩ := T.k_Words
  obtain ⟨C, f, fd, hC, hc, hM, F, hb⟩ := T.d_Words_ended.ex
  refine ⟨C, f, fd, hC, hc, hM, hb, fn_ok F sc_Words_ended (by decide) fun base cdv A outer s H E hr => ?_⟩
  have tk := takes_of (X := cxOf (L2.CX P w) P w K mg base N_Words_ended "Words.ended" (defScope s_Words_ended) f cdv A outer s H E) (E := E) rfl rfl rfl rfl
  have hu : (cxOf (L2.CX P w) P w K mg base N_Words_ended "Words.ended" (defScope s_Words_ended) f cdv A outer s H E).A.units + 64 < cLine := hr.units
  have hv : (cxOf (L2.CX P w) P w K mg base N_Words_ended "Words.ended" (defScope s_Words_ended) f cdv A outer s H E).A.units + 65 < cLine := by have := hr.un; exact Nat.lt_of_le_of_lt (Nat.add_le_add_left (by omega) _) this
  have nd := sc_Words_ended.nd
  exact (fss_one (fs_ret (fe_cmp (om_eq hu) (fe_fld (c := .Words) hC_Words hc_Words hn_Words_done (fe_var 0)) (fe_callB cm_len (by rfl) T.z_len PySem.boot_len (fe_fld (c := .Words) hC_Words hc_Words hn_Words_row (fe_var 0))))))
theorem ok_number_read (T : Tx K mg) : Has P w K mg 2 "number_read" ["words", "most"] g_number_read := by
  obtain ⟨C_Words, hC_Words, hc_Words, hn_Words_row, hn_Words_done⟩ := T.k_Words
  obtain ⟨f, fd, hm, F, hb⟩ := T.d_number_read.ex
  refine has_def F hm sc_number_read hb (by decide) fun base cdv A outer s H E hr => ?_
  have tk := takes_of (X := cxOf (L2.CX P w) P w K mg base N_number_read "number_read" (defScope s_number_read) f cdv A outer s H E) (E := E) rfl rfl rfl rfl
  have hu : (cxOf (L2.CX P w) P w K mg base N_number_read "number_read" (defScope s_number_read) f cdv A outer s H E).A.units + 64 < cLine := hr.units
  have hv : (cxOf (L2.CX P w) P w K mg base N_number_read "number_read" (defScope s_number_read) f cdv A outer s H E).A.units + 65 < cLine := by have := hr.un; exact Nat.lt_of_le_of_lt (Nat.add_le_add_left (by omega) _) this
  have nd := sc_number_read.nd
  exact (fss_cons (fs_set (i := 2) nd rfl (by first | exact Or.inl rfl | exact Or.inr rfl) (fe_callI (ok_number_of T) (hr.mono (by decide)) (by rfl) tk (fa_cons (fe_meth0 (ok_Words_step T) (hr.mono (by decide)) tk (fe_var 0)) (fa_nil)))) (fss_cons (fs_if (ft_w (fw_or (ft_isN (fe_var 2)) (fw_or1 (ft_cmp om_gt (fe_var 2) (fe_var 1))))) (fss_one (fs_bad)) (fss_nil)) (fss_one (fs_ret (fe_var 2)))))
theorem ok_numbers_read (T : Tx K mg) : Has P w K mg 3 "numbers_read" ["words", "most"] g_numbers_read := by
  obtain ⟨C_Words, hC_Words, hc_Words, hn_Words_row, hn_Words_done⟩ := T.k_Words
  obtain ⟨f, fd, hm, F, hb⟩ := T.d_numbers_read.ex
  refine has_def F hm sc_numbers_read hb (by decide) fun base cdv A outer s H E hr => ?_
  have tk := takes_of (X := cxOf (L2.CX P w) P w K mg base N_numbers_read "numbers_read" (defScope s_numbers_read) f cdv A outer s H E) (E := E) rfl rfl rfl rfl
  have hu : (cxOf (L2.CX P w) P w K mg base N_numbers_read "numbers_read" (defScope s_numbers_read) f cdv A outer s H E).A.units + 64 < cLine := hr.units
  have hv : (cxOf (L2.CX P w) P w K mg base N_numbers_read "numbers_read" (defScope s_numbers_read) f cdv A outer s H E).A.units + 65 < cLine := by have := hr.un; exact Nat.lt_of_le_of_lt (Nat.add_le_add_left (by omega) _) this
  have nd := sc_numbers_read.nd
  exact (fss_one (fs_ret (fe_callT cm_tuple (by rfl) T.z_tuple boot_tuple (fe_lc (own := [("k", 2)]) rfl nd (fi_rng1 (by rfl) T.z_range (fe_callS (ok_number_read T) (hr.mono (by decide)) (by rfl) tk (fa_cons (fe_var 0) (fa_cons (fe_gint T.g_MOST (by rfl)) (fa_nil))))) (blkOk_by (N := N_numbers_read) (sc := defScope s_numbers_read) (by decide +kernel)) (fun _ _ _ _ _ => fg_name (i := 2) nd rfl (by first | exact Or.inl rfl | exact Or.inr rfl)) (fun _ _ _ _ _ => fts_nil) (fun _ _ _ _ _ => fe_callS (ok_number_read T) (hr.mono (by decide)) (by rfl) takes0 (fa_cons (fe_var 0) (fa_cons (fe_var 1) (fa_nil))))))))
theorem ok_saying_read (T : Tx K mg) : Has P w K mg 3 "saying_read" ["words"] g_saying_read := by
  obtain ⟨C_Words, hC_Words, hc_Words, hn_Words_row, hn_Words_done⟩ := T.k_Words
  obtain ⟨f, fd, hm, F, hb⟩ := T.d_saying_read.ex
  refine has_def F hm sc_saying_read hb (by decide) fun base cdv A outer s H E hr => ?_
  have tk := takes_of (X := cxOf (L2.CX P w) P w K mg base N_saying_read "saying_read" (defScope s_saying_read) f cdv A outer s H E) (E := E) rfl rfl rfl rfl
  have hu : (cxOf (L2.CX P w) P w K mg base N_saying_read "saying_read" (defScope s_saying_read) f cdv A outer s H E).A.units + 64 < cLine := hr.units
  have hv : (cxOf (L2.CX P w) P w K mg base N_saying_read "saying_read" (defScope s_saying_read) f cdv A outer s H E).A.units + 65 < cLine := by have := hr.un; exact Nat.lt_of_le_of_lt (Nat.add_le_add_left (by omega) _) this
  have nd := sc_saying_read.nd
  exact (fss_cons (fs_set (i := 1) nd rfl (by first | exact Or.inl rfl | exact Or.inr rfl) (fe_callI (ok_saying_of T) (hr.mono (by decide)) (by rfl) tk (fa_cons (fe_meth0 (ok_Words_step T) (hr.mono (by decide)) tk (fe_var 0)) (fa_nil)))) (fss_cons (fs_if (ft_w (fw_or (ft_isN (fe_var 1)) (fw_or1 (ft_cmp om_ge (fe_ix xm_ix (fe_var 1) (fe_int)) (fe_gint T.g_BEACONS (by rfl)))))) (fss_one (fs_bad)) (fss_nil)) (fss_one (fs_ret (fe_var 1)))))
theorem ok_road_read (T : Tx K mg) : Has P w K mg 4 "road_read" ["words"] g_road_read := by
  obtain ⟨C_Words, hC_Words, hc_Words, hn_Words_row, hn_Words_done⟩ := T.k_Words
  obtain ⟨f, fd, hm, F, hb⟩ := T.d_road_read.ex
  refine has_def F hm sc_road_read hb (by decide) fun base cdv A outer s H E hr => ?_
  have tk := takes_of (X := cxOf (L2.CX P w) P w K mg base N_road_read "road_read" (defScope s_road_read) f cdv A outer s H E) (E := E) rfl rfl rfl rfl
  have hu : (cxOf (L2.CX P w) P w K mg base N_road_read "road_read" (defScope s_road_read) f cdv A outer s H E).A.units + 64 < cLine := hr.units
  have hv : (cxOf (L2.CX P w) P w K mg base N_road_read "road_read" (defScope s_road_read) f cdv A outer s H E).A.units + 65 < cLine := by have := hr.un; exact Nat.lt_of_le_of_lt (Nat.add_le_add_left (by omega) _) this
  have nd := sc_road_read.nd
  exact (fss_one (fs_ret (fe_callT cm_tuple (by rfl) T.z_tuple boot_tuple (fe_lc (own := [("k", 1)]) rfl nd (fi_rng1 (by rfl) T.z_range (fe_callS (ok_number_read T) (hr.mono (by decide)) (by rfl) tk (fa_cons (fe_var 0) (fa_cons (fe_gint T.g_MOST (by rfl)) (fa_nil))))) (blkOk_by (N := N_road_read) (sc := defScope s_road_read) (by decide +kernel)) (fun _ _ _ _ _ => fg_name (i := 1) nd rfl (by first | exact Or.inl rfl | exact Or.inr rfl)) (fun _ _ _ _ _ => fts_nil) (fun _ _ _ _ _ => fe_callS (ok_saying_read T) (hr.mono (by decide)) (by rfl) takes0 (fa_cons (fe_var 0) (fa_nil)))))))
theorem ok_free_read (T : Tx K mg) : Has P w K mg 2 "free_read" ["words"] g_free_read := by
  obtain ⟨C_Words, hC_Words, hc_Words, hn_Words_row, hn_Words_done⟩ := T.k_Words
  obtain ⟨f, fd, hm, F, hb⟩ := T.d_free_read.ex
  refine has_def F hm sc_free_read hb (by decide) fun base cdv A outer s H E hr => ?_
  have tk := takes_of (X := cxOf (L2.CX P w) P w K mg base N_free_read "free_read" (defScope s_free_read) f cdv A outer s H E) (E := E) rfl rfl rfl rfl
  have hu : (cxOf (L2.CX P w) P w K mg base N_free_read "free_read" (defScope s_free_read) f cdv A outer s H E).A.units + 64 < cLine := hr.units
  have hv : (cxOf (L2.CX P w) P w K mg base N_free_read "free_read" (defScope s_free_read) f cdv A outer s H E).A.units + 65 < cLine := by have := hr.un; exact Nat.lt_of_le_of_lt (Nat.add_le_add_left (by omega) _) this
  have nd := sc_free_read.nd
  exact (fss_cons (fs_set (i := 1) nd rfl (by first | exact Or.inl rfl | exact Or.inr rfl) (fe_meth0 (ok_Words_step T) (hr.mono (by decide)) tk (fe_var 0))) (fss_cons (fs_if (ft_cmp (om_eq hu) (fe_var 1) (fe_str)) (fss_one (fs_ret (fe_non))) (fss_nil)) (fss_cons (fs_set (i := 2) nd rfl (by first | exact Or.inl rfl | exact Or.inr rfl) (fe_callI (ok_number_of T) (hr.mono (by decide)) (by rfl) tk (fa_cons (fe_var 1) (fa_nil)))) (fss_cons (fs_if (ft_w (fw_or (ft_isN (fe_var 2)) (fw_or1 (ft_cmp om_ge (fe_var 2) (fe_gint T.g_BEACONS (by rfl)))))) (fss_one (fs_bad)) (fss_nil)) (fss_one (fs_ret (fe_var 2)))))))
theorem ok_truth_read (T : Tx K mg) : Has P w K mg 2 "truth_read" ["words"] g_truth_read := by
  obtain ⟨C_Words, hC_Words, hc_Words, hn_Words_row, hn_Words_done⟩ := T.k_Words
  obtain ⟨f, fd, hm, F, hb⟩ := T.d_truth_read.ex
  refine has_def F hm sc_truth_read hb (by decide) fun base cdv A outer s H E hr => ?_
  have tk := takes_of (X := cxOf (L2.CX P w) P w K mg base N_truth_read "truth_read" (defScope s_truth_read) f cdv A outer s H E) (E := E) rfl rfl rfl rfl
  have hu : (cxOf (L2.CX P w) P w K mg base N_truth_read "truth_read" (defScope s_truth_read) f cdv A outer s H E).A.units + 64 < cLine := hr.units
  have hv : (cxOf (L2.CX P w) P w K mg base N_truth_read "truth_read" (defScope s_truth_read) f cdv A outer s H E).A.units + 65 < cLine := by have := hr.un; exact Nat.lt_of_le_of_lt (Nat.add_le_add_left (by omega) _) this
  have nd := sc_truth_read.nd
  exact (fss_cons (fs_set (i := 1) nd rfl (by first | exact Or.inl rfl | exact Or.inr rfl) (fe_meth0 (ok_Words_step T) (hr.mono (by decide)) tk (fe_var 0))) (fss_cons (fs_if (ft_cmp (om_notIn hv) (fe_var 1) (fe_tup (fa_cons (fe_str) (fa_cons (fe_str) (fa_nil))))) (fss_one (fs_bad)) (fss_nil)) (fss_one (fs_ret (fe_cmp (om_eq hu) (fe_var 1) (fe_str))))))
theorem ok_row_read (T : Tx K mg) : Has P w K mg 4 "row_read" ["words", "word"] g_row_read := by
  obtain ⟨C_Words, hC_Words, hc_Words, hn_Words_row, hn_Words_done⟩ := T.k_Words
  obtain ⟨f, fd, hm, F, hb⟩ := T.d_row_read.ex
  refine has_def F hm sc_row_read hb (by decide) fun base cdv A outer s H E hr => ?_
  have tk := takes_of (X := cxOf (L2.CX P w) P w K mg base N_row_read "row_read" (defScope s_row_read) f cdv A outer s H E) (E := E) rfl rfl rfl rfl
  have hu : (cxOf (L2.CX P w) P w K mg base N_row_read "row_read" (defScope s_row_read) f cdv A outer s H E).A.units + 64 < cLine := hr.units
  have hv : (cxOf (L2.CX P w) P w K mg base N_row_read "row_read" (defScope s_row_read) f cdv A outer s H E).A.units + 65 < cLine := by have := hr.un; exact Nat.lt_of_le_of_lt (Nat.add_le_add_left (by omega) _) this
  have nd := sc_row_read.nd
  exact (fss_cons (fs_set (i := 2) nd rfl (by first | exact Or.inl rfl | exact Or.inr rfl) (fe_callS (ok_number_read T) (hr.mono (by decide)) (by rfl) tk (fa_cons (fe_var 0) (fa_cons (fe_bin om_sub (fe_gint T.g_BEACONS (by rfl)) (fe_int)) (fa_nil))))) (fss_cons (fs_if (ft_cmp (om_eq hu) (fe_var 1) (fe_str)) (fss_cons (fs_set (i := 3) nd rfl (by first | exact Or.inl rfl | exact Or.inr rfl) (fe_callS (ok_free_read T) (hr.mono (by decide)) (by rfl) tk (fa_cons (fe_var 0) (fa_nil)))) (fss_one (fs_ret (fe_tup (fa_cons (fe_var 2) (fa_cons (fe_var 3) (fa_cons (fe_callS (ok_truth_read T) (hr.mono (by decide)) (by rfl) tk (fa_cons (fe_var 0) (fa_nil))) (fa_nil)))))))) (fss_nil)) (fss_cons (fs_set (i := 4) nd rfl (by first | exact Or.inl rfl | exact Or.inr rfl) (fe_callS (ok_numbers_read T) (hr.mono (by decide)) (by rfl) tk (fa_cons (fe_var 0) (fa_cons (fe_bin om_sub (fe_gint T.g_BEACONS (by rfl)) (fe_int)) (fa_nil))))) (fss_cons (fs_if (ft_cmp (om_eq hu) (fe_var 1) (fe_str)) (fss_one (fs_ret (fe_tup (fa_cons (fe_var 2) (fa_cons (fe_var 4) (fa_cons (fe_callS (ok_truth_read T) (hr.mono (by decide)) (by rfl) tk (fa_cons (fe_var 0) (fa_nil))) (fa_nil))))))) (fss_nil)) (fss_one (fs_ret (fe_tup (fa_cons (fe_var 2) (fa_cons (fe_var 4) (fa_nil))))))))))
theorem ok_rows_read (T : Tx K mg) : Has P w K mg 5 "rows_read" ["words", "word"] g_rows_read := by
  obtain ⟨C_Words, hC_Words, hc_Words, hn_Words_row, hn_Words_done⟩ := T.k_Words
  obtain ⟨f, fd, hm, F, hb⟩ := T.d_rows_read.ex
  refine has_def F hm sc_rows_read hb (by decide) fun base cdv A outer s H E hr => ?_
  have tk := takes_of (X := cxOf (L2.CX P w) P w K mg base N_rows_read "rows_read" (defScope s_rows_read) f cdv A outer s H E) (E := E) rfl rfl rfl rfl
  have hu : (cxOf (L2.CX P w) P w K mg base N_rows_read "rows_read" (defScope s_rows_read) f cdv A outer s H E).A.units + 64 < cLine := hr.units
  have hv : (cxOf (L2.CX P w) P w K mg base N_rows_read "rows_read" (defScope s_rows_read) f cdv A outer s H E).A.units + 65 < cLine := by have := hr.un; exact Nat.lt_of_le_of_lt (Nat.add_le_add_left (by omega) _) this
  have nd := sc_rows_read.nd
  exact (fss_one (fs_ret (fe_callT cm_tuple (by rfl) T.z_tuple boot_tuple (fe_lc (own := [("k", 2)]) rfl nd (fi_rng1 (by rfl) T.z_range (fe_callS (ok_number_read T) (hr.mono (by decide)) (by rfl) tk (fa_cons (fe_var 0) (fa_cons (fe_gint T.g_MOST (by rfl)) (fa_nil))))) (blkOk_by (N := N_rows_read) (sc := defScope s_rows_read) (by decide +kernel)) (fun _ _ _ _ _ => fg_name (i := 2) nd rfl (by first | exact Or.inl rfl | exact Or.inr rfl)) (fun _ _ _ _ _ => fts_nil) (fun _ _ _ _ _ => fe_callS (ok_row_read T) (hr.mono (by decide)) (by rfl) takes0 (fa_cons (fe_var 0) (fa_cons (fe_var 1) (fa_nil))))))))
theorem ok_paper_next (T : Tx K mg) : Has P w K mg 6 "paper_next" ["words"] g_paper_next := by
  obtain ⟨C_Words, hC_Words, hc_Words, hn_Words_row, hn_Words_done⟩ := T.k_Words
  obtain ⟨f, fd, hm, F, hb⟩ := T.d_paper_next.ex
  refine has_def F hm sc_paper_next hb (by decide) fun base cdv A outer s H E hr => ?_
  have tk := takes_of (X := cxOf (L2.CX P w) P w K mg base N_paper_next "paper_next" (defScope s_paper_next) f cdv A outer s H E) (E := E) rfl rfl rfl rfl
  have hu : (cxOf (L2.CX P w) P w K mg base N_paper_next "paper_next" (defScope s_paper_next) f cdv A outer s H E).A.units + 64 < cLine := hr.units
  have hv : (cxOf (L2.CX P w) P w K mg base N_paper_next "paper_next" (defScope s_paper_next) f cdv A outer s H E).A.units + 65 < cLine := by have := hr.un; exact Nat.lt_of_le_of_lt (Nat.add_le_add_left (by omega) _) this
  have nd := sc_paper_next.nd
  exact (fss_cons (fs_set (i := 1) nd rfl (by first | exact Or.inl rfl | exact Or.inr rfl) (fe_meth0 (ok_Words_step T) (hr.mono (by decide)) tk (fe_var 0))) (fss_cons (fs_if (ft_cmp (om_eq hu) (fe_var 1) (fe_str)) (fss_one (fs_ret (fe_tup (fa_cons (fe_var 1) (fa_nil))))) (fss_nil)) (fss_cons (fs_if (ft_cmp (om_in hv) (fe_var 1) (fe_tup (fa_cons (fe_str) (fa_cons (fe_str) (fa_nil))))) (fss_cons (fs_set (i := 2) nd rfl (by first | exact Or.inl rfl | exact Or.inr rfl) (fe_callS (ok_road_read T) (hr.mono (by decide)) (by rfl) tk (fa_cons (fe_var 0) (fa_nil)))) (fss_one (fs_ret (fe_tup (fa_cons (fe_var 1) (fa_cons (fe_var 2) (fa_cons (fe_callS (ok_road_read T) (hr.mono (by decide)) (by rfl) tk (fa_cons (fe_var 0) (fa_nil))) (fa_nil)))))))) (fss_nil)) (fss_cons (fs_if (ft_cmp (om_eq hu) (fe_var 1) (fe_str)) (fss_one (fs_ret (fe_tup (fa_cons (fe_var 1) (fa_cons (fe_callS (ok_road_read T) (hr.mono (by decide)) (by rfl) tk (fa_cons (fe_var 0) (fa_nil))) (fa_nil)))))) (fss_nil)) (fss_cons (fs_if (ft_cmp (om_eq hu) (fe_var 1) (fe_str)) (fss_one (fs_ret (fe_tup (fa_cons (fe_var 1) (fa_cons (fe_callS (ok_numbers_read T) (hr.mono (by decide)) (by rfl) tk (fa_cons (fe_var 0) (fa_cons (fe_gint T.g_MOST (by rfl)) (fa_nil)))) (fa_nil)))))) (fss_nil)) (fss_cons (fs_if (ft_cmp (om_eq hu) (fe_var 1) (fe_str)) (fss_cons (fs_set (i := 3) nd rfl (by first | exact Or.inl rfl | exact Or.inr rfl) (fe_callS (ok_free_read T) (hr.mono (by decide)) (by rfl) tk (fa_cons (fe_var 0) (fa_nil)))) (fss_cons (fs_set (i := 4) nd rfl (by first | exact Or.inl rfl | exact Or.inr rfl) (fe_callS (ok_numbers_read T) (hr.mono (by decide)) (by rfl) tk (fa_cons (fe_var 0) (fa_cons (fe_gint T.g_MOST (by rfl)) (fa_nil))))) (fss_one (fs_ret (fe_tup (fa_cons (fe_var 1) (fa_cons (fe_var 3) (fa_cons (fe_var 4) (fa_cons (fe_callS (ok_numbers_read T) (hr.mono (by decide)) (by rfl) tk (fa_cons (fe_var 0) (fa_cons (fe_gint T.g_MOST (by rfl)) (fa_nil)))) (fa_nil)))))))))) (fss_nil)) (fss_cons (fs_if (ft_cmp (om_in hv) (fe_var 1) (fe_tup (fa_cons (fe_str) (fa_cons (fe_str) (fa_nil))))) (fss_one (fs_ret (fe_tup (fa_cons (fe_var 1) (fa_cons (fe_callS (ok_rows_read T) (hr.mono (by decide)) (by rfl) tk (fa_cons (fe_var 0) (fa_cons (fe_var 1) (fa_nil)))) (fa_nil)))))) (fss_nil)) (fss_cons (fs_if (ft_cmp (om_eq hu) (fe_var 1) (fe_str)) (fss_cons (fs_set (i := 5) nd rfl (by first | exact Or.inl rfl | exact Or.inr rfl) (fe_callS (ok_numbers_read T) (hr.mono (by decide)) (by rfl) tk (fa_cons (fe_var 0) (fa_cons (fe_bin om_sub (fe_gint T.g_BEACONS (by rfl)) (fe_int)) (fa_nil))))) (fss_one (fs_ret (fe_tup (fa_cons (fe_var 1) (fa_cons (fe_var 5) (fa_cons (fe_callS (ok_rows_read T) (hr.mono (by decide)) (by rfl) tk (fa_cons (fe_var 0) (fa_cons (fe_var 1) (fa_nil)))) (fa_nil)))))))) (fss_nil)) (fss_one (fs_bad))))))))))
theorem ok_paper_read (T : Tx K mg) : Has P w K mg 7 "paper_read" ["text"] g_paper_read := by
  obtain ⟨C_Words, hC_Words, hc_Words, hn_Words_row, hn_Words_done⟩ := T.k_Words
  obtain ⟨f, fd, hm, F, hb⟩ := T.d_paper_read.ex
  refine has_def F hm sc_paper_read hb (by decide) fun base cdv A outer s H E hr => ?_
  have tk := takes_of (X := cxOf (L2.CX P w) P w K mg base N_paper_read "paper_read" (defScope s_paper_read) f cdv A outer s H E) (E := E) rfl rfl rfl rfl
  have hu : (cxOf (L2.CX P w) P w K mg base N_paper_read "paper_read" (defScope s_paper_read) f cdv A outer s H E).A.units + 64 < cLine := hr.units
  have hv : (cxOf (L2.CX P w) P w K mg base N_paper_read "paper_read" (defScope s_paper_read) f cdv A outer s H E).A.units + 65 < cLine := by have := hr.un; exact Nat.lt_of_le_of_lt (Nat.add_le_add_left (by omega) _) this
  have nd := sc_paper_read.nd
  exact (fss_cons (fs_set (i := 1) nd rfl (by first | exact Or.inl rfl | exact Or.inr rfl) (fe_make (c := .Words) (ok_Words_init T) (hr.mono (by decide)) (by rfl) tk (fa_cons (fe_var 0) (fa_nil)))) (fss_cons (fs_set (i := 2) nd rfl (by first | exact Or.inl rfl | exact Or.inr rfl) (fe_callS (ok_paper_next T) (hr.mono (by decide)) (by rfl) tk (fa_cons (fe_var 1) (fa_nil)))) (fss_cons (fs_if (ft_not (ft_val (fe_meth0 (ok_Words_ended T) (hr.mono (by decide)) tk (fe_var 1)))) (fss_one (fs_bad)) (fss_nil)) (fss_one (fs_ret (fe_var 2))))))
theorem ok__law_mixed (T : Tx K mg) : Has P w K mg 1 "_law_mixed" ["cell", "by"] g__law_mixed := by
  obtain ⟨C_Words, hC_Words, hc_Words, hn_Words_row, hn_Words_done⟩ := T.k_Words
  obtain ⟨f, fd, hm, F, hb⟩ := T.d__law_mixed.ex
  refine has_def F hm sc__law_mixed hb (by decide) fun base cdv A outer s H E hr => ?_
  have tk := takes_of (X := cxOf (L2.CX P w) P w K mg base N__law_mixed "_law_mixed" (defScope s__law_mixed) f cdv A outer s H E) (E := E) rfl rfl rfl rfl
  have hu : (cxOf (L2.CX P w) P w K mg base N__law_mixed "_law_mixed" (defScope s__law_mixed) f cdv A outer s H E).A.units + 64 < cLine := hr.units
  have hv : (cxOf (L2.CX P w) P w K mg base N__law_mixed "_law_mixed" (defScope s__law_mixed) f cdv A outer s H E).A.units + 65 < cLine := by have := hr.un; exact Nat.lt_of_le_of_lt (Nat.add_le_add_left (by omega) _) this
  have nd := sc__law_mixed.nd
  exact (fss_one (fs_ret (fe_bin om_mod (fe_bin om_mul (fe_bin om_mod (fe_var 0) (fe_int)) (fe_var 1)) (fe_int))))
theorem ok__law_next (T : Tx K mg) : Has P w K mg 2 "_law_next" ["tape"] g__law_next := by
  obtain ⟨C_Words, hC_Words, hc_Words, hn_Words_row, hn_Words_done⟩ := T.k_Words
  obtain ⟨f, fd, hm, F, hb⟩ := T.d__law_next.ex
  refine has_def F hm sc__law_next hb (by decide) fun base cdv A outer s H E hr => ?_
  have tk := takes_of (X := cxOf (L2.CX P w) P w K mg base N__law_next "_law_next" (defScope s__law_next) f cdv A outer s H E) (E := E) rfl rfl rfl rfl
  have hu : (cxOf (L2.CX P w) P w K mg base N__law_next "_law_next" (defScope s__law_next) f cdv A outer s H E).A.units + 64 < cLine := hr.units
  have hv : (cxOf (L2.CX P w) P w K mg base N__law_next "_law_next" (defScope s__law_next) f cdv A outer s H E).A.units + 65 < cLine := by have := hr.un; exact Nat.lt_of_le_of_lt (Nat.add_le_add_left (by omega) _) this
  have nd := sc__law_next.nd
  exact (fss_cons (fs_if (ft_cmp om_gt (fe_callB cm_len (by rfl) T.z_len PySem.boot_len (fe_var 0)) (fe_int)) (fss_one (fs_ret (fe_callI (ok__law_mixed T) (hr.mono (by decide)) (by rfl) tk (fa_cons (fe_mt0 (c := .list) PySem.F.plainAttrs_list PySem.F.slot_list_pop PySem.F.type_list_pop mm_pop (fe_var 0)) (fa_cons (fe_int) (fa_nil)))))) (fss_nil)) (fss_one (fs_ret (fe_int))))
theorem ok__law_many (T : Tx K mg) : Has P w K mg 3 "_law_many" ["tape", "most"] g__law_many := by
  obtain ⟨C_Words, hC_Words, hc_Words, hn_Words_row, hn_Words_done⟩ := T.k_Words
  obtain ⟨f, fd, hm, F, hb⟩ := T.d__law_many.ex
  refine has_def F hm sc__law_many hb (by decide) fun base cdv A outer s H E hr => ?_
  have tk := takes_of (X := cxOf (L2.CX P w) P w K mg base N__law_many "_law_many" (defScope s__law_many) f cdv A outer s H E) (E := E) rfl rfl rfl rfl
  have hu : (cxOf (L2.CX P w) P w K mg base N__law_many "_law_many" (defScope s__law_many) f cdv A outer s H E).A.units + 64 < cLine := hr.units
  have hv : (cxOf (L2.CX P w) P w K mg base N__law_many "_law_many" (defScope s__law_many) f cdv A outer s H E).A.units + 65 < cLine := by have := hr.un; exact Nat.lt_of_le_of_lt (Nat.add_le_add_left (by omega) _) this
  have nd := sc__law_many.nd
  exact (fss_cons (fs_set (i := 2) nd rfl (by first | exact Or.inl rfl | exact Or.inr rfl) (fe_callS (ok__law_next T) (hr.mono (by decide)) (by rfl) tk (fa_cons (fe_var 0) (fa_nil)))) (fss_cons (fs_if (ft_cmp (om_eq hu) (fe_bin om_mod (fe_bin om_fdiv (fe_var 2) (fe_int)) (fe_int)) (fe_int)) (fss_one (fs_ret (fe_bin om_add (fe_int) (fe_bin om_mod (fe_bin om_fdiv (fe_var 2) (fe_int)) (fe_bin om_sub (fe_var 1) (fe_int)))))) (fss_nil)) (fss_one (fs_ret (fe_bin om_mod (fe_var 2) (fe_int))))))
theorem ok__law_any_road (T : Tx K mg) : Has P w K mg 4 "_law_any_road" ["tape"] g__law_any_road := by
  obtain ⟨C_Words, hC_Words, hc_Words, hn_Words_row, hn_Words_done⟩ := T.k_Words
  obtain ⟨f, fd, hm, F, hb⟩ := T.d__law_any_road.ex
  refine has_def F hm sc__law_any_road hb (by decide) fun base cdv A outer s H E hr => ?_
  have tk := takes_of (X := cxOf (L2.CX P w) P w K mg base N__law_any_road "_law_any_road" (defScope s__law_any_road) f cdv A outer s H E) (E := E) rfl rfl rfl rfl
  have hu : (cxOf (L2.CX P w) P w K mg base N__law_any_road "_law_any_road" (defScope s__law_any_road) f cdv A outer s H E).A.units + 64 < cLine := hr.units
  have hv : (cxOf (L2.CX P w) P w K mg base N__law_any_road "_law_any_road" (defScope s__law_any_road) f cdv A outer s H E).A.units + 65 < cLine := by have := hr.un; exact Nat.lt_of_le_of_lt (Nat.add_le_add_left (by omega) _) this
  have nd := sc__law_any_road.nd
  exact (fss_cons (fs_set (i := 1) nd rfl (by first | exact Or.inl rfl | exact Or.inr rfl) (fe_lstC (fa_nil))) (fss_cons (fs_for (passes_of rfl) rfl (fi_rng1 (by rfl) T.z_range (fe_callS (ok__law_many T) (hr.mono (by decide)) (by rfl) tk (fa_cons (fe_var 0) (fa_cons (fe_int) (fa_nil))))) (fg_name (i := 2) nd rfl (by first | exact Or.inl rfl | exact Or.inr rfl)) (fss_drop (is := [2, 3]) (fss_cons (fs_set (i := 3) nd rfl (by first | exact Or.inl rfl | exact Or.inr rfl) (fe_bin om_add (fe_callS (ok__law_next T) (hr.mono (by decide)) (by rfl) tk (fa_cons (fe_var 0) (fa_nil))) (fe_bin om_mul (fe_bin om_mul (fe_int) (fe_var 2)) (fe_var 2)))) (fss_one (fs_expr (fe_mt1 (c := .list) PySem.F.plainAttrs_list PySem.F.slot_list_append PySem.F.type_list_append mm_append (fe_var 1) (fe_tup (fa_cons (fe_bin om_mod (fe_var 3) (fe_int)) (fa_cons (fe_cmp (om_eq hu) (fe_bin om_mod (fe_bin om_fdiv (fe_var 3) (fe_int)) (fe_int)) (fe_int)) (fa_nil)))))))))) (fss_one (fs_ret (fe_callT cm_tuple (by rfl) T.z_tuple boot_tuple (fe_var 1))))))
theorem ok__law_any_numbers (T : Tx K mg) : Has P w K mg 4 "_law_any_numbers" ["tape", "most"] g__law_any_numbers := by
  obtain ⟨C_Words, hC_Words, hc_Words, hn_Words_row, hn_Words_done⟩ := T.k_Words
  obtain ⟨f, fd, hm, F, hb⟩ := T.d__law_any_numbers.ex
  refine has_def F hm sc__law_any_numbers hb (by decide) fun base cdv A outer s H E hr => ?_
  have tk := takes_of (X := cxOf (L2.CX P w) P w K mg base N__law_any_numbers "_law_any_numbers" (defScope s__law_any_numbers) f cdv A outer s H E) (E := E) rfl rfl rfl rfl
  have hu : (cxOf (L2.CX P w) P w K mg base N__law_any_numbers "_law_any_numbers" (defScope s__law_any_numbers) f cdv A outer s H E).A.units + 64 < cLine := hr.units
  have hv : (cxOf (L2.CX P w) P w K mg base N__law_any_numbers "_law_any_numbers" (defScope s__law_any_numbers) f cdv A outer s H E).A.units + 65 < cLine := by have := hr.un; exact Nat.lt_of_le_of_lt (Nat.add_le_add_left (by omega) _) this
  have nd := sc__law_any_numbers.nd
  exact (fss_one (fs_ret (fe_callT cm_tuple (by rfl) T.z_tuple boot_tuple (fe_lc (own := [("k", 2)]) rfl nd (fi_rng1 (by rfl) T.z_range (fe_callS (ok__law_many T) (hr.mono (by decide)) (by rfl) tk (fa_cons (fe_var 0) (fa_cons (fe_int) (fa_nil))))) (blkOk_by (N := N__law_any_numbers) (sc := defScope s__law_any_numbers) (by decide +kernel)) (fun _ _ _ _ _ => fg_name (i := 2) nd rfl (by first | exact Or.inl rfl | exact Or.inr rfl)) (fun _ _ _ _ _ => fts_nil) (fun _ _ _ _ _ => fe_bin om_mod (fe_bin om_add (fe_callS (ok__law_next T) (hr.mono (by decide)) (by rfl) takes0 (fa_cons (fe_var 0) (fa_nil))) (fe_bin om_mul (fe_bin om_mul (fe_int) (fe_var 2)) (fe_var 2))) (fe_var 1))))))
theorem ok__law_any_rows (T : Tx K mg) : Has P w K mg 5 "_law_any_rows" ["tape", "word"] g__law_any_rows := by
  obtain ⟨C_Words, hC_Words, hc_Words, hn_Words_row, hn_Words_done⟩ := T.k_Words
  obtain ⟨f, fd, hm, F, hb⟩ := T.d__law_any_rows.ex
  refine has_def F hm sc__law_any_rows hb (by decide) fun base cdv A outer s H E hr => ?_
  have tk := takes_of (X := cxOf (L2.CX P w) P w K mg base N__law_any_rows "_law_any_rows" (defScope s__law_any_rows) f cdv A outer s H E) (E := E) rfl rfl rfl rfl
  have hu : (cxOf (L2.CX P w) P w K mg base N__law_any_rows "_law_any_rows" (defScope s__law_any_rows) f cdv A outer s H E).A.units + 64 < cLine := hr.units
  have hv : (cxOf (L2.CX P w) P w K mg base N__law_any_rows "_law_any_rows" (defScope s__law_any_rows) f cdv A outer s H E).A.units + 65 < cLine := by have := hr.un; exact Nat.lt_of_le_of_lt (Nat.add_le_add_left (by omega) _) this
  have nd := sc__law_any_rows.nd
  exact (fss_cons (fs_set (i := 2) nd rfl (by first | exact Or.inl rfl | exact Or.inr rfl) (fe_lstC (fa_nil))) (fss_cons (fs_for (passes_of rfl) rfl (fi_rng1 (by rfl) T.z_range (fe_callS (ok__law_many T) (hr.mono (by decide)) (by rfl) tk (fa_cons (fe_var 0) (fa_cons (fe_int) (fa_nil))))) (fg_name (i := 3) nd rfl (by first | exact Or.inl rfl | exact Or.inr rfl)) (fss_drop (is := [3, 4]) (fss_cons (fs_set (i := 4) nd rfl (by first | exact Or.inl rfl | exact Or.inr rfl) (fe_bin om_add (fe_callS (ok__law_next T) (hr.mono (by decide)) (by rfl) tk (fa_cons (fe_var 0) (fa_nil))) (fe_bin om_mul (fe_bin om_mul (fe_int) (fe_var 3)) (fe_var 3)))) (fss_one (fs_if (ft_cmp (om_eq hu) (fe_var 1) (fe_str)) (fss_one (fs_expr (fe_mt1 (c := .list) PySem.F.plainAttrs_list PySem.F.slot_list_append PySem.F.type_list_append mm_append (fe_var 2) (fe_tup (fa_cons (fe_bin om_mod (fe_var 4) (fe_int)) (fa_cons (fe_ix xm_ix (fe_lst (fa_cons (fe_non) (fa_cons (fe_bin om_mod (fe_bin om_fdiv (fe_var 4) (fe_int)) (fe_int)) (fa_nil)))) (fe_bin om_mod (fe_bin om_fdiv (fe_var 4) (fe_int)) (fe_int))) (fa_cons (fe_cmp (om_eq hu) (fe_bin om_mod (fe_bin om_fdiv (fe_var 4) (fe_int)) (fe_int)) (fe_int)) (fa_nil)))))))) (fss_one (fs_if (ft_cmp (om_eq hu) (fe_var 1) (fe_str)) (fss_one (fs_expr (fe_mt1 (c := .list) PySem.F.plainAttrs_list PySem.F.slot_list_append PySem.F.type_list_append mm_append (fe_var 2) (fe_tup (fa_cons (fe_bin om_mod (fe_var 4) (fe_int)) (fa_cons (fe_callS (ok__law_any_numbers T) (hr.mono (by decide)) (by rfl) tk (fa_cons (fe_var 0) (fa_cons (fe_int) (fa_nil)))) (fa_cons (fe_cmp (om_eq hu) (fe_bin om_mod (fe_bin om_fdiv (fe_var 4) (fe_int)) (fe_int)) (fe_int)) (fa_nil)))))))) (fss_one (fs_expr (fe_mt1 (c := .list) PySem.F.plainAttrs_list PySem.F.slot_list_append PySem.F.type_list_append mm_append (fe_var 2) (fe_tup (fa_cons (fe_bin om_mod (fe_var 4) (fe_int)) (fa_cons (fe_callS (ok__law_any_numbers T) (hr.mono (by decide)) (by rfl) tk (fa_cons (fe_var 0) (fa_cons (fe_int) (fa_nil)))) (fa_nil)))))))))))))) (fss_one (fs_ret (fe_callT cm_tuple (by rfl) T.z_tuple boot_tuple (fe_var 2))))))
theorem ok__law_any (T : Tx K mg) : Has P w K mg 6 "_law_any" ["tape"] g__law_any := by
  obtain ⟨C_Words, hC_Words, hc_Words, hn_Words_row, hn_Words_done⟩ := T.k_Words
  obtain ⟨f, fd, hm, F, hb⟩ := T.d__law_any.ex
  refine has_def F hm sc__law_any hb (by decide) fun base cdv A outer s H E hr => ?_
  have tk := takes_of (X := cxOf (L2.CX P w) P w K mg base N__law_any "_law_any" (defScope s__law_any) f cdv A outer s H E) (E := E) rfl rfl rfl rfl
  have hu : (cxOf (L2.CX P w) P w K mg base N__law_any "_law_any" (defScope s__law_any) f cdv A outer s H E).A.units + 64 < cLine := hr.units
  have hv : (cxOf (L2.CX P w) P w K mg base N__law_any "_law_any" (defScope s__law_any) f cdv A outer s H E).A.units + 65 < cLine := by have := hr.un; exact Nat.lt_of_le_of_lt (Nat.add_le_add_left (by omega) _) this
  have nd := sc__law_any.nd
  exact (fss_cons (fs_set (i := 1) nd rfl (by first | exact Or.inl rfl | exact Or.inr rfl) (fe_callS (ok__law_next T) (hr.mono (by decide)) (by rfl) tk (fa_cons (fe_var 0) (fa_nil)))) (fss_cons (fs_set (i := 2) nd rfl (by first | exact Or.inl rfl | exact Or.inr rfl) (fe_ix xm_ix (fe_lst (fa_cons (fe_str) (fa_cons (fe_str) (fa_cons (fe_str) (fa_cons (fe_str) (fa_cons (fe_str) (fa_cons (fe_str) (fa_cons (fe_str) (fa_cons (fe_str) (fa_cons (fe_str) (fa_nil))))))))))) (fe_bin om_mod (fe_var 1) (fe_int)))) (fss_cons (fs_if (ft_w (fw_or (ft_cmp (om_eq hu) (fe_var 2) (fe_str)) (fw_or1 (ft_cmp (om_eq hu) (fe_var 2) (fe_str))))) (fss_cons (fs_set (i := 3) nd rfl (by first | exact Or.inl rfl | exact Or.inr rfl) (fe_callS (ok__law_any_road T) (hr.mono (by decide)) (by rfl) tk (fa_cons (fe_var 0) (fa_nil)))) (fss_one (fs_ret (fe_tup (fa_cons (fe_var 2) (fa_cons (fe_var 3) (fa_cons (fe_callS (ok__law_any_road T) (hr.mono (by decide)) (by rfl) tk (fa_cons (fe_var 0) (fa_nil))) (fa_nil)))))))) (fss_nil)) (fss_cons (fs_if (ft_cmp (om_eq hu) (fe_var 2) (fe_str)) (fss_one (fs_ret (fe_tup (fa_cons (fe_var 2) (fa_cons (fe_callS (ok__law_any_road T) (hr.mono (by decide)) (by rfl) tk (fa_cons (fe_var 0) (fa_nil))) (fa_nil)))))) (fss_nil)) (fss_cons (fs_if (ft_cmp (om_eq hu) (fe_var 2) (fe_str)) (fss_one (fs_ret (fe_tup (fa_cons (fe_var 2) (fa_cons (fe_callS (ok__law_any_numbers T) (hr.mono (by decide)) (by rfl) tk (fa_cons (fe_var 0) (fa_cons (fe_int) (fa_nil)))) (fa_nil)))))) (fss_nil)) (fss_cons (fs_if (ft_cmp (om_eq hu) (fe_var 2) (fe_str)) (fss_cons (fs_set (i := 4) nd rfl (by first | exact Or.inl rfl | exact Or.inr rfl) (fe_callS (ok__law_any_numbers T) (hr.mono (by decide)) (by rfl) tk (fa_cons (fe_var 0) (fa_cons (fe_int) (fa_nil))))) (fss_one (fs_ret (fe_tup (fa_cons (fe_var 2) (fa_cons (fe_ix xm_ix (fe_lst (fa_cons (fe_non) (fa_cons (fe_bin om_mod (fe_bin om_fdiv (fe_var 1) (fe_int)) (fe_int)) (fa_nil)))) (fe_bin om_mod (fe_bin om_fdiv (fe_var 1) (fe_int)) (fe_int))) (fa_cons (fe_var 4) (fa_cons (fe_callS (ok__law_any_numbers T) (hr.mono (by decide)) (by rfl) tk (fa_cons (fe_var 0) (fa_cons (fe_int) (fa_nil)))) (fa_nil))))))))) (fss_nil)) (fss_cons (fs_if (ft_w (fw_or (ft_cmp (om_eq hu) (fe_var 2) (fe_str)) (fw_or1 (ft_cmp (om_eq hu) (fe_var 2) (fe_str))))) (fss_one (fs_ret (fe_tup (fa_cons (fe_var 2) (fa_cons (fe_callS (ok__law_any_rows T) (hr.mono (by decide)) (by rfl) tk (fa_cons (fe_var 0) (fa_cons (fe_var 2) (fa_nil)))) (fa_nil)))))) (fss_nil)) (fss_cons (fs_if (ft_cmp (om_eq hu) (fe_var 2) (fe_str)) (fss_cons (fs_set (i := 5) nd rfl (by first | exact Or.inl rfl | exact Or.inr rfl) (fe_callS (ok__law_any_numbers T) (hr.mono (by decide)) (by rfl) tk (fa_cons (fe_var 0) (fa_cons (fe_int) (fa_nil))))) (fss_one (fs_ret (fe_tup (fa_cons (fe_var 2) (fa_cons (fe_var 5) (fa_cons (fe_callS (ok__law_any_rows T) (hr.mono (by decide)) (by rfl) tk (fa_cons (fe_var 0) (fa_cons (fe_var 2) (fa_nil)))) (fa_nil)))))))) (fss_nil)) (fss_one (fs_ret (fe_tup (fa_cons (fe_var 2) (fa_nil)))))))))))))
theorem ok__law_number_words (T : Tx K mg) : Has P w K mg 1 "_law_number_words" ["numbers"] g__law_number_words := by
  obtain ⟨C_Words, hC_Words, hc_Words, hn_Words_row, hn_Words_done⟩ := T.k_Words
  obtain ⟨f, fd, hm, F, hb⟩ := T.d__law_number_words.ex
  refine has_def F hm sc__law_number_words hb (by decide) fun base cdv A outer s H E hr => ?_
  have tk := takes_of (X := cxOf (L2.CX P w) P w K mg base N__law_number_words "_law_number_words" (defScope s__law_number_words) f cdv A outer s H E) (E := E) rfl rfl rfl rfl
  have hu : (cxOf (L2.CX P w) P w K mg base N__law_number_words "_law_number_words" (defScope s__law_number_words) f cdv A outer s H E).A.units + 64 < cLine := hr.units
  have hv : (cxOf (L2.CX P w) P w K mg base N__law_number_words "_law_number_words" (defScope s__law_number_words) f cdv A outer s H E).A.units + 65 < cLine := by have := hr.un; exact Nat.lt_of_le_of_lt (Nat.add_le_add_left (by omega) _) this
  have nd := sc__law_number_words.nd
  exact (fss_one (fs_ret (fe_bin om_add (fe_lst (fa_cons (fe_callT cm_str (by rfl) T.z_str boot_str (fe_callB cm_len (by rfl) T.z_len PySem.boot_len (fe_var 0))) (fa_nil))) (fe_lc (own := [("number", 1)]) rfl nd (fi_seq (fe_var 0)) (blkOk_by (N := N__law_number_words) (sc := defScope s__law_number_words) (by decide +kernel)) (fun _ _ _ _ _ => fg_name (i := 1) nd rfl (by first | exact Or.inl rfl | exact Or.inr rfl)) (fun _ _ _ _ _ => fts_nil) (fun _ _ _ _ _ => fe_callT cm_str (by rfl) T.z_str boot_str (fe_var 1))))))
theorem ok__law_road_words (T : Tx K mg) : Has P w K mg 1 "_law_road_words" ["road"] g__law_road_words := by
  obtain ⟨C_Words, hC_Words, hc_Words, hn_Words_row, hn_Words_done⟩ := T.k_Words
  obtain ⟨f, fd, hm, F, hb⟩ := T.d__law_road_words.ex
  refine has_def F hm sc__law_road_words hb (by decide) fun base cdv A outer s H E hr => ?_
  have tk := takes_of (X := cxOf (L2.CX P w) P w K mg base N__law_road_words "_law_road_words" (defScope s__law_road_words) f cdv A outer s H E) (E := E) rfl rfl rfl rfl
  have hu : (cxOf (L2.CX P w) P w K mg base N__law_road_words "_law_road_words" (defScope s__law_road_words) f cdv A outer s H E).A.units + 64 < cLine := hr.units
  have hv : (cxOf (L2.CX P w) P w K mg base N__law_road_words "_law_road_words" (defScope s__law_road_words) f cdv A outer s H E).A.units + 65 < cLine := by have := hr.un; exact Nat.lt_of_le_of_lt (Nat.add_le_add_left (by omega) _) this
  have nd := sc__law_road_words.nd
  exact (fss_one (fs_ret (fe_bin om_add (fe_lst (fa_cons (fe_callT cm_str (by rfl) T.z_str boot_str (fe_callB cm_len (by rfl) T.z_len PySem.boot_len (fe_var 0))) (fa_nil))) (fe_lc (own := [("saying", 1)]) rfl nd (fi_seq (fe_var 0)) (blkOk_by (N := N__law_road_words) (sc := defScope s__law_road_words) (by decide +kernel)) (fun _ _ _ _ _ => fg_name (i := 1) nd rfl (by first | exact Or.inl rfl | exact Or.inr rfl)) (fun _ _ _ _ _ => fts_nil) (fun _ _ _ _ _ => fe_bin om_add (fe_ix xm_ix (fe_lst (fa_cons (fe_str) (fa_cons (fe_str) (fa_nil)))) (fe_callT cm_int (by rfl) T.z_int boot_int (fe_ix xm_ix (fe_var 1) (fe_int)))) (fe_callT cm_str (by rfl) T.z_str boot_str (fe_ix xm_ix (fe_var 1) (fe_int))))))))
theorem ok__law_free_word (T : Tx K mg) : Has P w K mg 1 "_law_free_word" ["beacon"] g__law_free_word := by
  obtain ⟨C_Words, hC_Words, hc_Words, hn_Words_row, hn_Words_done⟩ := T.k_Words
  obtain ⟨f, fd, hm, F, hb⟩ := T.d__law_free_word.ex
  refine has_def F hm sc__law_free_word hb (by decide) fun base cdv A outer s H E hr => ?_
  have tk := takes_of (X := cxOf (L2.CX P w) P w K mg base N__law_free_word "_law_free_word" (defScope s__law_free_word) f cdv A outer s H E) (E := E) rfl rfl rfl rfl
  have hu : (cxOf (L2.CX P w) P w K mg base N__law_free_word "_law_free_word" (defScope s__law_free_word) f cdv A outer s H E).A.units + 64 < cLine := hr.units
  have hv : (cxOf (L2.CX P w) P w K mg base N__law_free_word "_law_free_word" (defScope s__law_free_word) f cdv A outer s H E).A.units + 65 < cLine := by have := hr.un; exact Nat.lt_of_le_of_lt (Nat.add_le_add_left (by omega) _) this
  have nd := sc__law_free_word.nd
  exact (fss_cons (fs_if (ft_isN (fe_var 0)) (fss_one (fs_ret (fe_str))) (fss_nil)) (fss_one (fs_ret (fe_callT cm_str (by rfl) T.z_str boot_str (fe_var 0)))))
theorem ok__law_rows_words (T : Tx K mg) : Has P w K mg 2 "_law_rows_words" ["word", "rows"] g__law_rows_words := by
  obtain ⟨C_Words, hC_Words, hc_Words, hn_Words_row, hn_Words_done⟩ := T.k_Words
  obtain ⟨f, fd, hm, F, hb⟩ := T.d__law_rows_words.ex
  refine has_def F hm sc__law_rows_words hb (by decide) fun base cdv A outer s H E hr => ?_
  have tk := takes_of (X := cxOf (L2.CX P w) P w K mg base N__law_rows_words "_law_rows_words" (defScope s__law_rows_words) f cdv A outer s H E) (E := E) rfl rfl rfl rfl
  have hu : (cxOf (L2.CX P w) P w K mg base N__law_rows_words "_law_rows_words" (defScope s__law_rows_words) f cdv A outer s H E).A.units + 64 < cLine := hr.units
  have hv : (cxOf (L2.CX P w) P w K mg base N__law_rows_words "_law_rows_words" (defScope s__law_rows_words) f cdv A outer s H E).A.units + 65 < cLine := by have := hr.un; exact Nat.lt_of_le_of_lt (Nat.add_le_add_left (by omega) _) this
  have nd := sc__law_rows_words.nd
  exact (fss_cons (fs_set (i := 2) nd rfl (by first | exact Or.inl rfl | exact Or.inr rfl) (fe_lstC (fa_cons (fe_callT cm_str (by rfl) T.z_str boot_str (fe_callB cm_len (by rfl) T.z_len PySem.boot_len (fe_var 1))) (fa_nil)))) (fss_cons (fs_for (passes_of rfl) rfl (fi_seq (fe_var 1)) (fg_name (i := 3) nd rfl (by first | exact Or.inl rfl | exact Or.inr rfl)) (fss_drop (is := [3]) (fss_cons (fs_expr (fe_mt1 (c := .list) PySem.F.plainAttrs_list PySem.F.slot_list_append PySem.F.type_list_append mm_append (fe_var 2) (fe_callT cm_str (by rfl) T.z_str boot_str (fe_ix xm_ix (fe_var 3) (fe_int))))) (fss_cons (fs_if (ft_cmp (om_eq hu) (fe_var 0) (fe_str)) (fss_one (fs_set (i := 2) nd rfl (by first | exact Or.inl rfl | exact Or.inr rfl) (fe_bin om_add (fe_var 2) (fe_lst (fa_cons (fe_callI (ok__law_free_word T) (hr.mono (by decide)) (by rfl) tk (fa_cons (fe_ix xm_ix (fe_var 3) (fe_int)) (fa_nil))) (fa_cons (fe_ix xm_ix (fe_lst (fa_cons (fe_str) (fa_cons (fe_str) (fa_nil)))) (fe_callT cm_int (by rfl) T.z_int boot_int (fe_ix xm_ix (fe_var 3) (fe_int)))) (fa_nil))))))) (fss_one (fs_set (i := 2) nd rfl (by first | exact Or.inl rfl | exact Or.inr rfl) (fe_bin om_add (fe_var 2) (fe_callI (ok__law_number_words T) (hr.mono (by decide)) (by rfl) tk (fa_cons (fe_ix xm_ix (fe_var 3) (fe_int)) (fa_nil))))))) (fss_one (fs_if (ft_cmp (om_eq hu) (fe_var 0) (fe_str)) (fss_one (fs_expr (fe_mt1 (c := .list) PySem.F.plainAttrs_list PySem.F.slot_list_append PySem.F.type_list_append mm_append (fe_var 2) (fe_ix xm_ix (fe_lst (fa_cons (fe_str) (fa_cons (fe_str) (fa_nil)))) (fe_callT cm_int (by rfl) T.z_int boot_int (fe_ix xm_ix (fe_var 3) (fe_int))))))) (fss_nil))))))) (fss_one (fs_ret (fe_var 2)))))
theorem ok__law_paper_words (T : Tx K mg) : Has P w K mg 3 "_law_paper_words" ["paper"] g__law_paper_words := by
  obtain ⟨C_Words, hC_Words, hc_Words, hn_Words_row, hn_Words_done⟩ := T.k_Words
  obtain ⟨f, fd, hm, F, hb⟩ := T.d__law_paper_words.ex
  refine has_def F hm sc__law_paper_words hb (by decide) fun base cdv A outer s H E hr => ?_
  have tk := takes_of (X := cxOf (L2.CX P w) P w K mg base N__law_paper_words "_law_paper_words" (defScope s__law_paper_words) f cdv A outer s H E) (E := E) rfl rfl rfl rfl
  have hu : (cxOf (L2.CX P w) P w K mg base N__law_paper_words "_law_paper_words" (defScope s__law_paper_words) f cdv A outer s H E).A.units + 64 < cLine := hr.units
  have hv : (cxOf (L2.CX P w) P w K mg base N__law_paper_words "_law_paper_words" (defScope s__law_paper_words) f cdv A outer s H E).A.units + 65 < cLine := by have := hr.un; exact Nat.lt_of_le_of_lt (Nat.add_le_add_left (by omega) _) this
  have nd := sc__law_paper_words.nd
  exact (fss_cons (fs_set (i := 1) nd rfl (by first | exact Or.inl rfl | exact Or.inr rfl) (fe_ix xm_ix (fe_var 0) (fe_int))) (fss_cons (fs_set (i := 2) nd rfl (by first | exact Or.inl rfl | exact Or.inr rfl) (fe_lstC (fa_cons (fe_var 1) (fa_nil)))) (fss_cons (fs_if (ft_w (fw_or (ft_cmp (om_eq hu) (fe_var 1) (fe_str)) (fw_or1 (ft_cmp (om_eq hu) (fe_var 1) (fe_str))))) (fss_one (fs_set (i := 2) nd rfl (by first | exact Or.inl rfl | exact Or.inr rfl) (fe_bin om_add (fe_bin om_add (fe_var 2) (fe_callI (ok__law_road_words T) (hr.mono (by decide)) (by rfl) tk (fa_cons (fe_ix xm_ix (fe_var 0) (fe_int)) (fa_nil)))) (fe_callI (ok__law_road_words T) (hr.mono (by decide)) (by rfl) tk (fa_cons (fe_ix xm_ix (fe_var 0) (fe_int)) (fa_nil)))))) (fss_nil)) (fss_cons (fs_if (ft_cmp (om_eq hu) (fe_var 1) (fe_str)) (fss_one (fs_set (i := 2) nd rfl (by first | exact Or.inl rfl | exact Or.inr rfl) (fe_bin om_add (fe_var 2) (fe_callI (ok__law_road_words T) (hr.mono (by decide)) (by rfl) tk (fa_cons (fe_ix xm_ix (fe_var 0) (fe_int)) (fa_nil)))))) (fss_nil)) (fss_cons (fs_if (ft_cmp (om_eq hu) (fe_var 1) (fe_str)) (fss_one (fs_set (i := 2) nd rfl (by first | exact Or.inl rfl | exact Or.inr rfl) (fe_bin om_add (fe_var 2) (fe_callI (ok__law_number_words T) (hr.mono (by decide)) (by rfl) tk (fa_cons (fe_ix xm_ix (fe_var 0) (fe_int)) (fa_nil)))))) (fss_nil)) (fss_cons (fs_if (ft_cmp (om_eq hu) (fe_var 1) (fe_str)) (fss_cons (fs_expr (fe_mt1 (c := .list) PySem.F.plainAttrs_list PySem.F.slot_list_append PySem.F.type_list_append mm_append (fe_var 2) (fe_callI (ok__law_free_word T) (hr.mono (by decide)) (by rfl) tk (fa_cons (fe_ix xm_ix (fe_var 0) (fe_int)) (fa_nil))))) (fss_one (fs_set (i := 2) nd rfl (by first | exact Or.inl rfl | exact Or.inr rfl) (fe_bin om_add (fe_bin om_add (fe_var 2) (fe_callI (ok__law_number_words T) (hr.mono (by decide)) (by rfl) tk (fa_cons (fe_ix xm_ix (fe_var 0) (fe_int)) (fa_nil)))) (fe_callI (ok__law_number_words T) (hr.mono (by decide)) (by rfl) tk (fa_cons (fe_ix xm_ix (fe_var 0) (fe_int)) (fa_nil))))))) (fss_nil)) (fss_cons (fs_if (ft_w (fw_or (ft_cmp (om_eq hu) (fe_var 1) (fe_str)) (fw_or1 (ft_cmp (om_eq hu) (fe_var 1) (fe_str))))) (fss_one (fs_set (i := 2) nd rfl (by first | exact Or.inl rfl | exact Or.inr rfl) (fe_bin om_add (fe_var 2) (fe_callI (ok__law_rows_words T) (hr.mono (by decide)) (by rfl) tk (fa_cons (fe_var 1) (fa_cons (fe_ix xm_ix (fe_var 0) (fe_int)) (fa_nil))))))) (fss_nil)) (fss_cons (fs_if (ft_cmp (om_eq hu) (fe_var 1) (fe_str)) (fss_one (fs_set (i := 2) nd rfl (by first | exact Or.inl rfl | exact Or.inr rfl) (fe_bin om_add (fe_bin om_add (fe_var 2) (fe_callI (ok__law_number_words T) (hr.mono (by decide)) (by rfl) tk (fa_cons (fe_ix xm_ix (fe_var 0) (fe_int)) (fa_nil)))) (fe_callI (ok__law_rows_words T) (hr.mono (by decide)) (by rfl) tk (fa_cons (fe_var 1) (fa_cons (fe_ix xm_ix (fe_var 0) (fe_int)) (fa_nil))))))) (fss_nil)) (fss_one (fs_ret (fe_var 2)))))))))))
theorem ok__law_same__0 (T : Tx K mg) : Has P w K mg 1 "_law_same" ["found", "due"] g__law_same__0 := by
  obtain ⟨C_Words, hC_Words, hc_Words, hn_Words_row, hn_Words_done⟩ := T.k_Words
  obtain ⟨f, fd, hm, F, hb⟩ := T.d__law_same.ex
  refine has_def F hm sc__law_same hb (by decide) fun base cdv A outer s H E hr => ?_
  have tk := takes_of (X := cxOf (L2.CX P w) P w K mg base N__law_same "_law_same" (defScope s__law_same) f cdv A outer s H E) (E := E) rfl rfl rfl rfl
  have hu : (cxOf (L2.CX P w) P w K mg base N__law_same "_law_same" (defScope s__law_same) f cdv A outer s H E).A.units + 64 < cLine := hr.units
  have hv : (cxOf (L2.CX P w) P w K mg base N__law_same "_law_same" (defScope s__law_same) f cdv A outer s H E).A.units + 65 < cLine := by have := hr.un; exact Nat.lt_of_le_of_lt (Nat.add_le_add_left (by omega) _) this
  have nd := sc__law_same.nd
  exact (fss_cons (fs_if (ft_val (fe_isi .tuple (by rfl) T.z_isinstance (by rfl) T.z_tuple (by decide +kernel) (fe_var 1))) (fss_cons (fs_if (ft_w (fw_or (ft_not (ft_val (fe_isi .tuple (by rfl) T.z_isinstance (by rfl) T.z_tuple (by decide +kernel) (fe_var 0)))) (fw_or1 (ft_cmp (om_ne hu) (fe_callB cm_len (by rfl) T.z_len PySem.boot_len (fe_var 0)) (fe_callB cm_len (by rfl) T.z_len PySem.boot_len (fe_var 1)))))) (fss_one (fs_ret (fe_bl))) (fss_nil)) (fss_one (fs_ret (fe_callB (cm_all rfl) (by rfl) T.z_all (by decide +kernel) (fe_lc (own := [("k", 2)]) rfl nd (fi_rng1 (by rfl) T.z_range (fe_callB cm_len (by rfl) T.z_len PySem.boot_len (fe_var 1))) (blkOk_by (N := N__law_same) (sc := defScope s__law_same) (by decide +kernel)) (fun _ _ _ _ _ => fg_name (i := 2) nd rfl (by first | exact Or.inl rfl | exact Or.inr rfl)) (fun _ _ _ _ _ => fts_nil) (fun _ _ _ _ _ => fe_bad)))))) (fss_nil)) (fss_cons (fs_if (ft_isN (fe_var 1)) (fss_one (fs_ret (fe_isN (fe_var 0)))) (fss_nil)) (fss_cons (fs_if (ft_val (fe_isi .str (by rfl) T.z_isinstance (by rfl) T.z_str (by decide +kernel) (fe_var 1))) (fss_one (fs_ret (fe_and (fe_isi .str (by rfl) T.z_isinstance (by rfl) T.z_str (by decide +kernel) (fe_var 0)) (fe_one (fe_cmp (om_eq hu) (fe_var 0) (fe_var 1)))))) (fss_nil)) (fss_cons (fs_if (ft_w (fw_or (ft_val (fe_isi .bool (by rfl) T.z_isinstance (by rfl) T.z_bool (by decide +kernel) (fe_var 1))) (fw_or1 (ft_val (fe_isi .bool (by rfl) T.z_isinstance (by rfl) T.z_bool (by decide +kernel) (fe_var 0)))))) (fss_one (fs_ret (fe_and (fe_isi .bool (by rfl) T.z_isinstance (by rfl) T.z_bool (by decide +kernel) (fe_var 1)) (fe_and (fe_isi .bool (by rfl) T.z_isinstance (by rfl) T.z_bool (by decide +kernel) (fe_var 0)) (fe_one (fe_cmp (om_eq hu) (fe_var 0) (fe_var 1))))))) (fss_nil)) (fss_one (fs_ret (fe_and (fe_isi .int (by rfl) T.z_isinstance (by rfl) T.z_int (by decide +kernel) (fe_var 0)) (fe_one (fe_cmp (om_eq hu) (fe_var 0) (fe_var 1))))))))))
theorem ok__law_same__1 (T : Tx K mg) : Has P w K mg 2 "_law_same" ["found", "due"] g__law_same__1 := by
  obtain ⟨C_Words, hC_Words, hc_Words, hn_Words_row, hn_Words_done⟩ := T.k_Words
  obtain ⟨f, fd, hm, F, hb⟩ := T.d__law_same.ex
  refine has_def F hm sc__law_same hb (by decide) fun base cdv A outer s H E hr => ?_
  have tk := takes_of (X := cxOf (L2.CX P w) P w K mg base N__law_same "_law_same" (defScope s__law_same) f cdv A outer s H E) (E := E) rfl rfl rfl rfl
  have hu : (cxOf (L2.CX P w) P w K mg base N__law_same "_law_same" (defScope s__law_same) f cdv A outer s H E).A.units + 64 < cLine := hr.units
  have hv : (cxOf (L2.CX P w) P w K mg base N__law_same "_law_same" (defScope s__law_same) f cdv A outer s H E).A.units + 65 < cLine := by have := hr.un; exact Nat.lt_of_le_of_lt (Nat.add_le_add_left (by omega) _) this
  have nd := sc__law_same.nd
  exact (fss_cons (fs_if (ft_val (fe_isi .tuple (by rfl) T.z_isinstance (by rfl) T.z_tuple (by decide +kernel) (fe_var 1))) (fss_cons (fs_if (ft_w (fw_or (ft_not (ft_val (fe_isi .tuple (by rfl) T.z_isinstance (by rfl) T.z_tuple (by decide +kernel) (fe_var 0)))) (fw_or1 (ft_cmp (om_ne hu) (fe_callB cm_len (by rfl) T.z_len PySem.boot_len (fe_var 0)) (fe_callB cm_len (by rfl) T.z_len PySem.boot_len (fe_var 1)))))) (fss_one (fs_ret (fe_bl))) (fss_nil)) (fss_one (fs_ret (fe_callB (cm_all rfl) (by rfl) T.z_all (by decide +kernel) (fe_lc (own := [("k", 2)]) rfl nd (fi_rng1 (by rfl) T.z_range (fe_callB cm_len (by rfl) T.z_len PySem.boot_len (fe_var 1))) (blkOk_by (N := N__law_same) (sc := defScope s__law_same) (by decide +kernel)) (fun _ _ _ _ _ => fg_name (i := 2) nd rfl (by first | exact Or.inl rfl | exact Or.inr rfl)) (fun _ _ _ _ _ => fts_nil) (fun _ _ _ _ _ => fe_callI (ok__law_same__0 T) (hr.mono (by decide)) (by rfl) takes0 (fa_cons (fe_ix xm_ix (fe_var 0) (fe_var 2)) (fa_cons (fe_ix xm_ix (fe_var 1) (fe_var 2)) (fa_nil))))))))) (fss_nil)) (fss_cons (fs_if (ft_isN (fe_var 1)) (fss_one (fs_ret (fe_isN (fe_var 0)))) (fss_nil)) (fss_cons (fs_if (ft_val (fe_isi .str (by rfl) T.z_isinstance (by rfl) T.z_str (by decide +kernel) (fe_var 1))) (fss_one (fs_ret (fe_and (fe_isi .str (by rfl) T.z_isinstance (by rfl) T.z_str (by decide +kernel) (fe_var 0)) (fe_one (fe_cmp (om_eq hu) (fe_var 0) (fe_var 1)))))) (fss_nil)) (fss_cons (fs_if (ft_w (fw_or (ft_val (fe_isi .bool (by rfl) T.z_isinstance (by rfl) T.z_bool (by decide +kernel) (fe_var 1))) (fw_or1 (ft_val (fe_isi .bool (by rfl) T.z_isinstance (by rfl) T.z_bool (by decide +kernel) (fe_var 0)))))) (fss_one (fs_ret (fe_and (fe_isi .bool (by rfl) T.z_isinstance (by rfl) T.z_bool (by decide +kernel) (fe_var 1)) (fe_and (fe_isi .bool (by rfl) T.z_isinstance (by rfl) T.z_bool (by decide +kernel) (fe_var 0)) (fe_one (fe_cmp (om_eq hu) (fe_var 0) (fe_var 1))))))) (fss_nil)) (fss_one (fs_ret (fe_and (fe_isi .int (by rfl) T.z_isinstance (by rfl) T.z_int (by decide +kernel) (fe_var 0)) (fe_one (fe_cmp (om_eq hu) (fe_var 0) (fe_var 1))))))))))
theorem ok__law_same__2 (T : Tx K mg) : Has P w K mg 3 "_law_same" ["found", "due"] g__law_same__2 := by
  obtain ⟨C_Words, hC_Words, hc_Words, hn_Words_row, hn_Words_done⟩ := T.k_Words
  obtain ⟨f, fd, hm, F, hb⟩ := T.d__law_same.ex
  refine has_def F hm sc__law_same hb (by decide) fun base cdv A outer s H E hr => ?_
  have tk := takes_of (X := cxOf (L2.CX P w) P w K mg base N__law_same "_law_same" (defScope s__law_same) f cdv A outer s H E) (E := E) rfl rfl rfl rfl
  have hu : (cxOf (L2.CX P w) P w K mg base N__law_same "_law_same" (defScope s__law_same) f cdv A outer s H E).A.units + 64 < cLine := hr.units
  have hv : (cxOf (L2.CX P w) P w K mg base N__law_same "_law_same" (defScope s__law_same) f cdv A outer s H E).A.units + 65 < cLine := by have := hr.un; exact Nat.lt_of_le_of_lt (Nat.add_le_add_left (by omega) _) this
  have nd := sc__law_same.nd
  exact (fss_cons (fs_if (ft_val (fe_isi .tuple (by rfl) T.z_isinstance (by rfl) T.z_tuple (by decide +kernel) (fe_var 1))) (fss_cons (fs_if (ft_w (fw_or (ft_not (ft_val (fe_isi .tuple (by rfl) T.z_isinstance (by rfl) T.z_tuple (by decide +kernel) (fe_var 0)))) (fw_or1 (ft_cmp (om_ne hu) (fe_callB cm_len (by rfl) T.z_len PySem.boot_len (fe_var 0)) (fe_callB cm_len (by rfl) T.z_len PySem.boot_len (fe_var 1)))))) (fss_one (fs_ret (fe_bl))) (fss_nil)) (fss_one (fs_ret (fe_callB (cm_all rfl) (by rfl) T.z_all (by decide +kernel) (fe_lc (own := [("k", 2)]) rfl nd (fi_rng1 (by rfl) T.z_range (fe_callB cm_len (by rfl) T.z_len PySem.boot_len (fe_var 1))) (blkOk_by (N := N__law_same) (sc := defScope s__law_same) (by decide +kernel)) (fun _ _ _ _ _ => fg_name (i := 2) nd rfl (by first | exact Or.inl rfl | exact Or.inr rfl)) (fun _ _ _ _ _ => fts_nil) (fun _ _ _ _ _ => fe_callI (ok__law_same__1 T) (hr.mono (by decide)) (by rfl) takes0 (fa_cons (fe_ix xm_ix (fe_var 0) (fe_var 2)) (fa_cons (fe_ix xm_ix (fe_var 1) (fe_var 2)) (fa_nil))))))))) (fss_nil)) (fss_cons (fs_if (ft_isN (fe_var 1)) (fss_one (fs_ret (fe_isN (fe_var 0)))) (fss_nil)) (fss_cons (fs_if (ft_val (fe_isi .str (by rfl) T.z_isinstance (by rfl) T.z_str (by decide +kernel) (fe_var 1))) (fss_one (fs_ret (fe_and (fe_isi .str (by rfl) T.z_isinstance (by rfl) T.z_str (by decide +kernel) (fe_var 0)) (fe_one (fe_cmp (om_eq hu) (fe_var 0) (fe_var 1)))))) (fss_nil)) (fss_cons (fs_if (ft_w (fw_or (ft_val (fe_isi .bool (by rfl) T.z_isinstance (by rfl) T.z_bool (by decide +kernel) (fe_var 1))) (fw_or1 (ft_val (fe_isi .bool (by rfl) T.z_isinstance (by rfl) T.z_bool (by decide +kernel) (fe_var 0)))))) (fss_one (fs_ret (fe_and (fe_isi .bool (by rfl) T.z_isinstance (by rfl) T.z_bool (by decide +kernel) (fe_var 1)) (fe_and (fe_isi .bool (by rfl) T.z_isinstance (by rfl) T.z_bool (by decide +kernel) (fe_var 0)) (fe_one (fe_cmp (om_eq hu) (fe_var 0) (fe_var 1))))))) (fss_nil)) (fss_one (fs_ret (fe_and (fe_isi .int (by rfl) T.z_isinstance (by rfl) T.z_int (by decide +kernel) (fe_var 0)) (fe_one (fe_cmp (om_eq hu) (fe_var 0) (fe_var 1))))))))))
theorem ok__law_same__3 (T : Tx K mg) : Has P w K mg 4 "_law_same" ["found", "due"] g__law_same__3 := by
  obtain ⟨C_Words, hC_Words, hc_Words, hn_Words_row, hn_Words_done⟩ := T.k_Words
  obtain ⟨f, fd, hm, F, hb⟩ := T.d__law_same.ex
  refine has_def F hm sc__law_same hb (by decide) fun base cdv A outer s H E hr => ?_
  have tk := takes_of (X := cxOf (L2.CX P w) P w K mg base N__law_same "_law_same" (defScope s__law_same) f cdv A outer s H E) (E := E) rfl rfl rfl rfl
  have hu : (cxOf (L2.CX P w) P w K mg base N__law_same "_law_same" (defScope s__law_same) f cdv A outer s H E).A.units + 64 < cLine := hr.units
  have hv : (cxOf (L2.CX P w) P w K mg base N__law_same "_law_same" (defScope s__law_same) f cdv A outer s H E).A.units + 65 < cLine := by have := hr.un; exact Nat.lt_of_le_of_lt (Nat.add_le_add_left (by omega) _) this
  have nd := sc__law_same.nd
  exact (fss_cons (fs_if (ft_val (fe_isi .tuple (by rfl) T.z_isinstance (by rfl) T.z_tuple (by decide +kernel) (fe_var 1))) (fss_cons (fs_if (ft_w (fw_or (ft_not (ft_val (fe_isi .tuple (by rfl) T.z_isinstance (by rfl) T.z_tuple (by decide +kernel) (fe_var 0)))) (fw_or1 (ft_cmp (om_ne hu) (fe_callB cm_len (by rfl) T.z_len PySem.boot_len (fe_var 0)) (fe_callB cm_len (by rfl) T.z_len PySem.boot_len (fe_var 1)))))) (fss_one (fs_ret (fe_bl))) (fss_nil)) (fss_one (fs_ret (fe_callB (cm_all rfl) (by rfl) T.z_all (by decide +kernel) (fe_lc (own := [("k", 2)]) rfl nd (fi_rng1 (by rfl) T.z_range (fe_callB cm_len (by rfl) T.z_len PySem.boot_len (fe_var 1))) (blkOk_by (N := N__law_same) (sc := defScope s__law_same) (by decide +kernel)) (fun _ _ _ _ _ => fg_name (i := 2) nd rfl (by first | exact Or.inl rfl | exact Or.inr rfl)) (fun _ _ _ _ _ => fts_nil) (fun _ _ _ _ _ => fe_callI (ok__law_same__2 T) (hr.mono (by decide)) (by rfl) takes0 (fa_cons (fe_ix xm_ix (fe_var 0) (fe_var 2)) (fa_cons (fe_ix xm_ix (fe_var 1) (fe_var 2)) (fa_nil))))))))) (fss_nil)) (fss_cons (fs_if (ft_isN (fe_var 1)) (fss_one (fs_ret (fe_isN (fe_var 0)))) (fss_nil)) (fss_cons (fs_if (ft_val (fe_isi .str (by rfl) T.z_isinstance (by rfl) T.z_str (by decide +kernel) (fe_var 1))) (fss_one (fs_ret (fe_and (fe_isi .str (by rfl) T.z_isinstance (by rfl) T.z_str (by decide +kernel) (fe_var 0)) (fe_one (fe_cmp (om_eq hu) (fe_var 0) (fe_var 1)))))) (fss_nil)) (fss_cons (fs_if (ft_w (fw_or (ft_val (fe_isi .bool (by rfl) T.z_isinstance (by rfl) T.z_bool (by decide +kernel) (fe_var 1))) (fw_or1 (ft_val (fe_isi .bool (by rfl) T.z_isinstance (by rfl) T.z_bool (by decide +kernel) (fe_var 0)))))) (fss_one (fs_ret (fe_and (fe_isi .bool (by rfl) T.z_isinstance (by rfl) T.z_bool (by decide +kernel) (fe_var 1)) (fe_and (fe_isi .bool (by rfl) T.z_isinstance (by rfl) T.z_bool (by decide +kernel) (fe_var 0)) (fe_one (fe_cmp (om_eq hu) (fe_var 0) (fe_var 1))))))) (fss_nil)) (fss_one (fs_ret (fe_and (fe_isi .int (by rfl) T.z_isinstance (by rfl) T.z_int (by decide +kernel) (fe_var 0)) (fe_one (fe_cmp (om_eq hu) (fe_var 0) (fe_var 1))))))))))
theorem ok__law_same__4 (T : Tx K mg) : Has P w K mg 5 "_law_same" ["found", "due"] g__law_same__4 := by
  obtain ⟨C_Words, hC_Words, hc_Words, hn_Words_row, hn_Words_done⟩ := T.k_Words
  obtain ⟨f, fd, hm, F, hb⟩ := T.d__law_same.ex
  refine has_def F hm sc__law_same hb (by decide) fun base cdv A outer s H E hr => ?_
  have tk := takes_of (X := cxOf (L2.CX P w) P w K mg base N__law_same "_law_same" (defScope s__law_same) f cdv A outer s H E) (E := E) rfl rfl rfl rfl
  have hu : (cxOf (L2.CX P w) P w K mg base N__law_same "_law_same" (defScope s__law_same) f cdv A outer s H E).A.units + 64 < cLine := hr.units
  have hv : (cxOf (L2.CX P w) P w K mg base N__law_same "_law_same" (defScope s__law_same) f cdv A outer s H E).A.units + 65 < cLine := by have := hr.un; exact Nat.lt_of_le_of_lt (Nat.add_le_add_left (by omega) _) this
  have nd := sc__law_same.nd
  exact (fss_cons (fs_if (ft_val (fe_isi .tuple (by rfl) T.z_isinstance (by rfl) T.z_tuple (by decide +kernel) (fe_var 1))) (fss_cons (fs_if (ft_w (fw_or (ft_not (ft_val (fe_isi .tuple (by rfl) T.z_isinstance (by rfl) T.z_tuple (by decide +kernel) (fe_var 0)))) (fw_or1 (ft_cmp (om_ne hu) (fe_callB cm_len (by rfl) T.z_len PySem.boot_len (fe_var 0)) (fe_callB cm_len (by rfl) T.z_len PySem.boot_len (fe_var 1)))))) (fss_one (fs_ret (fe_bl))) (fss_nil)) (fss_one (fs_ret (fe_callB (cm_all rfl) (by rfl) T.z_all (by decide +kernel) (fe_lc (own := [("k", 2)]) rfl nd (fi_rng1 (by rfl) T.z_range (fe_callB cm_len (by rfl) T.z_len PySem.boot_len (fe_var 1))) (blkOk_by (N := N__law_same) (sc := defScope s__law_same) (by decide +kernel)) (fun _ _ _ _ _ => fg_name (i := 2) nd rfl (by first | exact Or.inl rfl | exact Or.inr rfl)) (fun _ _ _ _ _ => fts_nil) (fun _ _ _ _ _ => fe_callI (ok__law_same__3 T) (hr.mono (by decide)) (by rfl) takes0 (fa_cons (fe_ix xm_ix (fe_var 0) (fe_var 2)) (fa_cons (fe_ix xm_ix (fe_var 1) (fe_var 2)) (fa_nil))))))))) (fss_nil)) (fss_cons (fs_if (ft_isN (fe_var 1)) (fss_one (fs_ret (fe_isN (fe_var 0)))) (fss_nil)) (fss_cons (fs_if (ft_val (fe_isi .str (by rfl) T.z_isinstance (by rfl) T.z_str (by decide +kernel) (fe_var 1))) (fss_one (fs_ret (fe_and (fe_isi .str (by rfl) T.z_isinstance (by rfl) T.z_str (by decide +kernel) (fe_var 0)) (fe_one (fe_cmp (om_eq hu) (fe_var 0) (fe_var 1)))))) (fss_nil)) (fss_cons (fs_if (ft_w (fw_or (ft_val (fe_isi .bool (by rfl) T.z_isinstance (by rfl) T.z_bool (by decide +kernel) (fe_var 1))) (fw_or1 (ft_val (fe_isi .bool (by rfl) T.z_isinstance (by rfl) T.z_bool (by decide +kernel) (fe_var 0)))))) (fss_one (fs_ret (fe_and (fe_isi .bool (by rfl) T.z_isinstance (by rfl) T.z_bool (by decide +kernel) (fe_var 1)) (fe_and (fe_isi .bool (by rfl) T.z_isinstance (by rfl) T.z_bool (by decide +kernel) (fe_var 0)) (fe_one (fe_cmp (om_eq hu) (fe_var 0) (fe_var 1))))))) (fss_nil)) (fss_one (fs_ret (fe_and (fe_isi .int (by rfl) T.z_isinstance (by rfl) T.z_int (by decide +kernel) (fe_var 0)) (fe_one (fe_cmp (om_eq hu) (fe_var 0) (fe_var 1))))))))))
theorem ok_law (T : Tx K mg) : Has P w K mg 8 "law" ["script"] g_law := by
  obtain ⟨C_Words, hC_Words, hc_Words, hn_Words_row, hn_Words_done⟩ := T.k_Words
  obtain ⟨f, fd, hm, F, hb⟩ := T.d_law.ex
  refine has_def F hm sc_law hb (by decide) fun base cdv A outer s H E hr => ?_
  have tk := takes_of (X := cxOf (L2.CX P w) P w K mg base N_law "law" (defScope s_law) f cdv A outer s H E) (E := E) rfl rfl rfl rfl
  have hu : (cxOf (L2.CX P w) P w K mg base N_law "law" (defScope s_law) f cdv A outer s H E).A.units + 64 < cLine := hr.units
  have hv : (cxOf (L2.CX P w) P w K mg base N_law "law" (defScope s_law) f cdv A outer s H E).A.units + 65 < cLine := by have := hr.un; exact Nat.lt_of_le_of_lt (Nat.add_le_add_left (by omega) _) this
  have nd := sc_law.nd
  exact (fss_cons (fs_set (i := 1) nd rfl (by first | exact Or.inl rfl | exact Or.inr rfl) (fe_listRev rfl (by rfl) T.z_list (by rfl) T.z_reversed (fe_var 0))) (fss_cons (fs_for (passes_of rfl) rfl (fi_rng1 (by rfl) T.z_range (fe_int)) (fg_name (i := 2) nd rfl (by first | exact Or.inl rfl | exact Or.inr rfl)) (fss_drop (is := [2, 3]) (fss_cons (fs_set (i := 3) nd rfl (by first | exact Or.inl rfl | exact Or.inr rfl) (fe_callS (ok__law_any T) (hr.mono (by decide)) (by rfl) tk (fa_cons (fe_var 1) (fa_nil)))) (fss_cons (fs_if (ft_not (ft_val (fe_callI (ok__law_same__4 T) (hr.mono (by decide)) (by rfl) tk (fa_cons (fe_callI (ok_paper_read T) (hr.mono (by decide)) (by rfl) tk (fa_cons (fe_mt1 (c := .str) PySem.F.plainAttrs_str PySem.F.slot_str_join PySem.F.type_str_join mm_join (fe_str) (fe_callI (ok__law_paper_words T) (hr.mono (by decide)) (by rfl) tk (fa_cons (fe_var 3) (fa_nil)))) (fa_nil))) (fa_cons (fe_var 3) (fa_nil)))))) (fss_one (fs_ret (fe_bl))) (fss_nil)) (fss_one (fs_if (ft_not (ft_val (fe_callI (ok__law_same__4 T) (hr.mono (by decide)) (by rfl) tk (fa_cons (fe_callI (ok_paper_read T) (hr.mono (by decide)) (by rfl) tk (fa_cons (fe_callI (ok_paper_written T) (hr.mono (by decide)) (by rfl) tk (fa_cons (fe_var 3) (fa_nil))) (fa_nil))) (fa_cons (fe_var 3) (fa_nil)))))) (fss_one (fs_ret (fe_bl))) (fss_nil))))))) (fss_one (fs_ret (fe_bl)))))
end
theorem all_mk {K : PySem.W.Frag} {h : Heap} {mg : Str → Option Value} (X : K.In h) (G : h.Ns mainGlobals mg)
    {t_BEACONS : Tok}
    {t_FIGURES : Tok}
    {t_MOST : Tok}
    {C_Words : Addr}
    {a0 : Addr} {od0 an0 : Option Addr} {sl0 : Array (Option Value)} {oc0 kV0 dc0 pm0 cd0 ct0 : Value}
    {a1 : Addr} {od1 an1 : Option Addr} {sl1 : Array (Option Value)} {oc1 kV1 dc1 pm1 cd1 ct1 : Value}
    {a2 : Addr} {od2 an2 : Option Addr} {sl2 : Array (Option Value)} {oc2 kV2 dc2 pm2 cd2 ct2 : Value}
    {a3 : Addr} {od3 an3 : Option Addr} {sl3 : Array (Option Value)} {oc3 kV3 dc3 pm3 cd3 ct3 : Value}
    {a4 : Addr} {od4 an4 : Option Addr} {sl4 : Array (Option Value)} {oc4 kV4 dc4 pm4 cd4 ct4 : Value}
    {a5 : Addr} {od5 an5 : Option Addr} {sl5 : Array (Option Value)} {oc5 kV5 dc5 pm5 cd5 ct5 : Value}
    {a6 : Addr} {od6 an6 : Option Addr} {sl6 : Array (Option Value)} {oc6 kV6 dc6 pm6 cd6 ct6 : Value}
    {a7 : Addr} {od7 an7 : Option Addr} {sl7 : Array (Option Value)} {oc7 kV7 dc7 pm7 cd7 ct7 : Value}
    {a8 : Addr} {od8 an8 : Option Addr} {sl8 : Array (Option Value)} {oc8 kV8 dc8 pm8 cd8 ct8 : Value}
    {a9 : Addr} {od9 an9 : Option Addr} {sl9 : Array (Option Value)} {oc9 kV9 dc9 pm9 cd9 ct9 : Value}
    {a10 : Addr} {od10 an10 : Option Addr} {sl10 : Array (Option Value)} {oc10 kV10 dc10 pm10 cd10 ct10 : Value}
    {a11 : Addr} {od11 an11 : Option Addr} {sl11 : Array (Option Value)} {oc11 kV11 dc11 pm11 cd11 ct11 : Value}
    {a12 : Addr} {od12 an12 : Option Addr} {sl12 : Array (Option Value)} {oc12 kV12 dc12 pm12 cd12 ct12 : Value}
    {a13 : Addr} {od13 an13 : Option Addr} {sl13 : Array (Option Value)} {oc13 kV13 dc13 pm13 cd13 ct13 : Value}
    {a14 : Addr} {od14 an14 : Option Addr} {sl14 : Array (Option Value)} {oc14 kV14 dc14 pm14 cd14 ct14 : Value}
    {a15 : Addr} {od15 an15 : Option Addr} {sl15 : Array (Option Value)} {oc15 kV15 dc15 pm15 cd15 ct15 : Value}
    {a16 : Addr} {od16 an16 : Option Addr} {sl16 : Array (Option Value)} {oc16 kV16 dc16 pm16 cd16 ct16 : Value}
    {a17 : Addr} {od17 an17 : Option Addr} {sl17 : Array (Option Value)} {oc17 kV17 dc17 pm17 cd17 ct17 : Value}
    {a18 : Addr} {od18 an18 : Option Addr} {sl18 : Array (Option Value)} {oc18 kV18 dc18 pm18 cd18 ct18 : Value}
    {a19 : Addr} {od19 an19 : Option Addr} {sl19 : Array (Option Value)} {oc19 kV19 dc19 pm19 cd19 ct19 : Value}
    {a20 : Addr} {od20 an20 : Option Addr} {sl20 : Array (Option Value)} {oc20 kV20 dc20 pm20 cd20 ct20 : Value}
    {a21 : Addr} {od21 an21 : Option Addr} {sl21 : Array (Option Value)} {oc21 kV21 dc21 pm21 cd21 ct21 : Value}
    {a22 : Addr} {od22 an22 : Option Addr} {sl22 : Array (Option Value)} {oc22 kV22 dc22 pm22 cd22 ct22 : Value}
    {a23 : Addr} {od23 an23 : Option Addr} {sl23 : Array (Option Value)} {oc23 kV23 dc23 pm23 cd23 ct23 : Value}
    {a24 : Addr} {od24 an24 : Option Addr} {sl24 : Array (Option Value)} {oc24 kV24 dc24 pm24 cd24 ct24 : Value}
    {a25 : Addr} {od25 an25 : Option Addr} {sl25 : Array (Option Value)} {oc25 kV25 dc25 pm25 cd25 ct25 : Value}
    {a26 : Addr} {od26 an26 : Option Addr} {sl26 : Array (Option Value)} {oc26 kV26 dc26 pm26 cd26 ct26 : Value}
    {a27 : Addr} {od27 an27 : Option Addr} {sl27 : Array (Option Value)} {oc27 kV27 dc27 pm27 cd27 ct27 : Value}
    {a28 : Addr} {od28 an28 : Option Addr} {sl28 : Array (Option Value)} {oc28 kV28 dc28 pm28 cd28 ct28 : Value}
    {a29 : Addr} {od29 an29 : Option Addr} {sl29 : Array (Option Value)} {oc29 kV29 dc29 pm29 cd29 ct29 : Value}
    {a30 : Addr} {od30 an30 : Option Addr} {sl30 : Array (Option Value)} {oc30 kV30 dc30 pm30 cd30 ct30 : Value}
    {a31 : Addr} {od31 an31 : Option Addr} {sl31 : Array (Option Value)} {oc31 kV31 dc31 pm31 cd31 ct31 : Value}
    {a32 : Addr} {od32 an32 : Option Addr} {sl32 : Array (Option Value)} {oc32 kV32 dc32 pm32 cd32 ct32 : Value}
    {a33 : Addr} {od33 an33 : Option Addr} {sl33 : Array (Option Value)} {oc33 kV33 dc33 pm33 cd33 ct33 : Value}
    {a34 : Addr} {od34 an34 : Option Addr} {sl34 : Array (Option Value)} {oc34 kV34 dc34 pm34 cd34 ct34 : Value}
    {a35 : Addr} {od35 an35 : Option Addr} {sl35 : Array (Option Value)} {oc35 kV35 dc35 pm35 cd35 ct35 : Value}
    {a36 : Addr} {od36 an36 : Option Addr} {sl36 : Array (Option Value)} {oc36 kV36 dc36 pm36 cd36 ct36 : Value}
    (z_all : PySem.W.nsIn K mainGlobals "all" = some none)
    (z_bool : PySem.W.nsIn K mainGlobals "bool" = some none)
    (z_int : PySem.W.nsIn K mainGlobals "int" = some none)
    (z_isinstance : PySem.W.nsIn K mainGlobals "isinstance" = some none)
    (z_len : PySem.W.nsIn K mainGlobals "len" = some none)
    (z_list : PySem.W.nsIn K mainGlobals "list" = some none)
    (z_range : PySem.W.nsIn K mainGlobals "range" = some none)
    (z_reversed : PySem.W.nsIn K mainGlobals "reversed" = some none)
    (z_str : PySem.W.nsIn K mainGlobals "str" = some none)
    (z_tuple : PySem.W.nsIn K mainGlobals "tuple" = some none)
    (g_BEACONS : PySem.W.nsIn K mainGlobals "BEACONS" = some (some (.int 60 t_BEACONS)))
    (g_FIGURES : PySem.W.nsIn K mainGlobals "FIGURES" = some (some (.str "0123456789" t_FIGURES)))
    (g_MOST : PySem.W.nsIn K mainGlobals "MOST" = some (some (.int 200 t_MOST)))
    (aC_Words : PySem.W.nsIn K mainGlobals "Words" = some (some (.ref C_Words)))
    (pg_Words : PySem.W.plainGet K C_Words Str.empty = true)
    (hd_Words : PySem.W.hasDictIn K C_Words = true)
    (po_Words : PySem.W.plainOver K C_Words = true)
    (sa_Words : PySem.W.findIn K (.ref C_Words) "__setattr__" = some (some (.builtin "object.__setattr__")))
    (mk_Words : PySem.W.makesIn K C_Words = true)
    (kc_Words : PySem.W.keepIn K (.ref C_Words) = true)
    (n_Words_row : PySem.W.findIn K (.ref C_Words) "row" = some none)
    (n_Words_done : PySem.W.findIn K (.ref C_Words) "done" = some none)
    (A0 : PySem.W.nsIn K mainGlobals "number_of" = some (some (.ref a0)))
    (l0 : K.lookup a0 = some ⟨oc0, od0, .func (PySem.W.fnOf "number_of" "number_of" (defArgs s_number_of) (defBody s_number_of) (defScope s_number_of) .none kV0 dc0 pm0 an0 cd0 ct0), sl0⟩)
    (c0 : PySem.W.codeIn K cd0 "number_of" = true)
    (k0 : PySem.W.keepIn K (.ref a0) = true)
    (A1 : PySem.W.nsIn K mainGlobals "saying_of" = some (some (.ref a1)))
    (l1 : K.lookup a1 = some ⟨oc1, od1, .func (PySem.W.fnOf "saying_of" "saying_of" (defArgs s_saying_of) (defBody s_saying_of) (defScope s_saying_of) .none kV1 dc1 pm1 an1 cd1 ct1), sl1⟩)
    (c1 : PySem.W.codeIn K cd1 "saying_of" = true)
    (k1 : PySem.W.keepIn K (.ref a1) = true)
    (A2 : PySem.W.nsIn K mainGlobals "saying_word" = some (some (.ref a2)))
    (l2 : K.lookup a2 = some ⟨oc2, od2, .func (PySem.W.fnOf "saying_word" "saying_word" (defArgs s_saying_word) (defBody s_saying_word) (defScope s_saying_word) .none kV2 dc2 pm2 an2 cd2 ct2), sl2⟩)
    (c2 : PySem.W.codeIn K cd2 "saying_word" = true)
    (k2 : PySem.W.keepIn K (.ref a2) = true)
    (A3 : PySem.W.nsIn K mainGlobals "road_words" = some (some (.ref a3)))
    (l3 : K.lookup a3 = some ⟨oc3, od3, .func (PySem.W.fnOf "road_words" "road_words" (defArgs s_road_words) (defBody s_road_words) (defScope s_road_words) .none kV3 dc3 pm3 an3 cd3 ct3), sl3⟩)
    (c3 : PySem.W.codeIn K cd3 "road_words" = true)
    (k3 : PySem.W.keepIn K (.ref a3) = true)
    (A4 : PySem.W.nsIn K mainGlobals "number_words" = some (some (.ref a4)))
    (l4 : K.lookup a4 = some ⟨oc4, od4, .func (PySem.W.fnOf "number_words" "number_words" (defArgs s_number_words) (defBody s_number_words) (defScope s_number_words) .none kV4 dc4 pm4 an4 cd4 ct4), sl4⟩)
    (c4 : PySem.W.codeIn K cd4 "number_words" = true)
    (k4 : PySem.W.keepIn K (.ref a4) = true)
    (A5 : PySem.W.nsIn K mainGlobals "free_word" = some (some (.ref a5)))
    (l5 : K.lookup a5 = some ⟨oc5, od5, .func (PySem.W.fnOf "free_word" "free_word" (defArgs s_free_word) (defBody s_free_word) (defScope s_free_word) .none kV5 dc5 pm5 an5 cd5 ct5), sl5⟩)
    (c5 : PySem.W.codeIn K cd5 "free_word" = true)
    (k5 : PySem.W.keepIn K (.ref a5) = true)
    (A6 : PySem.W.nsIn K mainGlobals "truth_word" = some (some (.ref a6)))
    (l6 : K.lookup a6 = some ⟨oc6, od6, .func (PySem.W.fnOf "truth_word" "truth_word" (defArgs s_truth_word) (defBody s_truth_word) (defScope s_truth_word) .none kV6 dc6 pm6 an6 cd6 ct6), sl6⟩)
    (c6 : PySem.W.codeIn K cd6 "truth_word" = true)
    (k6 : PySem.W.keepIn K (.ref a6) = true)
    (A7 : PySem.W.nsIn K mainGlobals "rows_words" = some (some (.ref a7)))
    (l7 : K.lookup a7 = some ⟨oc7, od7, .func (PySem.W.fnOf "rows_words" "rows_words" (defArgs s_rows_words) (defBody s_rows_words) (defScope s_rows_words) .none kV7 dc7 pm7 an7 cd7 ct7), sl7⟩)
    (c7 : PySem.W.codeIn K cd7 "rows_words" = true)
    (k7 : PySem.W.keepIn K (.ref a7) = true)
    (A8 : PySem.W.nsIn K mainGlobals "paper_words" = some (some (.ref a8)))
    (l8 : K.lookup a8 = some ⟨oc8, od8, .func (PySem.W.fnOf "paper_words" "paper_words" (defArgs s_paper_words) (defBody s_paper_words) (defScope s_paper_words) .none kV8 dc8 pm8 an8 cd8 ct8), sl8⟩)
    (c8 : PySem.W.codeIn K cd8 "paper_words" = true)
    (k8 : PySem.W.keepIn K (.ref a8) = true)
    (A9 : PySem.W.nsIn K mainGlobals "paper_written" = some (some (.ref a9)))
    (l9 : K.lookup a9 = some ⟨oc9, od9, .func (PySem.W.fnOf "paper_written" "paper_written" (defArgs s_paper_written) (defBody s_paper_written) (defScope s_paper_written) .none kV9 dc9 pm9 an9 cd9 ct9), sl9⟩)
    (c9 : PySem.W.codeIn K cd9 "paper_written" = true)
    (k9 : PySem.W.keepIn K (.ref a9) = true)
    (A10 : PySem.W.findIn K (.ref C_Words) "__init__" = some (some (.ref a10)))
    (i10 : PySem.W.isFn K (.ref a10) = true)
    (l10 : K.lookup a10 = some ⟨oc10, od10, .func (PySem.W.fnOf "__init__" "Words.__init__" (defArgs s_Words_init) (defBody s_Words_init) (defScope s_Words_init) .none kV10 dc10 pm10 an10 cd10 ct10), sl10⟩)
    (c10 : PySem.W.codeIn K cd10 "Words.__init__" = true)
    (k10 : PySem.W.keepIn K (.ref a10) = true)
    (A11 : PySem.W.findIn K (.ref C_Words) "step" = some (some (.ref a11)))
    (i11 : PySem.W.isFn K (.ref a11) = true)
    (l11 : K.lookup a11 = some ⟨oc11, od11, .func (PySem.W.fnOf "step" "Words.step" (defArgs s_Words_step) (defBody s_Words_step) (defScope s_Words_step) .none kV11 dc11 pm11 an11 cd11 ct11), sl11⟩)
    (c11 : PySem.W.codeIn K cd11 "Words.step" = true)
    (k11 : PySem.W.keepIn K (.ref a11) = true)
    (A12 : PySem.W.findIn K (.ref C_Words) "ended" = some (some (.ref a12)))
    (i12 : PySem.W.isFn K (.ref a12) = true)
    (l12 : K.lookup a12 = some ⟨oc12, od12, .func (PySem.W.fnOf "ended" "Words.ended" (defArgs s_Words_ended) (defBody s_Words_ended) (defScope s_Words_ended) .none kV12 dc12 pm12 an12 cd12 ct12), sl12⟩)
    (c12 : PySem.W.codeIn K cd12 "Words.ended" = true)
    (k12 : PySem.W.keepIn K (.ref a12) = true)
    (A13 : PySem.W.nsIn K mainGlobals "number_read" = some (some (.ref a13)))
    (l13 : K.lookup a13 = some ⟨oc13, od13, .func (PySem.W.fnOf "number_read" "number_read" (defArgs s_number_read) (defBody s_number_read) (defScope s_number_read) .none kV13 dc13 pm13 an13 cd13 ct13), sl13⟩)
    (c13 : PySem.W.codeIn K cd13 "number_read" = true)
    (k13 : PySem.W.keepIn K (.ref a13) = true)
    (A14 : PySem.W.nsIn K mainGlobals "numbers_read" = some (some (.ref a14)))
    (l14 : K.lookup a14 = some ⟨oc14, od14, .func (PySem.W.fnOf "numbers_read" "numbers_read" (defArgs s_numbers_read) (defBody s_numbers_read) (defScope s_numbers_read) .none kV14 dc14 pm14 an14 cd14 ct14), sl14⟩)
    (c14 : PySem.W.codeIn K cd14 "numbers_read" = true)
    (k14 : PySem.W.keepIn K (.ref a14) = true)
    (A15 : PySem.W.nsIn K mainGlobals "saying_read" = some (some (.ref a15)))
    (l15 : K.lookup a15 = some ⟨oc15, od15, .func (PySem.W.fnOf "saying_read" "saying_read" (defArgs s_saying_read) (defBody s_saying_read) (defScope s_saying_read) .none kV15 dc15 pm15 an15 cd15 ct15), sl15⟩)
    (c15 : PySem.W.codeIn K cd15 "saying_read" = true)
    (k15 : PySem.W.keepIn K (.ref a15) = true)
    (A16 : PySem.W.nsIn K mainGlobals "road_read" = some (some (.ref a16)))
    (l16 : K.lookup a16 = some ⟨oc16, od16, .func (PySem.W.fnOf "road_read" "road_read" (defArgs s_road_read) (defBody s_road_read) (defScope s_road_read) .none kV16 dc16 pm16 an16 cd16 ct16), sl16⟩)
    (c16 : PySem.W.codeIn K cd16 "road_read" = true)
    (k16 : PySem.W.keepIn K (.ref a16) = true)
    (A17 : PySem.W.nsIn K mainGlobals "free_read" = some (some (.ref a17)))
    (l17 : K.lookup a17 = some ⟨oc17, od17, .func (PySem.W.fnOf "free_read" "free_read" (defArgs s_free_read) (defBody s_free_read) (defScope s_free_read) .none kV17 dc17 pm17 an17 cd17 ct17), sl17⟩)
    (c17 : PySem.W.codeIn K cd17 "free_read" = true)
    (k17 : PySem.W.keepIn K (.ref a17) = true)
    (A18 : PySem.W.nsIn K mainGlobals "truth_read" = some (some (.ref a18)))
    (l18 : K.lookup a18 = some ⟨oc18, od18, .func (PySem.W.fnOf "truth_read" "truth_read" (defArgs s_truth_read) (defBody s_truth_read) (defScope s_truth_read) .none kV18 dc18 pm18 an18 cd18 ct18), sl18⟩)
    (c18 : PySem.W.codeIn K cd18 "truth_read" = true)
    (k18 : PySem.W.keepIn K (.ref a18) = true)
    (A19 : PySem.W.nsIn K mainGlobals "row_read" = some (some (.ref a19)))
    (l19 : K.lookup a19 = some ⟨oc19, od19, .func (PySem.W.fnOf "row_read" "row_read" (defArgs s_row_read) (defBody s_row_read) (defScope s_row_read) .none kV19 dc19 pm19 an19 cd19 ct19), sl19⟩)
    (c19 : PySem.W.codeIn K cd19 "row_read" = true)
    (k19 : PySem.W.keepIn K (.ref a19) = true)
    (A20 : PySem.W.nsIn K mainGlobals "rows_read" = some (some (.ref a20)))
    (l20 : K.lookup a20 = some ⟨oc20, od20, .func (PySem.W.fnOf "rows_read" "rows_read" (defArgs s_rows_read) (defBody s_rows_read) (defScope s_rows_read) .none kV20 dc20 pm20 an20 cd20 ct20), sl20⟩)
    (c20 : PySem.W.codeIn K cd20 "rows_read" = true)
    (k20 : PySem.W.keepIn K (.ref a20) = true)
    (A21 : PySem.W.nsIn K mainGlobals "paper_next" = some (some (.ref a21)))
    (l21 : K.lookup a21 = some ⟨oc21, od21, .func (PySem.W.fnOf "paper_next" "paper_next" (defArgs s_paper_next) (defBody s_paper_next) (defScope s_paper_next) .none kV21 dc21 pm21 an21 cd21 ct21), sl21⟩)
    (c21 : PySem.W.codeIn K cd21 "paper_next" = true)
    (k21 : PySem.W.keepIn K (.ref a21) = true)
    (A22 : PySem.W.nsIn K mainGlobals "paper_read" = some (some (.ref a22)))
    (l22 : K.lookup a22 = some ⟨oc22, od22, .func (PySem.W.fnOf "paper_read" "paper_read" (defArgs s_paper_read) (defBody s_paper_read) (defScope s_paper_read) .none kV22 dc22 pm22 an22 cd22 ct22), sl22⟩)
    (c22 : PySem.W.codeIn K cd22 "paper_read" = true)
    (k22 : PySem.W.keepIn K (.ref a22) = true)
    (A23 : PySem.W.nsIn K mainGlobals "_law_mixed" = some (some (.ref a23)))
    (l23 : K.lookup a23 = some ⟨oc23, od23, .func (PySem.W.fnOf "_law_mixed" "_law_mixed" (defArgs s__law_mixed) (defBody s__law_mixed) (defScope s__law_mixed) .none kV23 dc23 pm23 an23 cd23 ct23), sl23⟩)
    (c23 : PySem.W.codeIn K cd23 "_law_mixed" = true)
    (k23 : PySem.W.keepIn K (.ref a23) = true)
    (A24 : PySem.W.nsIn K mainGlobals "_law_next" = some (some (.ref a24)))
    (l24 : K.lookup a24 = some ⟨oc24, od24, .func (PySem.W.fnOf "_law_next" "_law_next" (defArgs s__law_next) (defBody s__law_next) (defScope s__law_next) .none kV24 dc24 pm24 an24 cd24 ct24), sl24⟩)
    (c24 : PySem.W.codeIn K cd24 "_law_next" = true)
    (k24 : PySem.W.keepIn K (.ref a24) = true)
    (A25 : PySem.W.nsIn K mainGlobals "_law_many" = some (some (.ref a25)))
    (l25 : K.lookup a25 = some ⟨oc25, od25, .func (PySem.W.fnOf "_law_many" "_law_many" (defArgs s__law_many) (defBody s__law_many) (defScope s__law_many) .none kV25 dc25 pm25 an25 cd25 ct25), sl25⟩)
    (c25 : PySem.W.codeIn K cd25 "_law_many" = true)
    (k25 : PySem.W.keepIn K (.ref a25) = true)
    (A26 : PySem.W.nsIn K mainGlobals "_law_any_road" = some (some (.ref a26)))
    (l26 : K.lookup a26 = some ⟨oc26, od26, .func (PySem.W.fnOf "_law_any_road" "_law_any_road" (defArgs s__law_any_road) (defBody s__law_any_road) (defScope s__law_any_road) .none kV26 dc26 pm26 an26 cd26 ct26), sl26⟩)
    (c26 : PySem.W.codeIn K cd26 "_law_any_road" = true)
    (k26 : PySem.W.keepIn K (.ref a26) = true)
    (A27 : PySem.W.nsIn K mainGlobals "_law_any_numbers" = some (some (.ref a27)))
    (l27 : K.lookup a27 = some ⟨oc27, od27, .func (PySem.W.fnOf "_law_any_numbers" "_law_any_numbers" (defArgs s__law_any_numbers) (defBody s__law_any_numbers) (defScope s__law_any_numbers) .none kV27 dc27 pm27 an27 cd27 ct27), sl27⟩)
    (c27 : PySem.W.codeIn K cd27 "_law_any_numbers" = true)
    (k27 : PySem.W.keepIn K (.ref a27) = true)
    (A28 : PySem.W.nsIn K mainGlobals "_law_any_rows" = some (some (.ref a28)))
    (l28 : K.lookup a28 = some ⟨oc28, od28, .func (PySem.W.fnOf "_law_any_rows" "_law_any_rows" (defArgs s__law_any_rows) (defBody s__law_any_rows) (defScope s__law_any_rows) .none kV28 dc28 pm28 an28 cd28 ct28), sl28⟩)
    (c28 : PySem.W.codeIn K cd28 "_law_any_rows" = true)
    (k28 : PySem.W.keepIn K (.ref a28) = true)
    (A29 : PySem.W.nsIn K mainGlobals "_law_any" = some (some (.ref a29)))
    (l29 : K.lookup a29 = some ⟨oc29, od29, .func (PySem.W.fnOf "_law_any" "_law_any" (defArgs s__law_any) (defBody s__law_any) (defScope s__law_any) .none kV29 dc29 pm29 an29 cd29 ct29), sl29⟩)
    (c29 : PySem.W.codeIn K cd29 "_law_any" = true)
    (k29 : PySem.W.keepIn K (.ref a29) = true)
    (A30 : PySem.W.nsIn K mainGlobals "_law_number_words" = some (some (.ref a30)))
    (l30 : K.lookup a30 = some ⟨oc30, od30, .func (PySem.W.fnOf "_law_number_words" "_law_number_words" (defArgs s__law_number_words) (defBody s__law_number_words) (defScope s__law_number_words) .none kV30 dc30 pm30 an30 cd30 ct30), sl30⟩)
    (c30 : PySem.W.codeIn K cd30 "_law_number_words" = true)
    (k30 : PySem.W.keepIn K (.ref a30) = true)
    (A31 : PySem.W.nsIn K mainGlobals "_law_road_words" = some (some (.ref a31)))
    (l31 : K.lookup a31 = some ⟨oc31, od31, .func (PySem.W.fnOf "_law_road_words" "_law_road_words" (defArgs s__law_road_words) (defBody s__law_road_words) (defScope s__law_road_words) .none kV31 dc31 pm31 an31 cd31 ct31), sl31⟩)
    (c31 : PySem.W.codeIn K cd31 "_law_road_words" = true)
    (k31 : PySem.W.keepIn K (.ref a31) = true)
    (A32 : PySem.W.nsIn K mainGlobals "_law_free_word" = some (some (.ref a32)))
    (l32 : K.lookup a32 = some ⟨oc32, od32, .func (PySem.W.fnOf "_law_free_word" "_law_free_word" (defArgs s__law_free_word) (defBody s__law_free_word) (defScope s__law_free_word) .none kV32 dc32 pm32 an32 cd32 ct32), sl32⟩)
    (c32 : PySem.W.codeIn K cd32 "_law_free_word" = true)
    (k32 : PySem.W.keepIn K (.ref a32) = true)
    (A33 : PySem.W.nsIn K mainGlobals "_law_rows_words" = some (some (.ref a33)))
    (l33 : K.lookup a33 = some ⟨oc33, od33, .func (PySem.W.fnOf "_law_rows_words" "_law_rows_words" (defArgs s__law_rows_words) (defBody s__law_rows_words) (defScope s__law_rows_words) .none kV33 dc33 pm33 an33 cd33 ct33), sl33⟩)
    (c33 : PySem.W.codeIn K cd33 "_law_rows_words" = true)
    (k33 : PySem.W.keepIn K (.ref a33) = true)
    (A34 : PySem.W.nsIn K mainGlobals "_law_paper_words" = some (some (.ref a34)))
    (l34 : K.lookup a34 = some ⟨oc34, od34, .func (PySem.W.fnOf "_law_paper_words" "_law_paper_words" (defArgs s__law_paper_words) (defBody s__law_paper_words) (defScope s__law_paper_words) .none kV34 dc34 pm34 an34 cd34 ct34), sl34⟩)
    (c34 : PySem.W.codeIn K cd34 "_law_paper_words" = true)
    (k34 : PySem.W.keepIn K (.ref a34) = true)
    (A35 : PySem.W.nsIn K mainGlobals "_law_same" = some (some (.ref a35)))
    (l35 : K.lookup a35 = some ⟨oc35, od35, .func (PySem.W.fnOf "_law_same" "_law_same" (defArgs s__law_same) (defBody s__law_same) (defScope s__law_same) .none kV35 dc35 pm35 an35 cd35 ct35), sl35⟩)
    (c35 : PySem.W.codeIn K cd35 "_law_same" = true)
    (k35 : PySem.W.keepIn K (.ref a35) = true)
    (A36 : PySem.W.nsIn K mainGlobals "law" = some (some (.ref a36)))
    (l36 : K.lookup a36 = some ⟨oc36, od36, .func (PySem.W.fnOf "law" "law" (defArgs s_law) (defBody s_law) (defScope s_law) .none kV36 dc36 pm36 an36 cd36 ct36), sl36⟩)
    (c36 : PySem.W.codeIn K cd36 "law" = true)
    (k36 : PySem.W.keepIn K (.ref a36) = true) : Tx K mg where
  z_all := PySem.W.mg_none_of X G z_all
  z_bool := PySem.W.mg_none_of X G z_bool
  z_int := PySem.W.mg_none_of X G z_int
  z_isinstance := PySem.W.mg_none_of X G z_isinstance
  z_len := PySem.W.mg_none_of X G z_len
  z_list := PySem.W.mg_none_of X G z_list
  z_range := PySem.W.mg_none_of X G z_range
  z_reversed := PySem.W.mg_none_of X G z_reversed
  z_str := PySem.W.mg_none_of X G z_str
  z_tuple := PySem.W.mg_none_of X G z_tuple
  g_BEACONS := ⟨_, PySem.W.mg_of X G g_BEACONS⟩
  g_FIGURES := ⟨_, PySem.W.mg_of X G g_FIGURES⟩
  g_MOST := ⟨_, PySem.W.mg_of X G g_MOST⟩
  k_Words := ⟨_, PySem.W.mg_of X G aC_Words, ⟨pg_Words, hd_Words, po_Words, sa_Words⟩, n_Words_row, n_Words_done⟩
  d_number_of := ⟨_, _, PySem.W.mg_of X G A0, fun_mk (st := s_number_of) l0 c0 k0, fun s us hl => match us, hl with | [_], _ => .of_eq rfl⟩
  d_saying_of := ⟨_, _, PySem.W.mg_of X G A1, fun_mk (st := s_saying_of) l1 c1 k1, fun s us hl => match us, hl with | [_], _ => .of_eq rfl⟩
  d_saying_word := ⟨_, _, PySem.W.mg_of X G A2, fun_mk (st := s_saying_word) l2 c2 k2, fun s us hl => match us, hl with | [_], _ => .of_eq rfl⟩
  d_road_words := ⟨_, _, PySem.W.mg_of X G A3, fun_mk (st := s_road_words) l3 c3 k3, fun s us hl => match us, hl with | [_], _ => .of_eq rfl⟩
  d_number_words := ⟨_, _, PySem.W.mg_of X G A4, fun_mk (st := s_number_words) l4 c4 k4, fun s us hl => match us, hl with | [_], _ => .of_eq rfl⟩
  d_free_word := ⟨_, _, PySem.W.mg_of X G A5, fun_mk (st := s_free_word) l5 c5 k5, fun s us hl => match us, hl with | [_], _ => .of_eq rfl⟩
  d_truth_word := ⟨_, _, PySem.W.mg_of X G A6, fun_mk (st := s_truth_word) l6 c6 k6, fun s us hl => match us, hl with | [_], _ => .of_eq rfl⟩
  d_rows_words := ⟨_, _, PySem.W.mg_of X G A7, fun_mk (st := s_rows_words) l7 c7 k7, fun s us hl => match us, hl with | [_, _], _ => .of_eq rfl⟩
  d_paper_words := ⟨_, _, PySem.W.mg_of X G A8, fun_mk (st := s_paper_words) l8 c8 k8, fun s us hl => match us, hl with | [_], _ => .of_eq rfl⟩
  d_paper_written := ⟨_, _, PySem.W.mg_of X G A9, fun_mk (st := s_paper_written) l9 c9 k9, fun s us hl => match us, hl with | [_], _ => .of_eq rfl⟩
  d_Words_init := ⟨_, _, _, PySem.W.mg_of X G aC_Words, ⟨mk_Words, A10, i10, kc_Words⟩, fun_mk (st := s_Words_init) l10 c10 k10, fun s us hl => match us, hl with | [_, _], _ => .of_eq rfl⟩
  d_Words_step := ⟨_, _, _, PySem.W.mg_of X G aC_Words, ⟨pg_Words, hd_Words, po_Words, sa_Words⟩, ⟨A11, i11, k11⟩, fun_mk (st := s_Words_step) l11 c11 k11, fun s us hl => match us, hl with | [_], _ => .of_eq rfl⟩
  d_Words_ended := ⟨_, _, _, PySem.W.mg_of X G aC_Words, ⟨pg_Words, hd_Words, po_Words, sa_Words⟩, ⟨A12, i12, k12⟩, fun_mk (st := s_Words_ended) l12 c12 k12, fun s us hl => match us, hl with | [_], _ => .of_eq rfl⟩
  d_number_read := ⟨_, _, PySem.W.mg_of X G A13, fun_mk (st := s_number_read) l13 c13 k13, fun s us hl => match us, hl with | [_, _], _ => .of_eq rfl⟩
  d_numbers_read := ⟨_, _, PySem.W.mg_of X G A14, fun_mk (st := s_numbers_read) l14 c14 k14, fun s us hl => match us, hl with | [_, _], _ => .of_eq rfl⟩
  d_saying_read := ⟨_, _, PySem.W.mg_of X G A15, fun_mk (st := s_saying_read) l15 c15 k15, fun s us hl => match us, hl with | [_], _ => .of_eq rfl⟩
  d_road_read := ⟨_, _, PySem.W.mg_of X G A16, fun_mk (st := s_road_read) l16 c16 k16, fun s us hl => match us, hl with | [_], _ => .of_eq rfl⟩
  d_free_read := ⟨_, _, PySem.W.mg_of X G A17, fun_mk (st := s_free_read) l17 c17 k17, fun s us hl => match us, hl with | [_], _ => .of_eq rfl⟩
  d_truth_read := ⟨_, _, PySem.W.mg_of X G A18, fun_mk (st := s_truth_read) l18 c18 k18, fun s us hl => match us, hl with | [_], _ => .of_eq rfl⟩
  d_row_read := ⟨_, _, PySem.W.mg_of X G A19, fun_mk (st := s_row_read) l19 c19 k19, fun s us hl => match us, hl with | [_, _], _ => .of_eq rfl⟩
  d_rows_read := ⟨_, _, PySem.W.mg_of X G A20, fun_mk (st := s_rows_read) l20 c20 k20, fun s us hl => match us, hl with | [_, _], _ => .of_eq rfl⟩
  d_paper_next := ⟨_, _, PySem.W.mg_of X G A21, fun_mk (st := s_paper_next) l21 c21 k21, fun s us hl => match us, hl with | [_], _ => .of_eq rfl⟩
  d_paper_read := ⟨_, _, PySem.W.mg_of X G A22, fun_mk (st := s_paper_read) l22 c22 k22, fun s us hl => match us, hl with | [_], _ => .of_eq rfl⟩
  d__law_mixed := ⟨_, _, PySem.W.mg_of X G A23, fun_mk (st := s__law_mixed) l23 c23 k23, fun s us hl => match us, hl with | [_, _], _ => .of_eq rfl⟩
  d__law_next := ⟨_, _, PySem.W.mg_of X G A24, fun_mk (st := s__law_next) l24 c24 k24, fun s us hl => match us, hl with | [_], _ => .of_eq rfl⟩
  d__law_many := ⟨_, _, PySem.W.mg_of X G A25, fun_mk (st := s__law_many) l25 c25 k25, fun s us hl => match us, hl with | [_, _], _ => .of_eq rfl⟩
  d__law_any_road := ⟨_, _, PySem.W.mg_of X G A26, fun_mk (st := s__law_any_road) l26 c26 k26, fun s us hl => match us, hl with | [_], _ => .of_eq rfl⟩
  d__law_any_numbers := ⟨_, _, PySem.W.mg_of X G A27, fun_mk (st := s__law_any_numbers) l27 c27 k27, fun s us hl => match us, hl with | [_, _], _ => .of_eq rfl⟩
  d__law_any_rows := ⟨_, _, PySem.W.mg_of X G A28, fun_mk (st := s__law_any_rows) l28 c28 k28, fun s us hl => match us, hl with | [_, _], _ => .of_eq rfl⟩
  d__law_any := ⟨_, _, PySem.W.mg_of X G A29, fun_mk (st := s__law_any) l29 c29 k29, fun s us hl => match us, hl with | [_], _ => .of_eq rfl⟩
  d__law_number_words := ⟨_, _, PySem.W.mg_of X G A30, fun_mk (st := s__law_number_words) l30 c30 k30, fun s us hl => match us, hl with | [_], _ => .of_eq rfl⟩
  d__law_road_words := ⟨_, _, PySem.W.mg_of X G A31, fun_mk (st := s__law_road_words) l31 c31 k31, fun s us hl => match us, hl with | [_], _ => .of_eq rfl⟩
  d__law_free_word := ⟨_, _, PySem.W.mg_of X G A32, fun_mk (st := s__law_free_word) l32 c32 k32, fun s us hl => match us, hl with | [_], _ => .of_eq rfl⟩
  d__law_rows_words := ⟨_, _, PySem.W.mg_of X G A33, fun_mk (st := s__law_rows_words) l33 c33 k33, fun s us hl => match us, hl with | [_, _], _ => .of_eq rfl⟩
  d__law_paper_words := ⟨_, _, PySem.W.mg_of X G A34, fun_mk (st := s__law_paper_words) l34 c34 k34, fun s us hl => match us, hl with | [_], _ => .of_eq rfl⟩
  d__law_same := ⟨_, _, PySem.W.mg_of X G A35, fun_mk (st := s__law_same) l35 c35 k35, fun s us hl => match us, hl with | [_, _], _ => .of_eq rfl⟩
  d_law := ⟨_, _, PySem.W.mg_of X G A36, fun_mk (st := s_law) l36 c36 k36, fun s us hl => match us, hl with | [_], _ => .of_eq rfl⟩
end K59

end SDer
open PySem PySem.W PyProof.Rows
set_option maxRecDepth 100000 in
set_option maxHeartbeats 0 in
theorem PySem.Challenge.cw_duskbook_k59_papers_read_holds : PySem.Challenge.rw_duskbook_k59_papers_read.Holds := by
  w_on; o_law; k_head; (case hw => w_witness2)
  k_fill
  refine L2.walk_of (l := PySem.Challenge.rw_duskbook_k59_papers_read) (n := 63) (k := 8) (x := "script") (CX := fun w => L2.CX PySem.Challenge.rw_duskbook_k59_papers_read.prog w) (sp := fun w => DK.spLaw _) rfl (by decide +kernel) rfl ⟨rfl, by decide, by decide⟩ (fun w h Y => PySem.W.kIn_of Y) ?F (fun w H a ns hl hO hS => DK.spLaw_mk hl hO hS) (fun w H s e s' h => DK.cx_false h)
  case F =>
    intro w mg fa h KX G hmg
    refine' DK.law_end (K59.ok_law (K59.all_mk KX G ?z_all ?z_bool ?z_int ?z_isinstance ?z_len ?z_list ?z_range ?z_reversed ?z_str ?z_tuple ?g_BEACONS ?g_FIGURES ?g_MOST ?aC_Words ?pg_Words ?hd_Words ?po_Words ?sa_Words ?mk_Words ?kc_Words ?n_Words_row ?n_Words_done ?A0 ?l0 ?c0 ?k0 ?A1 ?l1 ?c1 ?k1 ?A2 ?l2 ?c2 ?k2 ?A3 ?l3 ?c3 ?k3 ?A4 ?l4 ?c4 ?k4 ?A5 ?l5 ?c5 ?k5 ?A6 ?l6 ?c6 ?k6 ?A7 ?l7 ?c7 ?k7 ?A8 ?l8 ?c8 ?k8 ?A9 ?l9 ?c9 ?k9 ?A10 ?i10 ?l10 ?c10 ?k10 ?A11 ?i11 ?l11 ?c11 ?k11 ?A12 ?i12 ?l12 ?c12 ?k12 ?A13 ?l13 ?c13 ?k13 ?A14 ?l14 ?c14 ?k14 ?A15 ?l15 ?c15 ?k15 ?A16 ?l16 ?c16 ?k16 ?A17 ?l17 ?c17 ?k17 ?A18 ?l18 ?c18 ?k18 ?A19 ?l19 ?c19 ?k19 ?A20 ?l20 ?c20 ?k20 ?A21 ?l21 ?c21 ?k21 ?A22 ?l22 ?c22 ?k22 ?A23 ?l23 ?c23 ?k23 ?A24 ?l24 ?c24 ?k24 ?A25 ?l25 ?c25 ?k25 ?A26 ?l26 ?c26 ?k26 ?A27 ?l27 ?c27 ?k27 ?A28 ?l28 ?c28 ?k28 ?A29 ?l29 ?c29 ?k29 ?A30 ?l30 ?c30 ?k30 ?A31 ?l31 ?c31 ?k31 ?A32 ?l32 ?c32 ?k32 ?A33 ?l33 ?c33 ?k33 ?A34 ?l34 ?c34 ?k34 ?A35 ?l35 ?c35 ?k35 ?A36 ?l36 ?c36 ?k36)) hmg K59.law_true
    (case z_all => k_is); (case z_bool => k_is); (case z_int => k_is); (case z_isinstance => k_is); (case z_len => k_is); (case z_list => k_is); (case z_range => k_is); (case z_reversed => k_is); (case z_str => k_is); (case z_tuple => k_is); (case g_BEACONS => k_is); (case g_FIGURES => k_is); (case g_MOST => k_is); (case aC_Words => k_is); (case pg_Words => k_is); (case hd_Words => k_is); (case po_Words => k_is); (case sa_Words => k_is); (case mk_Words => k_is); (case kc_Words => k_is); (case n_Words_row => k_is); (case n_Words_done => k_is); (case A0 => k_is); (case l0 => k_is); (case c0 => k_is); (case k0 => k_is); (case A1 => k_is); (case l1 => k_is); (case c1 => k_is); (case k1 => k_is); (case A2 => k_is); (case l2 => k_is); (case c2 => k_is); (case k2 => k_is); (case A3 => k_is); (case l3 => k_is); (case c3 => k_is); (case k3 => k_is); (case A4 => k_is); (case l4 => k_is); (case c4 => k_is); (case k4 => k_is); (case A5 => k_is); (case l5 => k_is); (case c5 => k_is); (case k5 => k_is); (case A6 => k_is); (case l6 => k_is); (case c6 => k_is); (case k6 => k_is); (case A7 => k_is); (case l7 => k_is); (case c7 => k_is); (case k7 => k_is); (case A8 => k_is); (case l8 => k_is); (case c8 => k_is); (case k8 => k_is); (case A9 => k_is); (case l9 => k_is); (case c9 => k_is); (case k9 => k_is); (case A10 => k_is); (case i10 => k_is); (case l10 => k_is); (case c10 => k_is); (case k10 => k_is); (case A11 => k_is); (case i11 => k_is); (case l11 => k_is); (case c11 => k_is); (case k11 => k_is); (case A12 => k_is); (case i12 => k_is); (case l12 => k_is); (case c12 => k_is); (case k12 => k_is); (case A13 => k_is); (case l13 => k_is); (case c13 => k_is); (case k13 => k_is); (case A14 => k_is); (case l14 => k_is); (case c14 => k_is); (case k14 => k_is); (case A15 => k_is); (case l15 => k_is); (case c15 => k_is); (case k15 => k_is); (case A16 => k_is); (case l16 => k_is); (case c16 => k_is); (case k16 => k_is); (case A17 => k_is); (case l17 => k_is); (case c17 => k_is); (case k17 => k_is); (case A18 => k_is); (case l18 => k_is); (case c18 => k_is); (case k18 => k_is); (case A19 => k_is); (case l19 => k_is); (case c19 => k_is); (case k19 => k_is); (case A20 => k_is); (case l20 => k_is); (case c20 => k_is); (case k20 => k_is); (case A21 => k_is); (case l21 => k_is); (case c21 => k_is); (case k21 => k_is); (case A22 => k_is); (case l22 => k_is); (case c22 => k_is); (case k22 => k_is); (case A23 => k_is); (case l23 => k_is); (case c23 => k_is); (case k23 => k_is); (case A24 => k_is); (case l24 => k_is); (case c24 => k_is); (case k24 => k_is); (case A25 => k_is); (case l25 => k_is); (case c25 => k_is); (case k25 => k_is); (case A26 => k_is); (case l26 => k_is); (case c26 => k_is); (case k26 => k_is); (case A27 => k_is); (case l27 => k_is); (case c27 => k_is); (case k27 => k_is); (case A28 => k_is); (case l28 => k_is); (case c28 => k_is); (case k28 => k_is); (case A29 => k_is); (case l29 => k_is); (case c29 => k_is); (case k29 => k_is); (case A30 => k_is); (case l30 => k_is); (case c30 => k_is); (case k30 => k_is); (case A31 => k_is); (case l31 => k_is); (case c31 => k_is); (case k31 => k_is); (case A32 => k_is); (case l32 => k_is); (case c32 => k_is); (case k32 => k_is); (case A33 => k_is); (case l33 => k_is); (case c33 => k_is); (case k33 => k_is); (case A34 => k_is); (case l34 => k_is); (case c34 => k_is); (case k34 => k_is); (case A35 => k_is); (case l35 => k_is); (case c35 => k_is); (case k35 => k_is); (case A36 => k_is); (case l36 => k_is); (case c36 => k_is); (case k36 => k_is)
