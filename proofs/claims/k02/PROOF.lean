import PyProof.Rows.All
import Wide.All
import OpenK.AllK
import Wide.FinOn
import HandS.ForMost
import HandS.ForExc
import HandS.Defaults
import HandS.Flow
import HandS.Style
import HandS.IsInst
import HandS.Deep
import HandS.Zip
import HandS.CallSlots
import HandS.Codes
import HandS.HeadEnd
import HandS.HeadHook1
import HandS.HeadHook2
import HandS.Head0
import HandS.Head1
import HandS.Head2
import PySem.Challenge.RW_bothtied_k02_names
section
set_option Elab.async false
set_option linter.all false
/-! B: a small interpreter over plain data (values by trees, mutable things by numbers), and what its words mean. -/
namespace B
open PySem

/-- values: trees; ref n: the n-th mutable thing -/
inductive D where
  | non | bl (b : Bool) | int (i : Int) | str (s : List Nat)
  | tup (l : List D) | lst (l : List D)
  | ref (n : Nat) | ty (n : String)
  /-- a list that is read alone (the script) -/
  | rdl (l : List D)
/-- a slot: unset, a value, a container of one's own (it may be changed) -/
inductive Sl where
  | no | val (d : D) | own (d : D)
/-- a mutable thing -/
inductive Ob where
  | lst (l : List D)
structure S where
  g : List Sl
  h : List Ob
inductive R (α : Type) where
  | ok (a : α) (s : S) | ex (x : D) (s : S) | bad
def R.bind {α β : Type} (r : R α) (k : α → S → R β) : R β := match r with
  | .ok a s => k a s
  | .ex x s => .ex x s
  | .bad => .bad
@[simp] theorem bind_ok {α β : Type} (a : α) (s : S) (k : α → S → R β) : (R.ok a s).bind k = k a s := rfl
@[simp] theorem bind_ex {α β : Type} (x : D) (s : S) (k : α → S → R β) : (R.ex x s : R α).bind k = .ex x s := rfl
@[simp] theorem bind_bad {α β : Type} (k : α → S → R β) : (R.bad : R α).bind k = .bad := rfl
/-- what a def does: arguments, mutable things *-/
inductive Rf where
  | ok (d : D) (h : List Ob) | ex (x : D) (h : List Ob) | bad
abbrev Fm := List D → List Ob → Rf
abbrev Fns := Str → Fm
abbrev I := Fns → S → R D
abbrev IT := Fns → S → R Bool
abbrev IL := Fns → S → R (List D)

def lift (o : Option D) (s : S) : R D := match o with
  | some d => .ok d s
  | none => .bad
def liftT (o : Option Bool) (s : S) : R Bool := match o with
  | some d => .ok d s
  | none => .bad
def liftL (o : Option (List D)) (s : S) : R (List D) := match o with
  | some d => .ok d s
  | none => .bad
@[simp] theorem lift_some (d : D) (s : S) : lift (some d) s = .ok d s := rfl
@[simp] theorem liftT_some (d : Bool) (s : S) : liftT (some d) s = .ok d s := rfl
@[simp] theorem liftL_some (d : List D) (s : S) : liftL (some d) s = .ok d s := rfl

/-! ### plain data -/
mutual
def pd : D → PyData
  | .non => .none
  | .bl b => .bool b
  | .int i => .int i
  | .str s => .str ⟨s.toArray⟩
  | .tup l => .tuple (pds l)
  | .lst l => .list (pds l)
  | .ref _ => .dict []
  | .ty _ => .dict []
  | .rdl _ => .dict []
def pds : List D → List PyData
  | [] => []
  | d :: r => pd d :: pds r
end
mutual
def isData : D → Bool
  | .non => true
  | .bl _ => true
  | .int _ => true
  | .str _ => true
  | .tup l => isDatas l
  | .lst l => isDatas l
  | .ref _ => false
  | .ty _ => false
  | .rdl _ => false
def isDatas : List D → Bool
  | [] => true
  | d :: r => isData d && isDatas r
end
def eqOk (d : D) : Bool := isData d && SeqAt.shaped (pd d)
def eqD (d e : D) : Bool := PyData.eqv (pd d) (pd e)
def flatD : D → Bool
  | .non => true
  | .bl _ => true
  | .int _ => true
  | .str _ => true
  | _ => false
/-- == of flat values -/
def eqF : D → D → Bool
  | .non, .non => true
  | .bl a, .bl b => a == b
  | .bl a, .int b => (if a then 1 else 0) == b
  | .int a, .bl b => a == (if b then 1 else 0)
  | .int a, .int b => a == b
  | .str a, .str b => a == b
  | _, _ => false
def lim : Nat := sizeLine
def binD (op : Operator) (x y : D) : Option D := match op, x, y with
  | .Add, .int i, .int j => some (.int (i + j))
  | .Add, .str a, .str b => if a.length + b.length ≤ sizeLine then some (.str (a ++ b)) else none
  | .Add, .lst a, .lst b => if a.length + b.length ≤ sizeLine then some (.lst (a ++ b)) else none
  | .Sub, .int i, .int j => some (.int (i - j))
  | .Mult, .int i, .int j => if (-(2 ^ 64) < i ∧ i < 2 ^ 64) ∨ (-(2 ^ 64) < j ∧ j < 2 ^ 64) then some (.int (i * j)) else none
  | .Mult, .lst a, .int k => if -(2 ^ 63) ≤ k ∧ k < 2 ^ 63 ∧ a.length * k.toNat ≤ sizeLine then some (.lst (List.replicate k.toNat a).flatten) else none
  | .FloorDiv, .int i, .int j => if j ≠ 0 ∧ j.natAbs < 1073741824 then some (.int (i.fdiv j)) else none
  | .Mod, .int i, .int j => if j ≠ 0 then some (.int (i.fmod j)) else none
  | .Pow, .int i, .int j => if 0 ≤ j ∧ j ≤ 1000000 ∧ i.natAbs < 2 ^ 64 then some (.int (i ^ j.toNat)) else none
  | _, _, _ => none
def isNon : D → Bool
  | .non => true
  | _ => false
def cmpD (op : CmpOp) (x y : D) : Option Bool := match op with
  | .Eq => if eqOk x && eqOk y then some (eqD x y) else none
  | .NotEq => if eqOk x && eqOk y then some (!eqD x y) else none
  | .Lt => match x, y with
    | .int i, .int j => some (decide (i < j))
    | _, _ => none
  | .LtE => match x, y with
    | .int i, .int j => some (decide (i ≤ j))
    | _, _ => none
  | .Gt => match x, y with
    | .int i, .int j => some (decide (j < i))
    | _, _ => none
  | .GtE => match x, y with
    | .int i, .int j => some (decide (j ≤ i))
    | _, _ => none
  | .Is => match y with
    | .non => some (isNon x)
    | .bl b => (match x with
      | .bl a => some (decide (a = b))
      | _ => none)
    | _ => none
  | .IsNot => match y with
    | .non => some (!isNon x)
    | .bl b => (match x with
      | .bl a => some (!decide (a = b))
      | _ => none)
    | _ => none
  | .In => match y with
    | .str t => (match x with
      | .str [c] => some (decide (c ∈ t))
      | _ => none)
    | .tup l => if flatD x && l.all flatD then some (l.any fun z => eqF z x) else none
    | .lst l => if flatD x && l.all flatD then some (l.any fun z => eqF z x) else none
    | _ => none
  | .NotIn => match y with
    | .str t => (match x with
      | .str [c] => some (!decide (c ∈ t))
      | _ => none)
    | .tup l => if flatD x && l.all flatD then some (!l.any fun z => eqF z x) else none
    | .lst l => if flatD x && l.all flatD then some (!l.any fun z => eqF z x) else none
    | _ => none
def truthD : D → Option Bool
  | .non => some false
  | .bl b => some b
  | .int i => some (i != 0)
  | .str s => some (!s.isEmpty)
  | .tup l => some (!l.isEmpty)
  | .lst l => some (!l.isEmpty)
  | _ => none
/-- the items of a sequence -/
def seqD (h : List Ob) : D → Option (List D)
  | .tup l => some l
  | .lst l => some l
  | .rdl l => some l
  | .ref n => (match h[n]? with
    | some (.lst l) => some l
    | _ => none)
  | _ => none
def ixD (h : List Ob) (x y : D) : Option D := match y with
  | .int i => (match x with
    | .str s => (L2.atI s i).map fun c => .str [c]
    | x => (seqD h x).bind fun l => L2.atI l i)
  | _ => none
/-- a part of a slice: None or an int -/
def cut {α : Type} (l : List α) (lo hi : Option Int) : List α := (l.drop (HT.sIx l.length 0 lo)).take (HT.sIx l.length l.length hi - HT.sIx l.length 0 lo)
def slD (h : List Ob) (x : D) (lo hi : Option Int) : Option D := match x with
  | .str s => some (.str (cut s lo hi))
  | .lst l => some (.lst (cut l lo hi))
  | .rdl l => some (.lst (cut l lo hi))
  | .ref n => (match h[n]? with
    | some (.lst l) => some (.lst (cut l lo hi))
    | _ => none)
  | _ => none
/-- isinstance with one built-in class -/
def isiD (x : D) (t : String) : Option Bool := match x, t with
  | .str _, "str" => some true
  | .str _, "int" => some false
  | .str _, "bool" => some false
  | .str _, "list" => some false
  | .str _, "tuple" => some false
  | .int _, "int" => some true
  | .int _, "str" => some false
  | .int _, "bool" => some false
  | .int _, "list" => some false
  | .int _, "tuple" => some false
  | .bl _, "bool" => some true
  | .bl _, "int" => some true
  | .bl _, "str" => some false
  | .bl _, "list" => some false
  | .bl _, "tuple" => some false
  | .non, "int" => some false
  | .non, "str" => some false
  | .non, "bool" => some false
  | .non, "list" => some false
  | .non, "tuple" => some false
  | .tup _, "tuple" => some true
  | .tup _, "int" => some false
  | .tup _, "str" => some false
  | .tup _, "bool" => some false
  | .tup _, "list" => some false
  | .lst _, "list" => some true
  | .lst _, "int" => some false
  | .lst _, "str" => some false
  | .lst _, "bool" => some false
  | .lst _, "tuple" => some false
  | _, _ => none
def bools : List D → Option (List Bool)
  | [] => some []
  | .bl b :: r => (bools r).map (b :: ·)
  | _ => none
def strL : List D → Option (List (List Nat))
  | [] => some []
  | .str b :: r => (strL r).map (b :: ·)
  | _ => none
/-- the built-ins that are called by name -/
inductive Bi where
  | len | int | list | all | isi
def lenD (h : List Ob) : List D → Option D
  | [.str s] => some (.int s.length)
  | [x] => (seqD h x).map fun l => .int l.length
  | _ => none
def intD : List D → Option D
  | [.int i] => some (.int i)
  | [.bl b] => some (.int (if b then 1 else 0))
  | _ => none
def listD (h : List Ob) : List D → Option D
  | [x] => (seqD h x).map .lst
  | _ => none
def allD : List D → Option D
  | [.lst l] => (bools l).map fun bs => .bl (bs.all id)
  | _ => none
def isiC : List D → Option D
  | [x, .ty t] => (isiD x t).map .bl
  | [x, .tup [.ty t, .ty u]] => (isiD x t).bind fun a => (isiD x u).map fun b => .bl (a || b)
  | _ => none
def biD (f : Bi) (h : List Ob) (xs : List D) : Option D := match f with
  | .len => lenD h xs
  | .int => intD xs
  | .list => listD h xs
  | .all => allD xs
  | .isi => isiC xs
/-- methods of built-in types -/
inductive Mt where
  | join
def joinD : D → List D → Option D
  | .str a, [.lst l] => (strL l).bind fun ys => if (ys.map (·.length)).sum + ys.length * a.length ≤ 16777216 then some (.str (TL.joinL a ys)) else none
  | _, _ => none
/-- the receiver is of the method's type -/
def mtOk : Mt → D → Bool
  | .join, .str _ => true
  | _, _ => false
def mtD (m : Mt) (x : D) (xs : List D) : Option D := match m with
  | .join => joinD x xs

/-! ### the words: expressions -/
def iC (d : D) : I := fun _ s => .ok d s
def iV (i : Nat) : I := fun _ s => match s.g[i]? with
  | some (.val d) => .ok d s
  | some (.own d) => .ok d ⟨s.g.set i (.val d), s.h⟩
  | _ => .bad
def iBin (op : Operator) (a b : I) : I := fun ρ s => (a ρ s).bind fun x s => (b ρ s).bind fun y s => lift (binD op x y) s
def iCmp (op : CmpOp) (a b : I) : I := fun ρ s => (a ρ s).bind fun x s => (b ρ s).bind fun y s => lift ((cmpD op x y).map .bl) s
def iChain (o1 o2 : CmpOp) (a b c : I) : I := fun ρ s => (a ρ s).bind fun x s => (b ρ s).bind fun y s => match cmpD o1 x y with
  | some true => (c ρ s).bind fun z s => lift ((cmpD o2 y z).map .bl) s
  | some false => .ok (.bl false) s
  | none => .bad
def tTru (a : I) : IT := fun ρ s => (a ρ s).bind fun x s => liftT (truthD x) s
def tAnd (a b : IT) : IT := fun ρ s => (a ρ s).bind fun x s => match x with
  | true => b ρ s
  | false => .ok false s
def tOr (a b : IT) : IT := fun ρ s => (a ρ s).bind fun x s => match x with
  | true => .ok true s
  | false => b ρ s
def tNot (a : IT) : IT := fun ρ s => (a ρ s).bind fun x s => .ok (!x) s
def iAnd (a b : I) : I := fun ρ s => (a ρ s).bind fun x s => match truthD x with
  | some true => b ρ s
  | some false => .ok x s
  | none => .bad
def iOr (a b : I) : I := fun ρ s => (a ρ s).bind fun x s => match truthD x with
  | some true => .ok x s
  | some false => b ρ s
  | none => .bad
def iNot (a : I) : I := fun ρ s => (a ρ s).bind fun x s => lift ((truthD x).map fun b => .bl (!b)) s
def iIf (c : IT) (a b : I) : I := fun ρ s => (c ρ s).bind fun x s => match x with
  | true => a ρ s
  | false => b ρ s
def aNil : IL := fun _ s => .ok [] s
def aCons (a : I) (r : IL) : IL := fun ρ s => (a ρ s).bind fun x s => (r ρ s).bind fun xs s => .ok (x :: xs) s
def iTup (a : IL) : I := fun ρ s => (a ρ s).bind fun xs s => lift (if xs.length ≤ sizeLine then some (.tup xs) else none) s
def iLst (a : IL) : I := fun ρ s => (a ρ s).bind fun xs s => lift (if xs.length ≤ sizeLine then some (.lst xs) else none) s
/-- a list that may be changed by others -/
def iLstH (a : IL) : I := fun ρ s => (a ρ s).bind fun xs s => if xs.length ≤ sizeLine then .ok (.ref s.h.length) ⟨s.g, s.h ++ [.lst xs]⟩ else .bad
def iIx (a b : I) : I := fun ρ s => (a ρ s).bind fun x s => (b ρ s).bind fun y s => lift (ixD s.h x y) s
def pNo : Fns → S → R (Option Int) := fun _ s => .ok none s
def pInt (a : I) : Fns → S → R (Option Int) := fun ρ s => (a ρ s).bind fun x s => match x with
  | .int i => .ok (some i) s
  | _ => .bad
def iSl (a : I) (lo hi : Fns → S → R (Option Int)) : I := fun ρ s => (a ρ s).bind fun x s => (lo ρ s).bind fun l s => (hi ρ s).bind fun u s => lift (slD s.h x l u) s
def iBi (f : Bi) (a : IL) : I := fun ρ s => (a ρ s).bind fun xs s => lift (biD f s.h xs) s
def iMt (m : Mt) (a : I) (b : IL) : I := fun ρ s => (a ρ s).bind fun x s => match mtOk m x with
  | true => (b ρ s).bind fun xs s => lift (mtD m x xs) s
  | false => .bad
def ofF (g : List Sl) (r : Rf) : R D := match r with
  | .ok d h => .ok d ⟨g, h⟩
  | .ex x h => .ex x ⟨g, h⟩
  | .bad => .bad
/-- how a parameter comes by its value: an argument (positional ones first, then keywords), a default -/
inductive Ai where
  | ix (n : Nat) | df (d : D)
def permD : List Ai → List D → Option (List D)
  | [], _ => some []
  | .ix n :: r, xs => match xs[n]?, permD r xs with
    | some d, some ds => some (d :: ds)
    | _, _ => none
  | .df d :: r, xs => match permD r xs with
    | some ds => some (d :: ds)
    | none => none
def iCall (f : Str) (pm : List Ai) (a b : IL) : I := fun ρ s => (a ρ s).bind fun xs s => (b ρ s).bind fun ys s => match permD pm (xs ++ ys) with
  | some zs => ofF s.g (ρ f zs s.h)
  | none => .bad

/-! ### what is walked -/
def wSeq (a : I) : IL := fun ρ s => (a ρ s).bind fun x s => match x with
  | .str t => .ok (t.map fun c => .str [c]) s
  | .tup l => .ok l s
  | .lst l => .ok l s
  | _ => .bad
def wRange (a : IL) : IL := fun ρ s => (a ρ s).bind fun xs s => match xs with
  | [.int n] => if -(2 ^ 62) ≤ n ∧ n ≤ sizeLine then .ok ((List.range n.toNat).map fun (k : Nat) => D.int (k : Int)) s else .bad
  | [.int i, .int j] => if (-(2 ^ 62) ≤ i ∧ i < 2 ^ 62 ∧ -(2 ^ 62) ≤ j ∧ j < 2 ^ 62) ∧ j - i ≤ sizeLine then .ok ((List.range (j - i).toNat).map fun (k : Nat) => D.int (i + (k : Int))) s else .bad
  | _ => .bad
def pairD (p : D × D) : D := .tup [p.1, p.2]
def wZip (a : IL) : IL := fun ρ s => (a ρ s).bind fun xs s => match xs with
  | [.lst l, .lst r] => .ok ((l.zip r).map pairD) s
  | [.tup l, .tup r] => .ok ((l.zip r).map pairD) s
  | _ => .bad
def numD (p : D × Nat) : D := .tup [.int (p.2 : Int), p.1]
def wEnum (a : IL) : IL := fun ρ s => (a ρ s).bind fun xs s => match xs with
  | [.lst l] => .ok (l.zipIdx.map numD) s
  | _ => .bad

/-! ### targets -/
abbrev IG := D → S → Option S
def gV (i : Nat) : IG := fun d s => some ⟨s.g.set i (.val d), s.h⟩
def gVs : List Nat → List D → S → Option S
  | [], [], s => some s
  | i :: is, d :: ds, s => gVs is ds ⟨s.g.set i (.val d), s.h⟩
  | _, _, _ => none
def gT (is : List Nat) : IG := fun d s => match d with
  | .tup l => gVs is l s
  | _ => none

/-! ### comprehensions -/
def wipeS (g : List Sl) : List Nat → List Sl
  | [] => g
  | v :: vs => (wipeS g vs).set v .no
def tYes : IT := fun _ s => .ok true s
/-- the items made from the items ds; no error may leave -/
def compL (g : IG) (t : IT) (e : I) (vs : List Nat) (ρ : Fns) : List D → S → Option (List D × S)
  | [], s => some ([], s)
  | d :: ds, s => match g d s with
    | none => none
    | some s1 => match t ρ s1 with
      | .ok true s2 => (match e ρ s2 with
        | .ok y s3 => (match compL g t e vs ρ ds ⟨wipeS s3.g vs, s3.h⟩ with
          | some (ys, s4) => some (y :: ys, s4)
          | none => none)
        | _ => none)
      | .ok false s2 => compL g t e vs ρ ds ⟨wipeS s2.g vs, s2.h⟩
      | _ => none
/-- the block's names as they were around it -/
def backS (g' g : List Sl) : List Nat → List Sl
  | [] => g'
  | v :: vs => (backS g' g vs).set v (match g[v]? with
    | some (.val d) => .val d
    | _ => .no)
def iComp (w : IL) (g : IG) (t : IT) (e : I) (vs : List Nat) : I := fun ρ s => (w ρ s).bind fun ds s => match compL g t e vs ρ ds ⟨wipeS s.g vs, s.h⟩ with
  | some (ys, s') => .ok (.lst ys) ⟨backS s'.g s.g vs, s'.h⟩
  | none => .bad

/-! ### statements -/
inductive Fl where
  | nx | rt (d : D) | bk | ct
abbrev IS := Fns → S → R Fl
def sNx : IS := fun _ s => .ok .nx s
def sSeq (a b : IS) : IS := fun ρ s => (a ρ s).bind fun f s => match f with
  | .nx => b ρ s
  | f => .ok f s
def sRet (a : I) : IS := fun ρ s => (a ρ s).bind fun x s => .ok (.rt x) s
def sRetN : IS := fun _ s => .ok (.rt .non) s
def sDrop (a : I) : IS := fun ρ s => (a ρ s).bind fun _ s => .ok .nx s
def sIf (c : IT) (a b : IS) : IS := fun ρ s => (c ρ s).bind fun x s => match x with
  | true => a ρ s
  | false => b ρ s
def sAsg (a : I) (g : IG) : IS := fun ρ s => (a ρ s).bind fun x s => match g x s with
  | some s => .ok .nx s
  | none => .bad
/-- a, b = x, y -/
def sPar (i j : Nat) (a b : I) : IS := fun ρ s => (a ρ s).bind fun x s => (b ρ s).bind fun y s => .ok .nx ⟨(s.g.set i (.val x)).set j (.val y), s.h⟩
/-- o[i] = e, o a list that others may change -/
def sSet (o i e : I) : IS := fun ρ s => (e ρ s).bind fun v s => (o ρ s).bind fun x s => (i ρ s).bind fun y s => match x, y with
  | .ref n, .int k => (match s.h[n]? with
    | some (.lst l) => (match L2.ixN l.length k with
      | some j => .ok .nx ⟨s.g, s.h.set n (.lst (l.set j v))⟩
      | none => .bad)
    | _ => .bad)
  | _, _ => .bad
def forL (g : IG) (b : IS) (ρ : Fns) : List D → S → R Fl
  | [], s => .ok .nx s
  | d :: ds, s => match g d s with
    | none => .bad
    | some s1 => (b ρ s1).bind fun f s2 => match f with
      | .nx => forL g b ρ ds s2
      | .ct => forL g b ρ ds s2
      | .bk => .ok .nx s2
      | .rt d => .ok (.rt d) s2
def sFor (w : IL) (g : IG) (b : IS) : IS := fun ρ s => (w ρ s).bind fun ds s => forL g b ρ ds s

/-- a def's meaning: n names, its body -/
def runD (n : Nat) (b : IS) (ρ : Fns) : Fm := fun ds h => match b ρ ⟨ds.map .val ++ List.replicate (n - ds.length) .no, h⟩ with
  | .ok .nx s => .ok .non s.h
  | .ok (.rt d) s => .ok d s.h
  | .ok _ _ => .bad
  | .ex x s => .ex x s.h
  | .bad => .bad
end B
end
section
set_option Elab.async false
set_option linter.all false
set_option maxRecDepth 100000
namespace B
open PySem L2

abbrev MS := Addr → Prop
/-- a tuple that stands still: tracked and outside M, or written by the top -/
def TupN (K : PySem.W.Frag) (M : MS) (H : Hp) (a : Addr) (xs : List V) : Prop :=
  (¬ M a ∧ H a = some (.tup xs)) ∨
    ∃ (o : Obj) (its : Array Value) (n : Nat), K.lookup a = some o ∧ o.cls = .type "tuple" ∧ o.data = .seq its n ∧ its.size ≤ sizeLine ∧ Vals xs its.toList
theorem TupN.sq {K : PySem.W.Frag} {M : MS} {H : Hp} {a : Addr} {xs : List V} (h : TupN K M H a xs) : SqT K H a xs := by
  rcases h with h | h
  · exact .inl (.inl h.2)
  · exact .inr h
/-- a list that is read alone -/
def LstN (K : PySem.W.Frag) (M : MS) (H : Hp) (a : Addr) (xs : List V) : Prop :=
  (¬ M a ∧ Rd H a (.lst xs)) ∨
    ∃ (o : Obj) (its : Array Value) (n : Nat), K.lookup a = some o ∧ o.cls = .type "list" ∧ o.dict = none ∧ o.data = .seq its n ∧ its.size ≤ sizeLine ∧ Vals xs its.toList
theorem LstN.sq {K : PySem.W.Frag} {M : MS} {H : Hp} {a : Addr} {xs : List V} (h : LstN K M H a xs) : SqL K H a xs := by
  rcases h with h | h
  · exact .inl h.2
  · exact .inr h
/-! what a value is, as a tree -/
mutual
inductive Rel (K : PySem.W.Frag) (ia : Nat → Addr) (n : Nat) (M : MS) (H : Hp) : V → D → Prop
  | non : Rel K ia n M H .non .non
  | bl (b : Bool) : Rel K ia n M H (.bl b) (.bl b)
  | int (i : Int) : Rel K ia n M H (.int i) (.int i)
  | str (l : List Nat) : l.length ≤ sizeLine → Rel K ia n M H (.str ⟨l.toArray⟩) (.str l)
  | tup {a : Addr} {vs : List V} {ds : List D} : TupN K M H a vs → vs.length ≤ sizeLine → Rels K ia n M H vs ds → Rel K ia n M H (.ref a) (.tup ds)
  | lst {a : Addr} {vs : List V} {ds : List D} : ¬ M a → H a = some (.lst vs) → vs.length ≤ sizeLine → Rels K ia n M H vs ds → Rel K ia n M H (.ref a) (.lst ds)
  | ref {k : Nat} : k < n → Rel K ia n M H (.ref (ia k)) (.ref k)
  | ty (t : String) : Rel K ia n M H (.ty t) (.ty t)
  | rdl {a : Addr} {vs : List V} {ds : List D} : LstN K M H a vs → vs.length ≤ sizeLine → Rels K ia n M H vs ds → Rel K ia n M H (.ref a) (.rdl ds)
inductive Rels (K : PySem.W.Frag) (ia : Nat → Addr) (n : Nat) (M : MS) (H : Hp) : List V → List D → Prop
  | nil : Rels K ia n M H [] []
  | cons {v : V} {d : D} {vs : List V} {ds : List D} : Rel K ia n M H v d → Rels K ia n M H vs ds → Rels K ia n M H (v :: vs) (d :: ds)
end
section
variable {K : PySem.W.Frag} {ia ia' : Nat → Addr} {n n' : Nat} {M M' : MS} {H H' : Hp}
/-! from here to there: what stood still stands still -/
mutual
theorem Rel.mono (fz : ∀ a o, H a = some o → ¬ M a → H' a = some o ∧ ¬ M' a) (hn : n ≤ n') (hi : ∀ k, k < n → ia' k = ia k) : ∀ {v : V} {d : D}, Rel K ia n M H v d → Rel K ia' n' M' H' v d
  | _, _, .non => .non
  | _, _, .bl b => .bl b
  | _, _, .int i => .int i
  | _, _, .str l h => .str l h
  | _, _, .tup t z r => by
    refine .tup ?_ z (Rels.mono fz hn hi r)
    rcases t with ⟨m, e⟩ | t
    · exact .inl ⟨(fz _ _ e m).2, (fz _ _ e m).1⟩
    · exact .inr t
  | _, _, .lst m e z r => by
    exact .lst (fz _ _ e m).2 (fz _ _ e m).1 z (Rels.mono fz hn hi r)
  | _, _, .ref (k := k) h => by
    rw [← hi k h]
    exact .ref (Nat.lt_of_lt_of_le h hn)
  | _, _, .ty t => .ty t
  | _, _, .rdl t z r => by
    refine .rdl ?_ z (Rels.mono fz hn hi r)
    rcases t with ⟨m, e | ⟨o, e⟩⟩ | t
    · exact .inl ⟨(fz _ _ e m).2, .inl (fz _ _ e m).1⟩
    · exact .inl ⟨(fz _ _ e m).2, .inr ⟨o, (fz _ _ e m).1⟩⟩
    · exact .inr t
theorem Rels.mono (fz : ∀ a o, H a = some o → ¬ M a → H' a = some o ∧ ¬ M' a) (hn : n ≤ n') (hi : ∀ k, k < n → ia' k = ia k) : ∀ {vs : List V} {ds : List D}, Rels K ia n M H vs ds → Rels K ia' n' M' H' vs ds
  | _, _, .nil => .nil
  | _, _, .cons a r => .cons (Rel.mono fz hn hi a) (Rels.mono fz hn hi r)
end
theorem Rels.length {vs : List V} {ds : List D} (r : Rels K ia n M H vs ds) : vs.length = ds.length := by
  induction vs generalizing ds with
  | nil => cases r; rfl
  | cons v vs ih => cases r with | cons a r => simp [ih r]
theorem Rels.get {vs : List V} {ds : List D} (r : Rels K ia n M H vs ds) {i : Nat} {d : D} (h : ds[i]? = some d) : ∃ v, vs[i]? = some v ∧ Rel K ia n M H v d := by
  induction vs generalizing ds i with
  | nil => cases r; simp at h
  | cons v vs ih =>
    cases r with
    | cons a r =>
      cases i with
      | zero => simp at h; subst h; exact ⟨v, rfl, a⟩
      | succ i => simpa using ih r (by simpa using h)
theorem Rels.getV {vs : List V} {ds : List D} (r : Rels K ia n M H vs ds) {i : Nat} {v : V} (h : vs[i]? = some v) : ∃ d, ds[i]? = some d ∧ Rel K ia n M H v d := by
  induction vs generalizing ds i with
  | nil => simp at h
  | cons w vs ih =>
    cases r with
    | cons a r =>
      cases i with
      | zero => simp at h; subst h; exact ⟨_, rfl, a⟩
      | succ i => simpa using ih r (by simpa using h)
theorem Rels.append {vs ws : List V} {ds es : List D} (r : Rels K ia n M H vs ds) (q : Rels K ia n M H ws es) : Rels K ia n M H (vs ++ ws) (ds ++ es) := by
  induction vs generalizing ds with
  | nil => cases r; exact q
  | cons v vs ih => cases r with | cons a r => exact .cons a (ih r)
theorem Rels.take {vs : List V} {ds : List D} (r : Rels K ia n M H vs ds) (k : Nat) : Rels K ia n M H (vs.take k) (ds.take k) := by
  induction vs generalizing ds k with
  | nil => cases r; simp; exact .nil
  | cons v vs ih => cases r with | cons a r => cases k with
    | zero => simp; exact .nil
    | succ k => simp; exact .cons a (ih r k)
theorem Rels.drop {vs : List V} {ds : List D} (r : Rels K ia n M H vs ds) (k : Nat) : Rels K ia n M H (vs.drop k) (ds.drop k) := by
  induction vs generalizing ds k with
  | nil => cases r; simp; exact .nil
  | cons v vs ih => cases r with | cons a r => cases k with
    | zero => simp; exact .cons a r
    | succ k => simp; exact ih r k
theorem Rels.set {vs : List V} {ds : List D} (r : Rels K ia n M H vs ds) {v : V} {d : D} (q : Rel K ia n M H v d) (k : Nat) : Rels K ia n M H (vs.set k v) (ds.set k d) := by
  induction vs generalizing ds k with
  | nil => cases r; simp; exact .nil
  | cons w vs ih => cases r with | cons a r => cases k with
    | zero => simp; exact .cons q r
    | succ k => simp; exact .cons a (ih r k)
theorem Rels.rep {vs : List V} {ds : List D} (r : Rels K ia n M H vs ds) (k : Nat) : Rels K ia n M H (List.replicate k vs).flatten (List.replicate k ds).flatten := by
  induction k with
  | zero => simp; exact .nil
  | succ k ih => simp only [List.replicate_succ, List.flatten_cons]; exact r.append ih
theorem Rels.cut {vs : List V} {ds : List D} (r : Rels K ia n M H vs ds) (lo hi : Option Int) : Rels K ia n M H (cutV vs lo hi) (B.cut ds lo hi) := by
  unfold cutV B.cut
  rw [r.length]
  exact (r.drop _).take _
theorem Rels.bls {vs : List V} {bs : List Bool} : ∀ {ds : List D}, Rels K ia n M H vs ds → bools ds = some bs → vs = bs.map V.bl := by
  induction vs generalizing bs with
  | nil => intro ds r h; cases r; simp [bools] at h; subst h; rfl
  | cons v vs ih =>
    intro ds r h
    cases r with
    | cons a r =>
      cases a <;> simp [bools] at h
      obtain ⟨c, h1, h2⟩ := h
      subst h2
      rw [ih r h1]; rfl
theorem Rels.strs {vs : List V} {bs : List (List Nat)} : ∀ {ds : List D}, Rels K ia n M H vs ds → strL ds = some bs → vs = (bs.map fun b => (⟨b.toArray⟩ : Str)).map V.str := by
  induction vs generalizing bs with
  | nil => intro ds r h; cases r; simp [strL] at h; subst h; rfl
  | cons v vs ih =>
    intro ds r h
    cases r with
    | cons a r =>
      cases a <;> simp [strL] at h
      obtain ⟨c, h1, h2⟩ := h
      subst h2
      rw [ih r h1]; rfl
end
/-! ### worlds -/
/-- where things lie: the mutable things, the slots' own containers, what others hold -/
structure Wd where
  ia : Nat → Addr
  la : Nat → Addr
  P : MS
def MW (W : Wd) (s : S) : MS := fun a => W.P a ∨ (∃ k, k < s.h.length ∧ W.ia k = a) ∨ ∃ (i : Nat) (d : D), s.g[i]? = some (.own d) ∧ W.la i = a
abbrev RelW (K : PySem.W.Frag) (W : Wd) (s : S) (H : Hp) : V → D → Prop := Rel K W.ia s.h.length (MW W s) H
abbrev RelsW (K : PySem.W.Frag) (W : Wd) (s : S) (H : Hp) : List V → List D → Prop := Rels K W.ia s.h.length (MW W s) H
def ObR (K : PySem.W.Frag) (W : Wd) (s : S) (H : Hp) (a : Addr) : Ob → Prop
  | .lst ds => ∃ vs, H a = some (.lst vs) ∧ vs.length ≤ sizeLine ∧ RelsW K W s H vs ds
def OwR (K : PySem.W.Frag) (W : Wd) (s : S) (H : Hp) (a : Addr) : D → Prop
  | .lst ds => ∃ vs, H a = some (.lst vs) ∧ vs.length ≤ sizeLine ∧ RelsW K W s H vs ds
  | _ => False
structure Abs (K : PySem.W.Frag) (W : Wd) (s : S) (σ : L2.St) (H : Hp) : Prop where
  len : s.g.length = σ.length
  val : ∀ (i : Nat) (d : D), s.g[i]? = some (.val d) → ∃ v, σ[i]? = some (some v) ∧ RelW K W s H v d
  own : ∀ (i : Nat) (d : D), s.g[i]? = some (.own d) → σ[i]? = some (some (.ref (W.la i))) ∧ OwR K W s H (W.la i) d
  hp : ∀ (k : Nat) (o : Ob), s.h[k]? = some o → ObR K W s H (W.ia k) o
  inj : ∀ k j, k < s.h.length → j < s.h.length → W.ia k = W.ia j → k = j
  injL : ∀ (i j : Nat) (d e : D), s.g[i]? = some (.own d) → s.g[j]? = some (.own e) → W.la i = W.la j → i = j
  sep : ∀ (k i : Nat) (d : D), k < s.h.length → s.g[i]? = some (.own d) → W.ia k ≠ W.la i
  pI : ∀ k, k < s.h.length → ¬ W.P (W.ia k)
  pL : ∀ (i : Nat) (d : D), s.g[i]? = some (.own d) → ¬ W.P (W.la i)
  pS : ∀ a, W.P a → ∃ o, H a = some o
/-- a step: the mutable things may have changed, more may be there; all else stands -/
structure Stp (W : Wd) (s : S) (H : Hp) (W' : Wd) (s' : S) (H' : Hp) : Prop where
  P : W'.P = W.P
  ia : ∀ k, k < s.h.length → W'.ia k = W.ia k
  hl : s.h.length ≤ s'.h.length
  fz : ∀ a o, H a = some o → ¬ MW W s a → H' a = some o ∧ ¬ MW W' s' a
  pr : ∀ a o, W.P a → H a = some o → H' a = some o
/-- what stood still stands still -/
structure Fzn (W : Wd) (s : S) (H : Hp) (W' : Wd) (s' : S) (H' : Hp) : Prop where
  ia : ∀ k, k < s.h.length → W'.ia k = W.ia k
  hl : s.h.length ≤ s'.h.length
  fz : ∀ a o, H a = some o → ¬ MW W s a → H' a = some o ∧ ¬ MW W' s' a
section
variable {K : PySem.W.Frag} {W W1 W2 W' : Wd} {s s1 s2 s' : S} {σ : L2.St} {H H1 H2 H' : Hp}
theorem Stp.fzn (a : Stp W s H W' s' H') : Fzn W s H W' s' H' := ⟨a.ia, a.hl, a.fz⟩
theorem Fzn.trans (a : Fzn W s H W1 s1 H1) (b : Fzn W1 s1 H1 W2 s2 H2) : Fzn W s H W2 s2 H2 where
  ia := fun k h => (b.ia k (Nat.lt_of_lt_of_le h a.hl)).trans (a.ia k h)
  hl := Nat.le_trans a.hl b.hl
  fz := fun x o e m => b.fz x o (a.fz x o e m).1 (a.fz x o e m).2
theorem Fzn.rel (a : Fzn W s H W' s' H') {v : V} {d : D} (r : Rel K W.ia s.h.length (MW W s) H v d) : Rel K W'.ia s'.h.length (MW W' s') H' v d := r.mono a.fz a.hl a.ia
theorem Stp.refl : Stp W s H W s H := ⟨rfl, fun _ _ => rfl, Nat.le_refl _, fun _ _ e m => ⟨e, m⟩, fun _ _ _ e => e⟩
theorem Stp.trans (a : Stp W s H W1 s1 H1) (b : Stp W1 s1 H1 W2 s2 H2) : Stp W s H W2 s2 H2 where
  P := b.P.trans a.P
  ia := fun k h => (b.ia k (Nat.lt_of_lt_of_le h a.hl)).trans (a.ia k h)
  hl := Nat.le_trans a.hl b.hl
  fz := fun x o e m => b.fz x o (a.fz x o e m).1 (a.fz x o e m).2
  pr := fun x o p e => b.pr x o (by rw [a.P]; exact p) (a.pr x o p e)
theorem Stp.rel (a : Stp W s H W' s' H') {v : V} {d : D} (r : RelW K W s H v d) : RelW K W' s' H' v d := r.mono a.fz a.hl a.ia
theorem Stp.rels (a : Stp W s H W' s' H') {v : List V} {d : List D} (r : RelsW K W s H v d) : RelsW K W' s' H' v d := r.mono a.fz a.hl a.ia
/-- a new thing is laid, outside of all that is tracked -/
theorem Stp.laid {p : Addr} {o : HO} (hp : H p = none) : Stp W s H W s (upd H p o) :=
  ⟨rfl, fun _ _ => rfl, Nat.le_refl _, fun a u e m => ⟨by rw [upd_ne (ne_of_none e hp)]; exact e, m⟩, fun a u _ e => by rw [upd_ne (ne_of_none e hp)]; exact e⟩
/-- what is in M stands in H -/
theorem Abs.there (A : Abs K W s σ H) {a : Addr} (m : MW W s a) : ∃ o, H a = some o := by
  rcases m with m | ⟨k, hk, rfl⟩ | ⟨i, d, e, rfl⟩
  · exact A.pS a m
  · obtain ⟨o, ho⟩ : ∃ o, s.h[k]? = some o := ⟨s.h[k], by simp [hk]⟩
    have := A.hp k o ho
    cases o with
    | lst ds => obtain ⟨vs, e, _⟩ := this; exact ⟨_, e⟩
  · have := (A.own i d e).2
    cases d with
    | lst ds => obtain ⟨vs, e, _⟩ := this; exact ⟨_, e⟩
    | _ => exact this.elim
theorem Abs.fresh (A : Abs K W s σ H) {p : Addr} (hp : H p = none) : ¬ MW W s p := fun m => by
  obtain ⟨o, e⟩ := A.there m
  rw [hp] at e; cases e
theorem ObR.stp (a : Stp W s H W' s' H') {x : Addr} {o : Ob} (e : H' x = H x) (r : ObR K W s H x o) : ObR K W' s' H' x o := by
  cases o with
  | lst ds => obtain ⟨vs, h, z, q⟩ := r; exact ⟨vs, e.trans h, z, a.rels q⟩
theorem OwR.stp (a : Stp W s H W' s' H') {x : Addr} {o : D} (e : H' x = H x) (r : OwR K W s H x o) : OwR K W' s' H' x o := by
  cases o with
  | lst ds => obtain ⟨vs, h, z, q⟩ := r; exact ⟨vs, e.trans h, z, a.rels q⟩
  | _ => exact r.elim
/-- a new thing laid -/
theorem Abs.laid (A : Abs K W s σ H) {p : Addr} {o : HO} (hp : H p = none) : Abs K W s σ (upd H p o) := by
  have st : Stp W s H W s (upd H p o) := .laid hp
  have ne : ∀ a, MW W s a → a ≠ p := fun a m z => A.fresh hp (z ▸ m)
  refine ⟨A.len, fun i d e => ?_, fun i d e => ?_, fun k o' e => ?_, A.inj, A.injL, A.sep, A.pI, A.pL, fun a m => ?_⟩
  · obtain ⟨v, e1, r⟩ := A.val i d e
    exact ⟨v, e1, st.rel r⟩
  · obtain ⟨e1, r⟩ := A.own i d e
    exact ⟨e1, r.stp st (upd_ne (ne _ (.inr (.inr ⟨i, d, e, rfl⟩))))⟩
  · refine (A.hp k o' e).stp st (upd_ne (ne _ (.inr (.inl ⟨k, (List.getElem?_eq_some_iff.mp e).1, rfl⟩))))
  · obtain ⟨u, e⟩ := A.pS a m
    exact ⟨u, by rw [upd_ne (ne a (.inl m))]; exact e⟩
end
end B
end
section
set_option Elab.async false
set_option linter.all false
set_option maxRecDepth 100000
set_option maxHeartbeats 1000000
namespace B
open PySem PySem.Spec PyProof.Rows L2

/-- an exception as it lies (none so far) -/
def XR (K : PySem.W.Frag) (W : Wd) (s : S) (H : Hp) (x : D) (c : Value) (dd : Option Addr) : Prop := False
/-- what is wanted behind a word: Q of what it gives, E of what it raises -/
def Post {α β : Type} (K : PySem.W.Frag) (σ : L2.St) (Rl : Wd → S → Hp → β → α → Prop) (W : Wd) (s : S) (H : Hp) (E : XK) (Q : β → Hp → Prop) : R α → Prop
  | .ok a s' => ∀ b W' H', Abs K W' s' σ H' → Stp W s H W' s' H' → Rl W' s' H' b a → Q b H'
  | .ex x s' => ∀ c dd W' H', Abs K W' s' σ H' → Stp W s H W' s' H' → XR K W' s' H' x c dd → E c dd H'
  | .bad => False
section
variable {α α' β β' : Type} {K : PySem.W.Frag} {σ : L2.St} {Rl : Wd → S → Hp → β → α → Prop} {Rl' : Wd → S → Hp → β' → α' → Prop} {W W' : Wd} {s s' : S} {H H' : Hp} {E : XK}
theorem Post.later {Q : β → Hp → Prop} {r : R α} (h : Post K σ Rl W s H E Q r) (st : Stp W s H W' s' H') : Post K σ Rl W' s' H' E Q r := by
  cases r with
  | ok a s2 => exact fun b W2 H2 A st2 q => h b W2 H2 A (st.trans st2) q
  | ex x s2 => exact fun c dd W2 H2 A st2 q => h c dd W2 H2 A (st.trans st2) q
  | bad => exact h
theorem Post.bind {Q : β' → Hp → Prop} {r : R α} {k : α → S → R α'} (h : Post K σ Rl' W s H E Q (r.bind k)) :
    Post K σ Rl W s H E (fun b H1 => ∃ a W1 s1, Rl W1 s1 H1 b a ∧ Abs K W1 s1 σ H1 ∧ Stp W s H W1 s1 H1 ∧ Post K σ Rl' W1 s1 H1 E Q (k a s1)) r := by
  cases r with
  | ok a s2 => exact fun b W2 H2 A st q => ⟨a, W2, s2, q, A, st, Post.later (r := k a s2) h st⟩
  | ex x s2 => exact h
  | bad => exact h
theorem Post.imp {Q Q' : β → Hp → Prop} {r : R α} (h : Post K σ Rl W s H E Q r) (q : ∀ b H', Q b H' → Q' b H') : Post K σ Rl W s H E Q' r := by
  cases r with
  | ok a s2 => exact fun b W2 H2 A st z => q _ _ (h b W2 H2 A st z)
  | ex x s2 => exact h
  | bad => exact h
end
/-- the reading of a word -/
def tG {α β : Type} (K : PySem.W.Frag) (Wx : WX) (ρ : Fns) (Rl : Wd → S → Hp → β → α → Prop) (f : Fns → S → R α) : L2.St → Hp → (β → Hp → Prop) → Prop :=
  fun σ H Q => ∃ W s, Abs K W s σ H ∧ Post K σ Rl W s H (fun c d H' => Wx c d σ H') Q (f ρ s)
def RlT : Wd → S → Hp → Bool → Bool → Prop := fun _ _ _ b a => b = a
def RlO : Wd → S → Hp → Option Int → Option Int → Prop := fun _ _ _ b a => b = a
abbrev tE (K : PySem.W.Frag) (Wx : WX) (ρ : Fns) (f : I) : TE := tG K Wx ρ (RelW K) f
abbrev tT (K : PySem.W.Frag) (Wx : WX) (ρ : Fns) (f : IT) : TT := tG K Wx ρ RlT f
abbrev tA (K : PySem.W.Frag) (Wx : WX) (ρ : Fns) (f : IL) : TA := tG K Wx ρ (RelsW K) f
abbrev tO (K : PySem.W.Frag) (Wx : WX) (ρ : Fns) (f : Fns → S → R (Option Int)) : L2.St → Hp → (Option Int → Hp → Prop) → Prop := tG K Wx ρ RlO f

/-! ### data -/
section
variable {K : PySem.W.Frag} {ia : Nat → Addr} {n : Nat} {M : MS} {H : Hp}
mutual
theorem Rel.dp : ∀ {v : V} {d : D}, Rel K ia n M H v d → isData d = true → Dp K H v (pd d)
  | _, _, .non, _ => .non
  | _, _, .bl b, _ => .bl b
  | _, _, .int i, _ => .int i
  | _, _, .str l h, _ => .str _
  | _, _, .tup t z r, h => .tup t.sq (Rels.dp r h)
  | _, _, .lst m e z r, h => .lst (.inl (.inl e)) (Rels.dp r h)
  | _, _, .ref _, h => by cases h
  | _, _, .ty _, h => by cases h
  | _, _, .rdl _ _ _, h => by cases h
theorem Rels.dp : ∀ {v : List V} {d : List D}, Rels K ia n M H v d → isDatas d = true → DpAll K H v (pds d)
  | _, _, .nil, _ => .nil
  | _, _, .cons a r, h => by
    simp only [isDatas, Bool.and_eq_true] at h
    exact .cons (Rel.dp a h.1) (Rels.dp r h.2)
end
theorem Rel.flat {v : V} {d : D} (r : Rel K ia n M H v d) (h : flatD d = true) : flatV v = true := by
  cases r <;> first | rfl | cases h
theorem eqV_eqF {v w : V} {d e : D} (r : Rel K ia n M H v d) (q : Rel K ia n M H w e) (hd : flatD d = true) (he : flatD e = true) : eqV v w = eqF d e := by
  cases r <;> first | exact Bool.noConfusion hd | skip
  all_goals (cases q <;> first | rfl | exact Bool.noConfusion he | skip)
  rename_i a _ b _
  show ((⟨a.toArray⟩ : Str) == ⟨b.toArray⟩) = (a == b)
  by_cases e : a = b
  · subst e; simp
  · rw [beq_eq_false_iff_ne.mpr e, beq_eq_false_iff_ne.mpr]
    intro z
    exact e (by simpa using congrArg (fun t : Str => t.cps.toList) z)
theorem Rels.flats {vs : List V} {ds : List D} (r : Rels K ia n M H vs ds) (h : ds.all flatD = true) : vs.all flatV = true := by
  induction vs generalizing ds with
  | nil => rfl
  | cons v vs ih => cases r with | cons a r =>
    simp only [List.all_cons, Bool.and_eq_true] at h ⊢
    exact ⟨a.flat h.1, ih r h.2⟩
theorem Rels.inV {vs : List V} {ds : List D} {x : V} {d : D} (r : Rels K ia n M H vs ds) (q : Rel K ia n M H x d) (h : ds.all flatD = true) (hd : flatD d = true) : L2.inV x vs = ds.any fun z => eqF z d := by
  unfold L2.inV
  induction vs generalizing ds with
  | nil => cases r; rfl
  | cons v vs ih => cases r with | cons a r =>
    simp only [List.all_cons, Bool.and_eq_true] at h
    rw [List.any_cons, List.any_cons, ih r h.2, eqV_eqF a q h.1 hd]
end
/-! ### operators -/
/-- a new list is laid -/
def NewL (Q : VK) (H : Hp) (vs : List V) : Prop := ∀ p, H p = none → Q (.ref p) (upd H p (.lst vs))
section
variable {X : Cx}
/-- what follows from a word's value, the state being as it was -/
def Fin1 (K : PySem.W.Frag) (W : Wd) (s : S) (σ : L2.St) (H : Hp) (Q : VK) (d : D) : Prop := ∀ v W' H', Abs K W' s σ H' → Stp W s H W' s H' → RelW K W' s H' v d → Q v H'
section
variable {K : PySem.W.Frag} {W : Wd} {s : S} {σ : L2.St} {H : Hp} {Q : VK} {d : D} {v : V}
theorem Fin1.now (f : Fin1 K W s σ H Q d) (A : Abs K W s σ H) (r : RelW K W s H v d) : Q v H := f v W H A .refl r
theorem Fin1.lst {ds : List D} {vs : List V} (f : Fin1 K W s σ H Q (.lst ds)) (A : Abs K W s σ H) (r : RelsW K W s H vs ds) (hz : vs.length ≤ sizeLine) : NewL Q H vs := fun p hp =>
  f _ W _ (A.laid hp) (.laid hp) (.lst (A.fresh hp) upd_same hz ((Stp.laid hp).rels r))
theorem Fin1.tup {ds : List D} {vs : List V} (f : Fin1 K W s σ H Q (.tup ds)) (A : Abs K W s σ H) (r : RelsW K W s H vs ds) (hz : vs.length ≤ sizeLine) : ∀ p, H p = none → Q (.ref p) (upd H p (.tup vs)) := fun p hp =>
  f _ W _ (A.laid hp) (.laid hp) (.tup (.inl ⟨A.fresh hp, upd_same⟩) hz ((Stp.laid hp).rels r))
theorem post_lift {o : Option D} {E : XK} (h : Post K σ (RelW K) W s H E Q (lift o s)) : ∃ d, o = some d ∧ Fin1 K W s σ H Q d := by
  cases o with
  | none => exact h.elim
  | some d => exact ⟨d, rfl, h⟩
end
theorem str_app (a b : List Nat) : (⟨a.toArray⟩ : Str) ++ (⟨b.toArray⟩ : Str) = ⟨(a ++ b).toArray⟩ := by
  show Str.mk (a.toArray ++ b.toArray) = _
  simp
/-- two values of a binary operator -/
def rB (K : PySem.W.Frag) (f : D → D → Option D) : R2 := fun x y H Q => ∃ W s σ d1 d2 d, Abs K W s σ H ∧ RelW K W s H x d1 ∧ RelW K W s H y d2 ∧ f d1 d2 = some d ∧ Fin1 K W s σ H Q d
theorem op_bin {op : Operator} : OpR X (binaryOp op) (rB X.K (binD op)) := by
  intro pins s σ H x y v u Q I rx ry h
  obtain ⟨W, s1, σ1, d1, d2, d, A, r1, r2, e, f⟩ := h
  unfold binD at e
  split at e
  · cases e; cases r1; cases r2
    exact op_add pins s σ H _ _ v u Q I rx ry ⟨_, _, rfl, rfl, f.now A (.int _)⟩
  · cases r1; cases r2
    split at e
    · rename_i hz
      cases e
      refine op_add_str pins s σ H _ _ v u Q I rx ry ⟨_, _, rfl, rfl, ?_, ?_⟩
      · simpa [Str.length] using hz
      · rw [str_app]
        exact f.now A (.str _ (by simpa using hz))
    · cases e
  · split at e
    · rename_i hz
      cases e
      cases r1 with
      | lst m1 e1 z1 q1 =>
        cases r2 with
        | lst m2 e2 z2 q2 =>
          have h1 := q1.length
          have h2 := q2.length
          exact op_cat pins s σ H _ _ v u Q I rx ry ⟨_, _, _, _, rfl, rfl, e1, e2, by omega, f.lst A (q1.append q2) (by rw [List.length_append]; omega)⟩
    · cases e
  · cases e; cases r1; cases r2
    exact op_sub pins s σ H _ _ v u Q I rx ry ⟨_, _, rfl, rfl, f.now A (.int _)⟩
  · cases r1; cases r2
    split at e
    · rename_i hz
      cases e
      exact op_mul pins s σ H _ _ v u Q I rx ry ⟨_, _, rfl, rfl, hz, f.now A (.int _)⟩
    · cases e
  · split at e
    · rename_i hz
      cases e
      cases r2
      cases r1 with
      | lst m1 e1 z1 q1 =>
        have h1 := q1.length
        refine op_rep pins s σ H _ _ v u Q I rx ry ⟨_, _, _, rfl, rfl, e1, hz.1, hz.2.1, by rw [h1]; exact hz.2.2, ?_⟩
        exact f.lst A (q1.rep _) (by simp only [List.length_flatten, List.map_replicate, List.sum_replicate_nat]; rw [h1, Nat.mul_comm]; exact hz.2.2)
    · cases e
  · cases r1; cases r2
    split at e
    · rename_i hz
      cases e
      exact op_fdivN pins s σ H _ _ v u Q I rx ry ⟨_, _, rfl, rfl, hz, f.now A (.int _)⟩
    · cases e
  · cases r1; cases r2
    split at e
    · rename_i hz
      cases e
      exact op_modN pins s σ H _ _ v u Q I rx ry ⟨_, _, rfl, rfl, hz, f.now A (.int _)⟩
    · cases e
  · cases r1; cases r2
    split at e
    · rename_i hz
      cases e
      exact op_pow pins s σ H _ _ v u Q I rx ry ⟨_, _, rfl, rfl, hz, f.now A (.int _)⟩
    · cases e
  · cases e
end
end B
end
section
set_option Elab.async false
set_option linter.all false
set_option maxRecDepth 100000
set_option maxHeartbeats 1000000
namespace B
open PySem PySem.Spec PyProof.Rows L2
section
variable {X : Cx} {K : PySem.W.Frag} {ia : Nat → Addr} {n : Nat} {M : MS} {H : Hp}
theorem Rel.isNon {v : V} {d : D} (r : Rel K ia n M H v d) : decide (v = .non) = B.isNon d := by
  cases r <;> simp [B.isNon]
theorem op_cmp {op : CmpOp} (hu : X.A.units + 64 < cLine) : OpR X (compareOp op) (rB X.K fun x y => (cmpD op x y).map .bl) := by
  intro pins s σ H x y v u Q I rx ry h
  obtain ⟨W, s1, σ1, d1, d2, d, A, r1, r2, e, f⟩ := h
  obtain ⟨b, e, rfl⟩ := Option.map_eq_some_iff.mp e
  have fin : Q (.bl b) H := f.now A (.bl b)
  cases op with
  | Eq =>
    simp only [cmpD] at e
    split at e
    · rename_i hz
      cases e
      simp only [Bool.and_eq_true, eqOk] at hz
      exact op_eqD hu pins s σ H x y v u Q I rx ry ⟨_, _, r1.dp hz.1.1, r2.dp hz.2.1, hz.1.2, hz.2.2, fin⟩
    · cases e
  | NotEq =>
    simp only [cmpD] at e
    split at e
    · rename_i hz
      cases e
      simp only [Bool.and_eq_true, eqOk] at hz
      exact op_neD hu pins s σ H x y v u Q I rx ry ⟨_, _, r1.dp hz.1.1, r2.dp hz.2.1, hz.1.2, hz.2.2, fin⟩
    · cases e
  | Lt =>
    simp only [cmpD] at e
    split at e
    · cases e; cases r1; cases r2
      exact op_lt pins s σ H _ _ v u Q I rx ry ⟨_, _, rfl, rfl, fin⟩
    · cases e
  | LtE =>
    simp only [cmpD] at e
    split at e
    · cases e; cases r1; cases r2
      exact op_le pins s σ H _ _ v u Q I rx ry ⟨_, _, rfl, rfl, fin⟩
    · cases e
  | Gt =>
    simp only [cmpD] at e
    split at e
    · cases e; cases r1; cases r2
      exact op_gt pins s σ H _ _ v u Q I rx ry ⟨_, _, rfl, rfl, fin⟩
    · cases e
  | GtE =>
    simp only [cmpD] at e
    split at e
    · cases e; cases r1; cases r2
      exact op_ge pins s σ H _ _ v u Q I rx ry ⟨_, _, rfl, rfl, fin⟩
    · cases e
  | Is =>
    simp only [cmpD] at e
    split at e
    · cases e; cases r2
      rw [← r1.isNon] at fin
      exact op_isN pins s σ H _ _ v u Q I rx ry ⟨rfl, fin⟩
    · split at e
      · cases e; cases r1; cases r2
        exact op_isBl pins s σ H _ _ v u Q I rx ry ⟨_, _, rfl, rfl, fin⟩
      · cases e
    · cases e
  | IsNot =>
    simp only [cmpD] at e
    split at e
    · cases e; cases r2
      rw [← r1.isNon] at fin
      exact op_notN pins s σ H _ _ v u Q I rx ry ⟨rfl, fin⟩
    · split at e
      · cases e; cases r1; cases r2
        exact op_notBl pins s σ H _ _ v u Q I rx ry ⟨_, _, rfl, rfl, fin⟩
      · cases e
    · cases e
  | In =>
    simp only [cmpD] at e
    split at e
    · split at e
      · cases e; cases r1; cases r2
        exact op_in_sign pins s σ H _ _ v u Q I rx ry ⟨_, _, rfl, rfl, fin⟩
      · cases e
    · split at e
      · rename_i hz
        cases e
        simp only [Bool.and_eq_true] at hz
        cases r2 with
        | tup t z q =>
          rw [← q.inV r1 hz.2 hz.1] at fin
          exact op_in_seq pins s σ H _ _ v u Q I rx ry ⟨_, _, rfl, .inr t.sq, r1.flat hz.1, q.flats hz.2, fin⟩
      · cases e
    · split at e
      · rename_i hz
        cases e
        simp only [Bool.and_eq_true] at hz
        cases r2 with
        | lst m e z q =>
          rw [← q.inV r1 hz.2 hz.1] at fin
          exact op_in_seq pins s σ H _ _ v u Q I rx ry ⟨_, _, rfl, .inl (SqL.of e), r1.flat hz.1, q.flats hz.2, fin⟩
      · cases e
    · cases e
  | NotIn =>
    simp only [cmpD] at e
    split at e
    · split at e
      · cases e; cases r1; cases r2
        exact op_notIn_sign pins s σ H _ _ v u Q I rx ry ⟨_, _, rfl, rfl, fin⟩
      · cases e
    · split at e
      · rename_i hz
        cases e
        simp only [Bool.and_eq_true] at hz
        cases r2 with
        | tup t z q =>
          rw [← q.inV r1 hz.2 hz.1] at fin
          exact op_notIn_seq pins s σ H _ _ v u Q I rx ry ⟨_, _, rfl, .inr t.sq, r1.flat hz.1, q.flats hz.2, fin⟩
      · cases e
    · split at e
      · rename_i hz
        cases e
        simp only [Bool.and_eq_true] at hz
        cases r2 with
        | lst m e z q =>
          rw [← q.inV r1 hz.2 hz.1] at fin
          exact op_notIn_seq pins s σ H _ _ v u Q I rx ry ⟨_, _, rfl, .inl (SqL.of e), r1.flat hz.1, q.flats hz.2, fin⟩
      · cases e
    · cases e
theorem Rel.truth {v : V} {d : D} {b : Bool} (r : Rel K ia n M H v d) (h : truthD d = some b) : TruV K v H b := by
  cases r with
  | non => cases h; exact rfl
  | bl c => cases h; exact rfl
  | int i => cases h; exact rfl
  | str l z =>
    cases h
    refine ⟨by simpa [Str.length] using z, ?_⟩
    cases l with
    | nil => rfl
    | cons a l =>
      show true = ((((a :: l).toArray.size : Nat) : Int) != 0)
      rw [List.size_toArray, List.length_cons]
      symm
      rw [bne_iff_ne]
      omega
  | tup t z q =>
    cases h
    refine .inr (.inl ⟨_, t.sq, ?_⟩)
    cases q <;> rfl
  | lst m e z q =>
    cases h
    refine .inl ⟨_, SqL.of e, ?_⟩
    cases q <;> rfl
  | ref k => cases h
  | ty t => cases h
  | rdl t z q => cases h
theorem Rels.atI {vs : List V} {ds : List D} {i : Int} {d : D} (r : Rels K ia n M H vs ds) (h : L2.atI ds i = some d) : ∃ v, L2.atI vs i = some v ∧ Rel K ia n M H v d := by
  unfold L2.atI at h ⊢
  obtain ⟨j, h1, h2⟩ := Option.bind_eq_some_iff.mp h
  obtain ⟨v, e, q⟩ := r.get h2
  rw [← r.length] at h1
  exact ⟨v, by rw [h1]; exact e, q⟩
end
/-- a sequence as it stands -/
theorem rel_seq {K : PySem.W.Frag} {W : Wd} {s : S} {σ : L2.St} {H : Hp} {v : V} {d : D} {l : List D} (A : Abs K W s σ H) (r : RelW K W s H v d) (h : seqD s.h d = some l) :
    ∃ a vs, v = .ref a ∧ (SqL K H a vs ∨ SqT K H a vs) ∧ vs.length ≤ sizeLine ∧ RelsW K W s H vs l := by
  cases r with
  | tup t z q => cases h; exact ⟨_, _, rfl, .inr t.sq, z, q⟩
  | lst m e z q => cases h; exact ⟨_, _, rfl, .inl (SqL.of e), z, q⟩
  | @ref k hk =>
    simp only [seqD] at h
    split at h
    · rename_i l' e
      cases h
      obtain ⟨vs, e1, z, q⟩ := A.hp k _ e
      exact ⟨_, _, rfl, .inl (SqL.of e1), z, q⟩
    · cases h
  | rdl t z q => cases h; exact ⟨_, _, rfl, .inl t.sq, z, q⟩
  | _ => cases h
/-- .. with the state -/
def rBs (K : PySem.W.Frag) (f : List Ob → D → D → Option D) : R2 := fun x y H Q => ∃ W s σ d1 d2 d, Abs K W s σ H ∧ RelW K W s H x d1 ∧ RelW K W s H y d2 ∧ f s.h d1 d2 = some d ∧ Fin1 K W s σ H Q d
section
variable {X : Cx}
theorem ix_bs : IxR X (rBs X.K ixD) := by
  intro value slice pins s σ H x y v u Q I rx ry h hs
  obtain ⟨W, s1, σ1, d1, d2, d, A, r1, r2, e, f⟩ := h
  unfold ixD at e
  split at e
  · rename_i i
    cases r2
    split at e
    · rename_i t
      obtain ⟨c, e1, rfl⟩ := Option.map_eq_some_iff.mp e
      cases r1 with
      | str l z =>
        exact ix_seq value slice pins s σ H _ _ v u Q I rx ry (.inr (.inr ⟨_, _, c, rfl, rfl, by simpa [Str.length] using z, e1, f.now A (.str [c] (by show 1 ≤ sizeLine; decide))⟩)) hs
    · obtain ⟨l, e1, e2⟩ := Option.bind_eq_some_iff.mp e
      obtain ⟨a, vs, rfl, hq, z, q⟩ := rel_seq A r1 e1
      obtain ⟨w, e3, q3⟩ := q.atI e2
      rcases hq with hq | hq
      · exact ix_seq value slice pins s σ H _ _ v u Q I rx ry (.inl ⟨_, _, _, _, rfl, rfl, hq, e3, f.now A q3⟩) hs
      · exact ix_seq value slice pins s σ H _ _ v u Q I rx ry (.inr (.inl ⟨_, _, _, _, rfl, rfl, hq, e3, f.now A q3⟩)) hs
  · cases e
/-- a slice -/
def rSlB (K : PySem.W.Frag) : V → Option Int → Option Int → Hp → VK → Prop := fun x lo hi H Q => ∃ W s σ d1 d, Abs K W s σ H ∧ RelW K W s H x d1 ∧ slD s.h d1 lo hi = some d ∧ Fin1 K W s σ H Q d
theorem sl_b : SlR X (rSlB X.K) := by
  intro pins s σ H x v vl vu lo hi sl Q I rx hs pl pu h
  obtain ⟨W, s1, σ1, d1, d, A, r1, e, f⟩ := h
  have lst : ∀ {a : Addr} {vs : List V} {l : List D}, x = .ref a → SqL X.K H a vs → vs.length ≤ sizeLine → RelsW X.K W s1 H vs l → d = .lst (cut l lo hi) →
      ∃ T id, typeLookup (.type T) "__getitem__" = pure (some (.builtin id)) ∧ s.TypeIs v T ∧ wpAny (model X.prog X.w) X.A (getItem v (.ref sl)) (EP X pins σ Q) X.xe s := by
    intro a vs l e1 e2 z q e3
    subst e1 e3
    refine sl_list pins s σ H _ v vl vu lo hi sl Q I rx hs pl pu ⟨a, vs, rfl, e2, ?_⟩
    exact f.lst A (q.cut lo hi) (Nat.le_trans (cutV_length _ _ _) z)
  unfold slD at e
  split at e
  · cases e
    cases r1 with
    | str _ z =>
      rename_i l
      refine sl_str pins s σ H _ v vl vu lo hi sl Q I rx hs pl pu ⟨_, rfl, by simpa [Str.length] using z, ?_⟩
      have h1 : cutS ⟨l.toArray⟩ lo hi = ⟨(cut l lo hi).toArray⟩ := by simp [cutS, cut, Str.length]
      rw [h1]
      refine f.now A (.str _ ?_)
      have := cutS_length ⟨l.toArray⟩ lo hi
      rw [h1] at this
      simp only [Str.length, List.size_toArray] at this
      omega
  · cases e
    cases r1 with
    | lst m e z q => exact lst rfl (SqL.of e) z q rfl
  · cases e
    cases r1 with
    | rdl t z q => exact lst rfl t.sq z q rfl
  · split at e
    · rename_i l' e1
      cases e
      cases r1 with
      | ref hk =>
        obtain ⟨vs, e2, z, q⟩ := A.hp _ _ e1
        exact lst rfl (SqL.of e2) z q rfl
    · cases e
  · cases e
/-- a call by values -/
def rC (K : PySem.W.Frag) (f : List Ob → List D → Option D) : List V → Hp → VK → Prop := fun vs H Q => ∃ W s σ ds d, Abs K W s σ H ∧ RelsW K W s H vs ds ∧ f s.h ds = some d ∧ Fin1 K W s σ H Q d
theorem rels1 {K : PySem.W.Frag} {W : Wd} {s : S} {H : Hp} {vs : List V} {d : D} (r : RelsW K W s H vs [d]) : ∃ v, vs = [v] ∧ RelW K W s H v d := by
  cases r with | cons a r => cases r; exact ⟨_, rfl, a⟩
theorem rels2 {K : PySem.W.Frag} {W : Wd} {s : S} {H : Hp} {vs : List V} {d e : D} (r : RelsW K W s H vs [d, e]) : ∃ v w, vs = [v, w] ∧ RelW K W s H v d ∧ RelW K W s H w e := by
  cases r with | cons a r => cases r with | cons b r => cases r; exact ⟨_, _, rfl, a, b⟩
theorem c_len : CallR X (.builtin "len") (rC X.K lenD) := by
  intro pins s σ H xs us Q I r h
  obtain ⟨W, s1, σ1, ds, d, A, q, e, f⟩ := h
  unfold lenD at e
  split at e
  · cases e
    obtain ⟨v, rfl, q1⟩ := rels1 q
    cases q1 with
    | str l z =>
      refine call_len pins s σ H _ us Q I r ⟨_, _, rfl, ⟨by simpa [Str.length] using z, rfl⟩, ?_⟩
      have := f.now A (.int _)
      simpa [Str.length] using this
  · obtain ⟨l, e1, rfl⟩ := Option.map_eq_some_iff.mp e
    obtain ⟨v, rfl, q1⟩ := rels1 q
    obtain ⟨a, vs, rfl, hq, z, q2⟩ := rel_seq A q1 e1
    have hl := q2.length
    have fin : Q (.int (vs.length : Nat)) H := by rw [hl]; exact f.now A (.int _)
    rcases hq with hq | hq
    · exact call_len pins s σ H _ us Q I r ⟨_, _, rfl, .inl ⟨_, hq, rfl⟩, fin⟩
    · exact call_len pins s σ H _ us Q I r ⟨_, _, rfl, .inr ⟨_, hq, rfl⟩, fin⟩
  · cases e
theorem c_int : CallR X (.type "int") (rC X.K fun _ => intD) := by
  intro pins s σ H xs us Q I r h
  obtain ⟨W, s1, σ1, ds, d, A, q, e, f⟩ := h
  have e : intD ds = some d := e
  unfold intD at e
  split at e
  · cases e
    obtain ⟨v, rfl, q1⟩ := rels1 q
    cases q1
    exact call_int1 pins s σ H _ us Q I r (.inl ⟨_, rfl, f.now A (.int _)⟩)
  · cases e
    obtain ⟨v, rfl, q1⟩ := rels1 q
    cases q1
    exact call_int1 pins s σ H _ us Q I r (.inr ⟨_, rfl, f.now A (.int _)⟩)
  · cases e
theorem c_list : CallR X (.type "list") (rC X.K listD) := by
  intro pins s σ H xs us Q I r h
  obtain ⟨W, s1, σ1, ds, d, A, q, e, f⟩ := h
  unfold listD at e
  split at e
  · obtain ⟨l, e1, rfl⟩ := Option.map_eq_some_iff.mp e
    obtain ⟨v, rfl, q1⟩ := rels1 q
    obtain ⟨a, vs, rfl, hq, z, q2⟩ := rel_seq A q1 e1
    exact call_list_of pins s σ H _ us Q I r ⟨_, _, rfl, hq, f.lst A q2 z⟩
  · cases e
theorem c_all (hc : X.calm = true) : CallR X (.builtin "all") (rC X.K fun _ => allD) := by
  intro pins s σ H xs us Q I r h
  obtain ⟨W, s1, σ1, ds, d, A, q, e, f⟩ := h
  have e : allD ds = some d := e
  unfold allD at e
  split at e
  · obtain ⟨bs, e1, rfl⟩ := Option.map_eq_some_iff.mp e
    obtain ⟨v, rfl, q1⟩ := rels1 q
    cases q1 with
    | lst m e z q2 =>
      rw [q2.bls e1] at e
      exact cr_all hc pins s σ H _ us Q I r ⟨_, bs, rfl, SqL.of e, f.now A (.bl _)⟩
  · cases e
/-- the class of a value -/
def clsD : D → Option String
  | .non => some "NoneType"
  | .bl _ => some "bool"
  | .int _ => some "int"
  | .str _ => some "str"
  | .tup _ => some "tuple"
  | .lst _ => some "list"
  | _ => none
theorem Rel.tyX {K : PySem.W.Frag} {ia : Nat → Addr} {n : Nat} {M : MS} {H : Hp} {v : V} {d : D} {t : String} (r : Rel K ia n M H v d) (h : clsD d = some t) : TyX K H v (.type t) := by
  cases r with
  | non => cases h; exact .base .non
  | bl c => cases h; exact .base (.bl _)
  | int i => cases h; exact .base (.int _)
  | str l z => cases h; exact .base (.str _)
  | tup t z q =>
    cases h
    rcases t with ⟨_, e⟩ | ⟨o, its, n, e, c, _⟩
    · exact .base (.tup e)
    · exact .kTuple e c
  | lst m e z q => cases h; exact .base (.lst e)
  | ref k => cases h
  | ty t => cases h
  | rdl t z q => cases h
theorem isi_cls {x : D} {t : String} {b : Bool} (h : isiD x t = some b) (K : PySem.W.Frag) : ∃ c, clsD x = some c ∧ PySem.W.kitOne K (.type c) (.type t) = some b := by
  unfold isiD at h
  split at h <;> first | cases h | skip
  all_goals (refine ⟨_, rfl, ?_⟩; rfl)
theorem c_isi : CallR X (.builtin "isinstance") (rC X.K fun _ => isiC) := by
  intro pins s σ H xs us Q I r h
  obtain ⟨W, s1, σ1, ds, d, A, q, e, f⟩ := h
  have e : isiC ds = some d := e
  unfold isiC at e
  split at e
  · obtain ⟨b, e1, rfl⟩ := Option.map_eq_some_iff.mp e
    obtain ⟨v, w, rfl, q1, q2⟩ := rels2 q
    cases q2
    obtain ⟨c, e2, e3⟩ := isi_cls e1 X.K
    exact call_isi pins s σ H _ us Q I r ⟨_, _, _, _, b, rfl, .ty _, q1.tyX e2, e3, f.now A (.bl _)⟩
  · rename_i tt uu _
    obtain ⟨a, e1, e⟩ := Option.bind_eq_some_iff.mp e
    obtain ⟨b, e2, rfl⟩ := Option.map_eq_some_iff.mp e
    obtain ⟨v, w, rfl, q1, q2⟩ := rels2 q
    obtain ⟨c, e3, e4⟩ := isi_cls e1 X.K
    obtain ⟨c', e5, e6⟩ := isi_cls e2 X.K
    rw [e3] at e5
    cases e5
    have ka : ∀ t u : String, PySem.W.kitOne X.K (.type c) (.type t) = some a → PySem.W.kitOne X.K (.type c) (.type u) = some b → PySem.W.kitAny X.K (.type c) [.type t, .type u] = some (a || b) := fun t u h1 h2 => by
      unfold PySem.W.kitAny
      rw [h1]
      cases a with
      | true => rfl
      | false =>
        show PySem.W.kitAny X.K (.type c) [.type u] = _
        unfold PySem.W.kitAny
        rw [h2]
        cases b <;> rfl
    cases q2 with
    | tup t z q3 =>
      obtain ⟨w1, w2, rfl, p1, p2⟩ := rels2 q3
      cases p1
      cases p2
      rcases t with ⟨_, et⟩ | ⟨o, its, n, el, ec, ed, ez, ev⟩
      · exact call_isiT pins s σ H _ us Q I r ⟨_, _, _, _, _, _, rfl, et, .cons (.ty _) (.cons (.ty _) .nil), q1.tyX e3, ka _ _ e4 e6, f.now A (.bl _)⟩
      · obtain ⟨oc, od, dt, sl⟩ := o
        simp only at ec ed
        subst ec ed
        have eits : its = ([.type tt, .type uu] : List Value).toArray := by
          have : its.toList = [.type tt, .type uu] := by
            generalize its.toList = il at ev
            cases ev with | cons a1 r1 => cases r1 with | cons a2 r2 => cases r2; cases a1; cases a2; rfl
          rw [← this]
        subst eits
        exact call_isiK pins s σ H _ us Q I r ⟨_, _, _, _, _, _, _, _, rfl, el, q1.tyX e3, ka _ _ e4 e6, f.now A (.bl _)⟩
  · cases e
theorem joinL_len (a : List Nat) : ∀ ys : List (List Nat), (TL.joinL a ys).length ≤ (ys.map (·.length)).sum + ys.length * a.length
  | [] => Nat.zero_le _
  | [p] => by simp [TL.joinL]
  | p :: q :: r => by
    have := joinL_len a (q :: r)
    simp only [TL.joinL, List.length_append, List.map_cons, List.sum_cons, List.length_cons] at this ⊢
    have e : (r.length + 1 + 1) * a.length = (r.length + 1) * a.length + a.length := Nat.succ_mul _ _
    omega
theorem m_join : MtR X "str.join" (fun x xs H Q => ∃ W s σ d1 ds d, Abs X.K W s σ H ∧ RelW X.K W s H x d1 ∧ RelsW X.K W s H xs ds ∧ joinD d1 ds = some d ∧ Fin1 X.K W s σ H Q d) := by
  intro pins s σ H x xs v us Q I rx rs h
  obtain ⟨W, s1, σ1, d1, ds, d, A, q1, q, e, f⟩ := h
  unfold joinD at e
  split at e
  · obtain ⟨ys, e1, e⟩ := Option.bind_eq_some_iff.mp e
    split at e
    · rename_i hz
      cases e
      obtain ⟨v, rfl, q2⟩ := rels1 q
      cases q1 with
      | str l0 z =>
        rename_i l
        cases q2 with
        | lst m e z q3 =>
          rw [q3.strs e1] at e
          refine mt_join pins s σ H _ _ _ us Q I rx rs ⟨_, _, _, rfl, rfl, .inl (SqL.of e), ?_, ?_⟩
          · simpa [Str.length, Function.comp_def] using hz
          · have fin := f.now A (.str _ (Nat.le_trans (joinL_len _ ys) (Nat.le_trans hz (by decide))))
            exact Eq.mpr (congrArg (fun t => Q (V.str t) H) (SX.join_S _ ys)) fin
    · cases e
  · cases e
end
end B
end
section
set_option Elab.async false
set_option linter.all false
set_option maxRecDepth 100000
set_option maxHeartbeats 1000000
namespace B
open PySem PySem.Spec PyProof.Rows L2
section
variable {X : Cx} {Wx : WX} {ρ : Fns} {a b c e : Expr} {es : List Expr} {fa fb fc : I} {pos : Pos}
theorem PEi {t t' : TE} (h : PE X e t) (i : ∀ σ H Q, t' σ H Q → t σ H Q) : PE X e t' := ⟨fun pins s σ H Q I q => h.run pins s σ H Q I (i σ H Q q)⟩
theorem PTi {t t' : TT} (h : PT X e t) (i : ∀ σ H Q, t' σ H Q → t σ H Q) : PT X e t' := ⟨fun pins s σ H Q I q => h.run pins s σ H Q I (i σ H Q q)⟩
theorem PWi {t t' : TT} (h : PW X e t) (i : ∀ σ H Q, t' σ H Q → t σ H Q) : PW X e t' := ⟨fun w pins s σ H Q I q => h.run w pins s σ H Q I (i σ H Q q)⟩
theorem PAi {t t' : TA} (h : PA X es t) (i : ∀ σ H Q, t' σ H Q → t σ H Q) : PA X es t' := ⟨fun p pins s σ H Q I q => h.run p pins s σ H Q I (i σ H Q q)⟩
theorem POi {o : Option Expr} {t t' : TO} (h : PO X o t) (i : ∀ σ H Q, t' σ H Q → t σ H Q) : PO X o t' := ⟨fun pins s σ H Q I q => h.run pins s σ H Q I (i σ H Q q)⟩
/-- what a word gives, followed by another -/
theorem go {α β α' β' : Type} {K : PySem.W.Frag} {Rl : Wd → S → Hp → β → α → Prop} {Rl' : Wd → S → Hp → β' → α' → Prop} {σ : L2.St} {H : Hp} {W : Wd} {s : S} {Q : β' → Hp → Prop} {f : Fns → S → R α} {k : α → S → R α'}
    (A : Abs K W s σ H) (h : Post K σ Rl' W s H (fun c d H' => Wx c d σ H') Q ((f ρ s).bind k)) {Q2 : β → Hp → Prop}
    (n : ∀ b a W1 s1 H1, Rl W1 s1 H1 b a → Abs K W1 s1 σ H1 → Stp W s H W1 s1 H1 → Post K σ Rl' W1 s1 H1 (fun c d H' => Wx c d σ H') Q (k a s1) → Q2 b H1) : tG K Wx ρ Rl f σ H Q2 :=
  ⟨W, s, A, (Post.bind (Rl := Rl) h).imp fun b H1 ⟨a, W1, s1, r, A1, st, p⟩ => n b a W1 s1 H1 r A1 st p⟩
/-! ### constants and names -/
theorem p_c {v : V} {d : D} (h : PE X e (tC v)) (r : ∀ ia n M H, Rel X.K ia n M H v d) : PE X e (tE X.K Wx ρ (iC d)) :=
  PEi h fun σ H Q ⟨W, s, A, p⟩ => p v W H A .refl (r _ _ _ _)
theorem p_int {i j} : PE X (.Constant (.int i) j pos) (tE X.K Wx ρ (iC (.int i))) := p_c pe_int fun _ _ _ _ => .int i
theorem p_bl {i j} : PE X (.Constant (.bool i) j pos) (tE X.K Wx ρ (iC (.bl i))) := p_c pe_bl fun _ _ _ _ => .bl i
theorem p_non {j} : PE X (.Constant .none j pos) (tE X.K Wx ρ (iC .non)) := p_c pe_non fun _ _ _ _ => .non
theorem p_str {x : Str} {j} (hz : x.cps.toList.length ≤ sizeLine) : PE X (.Constant (.str x) j pos) (tE X.K Wx ρ (iC (.str x.cps.toList))) := p_c pe_str fun _ _ _ _ => by
  have := Rel.str (K := X.K) (ia := ‹_›) (n := ‹_›) (M := ‹_›) (H := ‹_›) x.cps.toList hz
  simpa using this
/-- a slot's own container is let go: it stands still from now on -/
theorem Abs.freeze {K : PySem.W.Frag} {W : Wd} {s : S} {σ : L2.St} {H : Hp} {i : Nat} {d : D} (A : Abs K W s σ H) (e : s.g[i]? = some (.own d)) :
    Abs K W ⟨s.g.set i (.val d), s.h⟩ σ H ∧ Stp W s H W ⟨s.g.set i (.val d), s.h⟩ H ∧ RelW K W ⟨s.g.set i (.val d), s.h⟩ H (.ref (W.la i)) d := by
  have back : ∀ (j : Nat) (d' : D), (s.g.set i (.val d))[j]? = some (.own d') → j ≠ i ∧ s.g[j]? = some (.own d') := fun j d' h => by
    by_cases hj : j = i
    · subst hj
      rw [List.getElem?_set_self (List.getElem?_eq_some_iff.mp e).1] at h; cases h
    · rw [List.getElem?_set_ne (Ne.symm hj)] at h
      exact ⟨hj, h⟩
  have sub : ∀ a, MW W ⟨s.g.set i (.val d), s.h⟩ a → MW W s a := fun a m => by
    rcases m with m | m | ⟨j, d', h, z⟩
    · exact .inl m
    · exact .inr (.inl m)
    · exact .inr (.inr ⟨j, d', (back j d' h).2, z⟩)
  have st : Stp W s H W ⟨s.g.set i (.val d), s.h⟩ H := ⟨rfl, fun _ _ => rfl, Nat.le_refl _, fun a o h m => ⟨h, fun m' => m (sub a m')⟩, fun _ _ _ h => h⟩
  have rel : RelW K W ⟨s.g.set i (.val d), s.h⟩ H (.ref (W.la i)) d := by
    obtain ⟨_, r⟩ := A.own i d e
    cases d with
    | lst ds =>
      obtain ⟨vs, h, z, q⟩ := r
      refine .lst (fun m => ?_) h z (st.rels q)
      rcases m with m | ⟨k, hk, z⟩ | ⟨j, d', h, z⟩
      · exact A.pL i _ e m
      · exact A.sep k i _ hk e z
      · exact (back j d' h).1 (A.injL j i _ _ (back j d' h).2 e z)
    | _ => exact r.elim
  refine ⟨⟨by simpa using A.len, fun j d' h => ?_, fun j d' h => ?_, fun k o h => (A.hp k o h).stp st rfl, A.inj, fun j k d1 d2 h1 h2 => A.injL j k d1 d2 (back _ _ h1).2 (back _ _ h2).2, fun k j d' hk h => A.sep k j d' hk (back _ _ h).2, A.pI, fun j d' h => A.pL j d' (back _ _ h).2, A.pS⟩, st, rel⟩
  · by_cases hj : j = i
    · subst hj
      rw [List.getElem?_set_self (List.getElem?_eq_some_iff.mp e).1] at h
      cases h
      exact ⟨_, (A.own j _ e).1, rel⟩
    · have h : (s.g.set i (.val d))[j]? = some (.val d') := h
      rw [List.getElem?_set_ne (Ne.symm hj)] at h
      obtain ⟨v, h1, r⟩ := A.val j d' h
      exact ⟨v, h1, st.rel r⟩
  · obtain ⟨h1, r⟩ := A.own j d' (back _ _ h).2
    exact ⟨h1, r.stp st rfl⟩
theorem p_v {i : Nat} (h : PE X e (tVar i)) : PE X e (tE X.K Wx ρ (iV i)) := PEi h fun σ H Q ⟨W, s, A, p⟩ => by
  simp only [iV] at p
  split at p
  · rename_i d e
    obtain ⟨v, h1, r⟩ := A.val i d e
    exact ⟨v, h1, p v W H A .refl r⟩
  · rename_i d e
    obtain ⟨h1, _⟩ := A.own i d e
    obtain ⟨A', st, r⟩ := A.freeze e
    exact ⟨_, h1, p _ W H A' st r⟩
  · exact p.elim
/-! ### operators -/
theorem p_bin {op : Operator} (ha : PE X a (tE X.K Wx ρ fa)) (hb : PE X b (tE X.K Wx ρ fb)) : PE X (.BinOp a op b pos) (tE X.K Wx ρ (iBin op fa fb)) :=
  PEi (pe_op op_bin ha hb) fun σ H Q ⟨W, s, A, p⟩ => go A p fun x d1 W1 s1 H1 r1 A1 _ p1 => go A1 p1 fun y d2 W2 s2 H2 r2 A2 st2 p2 => by
    obtain ⟨d, e, f⟩ := post_lift p2
    exact ⟨W2, s2, σ, d1, d2, d, A2, st2.rel r1, r2, e, f⟩
theorem mark_of {op : CmpOp} (h : op ≠ .In ∧ op ≠ .NotIn ∨ ∀ es k p, b ≠ .Set es k p) : behindInMarks op b = false := by
  rcases h with h | h
  · exact nobehind b h.1 h.2
  · cases b <;> first | (simp [behindInMarks]; done) | exact (h _ _ _ rfl).elim
theorem p_cmp {op : CmpOp} (hu : X.A.units + 64 < cLine) (hm : behindInMarks op b = false) (ha : PE X a (tE X.K Wx ρ fa)) (hb : PE X b (tE X.K Wx ρ fb)) : PE X (.Compare a [op] [b] pos) (tE X.K Wx ρ (iCmp op fa fb)) :=
  PEi (pe_cmpR (op_cmp hu) ha hb hm) fun σ H Q ⟨W, s, A, p⟩ => go A p fun x d1 W1 s1 H1 r1 A1 _ p1 => go A1 p1 fun y d2 W2 s2 H2 r2 A2 st2 p2 => by
    obtain ⟨d, e, f⟩ := post_lift p2
    exact ⟨W2, s2, σ, d1, d2, d, A2, st2.rel r1, r2, e, f⟩
/-- a comparison as a test -/
def tCmpB (op : CmpOp) (a b : I) : IT := fun ρ s => (a ρ s).bind fun x s => (b ρ s).bind fun y s => liftT (cmpD op x y) s
theorem post_liftT {K : PySem.W.Frag} {σ : L2.St} {W : Wd} {s : S} {H : Hp} {E : XK} {Q : Bool → Hp → Prop} {o : Option Bool} (A : Abs K W s σ H) (h : Post K σ RlT W s H E Q (liftT o s)) : ∃ b, o = some b ∧ ∀ W' H', Abs K W' s σ H' → Stp W s H W' s H' → Q b H' := by
  cases o with
  | none => exact h.elim
  | some b => exact ⟨b, rfl, fun W' H' A' st => h b W' H' A' st rfl⟩
theorem q_cmp {op : CmpOp} (hu : X.A.units + 64 < cLine) (hm : behindInMarks op b = false) (ha : PE X a (tE X.K Wx ρ fa)) (hb : PE X b (tE X.K Wx ρ fb)) : PT X (.Compare a [op] [b] pos) (tT X.K Wx ρ (tCmpB op fa fb)) :=
  PTi (pt_cmpR (op_cmp hu) ha hb hm) fun σ H Q ⟨W, s, A, p⟩ => by
    refine go A p fun x d1 W1 s1 H1 r1 A1 _ p1 => go A1 p1 fun y d2 W2 s2 H2 r2 A2 st2 p2 => ?_
    obtain ⟨d, e, f⟩ := post_liftT A2 p2
    refine ⟨W2, s2, σ, d1, d2, .bl d, A2, st2.rel r1, r2, congrArg (Option.map D.bl) e, fun v W' H' A' st' r' => ?_⟩
    cases r'
    exact ⟨d, rfl, f W' H' A' st'⟩
theorem p_chain {o1 o2 : CmpOp} (hu : X.A.units + 64 < cLine) (hm : lastMarks [o1, o2] [b, c] = false) (ha : PE X a (tE X.K Wx ρ fa)) (hb : PE X b (tE X.K Wx ρ fb)) (hc : PE X c (tE X.K Wx ρ fc)) :
    PE X (.Compare a [o1, o2] [b, c] pos) (tE X.K Wx ρ (iChain o1 o2 fa fb fc)) :=
  PEi (pe_chain (op_cmp hu) (op_cmp hu) ha hb hc hm) fun σ H Q ⟨W, s, A, p⟩ => by
    refine go A p fun x d1 W1 s1 H1 r1 A1 _ p1 => go A1 p1 fun y d2 W2 s2 H2 r2 A2 st2 p2 => ?_
    cases e : cmpD o1 d1 d2 with
    | none => rw [e] at p2; exact p2.elim
    | some k =>
      rw [e] at p2
      refine ⟨W2, s2, σ, d1, d2, .bl k, A2, st2.rel r1, r2, congrArg (Option.map D.bl) e, fun v W3 H3 A3 st3 r3 => ?_⟩
      cases r3
      refine ⟨k, rfl, ?_⟩
      cases k with
      | true =>
        rw [if_pos rfl]
        refine go A3 (Post.later p2 st3) fun z d3 W4 s4 H4 r4 A4 st4 p4 => ?_
        obtain ⟨d, e4, f⟩ := post_lift p4
        exact ⟨W4, s4, σ, d2, d3, d, A4, (st3.trans st4).rel r2, r4, e4, f⟩
      | false =>
        rw [if_neg Bool.false_ne_true]
        exact p2 _ W3 H3 A3 st3 (.bl false)
def tChB (o1 o2 : CmpOp) (a b c : I) : IT := fun ρ s => (a ρ s).bind fun x s => (b ρ s).bind fun y s => match cmpD o1 x y with
  | some true => (c ρ s).bind fun z s => liftT (cmpD o2 y z) s
  | some false => .ok false s
  | none => .bad
theorem q_chain {o1 o2 : CmpOp} (hu : X.A.units + 64 < cLine) (hm : lastMarks [o1, o2] [b, c] = false) (ha : PE X a (tE X.K Wx ρ fa)) (hb : PE X b (tE X.K Wx ρ fb)) (hc : PE X c (tE X.K Wx ρ fc)) :
    PT X (.Compare a [o1, o2] [b, c] pos) (tT X.K Wx ρ (tChB o1 o2 fa fb fc)) :=
  PTi (pt_chain (op_cmp hu) (op_cmp hu) ha hb hc hm) fun σ H Q ⟨W, s, A, p⟩ => by
    refine go A p fun x d1 W1 s1 H1 r1 A1 _ p1 => go A1 p1 fun y d2 W2 s2 H2 r2 A2 st2 p2 => ?_
    cases e : cmpD o1 d1 d2 with
    | none => rw [e] at p2; exact p2.elim
    | some k =>
      rw [e] at p2
      refine ⟨W2, s2, σ, d1, d2, .bl k, A2, st2.rel r1, r2, congrArg (Option.map D.bl) e, fun v W3 H3 A3 st3 r3 => ?_⟩
      cases r3
      refine ⟨k, rfl, ?_⟩
      cases k with
      | true =>
        rw [if_pos rfl]
        refine go A3 (Post.later p2 st3) fun z d3 W4 s4 H4 r4 A4 st4 p4 => ?_
        obtain ⟨d, e4, f⟩ := post_liftT A4 p4
        refine ⟨W4, s4, σ, d2, d3, .bl d, A4, (st3.trans st4).rel r2, r4, congrArg (Option.map D.bl) e4, fun v W' H' A' st' r' => ?_⟩
        cases r'
        exact ⟨d, rfl, f W' H' A' st'⟩
      | false =>
        rw [if_neg Bool.false_ne_true]
        exact ⟨false, rfl, p2 _ W3 H3 A3 st3 rfl⟩
/-! ### and, or, not, if *-/
theorem p_one {op : BoolOp} {t : TE} (h : PE X a t) : PE X (.BoolOp op [a] pos) t := pe_one h
theorem p_and {rest : List Expr} (ha : PE X a (tE X.K Wx ρ fa)) (hb : PE X (.BoolOp .And (b :: rest) pos) (tE X.K Wx ρ fb)) : PE X (.BoolOp .And (a :: b :: rest) pos) (tE X.K Wx ρ (iAnd fa fb)) :=
  PEi (pe_andT ha hb) fun σ H Q ⟨W, s, A, p⟩ => go A p fun x d1 W1 s1 H1 r1 A1 _ p1 => by
    cases e : truthD d1 with
    | none => rw [e] at p1; exact p1.elim
    | some k =>
      rw [e] at p1
      refine ⟨k, r1.truth e, ?_⟩
      cases k with
      | true => rw [if_pos rfl]; exact ⟨W1, s1, A1, p1⟩
      | false => rw [if_neg Bool.false_ne_true]; exact p1 _ W1 H1 A1 .refl r1
theorem p_or {rest : List Expr} (ha : PE X a (tE X.K Wx ρ fa)) (hb : PE X (.BoolOp .Or (b :: rest) pos) (tE X.K Wx ρ fb)) : PE X (.BoolOp .Or (a :: b :: rest) pos) (tE X.K Wx ρ (iOr fa fb)) :=
  PEi (pe_orT ha hb) fun σ H Q ⟨W, s, A, p⟩ => go A p fun x d1 W1 s1 H1 r1 A1 _ p1 => by
    cases e : truthD d1 with
    | none => rw [e] at p1; exact p1.elim
    | some k =>
      rw [e] at p1
      refine ⟨k, r1.truth e, ?_⟩
      cases k with
      | true => rw [if_pos rfl]; exact p1 _ W1 H1 A1 .refl r1
      | false => rw [if_neg Bool.false_ne_true]; exact ⟨W1, s1, A1, p1⟩
theorem p_not (ha : PE X a (tE X.K Wx ρ fa)) : PE X (.UnaryOp .Not a pos) (tE X.K Wx ρ (iNot fa)) :=
  PEi (pe_notT ha) fun σ H Q ⟨W, s, A, p⟩ => go A p fun x d1 W1 s1 H1 r1 A1 _ p1 => by
    obtain ⟨d, e, f⟩ := post_lift p1
    obtain ⟨k, e1, rfl⟩ := Option.map_eq_some_iff.mp e
    exact ⟨k, r1.truth e1, f.now A1 (.bl _)⟩
variable {ta tb : IT}
theorem q_tru (ha : PE X a (tE X.K Wx ρ fa)) (he : ∀ whole, isTrue a X.env whole = (do let v ← whole; standAt a.pos; holding [v] (truthy v))) : PT X a (tT X.K Wx ρ (tTru fa)) :=
  PTi (pt_truth ha he) fun σ H Q ⟨W, s, A, p⟩ => go A p fun x d1 W1 s1 H1 r1 A1 _ p1 => by
    obtain ⟨b, e, f⟩ := post_liftT A1 p1
    exact ⟨b, r1.truth e, f W1 H1 A1 .refl⟩
theorem q_not (ha : PT X a (tT X.K Wx ρ ta)) : PT X (.UnaryOp .Not a pos) (tT X.K Wx ρ (tNot ta)) :=
  PTi (pt_not ha) fun σ H Q ⟨W, s, A, p⟩ => go A p fun x d1 W1 s1 H1 r1 A1 _ p1 => by
    cases r1
    exact p1 _ W1 H1 A1 .refl rfl
theorem q_and1 (ha : PT X a (tT X.K Wx ρ ta)) : PW X (.BoolOp .And [a] pos) (tT X.K Wx ρ ta) := pw_and1 ha
theorem q_or1 (ha : PT X a (tT X.K Wx ρ ta)) : PW X (.BoolOp .Or [a] pos) (tT X.K Wx ρ ta) := pw_or1 ha
theorem q_and {rest : List Expr} (ha : PT X a (tT X.K Wx ρ ta)) (hb : PW X (.BoolOp .And (b :: rest) pos) (tT X.K Wx ρ tb)) : PW X (.BoolOp .And (a :: b :: rest) pos) (tT X.K Wx ρ (tAnd ta tb)) :=
  PWi (pw_and ha hb) fun σ H Q ⟨W, s, A, p⟩ => go A p fun x d1 W1 s1 H1 r1 A1 _ p1 => by
    cases r1
    cases x with
    | true => rw [if_pos rfl]; exact ⟨W1, s1, A1, p1⟩
    | false => rw [if_neg Bool.false_ne_true]; exact p1 _ W1 H1 A1 .refl rfl
theorem q_or {rest : List Expr} (ha : PT X a (tT X.K Wx ρ ta)) (hb : PW X (.BoolOp .Or (b :: rest) pos) (tT X.K Wx ρ tb)) : PW X (.BoolOp .Or (a :: b :: rest) pos) (tT X.K Wx ρ (tOr ta tb)) :=
  PWi (pw_or ha hb) fun σ H Q ⟨W, s, A, p⟩ => go A p fun x d1 W1 s1 H1 r1 A1 _ p1 => by
    cases r1
    cases x with
    | true => rw [if_pos rfl]; exact p1 _ W1 H1 A1 .refl rfl
    | false => rw [if_neg Bool.false_ne_true]; exact ⟨W1, s1, A1, p1⟩
theorem p_if (hc : PT X c (tT X.K Wx ρ ta)) (ha : PE X a (tE X.K Wx ρ fa)) (hb : PE X b (tE X.K Wx ρ fb)) : PE X (.IfExp c a b pos) (tE X.K Wx ρ (iIf ta fa fb)) :=
  PEi (pe_ifExp hc ha hb) fun σ H Q ⟨W, s, A, p⟩ => go A p fun x d1 W1 s1 H1 r1 A1 _ p1 => by
    cases r1
    cases x with
    | true => rw [if_pos rfl]; exact ⟨W1, s1, A1, p1⟩
    | false => rw [if_neg Bool.false_ne_true]; exact ⟨W1, s1, A1, p1⟩
/-! ### lists of expressions, displays *-/
variable {fl : IL}
theorem p_nil : PA X [] (tA X.K Wx ρ aNil) := PAi pa_nil fun σ H Q ⟨W, s, A, p⟩ => p _ W H A .refl .nil
theorem p_cons (ha : PE X e (tE X.K Wx ρ fa)) (hr : PA X es (tA X.K Wx ρ fl)) (hs : starEach (e :: es) X.env = (false, eval e X.env) :: starEach es X.env) : PA X (e :: es) (tA X.K Wx ρ (aCons fa fl)) :=
  PAi (pa_cons ha hr hs) fun σ H Q ⟨W, s, A, p⟩ => go A p fun x d1 W1 s1 H1 r1 A1 _ p1 => go A1 p1 fun y d2 W2 s2 H2 r2 A2 st2 p2 => p2 _ W2 H2 A2 .refl (.cons (st2.rel r1) r2)
theorem p_tup {k} (h : PA X es (tA X.K Wx ρ fl)) : PE X (.Tuple es k pos) (tE X.K Wx ρ (iTup fl)) :=
  PEi (pe_tup h) fun σ H Q ⟨W, s, A, p⟩ => go A p fun x d1 W1 s1 H1 r1 A1 _ p1 => by
    obtain ⟨d, e, f⟩ := post_lift p1
    split at e
    · rename_i hz
      cases e
      rw [← r1.length] at hz
      exact ⟨hz, f.tup A1 r1 hz⟩
    · cases e
theorem p_lst (h : PA X es (tA X.K Wx ρ fl)) : PE X (.List es pos) (tE X.K Wx ρ (iLst fl)) :=
  PEi (pe_lst h) fun σ H Q ⟨W, s, A, p⟩ => go A p fun x d1 W1 s1 H1 r1 A1 _ p1 => by
    obtain ⟨d, e, f⟩ := post_lift p1
    split at e
    · rename_i hz
      cases e
      rw [← r1.length] at hz
      exact ⟨hz, f.lst A1 r1 hz⟩
    · cases e
theorem p_ix (hs : PlainIx b) (ha : PE X a (tE X.K Wx ρ fa)) (hb : PE X b (tE X.K Wx ρ fb)) : PE X (.Subscript a b pos) (tE X.K Wx ρ (iIx fa fb)) :=
  PEi (pe_ix ix_bs ha hb hs) fun σ H Q ⟨W, s, A, p⟩ => go A p fun x d1 W1 s1 H1 r1 A1 _ p1 => go A1 p1 fun y d2 W2 s2 H2 r2 A2 st2 p2 => by
    obtain ⟨d, e, f⟩ := post_lift p2
    exact ⟨W2, s2, σ, d1, d2, d, A2, st2.rel r1, r2, e, f⟩
theorem o_no : PO X none (tO X.K Wx ρ pNo) := POi po_none fun σ H Q ⟨W, s, A, p⟩ => p _ W H A .refl rfl
theorem o_int (ha : PE X a (tE X.K Wx ρ fa)) : PO X (some a) (tO X.K Wx ρ (pInt fa)) := POi (po_some ha) fun σ H Q ⟨W, s, A, p⟩ => go A p fun x d1 W1 s1 H1 r1 A1 _ p1 => by
  cases r1 with
  | int i => exact ⟨i, rfl, p1 _ W1 H1 A1 .refl rfl⟩
  | _ => exact p1.elim
theorem p_sl {lo hi : Option Expr} {fl fh : Fns → S → R (Option Int)} {p2 : Pos} (ha : PE X a (tE X.K Wx ρ fa)) (hl : PO X lo (tO X.K Wx ρ fl)) (hh : PO X hi (tO X.K Wx ρ fh)) : PE X (.Subscript a (.Slice lo hi none p2) pos) (tE X.K Wx ρ (iSl fa fl fh)) :=
  PEi (pe_slice sl_b ha hl hh) fun σ H Q ⟨W, s, A, p⟩ => go A p fun x d1 W1 s1 H1 r1 A1 _ p1 => go A1 p1 fun l l' W2 s2 H2 r2 A2 st2 p2 => go A2 p2 fun u u' W3 s3 H3 r3 A3 st3 p3 => by
    cases r2
    cases r3
    obtain ⟨d, e, f⟩ := post_lift p3
    exact ⟨W3, s3, σ, d1, d, A3, (st2.trans st3).rel r1, e, f⟩
theorem p_bi {x : Str} {p : Pos} {id : String} {f : Bi} (hc : CallR X (.builtin id) (rC X.K (biD f))) (hg : Gl X x) (hm : X.mg x = none) (hv : bootBuiltins x = some (.builtin id)) (ha : PA X (e :: es) (tA X.K Wx ρ fl)) (hn : x ≠ "__name__") (hdb : (x == ("__debug__" : Str)) = false)
    (he : starEach (e :: es) X.env = (false, eval e X.env) :: starEach es X.env) (hpl : (backTo pos (starEach es X.env)).any (·.1) = false) : PE X (.Call (.Name x p) (e :: es) [] pos) (tE X.K Wx ρ (iBi f fl)) :=
  PEi (pe_callB hc hg hm hv ha hn hdb he hpl) fun σ H Q ⟨W, s, A, p⟩ => go A p fun vs ds W1 s1 H1 r1 A1 _ p1 => by
    obtain ⟨d, e, f⟩ := post_lift p1
    exact ⟨W1, s1, σ, ds, d, A1, r1, e, f⟩
theorem p_biT {x : Str} {p : Pos} {id : String} {f : Bi} (hc : CallR X (.type id) (rC X.K (biD f))) (hg : Gl X x) (hm : X.mg x = none) (hv : bootBuiltins x = some (.type id)) (ha : PA X (e :: es) (tA X.K Wx ρ fl)) (hn : x ≠ "__name__") (hdb : (x == ("__debug__" : Str)) = false)
    (he : starEach (e :: es) X.env = (false, eval e X.env) :: starEach es X.env) (hpl : (backTo pos (starEach es X.env)).any (·.1) = false) : PE X (.Call (.Name x p) (e :: es) [] pos) (tE X.K Wx ρ (iBi f fl)) :=
  PEi (pe_callTy hc hg hm hv ha hn hdb he hpl) fun σ H Q ⟨W, s, A, p⟩ => go A p fun vs ds W1 s1 H1 r1 A1 _ p1 => by
    obtain ⟨d, e, f⟩ := post_lift p1
    exact ⟨W1, s1, σ, ds, d, A1, r1, e, f⟩
end
end B
end
section
set_option Elab.async false
set_option linter.all false
set_option maxRecDepth 100000
set_option maxHeartbeats 1000000
namespace B
open PySem PySem.Spec PyProof.Rows L2
section
variable {K : PySem.W.Frag} {ia : Nat → Addr} {n : Nat} {M M' : MS} {H : Hp}
theorem Rel.cong {v : V} {d : D} (r : Rel K ia n M H v d) (h : ∀ a, M' a → M a) : Rel K ia n M' H v d := r.mono (fun _ _ e m => ⟨e, fun z => m (h _ z)⟩) (Nat.le_refl _) fun _ _ => rfl
theorem Rels.cong {v : List V} {d : List D} (r : Rels K ia n M H v d) (h : ∀ a, M' a → M a) : Rels K ia n M' H v d := r.mono (fun _ _ e m => ⟨e, fun z => m (h _ z)⟩) (Nat.le_refl _) fun _ _ => rfl
end
/-! ### calls of the program's own defs -/
/-- what a def promises: what fm says -/
def spI (K : PySem.W.Frag) (n : Nat) (fm : Fm) : Sp := fun vs H Q E => ∃ W h ds, Abs K W ⟨[], h⟩ [] H ∧ RelsW K W ⟨[], h⟩ H vs ds ∧ vs.length = n ∧ Post K [] (RelW K) W ⟨[], h⟩ H E Q (ofF [] (fm ds h))
/-- the callee's world -/
def Wd.call (W : Wd) (s : S) : Wd := ⟨W.ia, W.la, fun a => W.P a ∨ ∃ (i : Nat) (d : D), s.g[i]? = some (.own d) ∧ W.la i = a⟩
theorem mw_call {W : Wd} {s : S} {a : Addr} : MW (W.call s) ⟨[], s.h⟩ a ↔ MW W s a := by
  constructor
  · rintro ((m | m) | m | ⟨i, d, e, _⟩)
    · exact .inl m
    · exact .inr (.inr m)
    · exact .inr (.inl m)
    · simp at e
  · rintro (m | m | m)
    · exact .inl (.inl m)
    · exact .inr (.inl m)
    · exact .inl (.inr m)
theorem Abs.toCall {K : PySem.W.Frag} {W : Wd} {s : S} {σ : L2.St} {H : Hp} (A : Abs K W s σ H) : Abs K (W.call s) ⟨[], s.h⟩ [] H := by
  refine ⟨rfl, fun i d e => by simp at e, fun i d e => by simp at e, fun k o e => ?_, A.inj, fun i j d e h => by simp at h, fun k i d _ h => by simp at h, fun k hk m => ?_, fun i d e => by simp at e, fun a m => ?_⟩
  · have := A.hp k o e
    cases o with
    | lst ds => obtain ⟨vs, h, z, q⟩ := this; exact ⟨vs, h, z, q.cong fun a m => mw_call.mp m⟩
  · rcases m with m | ⟨i, d, e, z⟩
    · exact A.pI k hk m
    · exact A.sep k i d hk e z.symm
  · exact A.there (mw_call.mp (.inl m))
/-- back from a call -/
theorem Abs.ofCall {K : PySem.W.Frag} {W W2 : Wd} {s : S} {h' : List Ob} {σ : L2.St} {H H2 : Hp} (A : Abs K W s σ H) (A2 : Abs K W2 ⟨[], h'⟩ [] H2) (st : Stp (W.call s) ⟨[], s.h⟩ H W2 ⟨[], h'⟩ H2) :
    Abs K ⟨W2.ia, W.la, W.P⟩ ⟨s.g, h'⟩ σ H2 ∧ Stp W s H ⟨W2.ia, W.la, W.P⟩ ⟨s.g, h'⟩ H2 ∧ ∀ v d, RelW K W2 ⟨[], h'⟩ H2 v d → RelW K ⟨W2.ia, W.la, W.P⟩ ⟨s.g, h'⟩ H2 v d := by
  have hP : ∀ a, W2.P a ↔ (W.P a ∨ ∃ (i : Nat) (d : D), s.g[i]? = some (.own d) ∧ W.la i = a) := fun a => by rw [st.P]; exact Iff.rfl
  have hM : ∀ a, MW ⟨W2.ia, W.la, W.P⟩ ⟨s.g, h'⟩ a ↔ MW W2 ⟨[], h'⟩ a := fun a => by
    constructor
    · rintro (m | m | m)
      · exact .inl ((hP a).mpr (.inl m))
      · exact .inr (.inl m)
      · exact .inl ((hP a).mpr (.inr m))
    · rintro (m | m | ⟨i, d, e, _⟩)
      · rcases (hP a).mp m with m | m
        · exact .inl m
        · exact .inr (.inr m)
      · exact .inr (.inl m)
      · simp at e
  have st' : Stp W s H ⟨W2.ia, W.la, W.P⟩ ⟨s.g, h'⟩ H2 := ⟨rfl, st.ia, st.hl, fun a o e m => ⟨(st.fz a o e fun z => m (mw_call.mp z)).1, fun z => (st.fz a o e fun z => m (mw_call.mp z)).2 ((hM a).mp z)⟩, fun a o p e => st.pr a o (.inl p) e⟩
  refine ⟨⟨A.len, fun i d e => ?_, fun i d e => ?_, fun k o e => ?_, A2.inj, A.injL, fun k i d hk e z => ?_, fun k hk m => ?_, A.pL, fun a m => ?_⟩, st', fun v d r => r.cong fun a m => (hM a).mp m⟩
  · obtain ⟨v, h1, r⟩ := A.val i d e
    exact ⟨v, h1, st'.rel r⟩
  · obtain ⟨h1, r⟩ := A.own i d e
    obtain ⟨o, ho⟩ := A.there (.inr (.inr ⟨i, d, e, rfl⟩))
    exact ⟨h1, r.stp st' (by rw [ho]; exact st.pr _ o (.inr ⟨i, d, e, rfl⟩) ho)⟩
  · have := A2.hp k o e
    cases o with
    | lst ds => obtain ⟨vs, h, z, q⟩ := this; exact ⟨vs, h, z, q.cong fun a m => (hM a).mp m⟩
  · exact A2.pI k hk ((hP _).mpr (.inr ⟨i, d, e, z.symm⟩))
  · exact A2.pI k hk ((hP _).mpr (.inl m))
  · exact A2.pS a ((hP _).mpr (.inl m))
/-- the world's exception relation across a call -/
theorem XR.ofCall {K : PySem.W.Frag} {W2 W3 : Wd} {s2 s3 : S} {H : Hp} {x : D} {c : Value} {dd : Option Addr} (h : XR K W2 s2 H x c dd) : XR K W3 s3 H x c dd := h
theorem post_call {K : PySem.W.Frag} {W : Wd} {s : S} {σ : L2.St} {H : Hp} {E : XK} {Q : VK} {r : Rf} (A : Abs K W s σ H) (p : Post K σ (RelW K) W s H E Q (ofF s.g r)) : Post K [] (RelW K) (W.call s) ⟨[], s.h⟩ H E Q (ofF [] r) := by
  cases r with
  | ok d h' => exact fun v W2 H2 A2 st r2 => let ⟨A3, st3, k⟩ := A.ofCall A2 st; p v _ H2 A3 st3 (k v d r2)
  | ex x h' => exact fun c dd W2 H2 A2 st r2 => let ⟨A3, st3, k⟩ := A.ofCall A2 st; p c dd _ H2 A3 st3 r2.ofCall
  | bad => exact p
/-- how a call with n positional arguments and the keywords ks binds -/
def CB (K : PySem.W.Frag) (fd : FuncData) (ps : List Str) (n : Nat) (ks : List Str) (pm : List Ai) : Prop :=
  ∀ (s : Shared) (us ws : List Value) (vs zs : List V), K.In s.heap → us.length = n → ws.length = ks.length → Vals vs us → Vals zs ws → ∃ (ls : List Value) (lv : List V), BindsTo s fd ⟨us, ks.zip ws⟩ (ps.zip ls) ∧ Vals lv ls ∧ lv.length = ps.length ∧
    ∀ (ia : Nat → Addr) (m : Nat) (M : MS) (H : Hp) (ds es : List D), Rels K ia m M H (vs ++ zs) ds → permD pm ds = some es → Rels K ia m M H lv es
section
variable {X : Cx} {Wx : WX} {ρ : Fns} {a b c e : Expr} {es : List Expr} {kws : List Keyword} {fa fb fc : I} {fl fk : IL} {pos : Pos}
def tCallB (sp : Sp) (E : L2.St → XK) (n m : Nat) (lv : List V → List V → List V → Prop) (t tk : TA) : TE := fun σ H Q => t σ H fun vs H1 => tk σ H1 fun zs H2 => vs.length = n ∧ zs.length = m ∧ ∀ l, lv vs zs l → sp l H2 Q (E σ)
theorem run_call {k : Nat} {f : Addr} {fd : FuncData} {ps ks : List Str} {n : Nat} {pm : List Ai} {fm : Fm} {pins : List (Addr × Obj)} {σ : L2.St} {H : Hp} {s : Shared} {Q : VK} {us ws : List Value} {vs zs : List V} (F : FnOk X.prog X.w X.K X.mg X.base (L2.CX X.prog X.w) k f fd ps (spI X.K ps.length fm)) (hr : Room k X.A) (hb : CB X.K fd ps n ks pm) (tk : Takes X Wx)
    (I : Inv X pins σ H s) (r : Vals vs us) (rz : Vals zs ws) (hn : vs.length = n) (hm : zs.length = ks.length) {W : Wd} {s1 : S} {ds es : List D} (A : Abs X.K W s1 σ H) (rd : RelsW X.K W s1 H (vs ++ zs) ds) (hp : permD pm ds = some es) (p : Post X.K σ (RelW X.K) W s1 H (fun c d H' => Wx c d σ H') Q (ofF s1.g (fm es s1.h))) :
    wpAny (model X.prog X.w) X.A (call (.ref f) us (ks.zip ws)) (EP X pins σ Q) X.xe s := by
  obtain ⟨ls, lv, bt, rl, hl, rr⟩ := hb s us ws vs zs I.kIn (by rw [← r.length]; exact hn) (by rw [← rz.length]; exact hm) r rz
  have sp : spI X.K ps.length fm lv H Q (fun c d H' => Wx c d σ H') := ⟨W.call s1, s1.h, es, A.toCall, (rr _ _ _ _ ds es rd hp).cong fun a m => mw_call.mp m, hl, post_call A p⟩
  refine wpAny_call (codeAny_mono (F.run X.A X.stack s H ⟨us, ks.zip ws⟩ ls lv Q _ hr I.env0 bt rl sp) fun r s' hq => ?_)
  cases r with
  | error e => exact passAt tk σ pins H s e s' I hq
  | ok fl =>
    cases fl with
    | ret u => exact I.after hq
    | next => exact False.elim hq
    | brk => exact False.elim hq
    | cont => exact False.elim hq
theorem p_call {k n : Nat} {f : Addr} {fd : FuncData} {ps ks : List Str} {pm : List Ai} {x : Str} {p : Pos} (F : FnOk X.prog X.w X.K X.mg X.base (L2.CX X.prog X.w) k f fd ps (spI X.K ps.length (ρ x))) (hr : Room k X.A) (hg : Gl X x) (hm : X.mg x = some (.ref f)) (hk : PySem.W.keepIn X.K (.ref f) = true)
    (hb : CB X.K fd ps n ks pm) (tk : Takes X Wx) (ha : PA X es (tA X.K Wx ρ fl)) (hkw : PK X kws (tA X.K Wx ρ fk)) (hl : ∀ s ds s', fl ρ s = .ok ds s' → ds.length = n) (hl2 : ∀ s ds s', fk ρ s = .ok ds s' → ds.length = ks.length) (hdb : (x == ("__debug__" : Str)) = false)
    (he : (es = [] ∧ fl = aNil) ∨ ∃ e r, es = e :: r ∧ starEach (e :: r) X.env = (false, eval e X.env) :: starEach r X.env) (hpl : (backTo pos (starEach es X.env)).any (·.1) = false) (hall : (backToKw pos (keywordEach kws X.env)).all (·.1.isSome) = true) (hks : (backToKw pos (keywordEach kws X.env)).filterMap (·.1) = ks)
    (hkn : (backToKw pos (keywordEach kws X.env)).any (·.1.isNone) = false) : PE X (.Call (.Name x p) es kws pos) (tE X.K Wx ρ (iCall x pm fl fk)) := by
  refine ⟨fun pins s σ H Q I h => ?_⟩
  obtain ⟨W, s0, A, h⟩ := h
  refine wpAny_Call_Name_kw (ld_glob I hg hm ?_ hdb)
  have h1 : tA X.K Wx ρ fl σ H fun vs H1 => tA X.K Wx ρ fk σ H1 fun zs H2 => vs.length = n ∧ zs.length = ks.length ∧ ∃ W2 s2 ds es, Abs X.K W2 s2 σ H2 ∧ RelsW X.K W2 s2 H2 (vs ++ zs) ds ∧ permD pm ds = some es ∧ Post X.K σ (RelW X.K) W2 s2 H2 (fun c d H' => Wx c d σ H') Q (ofF s2.g (ρ x es s2.h)) := by
    refine ⟨W, s0, A, ?_⟩
    simp only [iCall] at h
    cases e1 : fl ρ s0 with
    | bad => rw [e1] at h; exact h
    | ex x s1 => rw [e1] at h; exact h
    | ok ds s1 =>
      rw [e1] at h
      intro vs W1 H1 A1 st1 r1
      have h := Post.later h st1
      refine ⟨W1, s1, A1, ?_⟩
      simp only [R.bind] at h
      cases e2 : fk ρ s1 with
      | bad => rw [e2] at h; exact h
      | ex x s2 => rw [e2] at h; exact h
      | ok ds2 s2 =>
        rw [e2] at h
        intro zs W2 H2 A2 st2 r2
        have h := Post.later h st2
        simp only at h
        cases e3 : permD pm (ds ++ ds2) with
        | none => rw [e3] at h; exact h.elim
        | some es =>
          rw [e3] at h
          exact ⟨by rw [r1.length]; exact hl _ _ _ e1, by rw [r2.length]; exact hl2 _ _ _ e2, W2, s2, _, es, A2, (st2.rels r1).append r2, e3, h⟩
  have fin : ∀ {us ws : List Value} {vs zs : List V} {s2 : Shared} {H2 : Hp}, Inv X pins σ H2 s2 → Vals vs us → Vals zs ws → (vs.length = n ∧ zs.length = ks.length ∧ ∃ W2 s2 ds es, Abs X.K W2 s2 σ H2 ∧ RelsW X.K W2 s2 H2 (vs ++ zs) ds ∧ permD pm ds = some es ∧ Post X.K σ (RelW X.K) W2 s2 H2 (fun c d H' => Wx c d σ H') Q (ofF s2.g (ρ x es s2.h))) →
      wpAny (model X.prog X.w) X.A (call (.ref f) us (ks.zip ws)) (EP X pins σ Q) X.xe s2 := fun I2 r rz ⟨n1, n2, W2, s2, ds, es, A2, rd, hp, p⟩ => run_call F hr hb tk I2 r rz n1 n2 A2 rd hp p
  rcases he with ⟨rfl, rfl⟩ | ⟨e, r, rfl, hs⟩
  · refine PySem.W.callWith_KW0 (h₀ := X.base) I.ok.mod.kin hk hall ?_ (by rw [hpl, hkn]; rfl)
    obtain ⟨W0, s00, A0, p0⟩ := h1
    have q := p0 [] W0 H A0 .refl .nil
    refine thn (hkw.run pos pins s σ H _ I q) fun ws s2 ⟨zs, H2, I2, rz, q2⟩ => ⟨I2.kIn, ?_⟩
    rw [hks]
    exact fin (us := []) I2 .nil rz q2
  · refine PySem.W.callWith_KW (h₀ := X.base) I.ok.mod.kin hk hall (thn (ha.run pos pins s σ H _ I h1) fun us s1 ⟨vs, H1, I1, r, q⟩ => ?_) (by rw [hpl, hkn]; rfl) hs
    refine thn (hkw.run pos pins s1 σ H1 _ I1 q) fun ws s2 ⟨zs, H2, I2, rz, q2⟩ => ⟨I2.kIn, ?_⟩
    rw [hks]
    exact fin I2 r rz q2
end
/-! ### statements -/
def PostS (K : PySem.W.Frag) (W : Wd) (s : S) (H : Hp) (Wx : WX) (D : Ends) : R Fl → Prop
  | .ok .nx s' => ∀ σ' W' H', Abs K W' s' σ' H' → Stp W s H W' s' H' → D.nx σ' H'
  | .ok (.rt d) s' => ∀ v σ' W' H', Abs K W' s' σ' H' → Stp W s H W' s' H' → RelW K W' s' H' v d → D.rt v H'
  | .ok .bk s' => ∀ σ' W' H', Abs K W' s' σ' H' → Stp W s H W' s' H' → D.bk σ' H'
  | .ok .ct s' => ∀ σ' W' H', Abs K W' s' σ' H' → Stp W s H W' s' H' → D.ct σ' H'
  | .ex x s' => ∀ c dd σ' W' H', Abs K W' s' σ' H' → Stp W s H W' s' H' → XR K W' s' H' x c dd → Wx c dd σ' H'
  | .bad => False
def tS (K : PySem.W.Frag) (Wx : WX) (ρ : Fns) (f : IS) : TS := fun D σ H => ∃ W s, Abs K W s σ H ∧ PostS K W s H Wx D (f ρ s)
theorem PostS.later {K : PySem.W.Frag} {W W' : Wd} {s s' : S} {H H' : Hp} {Wx : WX} {D : Ends} {r : R Fl} (h : PostS K W s H Wx D r) (st : Stp W s H W' s' H') : PostS K W' s' H' Wx D r := by
  cases r with
  | ok a s2 =>
    cases a with
    | nx => exact fun σ2 W2 H2 A st2 => h σ2 W2 H2 A (st.trans st2)
    | rt d => exact fun v σ2 W2 H2 A st2 => h v σ2 W2 H2 A (st.trans st2)
    | bk => exact fun σ2 W2 H2 A st2 => h σ2 W2 H2 A (st.trans st2)
    | ct => exact fun σ2 W2 H2 A st2 => h σ2 W2 H2 A (st.trans st2)
  | ex x s2 => exact fun c dd σ2 W2 H2 A st2 q => h c dd σ2 W2 H2 A (st.trans st2) q
  | bad => exact h
section
variable {X : Cx} {Wx : WX} {ρ : Fns} {st : Stmt} {sts : List Stmt} {a b c e : Expr} {es : List Expr} {fa fb fc : I} {fl : IL} {pos : Pos}
theorem PSi {t t' : TS} (h : PS X st t) (i : ∀ D σ H, t' D σ H → t D σ H) : PS X st t' := ⟨fun pins s σ H D I q => h.run pins s σ H D I (i D σ H q)⟩
theorem PSsi {t t' : TS} (h : PSs X sts t) (i : ∀ D σ H, t' D σ H → t D σ H) : PSs X sts t' := ⟨fun pins s σ H D I q => h.run pins s σ H D I (i D σ H q)⟩
/-- a word, then a statement's rest -/
theorem goS {α β : Type} {K : PySem.W.Frag} {Rl : Wd → S → Hp → β → α → Prop} {σ : L2.St} {H : Hp} {W : Wd} {s : S} {D : Ends} {f : Fns → S → R α} {k : α → S → R Fl}
    (A : Abs K W s σ H) (h : PostS K W s H Wx D ((f ρ s).bind k)) {Q2 : β → Hp → Prop}
    (n : ∀ b a W1 s1 H1, Rl W1 s1 H1 b a → Abs K W1 s1 σ H1 → Stp W s H W1 s1 H1 → PostS K W1 s1 H1 Wx D (k a s1) → Q2 b H1) : tG K Wx ρ Rl f σ H Q2 := by
  refine ⟨W, s, A, ?_⟩
  cases e : f ρ s with
  | ok a s1 =>
    rw [e] at h
    exact fun b W1 H1 A1 st1 r1 => n b a W1 s1 H1 r1 A1 st1 (PostS.later h st1)
  | ex x s1 =>
    rw [e] at h
    exact fun c dd W1 H1 A1 st1 q => h c dd σ W1 H1 A1 st1 q
  | bad =>
    rw [e] at h
    exact h
theorem s_nil : PSs X [] (tS X.K Wx ρ sNx) := PSsi pss_nil fun D σ H ⟨W, s, A, p⟩ => p σ W H A .refl
theorem s_cons {f1 f2 : IS} (h1 : PS X st (tS X.K Wx ρ f1)) (h2 : PSs X sts (tS X.K Wx ρ f2)) : PSs X (st :: sts) (tS X.K Wx ρ (sSeq f1 f2)) :=
  PSsi (pss_cons h1 h2) fun D σ H ⟨W, s, A, p⟩ => by
    refine ⟨W, s, A, ?_⟩
    simp only [sSeq] at p
    cases e : f1 ρ s with
    | ok fl s1 =>
      rw [e] at p
      cases fl with
      | nx => exact fun σ' W' H' A' st' => ⟨W', s1, A', PostS.later p st'⟩
      | rt d => exact p
      | bk => exact p
      | ct => exact p
    | ex x s1 => rw [e] at p; exact p
    | bad => rw [e] at p; exact p
theorem s_one {f1 : IS} (h1 : PS X st (tS X.K Wx ρ f1)) : PSs X [st] (tS X.K Wx ρ f1) := pss_one h1
theorem s_ret (ha : PE X a (tE X.K Wx ρ fa)) : PS X (.Return (some a) pos) (tS X.K Wx ρ (sRet fa)) :=
  PSi (ps_ret ha) fun D σ H ⟨W, s, A, p⟩ => goS A p fun v d W1 s1 H1 r1 A1 _ p1 => p1 v σ W1 H1 A1 .refl r1
theorem s_retN : PS X (.Return none pos) (tS X.K Wx ρ sRetN) := PSi ps_retN fun D σ H ⟨W, s, A, p⟩ => p .non σ W H A .refl .non
theorem s_drop (ha : PE X a (tE X.K Wx ρ fa)) (hs : swapsWith a none pos.line X.env = pure false) : PS X (.Expr a pos) (tS X.K Wx ρ (sDrop fa)) :=
  PSi (ps_expr ha hs) fun D σ H ⟨W, s, A, p⟩ => goS A p fun v d W1 s1 H1 r1 A1 _ p1 => p1 σ W1 H1 A1 .refl
theorem s_pass : PS X (.Pass pos) (tS X.K Wx ρ sNx) := PSi ps_pass fun D σ H ⟨W, s, A, p⟩ => p σ W H A .refl
theorem s_if {ta : IT} {s1 s2 : List Stmt} {f1 f2 : IS} (hc : PT X c (tT X.K Wx ρ ta)) (h1 : PSs X s1 (tS X.K Wx ρ f1)) (h2 : PSs X s2 (tS X.K Wx ρ f2)) : PS X (.If c s1 s2 pos) (tS X.K Wx ρ (sIf ta f1 f2)) :=
  PSi (ps_if hc h1 h2) fun D σ H ⟨W, s, A, p⟩ => goS A p fun x d1 W1 s1 H1 r1 A1 _ p1 => by
    cases r1
    cases x with
    | true => rw [if_pos rfl]; exact ⟨W1, s1, A1, p1⟩
    | false => rw [if_neg Bool.false_ne_true]; exact ⟨W1, s1, A1, p1⟩
/-! ### targets -/
theorem getElem?_set_some {α : Type} {l : List α} {i j : Nat} {x y : α} (h : (l.set i x)[j]? = some y) : (j = i ∧ y = x) ∨ (j ≠ i ∧ l[j]? = some y) := by
  by_cases hj : j = i
  · subst hj
    by_cases hl : j < l.length
    · rw [List.getElem?_set_self hl] at h; cases h; exact .inl ⟨rfl, rfl⟩
    · rw [List.getElem?_eq_none (by simpa using hl)] at h; cases h
  · rw [List.getElem?_set_ne (Ne.symm hj)] at h; exact .inr ⟨hj, h⟩
theorem Abs.set {K : PySem.W.Frag} {W : Wd} {s : S} {σ : L2.St} {H : Hp} {i : Nat} {d : D} {v : V} (A : Abs K W s σ H) (r : RelW K W s H v d) :
    Abs K W ⟨s.g.set i (.val d), s.h⟩ (σ.set i (some v)) H ∧ Stp W s H W ⟨s.g.set i (.val d), s.h⟩ H := by
  have back : ∀ (j : Nat) (d' : D), (s.g.set i (.val d))[j]? = some (.own d') → j ≠ i ∧ s.g[j]? = some (.own d') := fun j d' h => by
    rcases getElem?_set_some h with ⟨_, z⟩ | z
    · cases z
    · exact z
  have sub : ∀ a, MW W ⟨s.g.set i (.val d), s.h⟩ a → MW W s a := fun a m => by
    rcases m with m | m | ⟨j, d', h, z⟩
    · exact .inl m
    · exact .inr (.inl m)
    · exact .inr (.inr ⟨j, d', (back j d' h).2, z⟩)
  have st : Stp W s H W ⟨s.g.set i (.val d), s.h⟩ H := ⟨rfl, fun _ _ => rfl, Nat.le_refl _, fun a o h m => ⟨h, fun m' => m (sub a m')⟩, fun _ _ _ h => h⟩
  refine ⟨⟨by simpa using A.len, fun j d' h => ?_, fun j d' h => ?_, fun k o h => (A.hp k o h).stp st rfl, A.inj, fun j k d1 d2 h1 h2 => A.injL j k d1 d2 (back _ _ h1).2 (back _ _ h2).2, fun k j d' hk h => A.sep k j d' hk (back _ _ h).2, A.pI, fun j d' h => A.pL j d' (back _ _ h).2, A.pS⟩, st⟩
  · have h : (s.g.set i (.val d))[j]? = some (.val d') := h
    have hj : j < s.g.length := by
      have := (List.getElem?_eq_some_iff.mp h).1
      simpa using this
    rcases getElem?_set_some h with ⟨rfl, z⟩ | ⟨hne, h⟩
    · cases z
      exact ⟨v, List.getElem?_set_self (by rw [← A.len]; exact hj), st.rel r⟩
    · obtain ⟨w, h1, q⟩ := A.val j d' h
      exact ⟨w, by rw [List.getElem?_set_ne (Ne.symm hne)]; exact h1, st.rel q⟩
  · obtain ⟨hne, h⟩ := back _ _ h
    obtain ⟨h1, q⟩ := A.own j d' h
    exact ⟨by rw [List.getElem?_set_ne (Ne.symm hne)]; exact h1, q.stp st rfl⟩
/-- what a target does, in the layer's reading -/
def GOk (K : PySem.W.Frag) (g : IG) (tg : TG) : Prop := ∀ (W : Wd) (s : S) (σ : L2.St) (H : Hp) (v : V) (d : D) (s' : S) (Q : L2.St → Hp → Prop), Abs K W s σ H → RelW K W s H v d → g d s = some s' →
  (∀ σ', Abs K W s' σ' H → Stp W s H W s' H → Q σ' H) → tg v σ H Q
theorem gok_v {i : Nat} : GOk X.K (gV i) (gName i) := fun W s σ H v d s' Q A r e q => by
  cases e
  exact q _ (A.set r).1 (A.set r).2
/-- several names -/
def gNames : List Nat → TGs
  | [] => gNil
  | i :: is => gCons (gName i) (gNames is)
theorem gok_vs {K : PySem.W.Frag} : ∀ (is : List Nat) (ds : List D) (W : Wd) (s : S) (σ : L2.St) (H : Hp) (vs : List V) (s' : S) (Q : L2.St → Hp → Prop), Abs K W s σ H → RelsW K W s H vs ds → gVs is ds s = some s' →
    (∀ σ', Abs K W s' σ' H → Stp W s H W s' H → Q σ' H) → gNames is vs σ H Q
  | [], [], W, s, σ, H, vs, s', Q, A, r, e, q => by
    cases e; cases r
    exact ⟨rfl, q σ A .refl⟩
  | [], d :: ds, W, s, σ, H, vs, s', Q, A, r, e, q => by cases e
  | i :: is, [], W, s, σ, H, vs, s', Q, A, r, e, q => by cases e
  | i :: is, d :: ds, W, s, σ, H, vs, s', Q, A, r, e, q => by
    cases r with
    | cons a r =>
      refine ⟨_, _, rfl, ?_⟩
      have st := (A.set (i := i) a).2
      exact gok_vs is ds W _ _ H _ s' Q (A.set a).1 (st.rels r) e fun σ' A' st' => q σ' A' (st.trans st')
theorem gok_t {is : List Nat} : GOk X.K (gT is) (gTup X.K is.length (gNames is)) := fun W s σ H v d s' Q A r e q => by
  cases r with
  | tup t z r =>
    refine ⟨_, _, rfl, t.sq, ?_, gok_vs is _ W s σ H _ s' Q A r e q⟩
    rw [r.length]
    exact (show ∀ (is : List Nat) (ds : List D) (s s' : S), gVs is ds s = some s' → ds.length = is.length from fun is => by
      induction is with
      | nil => intro ds s s' h; cases ds with | nil => rfl | cons _ _ => cases h
      | cons i is ih => intro ds s s' h; cases ds with | nil => cases h | cons d ds => simp [ih ds _ s' h]) is _ s s' e
  | _ => cases e
theorem s_asg {tg : Expr} {g : IG} {gt : TG} (h : ∀ te, PE X a te → PS X st (tAsg te gt)) (ha : PE X a (tE X.K Wx ρ fa)) (hg : GOk X.K g gt) : PS X st (tS X.K Wx ρ (sAsg fa g)) :=
  PSi (h _ ha) fun D σ H ⟨W, s, A, p⟩ => goS A p fun v d W1 s1 H1 r1 A1 _ p1 => by
    cases e : g d s1 with
    | none => rw [e] at p1; exact p1.elim
    | some s2 =>
      rw [e] at p1
      exact hg W1 s1 σ H1 v d s2 _ A1 r1 e fun σ' A' st' => p1 σ' W1 H1 A' st'
end
end B
end
section
set_option Elab.async false
set_option linter.all false
set_option maxRecDepth 100000
set_option maxHeartbeats 1000000
namespace B
open PySem PySem.Spec PyProof.Rows L2
/-- an iterator that yields the items ds, as long as what stands still stands -/
def Src (K : PySem.W.Frag) : Wd → S → Hp → It → List D → Prop := fun W s H J ds => ds.length ≤ sizeLine ∧ ∀ W' s' σ' H', Abs K W' s' σ' H' → Fzn W s H W' s' H' → ∀ i : Nat, (ds.length ≤ i → J.stop i H') ∧
  ∀ d, ds[i]? = some d → J.go i H' ∧ ∀ x H'', J.yld i H' x H'' → Abs K W' s' σ' H'' ∧ Stp W' s' H' W' s' H'' ∧ RelW K W' s' H'' x d
abbrev tJ (K : PySem.W.Frag) (Wx : WX) (ρ : Fns) (f : IL) : TI := tG K Wx ρ (Src K) f
section
variable {K : PySem.W.Frag} {W : Wd} {s : S} {H : Hp}
theorem src_list {a : Addr} {ds : List D} (r : RelW K W s H (.ref a) (.lst ds)) : Src K W s H (Itl K a) ds := ⟨by cases r with | lst m e z q => rw [← q.length]; exact z, fun W' s' σ' H' A' st i => by
  have r' := st.rel r
  cases r' with
  | lst m e z q =>
    refine ⟨fun h => ⟨_, SqL.of e, by rw [q.length]; exact h⟩, fun d h => ?_⟩
    obtain ⟨v, h1, q1⟩ := q.get h
    refine ⟨⟨_, v, SqL.of e, h1⟩, fun x H'' y => ?_⟩
    obtain ⟨rfl, y⟩ := y
    have := y _ (SqL.of e)
    rw [h1] at this
    cases this
    exact ⟨A', .refl, q1⟩⟩
theorem src_tup {a : Addr} {ds : List D} (r : RelW K W s H (.ref a) (.tup ds)) : Src K W s H (Itt K a) ds := ⟨by cases r with | tup t z q => rw [← q.length]; exact z, fun W' s' σ' H' A' st i => by
  have r' := st.rel r
  cases r' with
  | tup t z q =>
    refine ⟨fun h => ⟨_, t.sq, by rw [q.length]; exact h⟩, fun d h => ?_⟩
    obtain ⟨v, h1, q1⟩ := q.get h
    refine ⟨⟨_, v, t.sq, h1⟩, fun x H'' y => ?_⟩
    obtain ⟨rfl, y⟩ := y
    have := y _ t.sq
    rw [h1] at this
    cases this
    exact ⟨A', .refl, q1⟩⟩
theorem src_str {l : List Nat} (hz : l.length ≤ sizeLine) : Src K W s H (Its ⟨l.toArray⟩) (l.map fun c => D.str [c]) := ⟨by simpa using hz, fun W' s' σ' H' A' st i => by
  refine ⟨fun h => by simpa [Its] using h, fun d h => ?_⟩
  rw [List.getElem?_map] at h
  obtain ⟨c, h1, rfl⟩ := Option.map_eq_some_iff.mp h
  refine ⟨by simpa [Its] using (List.getElem?_eq_some_iff.mp h1).1, fun x H'' y => ?_⟩
  obtain ⟨rfl, c', h2, rfl⟩ := y
  have h2 : l.toArray[i]? = some c' := h2
  rw [List.getElem?_toArray, h1] at h2
  cases h2
  exact ⟨A', .refl, .str [c] (by show 1 ≤ sizeLine; decide)⟩⟩
theorem src_range {lo : Int} {n : Nat} (hz : n ≤ sizeLine) : Src K W s H (Itr lo n) ((List.range n).map fun (k : Nat) => D.int (lo + (k : Int))) := ⟨by simpa using hz, fun W' s' σ' H' A' st i => by
  refine ⟨fun h => by simpa [Itr] using h, fun d h => ?_⟩
  rw [List.getElem?_map] at h
  obtain ⟨c, h1, rfl⟩ := Option.map_eq_some_iff.mp h
  have hi : i < n := by simpa using (List.getElem?_eq_some_iff.mp h1).1
  have hc : c = i := by
    rw [List.getElem?_range hi] at h1
    cases h1; rfl
  subst hc
  refine ⟨hi, fun x H'' y => ?_⟩
  obtain ⟨rfl, rfl⟩ := y
  exact ⟨A', .refl, .int _⟩⟩
/-- a pair laid -/
theorem laid_pair {W' : Wd} {s' : S} {σ' : L2.St} {H' : Hp} {T : Addr} {x y : V} {d e : D} (A : Abs K W' s' σ' H') (hT : H' T = none) (r1 : RelW K W' s' H' x d) (r2 : RelW K W' s' H' y e) :
    Abs K W' s' σ' (upd H' T (.tup [x, y])) ∧ Stp W' s' H' W' s' (upd H' T (.tup [x, y])) ∧ RelW K W' s' (upd H' T (.tup [x, y])) (.ref T) (.tup [d, e]) :=
  ⟨A.laid hT, .laid hT, .tup (.inl ⟨A.fresh hT, upd_same⟩) (by show 2 ≤ sizeLine; decide) (.cons ((Stp.laid hT).rel r1) (.cons ((Stp.laid hT).rel r2) .nil))⟩
theorem zip_get {α β : Type} {l : List α} {r : List β} {i : Nat} {p : α × β} (h : (l.zip r)[i]? = some p) : l[i]? = some p.1 ∧ r[i]? = some p.2 := by
  rw [List.getElem?_zip_eq_some] at h
  exact h
theorem src_zipL {a b : Addr} {ds es : List D} (r : RelW K W s H (.ref a) (.lst ds)) (q : RelW K W s H (.ref b) (.lst es)) : Src K W s H (Itz K a b) ((ds.zip es).map pairD) := ⟨by cases r with | lst m e z q => rw [List.length_map, List.length_zip]; have := q.length; omega, fun W' s' σ' H' A' st i => by
  have r' := st.rel r
  have q' := st.rel q
  cases r' with
  | lst m e z r1 =>
    cases q' with
    | lst m2 e2 z2 r2 =>
      have l1 := r1.length
      have l2 := r2.length
      refine ⟨fun h => ⟨_, _, SqL.of e, SqL.of e2, ?_⟩, fun d h => ?_⟩
      · simp only [List.length_map, List.length_zip] at h
        omega
      · rw [List.getElem?_map] at h
        obtain ⟨p, h1, rfl⟩ := Option.map_eq_some_iff.mp h
        obtain ⟨h2, h3⟩ := zip_get h1
        obtain ⟨v, e3, t1⟩ := r1.get h2
        obtain ⟨w, e4, t2⟩ := r2.get h3
        refine ⟨⟨_, _, v, w, SqL.of e, SqL.of e2, e3, e4⟩, fun x H'' y => ?_⟩
        obtain ⟨T, x1, y1, rfl, hT, rfl, y2, y3⟩ := y
        have g1 := y2 _ (SqL.of e)
        have g2 := y3 _ (SqL.of e2)
        rw [e3] at g1
        rw [e4] at g2
        cases g1
        cases g2
        exact laid_pair A' hT t1 t2⟩
theorem src_zipT {a b : Addr} {ds es : List D} (r : RelW K W s H (.ref a) (.tup ds)) (q : RelW K W s H (.ref b) (.tup es)) : Src K W s H (RZ.ItzT K a b) ((ds.zip es).map pairD) := ⟨by cases r with | tup e z q => rw [List.length_map, List.length_zip]; have := q.length; omega, fun W' s' σ' H' A' st i => by
  have r' := st.rel r
  have q' := st.rel q
  cases r' with
  | tup e z r1 =>
    cases q' with
    | tup e2 z2 r2 =>
      have l1 := r1.length
      have l2 := r2.length
      refine ⟨fun h => ⟨_, _, e.sq, e2.sq, ?_⟩, fun d h => ?_⟩
      · simp only [List.length_map, List.length_zip] at h
        omega
      · rw [List.getElem?_map] at h
        obtain ⟨p, h1, rfl⟩ := Option.map_eq_some_iff.mp h
        obtain ⟨h2, h3⟩ := zip_get h1
        obtain ⟨v, e3, t1⟩ := r1.get h2
        obtain ⟨w, e4, t2⟩ := r2.get h3
        refine ⟨⟨_, _, v, w, e.sq, e2.sq, e3, e4⟩, fun x H'' y => ?_⟩
        obtain ⟨T, x1, y1, rfl, hT, rfl, y2, y3⟩ := y
        have g1 := y2 _ e.sq
        have g2 := y3 _ e2.sq
        rw [e3] at g1
        rw [e4] at g2
        cases g1
        cases g2
        exact laid_pair A' hT t1 t2⟩
theorem src_enum {a : Addr} {ds : List D} (r : RelW K W s H (.ref a) (.lst ds)) : Src K W s H (Ite K a) (ds.zipIdx.map numD) := ⟨by cases r with | lst m e z q => rw [List.length_map, List.length_zipIdx]; have := q.length; omega, fun W' s' σ' H' A' st i => by
  have r' := st.rel r
  cases r' with
  | lst m e z r1 =>
    have l1 := r1.length
    refine ⟨fun h => ⟨_, SqL.of e, ?_⟩, fun d h => ?_⟩
    · simp only [List.length_map, List.length_zipIdx] at h
      omega
    · rw [List.getElem?_map] at h
      obtain ⟨p, h1, rfl⟩ := Option.map_eq_some_iff.mp h
      rw [List.getElem?_zipIdx] at h1
      obtain ⟨q, h2, rfl⟩ := Option.map_eq_some_iff.mp h1
      obtain ⟨v, e3, t1⟩ := r1.get h2
      refine ⟨⟨_, v, SqL.of e, e3⟩, fun x H'' y => ?_⟩
      obtain ⟨T, x1, rfl, hT, rfl, y2⟩ := y
      have g1 := y2 _ (SqL.of e)
      rw [e3] at g1
      cases g1
      have := laid_pair (d := .int (i : Int)) A' hT (.int _) t1
      simpa [numD] using this⟩
end
section
variable {X : Cx} {Wx : WX} {ρ : Fns} {tg a b c e : Expr} {es : List Expr} {fa fb fc : I} {fl : IL} {pos : Pos}
theorem PIi {w w' : TI} (h : PI X tg e w) (i : ∀ σ H R, w' σ H R → w σ H R) : PI X tg e w' := ⟨fun pins s σ H R I q => h.run pins s σ H R I (i σ H R q)⟩
theorem PIor {w w' : TI} (h : PI X tg e w) (h' : PI X tg e w') : PI X tg e (fun σ H R => w σ H R ∨ w' σ H R) := ⟨fun pins s σ H R I q => q.elim (h.run pins s σ H R I) (h'.run pins s σ H R I)⟩
theorem w_seq (ha : PE X a (tE X.K Wx ρ fa)) : PI X tg a (tJ X.K Wx ρ (wSeq fa)) :=
  PIi (PIor (PIor (pi_list ha) (pi_tup ha)) (pi_str ha)) fun σ H Rk ⟨W, s, A, p⟩ => by
    have p0 := p
    simp only [wSeq] at p
    cases h : fa ρ s with
    | ok d s1 =>
      rw [h] at p
      cases d with
      | lst l =>
        refine .inl (.inl ⟨W, s, A, ?_⟩)
        rw [h]
        intro v W1 H1 A1 st r1
        have r2 := r1
        cases r1 with
        | lst m e z q => exact ⟨_, rfl, ⟨_, SqL.of e⟩, p _ W1 H1 A1 st (src_list r2)⟩
      | tup l =>
        refine .inl (.inr ⟨W, s, A, ?_⟩)
        rw [h]
        intro v W1 H1 A1 st r1
        have r2 := r1
        cases r1 with
        | tup t z q => exact ⟨_, rfl, ⟨_, t.sq⟩, p _ W1 H1 A1 st (src_tup r2)⟩
      | str l =>
        refine .inr ⟨W, s, A, ?_⟩
        rw [h]
        intro v W1 H1 A1 st r1
        cases r1 with
        | str _ z => exact ⟨_, rfl, p _ W1 H1 A1 st (src_str z)⟩
      | _ => exact p.elim
    | ex x s1 =>
      rw [h] at p
      refine .inl (.inl ⟨W, s, A, ?_⟩)
      rw [h]
      exact p
    | bad => rw [h] at p; exact p.elim
theorem w_range1 {p : Pos} (hg : Gl X "range") (hm : X.mg "range" = none) (ha : PA X [a] (tA X.K Wx ρ fl)) (hs : starEach [a] X.env = [(false, eval a X.env)]) (hl : ∀ s ds s', fl ρ s = .ok ds s' → ds.length = 1) : PI X tg (.Call (.Name "range" p) [a] [] pos) (tJ X.K Wx ρ (wRange fl)) :=
  PIi (pi_range1 hg hm ha hs) fun σ H Rk ⟨W, s, A, p⟩ => by
    refine ⟨W, s, A, ?_⟩
    simp only [wRange] at p
    cases h : fl ρ s with
    | ok ds s1 =>
      rw [h] at p
      have h1 := hl s ds s1 h
      intro vs W1 H1 A1 st r1
      match ds, h1, p, r1 with
      | [d], _, p, r1 =>
        obtain ⟨v, rfl, q1⟩ := rels1 r1
        cases q1 with
        | int n =>
          simp only [R.bind] at p
          split at p
          · rename_i hz
            have := p (Itr 0 n.toNat) W1 H1 A1 st (by
              have := src_range (K := X.K) (W := W1) (s := s1) (H := H1) (lo := 0) (n := n.toNat) (by omega)
              simpa using this)
            exact ⟨n, rfl, hz.1, Int.lt_of_le_of_lt hz.2 (by decide), this⟩
          · exact p.elim
        | _ => exact p.elim
    | ex x s1 => rw [h] at p; exact p
    | bad => rw [h] at p; exact p
theorem w_range2 {p : Pos} (hg : Gl X "range") (hm : X.mg "range" = none) (ha : PA X [a, b] (tA X.K Wx ρ fl)) (hs : starEach [a, b] X.env = [(false, eval a X.env), (false, eval b X.env)]) (hs2 : starEach [b] X.env = [(false, eval b X.env)]) (hl : ∀ s ds s', fl ρ s = .ok ds s' → ds.length = 2) :
    PI X tg (.Call (.Name "range" p) [a, b] [] pos) (tJ X.K Wx ρ (wRange fl)) :=
  PIi (pi_range2 hg hm ha hs hs2) fun σ H Rk ⟨W, s, A, p⟩ => by
    refine ⟨W, s, A, ?_⟩
    simp only [wRange] at p
    cases h : fl ρ s with
    | ok ds s1 =>
      rw [h] at p
      have h1 := hl s ds s1 h
      intro vs W1 H1 A1 st r1
      match ds, h1, p, r1 with
      | [d, d'], _, p, r1 =>
        obtain ⟨v, v', rfl, q1, r2⟩ := rels2 r1
        cases q1 with
        | int n =>
          cases r2 with
          | int m =>
            simp only [R.bind] at p
            split at p
            · rename_i hz
              exact ⟨n, m, rfl, hz.1, p (Itr n (m - n).toNat) W1 H1 A1 st (src_range (by omega))⟩
            · exact p.elim
          | _ => exact p.elim
        | _ => exact p.elim
    | ex x s1 => rw [h] at p; exact p
    | bad => rw [h] at p; exact p
theorem w_zip {p tpos : Pos} {elts : List Expr} {kk : Nat} (hg : Gl X "zip") (hm : X.mg "zip" = none) (ha : PA X [a, b] (tA X.K Wx ρ fl)) (hs : starEach [a, b] X.env = (false, eval a X.env) :: starEach [b] X.env) (hpl : (backTo pos (starEach [b] X.env)).any (·.1) = false) (hl : ∀ s ds s', fl ρ s = .ok ds s' → ds.length = 2) :
    PI X (.Tuple elts kk tpos) (.Call (.Name "zip" p) [a, b] [] pos) (tJ X.K Wx ρ (wZip fl)) :=
  PIi (RZ.pi_zipA hg hm ha hs hpl) fun σ H Rk ⟨W, s, A, p⟩ => by
    refine ⟨W, s, A, ?_⟩
    simp only [wZip] at p
    cases h : fl ρ s with
    | ok ds s1 =>
      rw [h] at p
      have h1 := hl s ds s1 h
      intro vs W1 H1 A1 st r1
      match ds, h1, p, r1 with
      | [d, d'], _, p, r1 =>
        obtain ⟨v, v', rfl, q1, r2⟩ := rels2 r1
        have r1' := q1
        have r2' := r2
        cases q1 with
        | lst m e z q =>
          cases r2 with
          | lst m2 e2 z2 q2 => exact ⟨_, _, _, _, rfl, .inl ⟨SqL.of e, SqL.of e2, p _ W1 H1 A1 st (src_zipL r1' r2')⟩⟩
          | _ => exact p.elim
        | tup e z q =>
          cases r2 with
          | tup e2 z2 q2 => exact ⟨_, _, _, _, rfl, .inr ⟨e.sq, e2.sq, p _ W1 H1 A1 st (src_zipT r1' r2')⟩⟩
          | _ => exact p.elim
        | _ => exact p.elim
    | ex x s1 => rw [h] at p; exact p
    | bad => rw [h] at p; exact p
theorem w_enum {p tpos : Pos} {elts : List Expr} {kk : Nat} (hg : Gl X "enumerate") (hm : X.mg "enumerate" = none) (ha : PA X [a] (tA X.K Wx ρ fl)) (hs : starEach [a] X.env = [(false, eval a X.env)]) (hl : ∀ s ds s', fl ρ s = .ok ds s' → ds.length = 1) :
    PI X (.Tuple elts kk tpos) (.Call (.Name "enumerate" p) [a] [] pos) (tJ X.K Wx ρ (wEnum fl)) :=
  PIi (pi_enum hg hm ha hs) fun σ H Rk ⟨W, s, A, p⟩ => by
    refine ⟨W, s, A, ?_⟩
    simp only [wEnum] at p
    cases h : fl ρ s with
    | ok ds s1 =>
      rw [h] at p
      have h1 := hl s ds s1 h
      intro vs W1 H1 A1 st r1
      match ds, h1, p, r1 with
      | [d], _, p, r1 =>
        obtain ⟨v, rfl, q1⟩ := rels1 r1
        have r1' := q1
        cases q1 with
        | lst m e z q => exact ⟨_, _, rfl, SqL.of e, p _ W1 H1 A1 st (src_enum r1')⟩
        | _ => exact p.elim
    | ex x s1 => rw [h] at p; exact p
    | bad => rw [h] at p; exact p
/-! ### for -/
theorem s_for {iter : Expr} {body : List Stmt} {fw : IL} {g : IG} {gt : TG} {fb : IS} (hp : PassesOwn (model X.prog X.w) X.A X.env X.xe) (hc : X.calm = true) (hi : PI X tg iter (tJ X.K Wx ρ fw)) (hg : PG X tg gt) (gk : GOk X.K g gt) (hb : PSs X body (tS X.K Wx ρ fb))
    (hs : ∀ x, foldedSetIterable iter X.env x = pure x) : PS X (.For tg iter body [] pos) (tS X.K Wx ρ (sFor fw g fb)) :=
  PSi (ps_for hp hc hi hg hb hs) fun D σ H ⟨W, s, A, p⟩ => goS A p fun J ds W1 s1 H1 src A1 st1 p1 => by
    refine ⟨fun i m σ' H' => ∃ W' s', m = ds.length - i ∧ i ≤ ds.length ∧ Abs X.K W' s' σ' H' ∧ Stp W1 s1 H1 W' s' H' ∧ PostS X.K W' s' H' Wx D (forL g fb ρ (ds.drop i) s'), ⟨ds.length, W1, s1, rfl, Nat.zero_le _, A1, .refl, by simpa using p1⟩, ?_⟩
    rintro i m σ' H' ⟨W', s', rfl, hi, A', st', p'⟩
    by_cases hlt : i < ds.length
    · refine .inr ?_
      have hd : ds[i]? = some ds[i] := by simp [hlt]
      obtain ⟨hgo, hy⟩ := (src.2 W' s' σ' H' A' st'.fzn i).2 _ hd
      refine ⟨hgo, fun σ2 H2 => ∃ W2 s2, i + 1 ≤ ds.length ∧ Abs X.K W2 s2 σ2 H2 ∧ Stp W1 s1 H1 W2 s2 H2 ∧ PostS X.K W2 s2 H2 Wx D (forL g fb ρ (ds.drop (i + 1)) s2), fun σ2 H2 ⟨W2, s2, h1, h2, h3, h4⟩ => ⟨ds.length - (i + 1), by omega, W2, s2, rfl, h1, h2, h3, h4⟩, fun x H'' y => ?_⟩
      obtain ⟨A2, st2, r2⟩ := hy x H'' y
      rw [List.drop_eq_getElem_cons hlt] at p'
      simp only [forL] at p'
      cases eg : g ds[i] s' with
      | none => rw [eg] at p'; exact p'.elim
      | some s2 =>
        rw [eg] at p'
        refine gk W' s' σ' H'' x _ s2 _ A2 r2 eg fun σ3 A3 st3 => ⟨W', s2, A3, ?_⟩
        have st4 : Stp W1 s1 H1 W' s2 H'' := (st'.trans st2).trans st3
        have p'' : PostS X.K W' s2 H'' Wx D ((fb ρ s2).bind fun f s2 => match f with
          | .nx => forL g fb ρ (ds.drop (i + 1)) s2
          | .ct => forL g fb ρ (ds.drop (i + 1)) s2
          | .bk => .ok .nx s2
          | .rt d => .ok (.rt d) s2) := PostS.later p' (st2.trans st3)
        cases eb : fb ρ s2 with
        | ok f s3 =>
          rw [eb] at p''
          cases f with
          | nx => exact fun σ5 W5 H5 A5 st5 => ⟨W5, s3, hlt, A5, st4.trans st5, PostS.later p'' st5⟩
          | ct => exact fun σ5 W5 H5 A5 st5 => ⟨W5, s3, hlt, A5, st4.trans st5, PostS.later p'' st5⟩
          | bk => exact p''
          | rt d => exact p''
        | ex x s3 => rw [eb] at p''; exact p''
        | bad => rw [eb] at p''; exact p''
    · have e : i = ds.length := by omega
      subst e
      refine .inl ⟨(src.2 W' s' σ' H' A' st'.fzn _).1 (Nat.le_refl _), ?_⟩
      rw [List.drop_length] at p'
      exact p' σ' W' H' A' .refl
end
end B
end
section
set_option Elab.async false
set_option linter.all false
set_option maxRecDepth 100000
set_option maxHeartbeats 1000000
namespace B
open PySem PySem.Spec PyProof.Rows L2
/-! ### slots wiped and put back -/
theorem wipeS_len (g : List Sl) : ∀ vs : List Nat, (wipeS g vs).length = g.length
  | [] => rfl
  | v :: vs => by rw [wipeS, List.length_set, wipeS_len g vs]
theorem wipeS_get {g : List Sl} {i : Nat} {x : Sl} : ∀ {vs : List Nat}, (wipeS g vs)[i]? = some x → (i ∈ vs ∧ x = .no) ∨ (i ∉ vs ∧ g[i]? = some x)
  | [], h => .inr ⟨by simp, h⟩
  | v :: vs, h => by
    rw [wipeS] at h
    rcases getElem?_set_some h with ⟨rfl, rfl⟩ | ⟨hne, h⟩
    · exact .inl ⟨by simp, rfl⟩
    · rcases wipeS_get h with ⟨h1, h2⟩ | ⟨h1, h2⟩
      · exact .inl ⟨by simp [h1], h2⟩
      · exact .inr ⟨by simp [h1, hne], h2⟩
theorem wipe_at {σ : L2.St} {i : Nat} : ∀ {vs : List Nat}, i ∉ vs → (wipe σ vs)[i]? = σ[i]?
  | [], _ => rfl
  | v :: vs, h => by
    simp only [List.mem_cons, not_or] at h
    rw [wipe, List.getElem?_set_ne (Ne.symm h.1), wipe_at h.2]
theorem backS_len (g' g : List Sl) : ∀ vs : List Nat, (backS g' g vs).length = g'.length
  | [] => rfl
  | v :: vs => by rw [backS, List.length_set, backS_len g' g vs]
theorem backS_get {g' g : List Sl} {i : Nat} {x : Sl} : ∀ {vs : List Nat}, (backS g' g vs)[i]? = some x → (i ∈ vs ∧ (x = .no ∨ ∃ d, x = .val d ∧ g[i]? = some (.val d))) ∨ (i ∉ vs ∧ g'[i]? = some x)
  | [], h => .inr ⟨by simp, h⟩
  | v :: vs, h => by
    rw [backS] at h
    rcases getElem?_set_some h with ⟨rfl, rfl⟩ | ⟨hne, h⟩
    · refine .inl ⟨by simp, ?_⟩
      split
      · rename_i d e
        exact .inr ⟨d, rfl, e⟩
      · exact .inl rfl
    · rcases backS_get h with ⟨h1, h2⟩ | ⟨h1, h2⟩
      · exact .inl ⟨by simp [h1], h2⟩
      · exact .inr ⟨by simp [h1, hne], h2⟩
section
variable {K : PySem.W.Frag} {W W' : Wd} {s s' : S} {σ : L2.St} {H H' : Hp} {vs : List Nat}
/-- the same with fewer slots -/
theorem Abs.wipe (A : Abs K W s σ H) : Abs K W ⟨wipeS s.g vs, s.h⟩ (L2.wipe σ vs) H ∧ Stp W s H W ⟨wipeS s.g vs, s.h⟩ H := by
  have back : ∀ (j : Nat) (d' : D), (wipeS s.g vs)[j]? = some (.own d') → j ∉ vs ∧ s.g[j]? = some (.own d') := fun j d' h => by
    rcases wipeS_get h with ⟨_, z⟩ | z
    · cases z
    · exact z
  have sub : ∀ a, MW W ⟨wipeS s.g vs, s.h⟩ a → MW W s a := fun a m => by
    rcases m with m | m | ⟨j, d', h, z⟩
    · exact .inl m
    · exact .inr (.inl m)
    · exact .inr (.inr ⟨j, d', (back j d' h).2, z⟩)
  have st : Stp W s H W ⟨wipeS s.g vs, s.h⟩ H := ⟨rfl, fun _ _ => rfl, Nat.le_refl _, fun a o h m => ⟨h, fun m' => m (sub a m')⟩, fun _ _ _ h => h⟩
  refine ⟨⟨?_, fun j d' h => ?_, fun j d' h => ?_, fun k o h => (A.hp k o h).stp st rfl, A.inj, fun j k d1 d2 h1 h2 => A.injL j k d1 d2 (back _ _ h1).2 (back _ _ h2).2, fun k j d' hk h => A.sep k j d' hk (back _ _ h).2, A.pI, fun j d' h => A.pL j d' (back _ _ h).2, A.pS⟩, st⟩
  · show (wipeS s.g vs).length = _
    rw [wipeS_len, wipe_length]
    exact A.len
  · rcases wipeS_get h with ⟨_, z⟩ | ⟨hj, h⟩
    · cases z
    · obtain ⟨v, h1, r⟩ := A.val j d' h
      exact ⟨v, by rw [wipe_at hj]; exact h1, st.rel r⟩
  · obtain ⟨hj, h⟩ := back _ _ h
    obtain ⟨h1, r⟩ := A.own j d' h
    exact ⟨by rw [wipe_at hj]; exact h1, r.stp st rfl⟩
/-- something private is written -/
theorem Abs.poke {a : Addr} {o : HO} (A : Abs K W s σ H) (hP : W.P a) : Abs K W s σ (upd H a o) := by
  have st : ∀ b u, H b = some u → ¬ MW W s b → upd H a o b = some u ∧ ¬ MW W s b := fun b u e m => ⟨by rw [upd_ne (show b ≠ a from fun z => m (.inl (by rw [z]; exact hP)))]; exact e, m⟩
  have ne1 : ∀ k, k < s.h.length → W.ia k ≠ a := fun k hk z => A.pI k hk (z ▸ hP)
  have ne2 : ∀ (i : Nat) (d : D), s.g[i]? = some (.own d) → W.la i ≠ a := fun i d e z => A.pL i d e (z ▸ hP)
  have rl : ∀ {v : V} {d : D}, RelW K W s H v d → RelW K W s (upd H a o) v d := fun r => r.mono st (Nat.le_refl _) fun _ _ => rfl
  have rls : ∀ {v : List V} {d : List D}, RelsW K W s H v d → RelsW K W s (upd H a o) v d := fun r => r.mono st (Nat.le_refl _) fun _ _ => rfl
  refine ⟨A.len, fun i d e => ?_, fun i d e => ?_, fun k o' e => ?_, A.inj, A.injL, A.sep, A.pI, A.pL, fun b m => ?_⟩
  · obtain ⟨v, h1, r⟩ := A.val i d e
    exact ⟨v, h1, rl r⟩
  · obtain ⟨h1, r⟩ := A.own i d e
    refine ⟨h1, ?_⟩
    cases d with
    | lst ds => obtain ⟨vs, h, z, q⟩ := r; exact ⟨vs, by rw [upd_ne (ne2 i _ e)]; exact h, z, rls q⟩
    | _ => exact r.elim
  · have hk := (List.getElem?_eq_some_iff.mp e).1
    have := A.hp k o' e
    cases o' with
    | lst ds => obtain ⟨vs, h, z, q⟩ := this; exact ⟨vs, by rw [upd_ne (ne1 k hk)]; exact h, z, rls q⟩
  · by_cases hb : b = a
    · subst hb; exact ⟨o, upd_same⟩
    · obtain ⟨u, e⟩ := A.pS b m
      exact ⟨u, by rw [upd_ne hb]; exact e⟩
theorem RelsW.poke {a : Addr} {o : HO} (hP : W.P a) {v : List V} {d : List D} (r : RelsW K W s H v d) : RelsW K W s (upd H a o) v d := r.mono (fun b u e m => ⟨by rw [upd_ne (show b ≠ a from fun z => m (.inl (by rw [z]; exact hP)))]; exact e, m⟩) (Nat.le_refl _) fun _ _ => rfl
theorem RelW.poke {a : Addr} {o : HO} (hP : W.P a) {v : V} {d : D} (r : RelW K W s H v d) : RelW K W s (upd H a o) v d := r.mono (fun b u e m => ⟨by rw [upd_ne (show b ≠ a from fun z => m (.inl (by rw [z]; exact hP)))]; exact e, m⟩) (Nat.le_refl _) fun _ _ => rfl
/-- a private thing at L more -/
def Wd.priv (W : Wd) (L : Addr) : Wd := ⟨W.ia, W.la, fun a => W.P a ∨ a = L⟩
def Wd.unpriv (W : Wd) (P : MS) : Wd := ⟨W.ia, W.la, P⟩
theorem Abs.priv {L : Addr} {o : HO} (A : Abs K W s σ H) (hL : H L = none) : Abs K (W.priv L) s σ (upd H L o) := by
  have A1 := A.laid (o := o) hL
  have nM := A.fresh hL
  have sub : ∀ a, MW (W.priv L) s a → MW W s a ∨ a = L := fun a m => by
    rcases m with (m | m) | m | m
    · exact .inl (.inl m)
    · exact .inr m
    · exact .inl (.inr (.inl m))
    · exact .inl (.inr (.inr m))
  have rl : ∀ {v : V} {d : D}, RelW K W s H v d → RelW K (W.priv L) s (upd H L o) v d := fun r => r.mono (fun b u e m => ⟨by rw [upd_ne (ne_of_none e hL)]; exact e, fun z => (sub b z).elim m (ne_of_none e hL)⟩) (Nat.le_refl _) fun _ _ => rfl
  have rls : ∀ {v : List V} {d : List D}, RelsW K W s H v d → RelsW K (W.priv L) s (upd H L o) v d := fun r => r.mono (fun b u e m => ⟨by rw [upd_ne (ne_of_none e hL)]; exact e, fun z => (sub b z).elim m (ne_of_none e hL)⟩) (Nat.le_refl _) fun _ _ => rfl
  have neL : ∀ a, MW W s a → a ≠ L := fun a m z => nM (z ▸ m)
  refine ⟨A.len, fun i d e => ?_, fun i d e => ?_, fun k o' e => ?_, A.inj, A.injL, A.sep, fun k hk m => ?_, fun i d e m => ?_, fun b m => ?_⟩
  · obtain ⟨v, h1, r⟩ := A.val i d e
    exact ⟨v, h1, rl r⟩
  · obtain ⟨h1, r⟩ := A.own i d e
    refine ⟨h1, ?_⟩
    cases d with
    | lst ds => obtain ⟨vs, h, z, q⟩ := r; exact ⟨vs, by show upd H L o (W.la i) = _; rw [upd_ne (neL _ (.inr (.inr ⟨i, _, e, rfl⟩)))]; exact h, z, rls q⟩
    | _ => exact r.elim
  · have hk := (List.getElem?_eq_some_iff.mp e).1
    have ne := neL _ (.inr (.inl ⟨k, hk, rfl⟩))
    have := A.hp k o' e
    cases o' with
    | lst ds => obtain ⟨vs, h, z, q⟩ := this; exact ⟨vs, by show upd H L o (W.ia k) = _; rw [upd_ne ne]; exact h, z, rls q⟩
  · rcases m with m | m
    · exact A.pI k hk m
    · exact neL _ (.inr (.inl ⟨k, hk, rfl⟩)) m
  · rcases m with m | m
    · exact A.pL i d e m
    · exact neL _ (.inr (.inr ⟨i, d, e, rfl⟩)) m
  · rcases m with m | m
    · obtain ⟨u, e⟩ := A.pS b m
      exact ⟨u, by rw [upd_ne (neL b (.inl m))]; exact e⟩
    · subst m; exact ⟨o, upd_same⟩
end
/-! ### targets of a block -/
theorem wipe_eq {σ σ2 : L2.St} {vs : List Nat} (hl : σ2.length = σ.length) (h : ∀ j, j ∉ vs → σ2[j]? = σ[j]?) : wipe σ2 vs = wipe σ vs := by
  refine List.ext_getElem? fun j => ?_
  by_cases hj : j ∈ vs
  · have key : ∀ (τ : L2.St) (vs : List Nat), j ∈ vs → (wipe τ vs)[j]? = if j < τ.length then some none else none := fun τ vs hj => by
      induction vs with
      | nil => simp at hj
      | cons v vs ih =>
        rw [wipe]
        by_cases hv : v = j
        · subst hv
          by_cases hl : v < τ.length
          · rw [List.getElem?_set_self (by rw [wipe_length]; exact hl), if_pos hl]
          · rw [if_neg hl, List.getElem?_eq_none (by rw [List.length_set, wipe_length]; omega)]
        · rw [List.getElem?_set_ne hv]
          exact ih (by simpa [Ne.symm hv] using hj)
    rw [key _ _ hj, key _ _ hj, hl]
  · rw [wipe_at hj, wipe_at hj, h j hj]
/-- a target that stores into vs alone -/
def GW (gt : TG) (vs : List Nat) : Prop := ∀ x (σ : L2.St) H (Q Q' : L2.St → Hp → Prop), (∀ σ2 H2, σ2.length = σ.length → (∀ j : Nat, j ∉ vs → σ2[j]? = σ[j]?) → Q σ2 H2 → Q' σ2 H2) → gt x σ H Q → gt x σ H Q'
theorem gw_v {i : Nat} {vs : List Nat} (h : i ∈ vs) : GW (gName i) vs := fun x σ H Q Q' m q => m _ _ (by simp) (fun j hj => List.getElem?_set_ne fun z => hj (by rw [← z]; exact h)) q
theorem gw_vs {vs : List Nat} : ∀ {is : List Nat}, (∀ i ∈ is, i ∈ vs) → ∀ xs (σ : L2.St) H (Q Q' : L2.St → Hp → Prop), (∀ σ2 H2, σ2.length = σ.length → (∀ j : Nat, j ∉ vs → σ2[j]? = σ[j]?) → Q σ2 H2 → Q' σ2 H2) → gNames is xs σ H Q → gNames is xs σ H Q'
  | [], h, xs, σ, H, Q, Q', m, ⟨e, q⟩ => ⟨e, m _ _ rfl (fun _ _ => rfl) q⟩
  | i :: is, h, xs, σ, H, Q, Q', m, ⟨v, r, e, q⟩ => ⟨v, r, e, gw_vs (fun j hj => h j (List.mem_cons_of_mem _ hj)) r (σ.set i (some v)) H Q Q' (fun σ2 H2 h1 h2 => m σ2 H2 (by simpa using h1) fun j hj => by
      rw [h2 j hj, List.getElem?_set_ne fun z => hj (by rw [← z]; exact h i List.mem_cons_self)]) q⟩
theorem gw_t {K : PySem.W.Frag} {vs is : List Nat} {n : Nat} (h : ∀ i ∈ is, i ∈ vs) : GW (gTup K n (gNames is)) vs := fun x σ H Q Q' m ⟨a, xs, e, hq, hl, q⟩ => ⟨a, xs, e, hq, hl, gw_vs h xs σ H Q Q' m q⟩
section
variable {X : Cx} {Wx : WX} {ρ : Fns} {tg a b c e elt iter : Expr} {ifs : List Expr} {es : List Expr} {fa fb fc : I} {fl : IL} {pos : Pos}
/-- the comprehension's loop -/
theorem comp_go {K : PySem.W.Frag} {g : IG} {gt : TG} {tt : IT} {fe : I} {vs : List Nat} {σ : L2.St} {H1 : Hp} {W1 : Wd} {s1 : S} {J : It} {ds ys : List D} {sE : S} {L : Addr} {Qd : Hp → Prop}
    (A1 : Abs K W1 s1 σ H1) (src : Src K W1 s1 H1 J ds) (gk : GOk K g gt) (hw : GW gt vs)
    (hL : H1 L = none) (hc : compL g tt fe vs ρ ds ⟨wipeS s1.g vs, s1.h⟩ = some (ys, sE))
    (hQ : ∀ W' H', Abs K W' ⟨backS sE.g s1.g vs, sE.h⟩ σ H' → Stp W1 s1 H1 W' ⟨backS sE.g s1.g vs, sE.h⟩ H' → RelW K W' ⟨backS sE.g s1.g vs, sE.h⟩ H' (.ref L) (.lst ys) → Qd H') :
    ∃ Wn : Nat → Nat → Hp → Prop, (∃ m, Wn 0 m (upd H1 L (.lst []))) ∧ ∀ i m H, Wn i m H → (J.stop i H ∧ Qd H) ∨ (J.go i H ∧ ∃ Nx : Hp → Prop, (∀ H', Nx H' → ∃ m', m' < m ∧ Wn (i + 1) m' H') ∧ ∀ x H', J.yld i H x H' → gt x (wipe σ vs) H' fun σ2 H2 => wipe σ2 vs = wipe σ vs ∧
      tT K (fun _ _ _ _ => False) ρ tt σ2 H2 fun b H3 => if b = true then tE K (fun _ _ _ _ => False) ρ fe σ2 H3 fun y H4 => ∃ acc, H4 L = some (.lst acc) ∧ acc.length < sizeLine ∧ Nx (upd H4 L (.lst (acc ++ [y]))) else Nx H3) := by
  have nP : ¬ W1.P L := fun m => A1.fresh hL (.inl m)
  have hds := src.1
  let Wn : Nat → Nat → Hp → Prop := fun i m H => ∃ W' s' acc yd yr, m = ds.length - i ∧ i ≤ ds.length ∧ W'.P = (fun a => W1.P a ∨ a = L) ∧ Abs K W' s' (wipe σ vs) H ∧ Fzn W1 s1 H1 W' s' H ∧ (∀ a o, W1.P a → H1 a = some o → H a = some o) ∧ H L = some (.lst acc) ∧ RelsW K W' s' H acc yd ∧ acc.length ≤ i ∧
    compL g tt fe vs ρ (ds.drop i) s' = some (yr, sE) ∧ ys = yd ++ yr
  refine ⟨Wn, ⟨ds.length, W1.priv L, ⟨wipeS s1.g vs, s1.h⟩, [], [], ys, rfl, Nat.zero_le _, rfl, (A1.wipe (vs := vs)).1.priv hL, ?_, fun a o _ e => by rw [upd_ne (ne_of_none e hL)]; exact e, upd_same, .nil, Nat.le_refl _, by simpa using hc, rfl⟩, ?_⟩
  · have st := (A1.wipe (vs := vs)).2
    refine ⟨st.ia, st.hl, fun a o e m => ⟨by rw [upd_ne (ne_of_none e hL)]; exact e, ?_⟩⟩
    have h2 := (st.fz a o e m).2
    rintro ((m' | m') | m')
    · exact h2 (.inl m')
    · exact ne_of_none e hL m'
    · exact h2 (.inr m')
  rintro i m H ⟨W', s', acc, yd, yr, rfl, hi, hP, A', fz', pr', hacc, ra, hal, hcl, hys⟩
  have PL : W'.P L := by rw [hP]; exact .inr rfl
  by_cases hlt : i < ds.length
  · refine .inr ?_
    have hd : ds[i]? = some ds[i] := by simp [hlt]
    obtain ⟨hgo, hy⟩ := (src.2 W' s' (wipe σ vs) H A' fz' i).2 _ hd
    refine ⟨hgo, Wn (i + 1) (ds.length - (i + 1)), fun H' h => ⟨ds.length - (i + 1), by omega, h⟩, fun x H'' y => ?_⟩
    obtain ⟨A2, st2, r2⟩ := hy x H'' y
    rw [List.drop_eq_getElem_cons hlt] at hcl
    simp only [compL] at hcl
    cases eg : g ds[i] s' with
    | none => rw [eg] at hcl; cases hcl
    | some s2 =>
      rw [eg] at hcl
      simp only at hcl
      -- what is carried over a step
      have carry : ∀ {W3 : Wd} {s3 : S} {H3 : Hp}, Stp W' s' H W3 s3 H3 → Fzn W1 s1 H1 W3 s3 H3 ∧ (∀ a o, W1.P a → H1 a = some o → H3 a = some o) ∧ H3 L = some (.lst acc) ∧ RelsW K W3 s3 H3 acc yd ∧ W3.P = (fun a => W1.P a ∨ a = L) := fun {W3 s3 H3} st =>
        ⟨fz'.trans st.fzn, fun a o p e => st.pr a o (by rw [hP]; exact .inl p) (pr' a o p e), st.pr L _ PL hacc, st.rels ra, st.P.trans hP⟩
      refine hw x (wipe σ vs) H'' _ _ (fun σ2 H2 l1 l2 q => ?_) (gk W' s' (wipe σ vs) H'' x _ s2 (fun σ2 H2 => Abs K W' s2 σ2 H2 ∧ Stp W' s' H W' s2 H2) A2 r2 eg fun σ3 A3 st3 => ⟨A3, st2.trans st3⟩)
      obtain ⟨A3, st3⟩ := q
      have ew : wipe σ2 vs = wipe σ vs := wipe_eq (by rw [l1, wipe_length]) fun j hj => by rw [l2 j hj, wipe_at hj]
      refine ⟨ew, W', s2, A3, ?_⟩
      -- the next turn's word
      have next : ∀ {W4 : Wd} {s4 : S} {H4 : Hp} {ac : List V} {yd' yr' : List D}, Stp W' s' H W4 s4 H4 → Abs K W4 s4 σ2 H4 → RelsW K W4 s4 H4 ac yd' → ac.length ≤ i + 1 → compL g tt fe vs ρ (ds.drop (i + 1)) ⟨wipeS s4.g vs, s4.h⟩ = some (yr', sE) → ys = yd' ++ yr' →
          Wn (i + 1) (ds.length - (i + 1)) (upd H4 L (.lst ac)) := fun {W4 s4 H4 ac yd' yr'} st A4 rr hl hcl hys => by
        obtain ⟨c1, c2, c3, c4, c5⟩ := carry st
        have PL4 : W4.P L := by rw [c5]; exact .inr rfl
        have w4 := A4.wipe (vs := vs)
        rw [ew] at w4
        refine ⟨W4, ⟨wipeS s4.g vs, s4.h⟩, ac, yd', yr', rfl, hlt, c5, w4.1.poke PL4, ?_, fun a o p e => by rw [upd_ne (ne_of_none e hL)]; exact c2 a o p e, upd_same, (w4.2.rels rr).poke PL4, hl, hcl, hys⟩
        have c6 := c1.trans w4.2.fzn
        exact ⟨c6.ia, c6.hl, fun a o e m => ⟨by rw [upd_ne (ne_of_none e hL)]; exact (c6.fz a o e m).1, (c6.fz a o e m).2⟩⟩
      cases ett : tt ρ s2 with
      | bad => rw [ett] at hcl; cases hcl
      | ex x s3 => rw [ett] at hcl; cases hcl
      | ok b s3 =>
        rw [ett] at hcl
        cases b with
        | true =>
          simp only at hcl
          cases efe : fe ρ s3 with
          | bad => rw [efe] at hcl; cases hcl
          | ex x s4 => rw [efe] at hcl; cases hcl
          | ok y s4 =>
            rw [efe] at hcl
            simp only at hcl
            cases ecl : compL g tt fe vs ρ (ds.drop (i + 1)) ⟨wipeS s4.g vs, s4.h⟩ with
            | none => rw [ecl] at hcl; cases hcl
            | some q =>
              obtain ⟨ys', s5⟩ := q
              rw [ecl] at hcl
              simp only [Option.some.injEq, Prod.mk.injEq] at hcl
              obtain ⟨rfl, rfl⟩ := hcl
              intro b W3 H3 A3' st3' hb
              cases hb
              rw [if_pos rfl]
              refine ⟨W3, s3, A3', ?_⟩
              rw [efe]
              intro v W4 H4 A4 st4 r4
              have st := (st3.trans st3').trans st4
              obtain ⟨c1, c2, c3, c4, c5⟩ := carry st
              refine ⟨acc, c3, by omega, next st A4 (c4.append (.cons r4 .nil)) (by rw [List.length_append]; simp; omega) ecl (by rw [hys]; simp)⟩
        | false =>
          simp only at hcl
          intro b W3 H3 A3' st3' hb
          cases hb
          rw [if_neg Bool.false_ne_true]
          have st := st3.trans st3'
          obtain ⟨c1, c2, c3, c4, c5⟩ := carry st
          have := next st A3' c4 (by omega) hcl hys
          have eq : upd H3 L (.lst acc) = H3 := by
            funext z
            by_cases hz : z = L
            · subst hz; rw [upd_same, c3]
            · rw [upd_ne hz]
          rw [eq] at this
          exact this
  · have ei : i = ds.length := by omega
    subst ei
    refine .inl ⟨(src.2 W' s' (wipe σ vs) H A' fz' _).1 (Nat.le_refl _), ?_⟩
    rw [List.drop_length] at hcl
    simp only [compL] at hcl
    cases hcl
    rw [List.append_nil] at hys
    subst hys
    have ownB : ∀ (j : Nat) (d' : D), (backS sE.g s1.g vs)[j]? = some (.own d') → j ∉ vs ∧ sE.g[j]? = some (.own d') := fun j d' h => by
      rcases backS_get h with ⟨_, z | ⟨_, z, _⟩⟩ | z
      · cases z
      · cases z
      · exact z
    have sub : ∀ a, MW ⟨W'.ia, W'.la, W1.P⟩ ⟨backS sE.g s1.g vs, sE.h⟩ a → MW W' sE a := fun a m => by
      rcases m with m | m | ⟨j, d', h, z⟩
      · exact .inl (by rw [hP]; exact .inl m)
      · exact .inr (.inl m)
      · exact .inr (.inr ⟨j, d', (ownB j d' h).2, z⟩)
    have fzB : Fzn W1 s1 H1 ⟨W'.ia, W'.la, W1.P⟩ ⟨backS sE.g s1.g vs, sE.h⟩ H := ⟨fz'.ia, fz'.hl, fun a o e m => ⟨(fz'.fz a o e m).1, fun z => (fz'.fz a o e m).2 (sub a z)⟩⟩
    refine hQ ⟨W'.ia, W'.la, W1.P⟩ H ⟨?_, fun j d h => ?_, fun j d h => ?_, fun k o h => ?_, A'.inj, fun j k d1 d2 h1 h2 => A'.injL j k d1 d2 (ownB _ _ h1).2 (ownB _ _ h2).2, fun k j d' hk h => A'.sep k j d' hk (ownB _ _ h).2, fun k hk m => A'.pI k hk (by rw [hP]; exact .inl m), fun j d' h m => A'.pL j d' (ownB _ _ h).2 (by rw [hP]; exact .inl m), fun a m => A'.pS a (by rw [hP]; exact .inl m)⟩
      ⟨rfl, fzB.ia, fzB.hl, fzB.fz, pr'⟩ (.lst ?_ hacc (by omega) (ra.cong sub))
    · show (backS sE.g s1.g vs).length = _
      rw [backS_len, A'.len, wipe_length]
    · rcases backS_get h with ⟨_, z | ⟨d', z, e⟩⟩ | ⟨hj, e⟩
      · cases z
      · cases z
        obtain ⟨v, h1, r⟩ := A1.val j _ e
        exact ⟨v, h1, fzB.rel r⟩
      · obtain ⟨v, h1, r⟩ := A'.val j d e
        exact ⟨v, by rw [← wipe_at hj]; exact h1, r.cong sub⟩
    · obtain ⟨hj, e⟩ := ownB _ _ h
      obtain ⟨h1, r⟩ := A'.own j d e
      refine ⟨by rw [← wipe_at hj]; exact h1, ?_⟩
      cases d with
      | lst ds => obtain ⟨vs, h, z, q⟩ := r; exact ⟨vs, h, z, q.cong sub⟩
      | _ => exact r.elim
    · have := A'.hp k o h
      cases o with
      | lst ds => obtain ⟨vs, h, z, q⟩ := this; exact ⟨vs, h, z, q.cong sub⟩
    · rintro (m | ⟨k, hk, z⟩ | ⟨j, d, h, z⟩)
      · exact nP m
      · exact A'.pI k hk (by rw [show W'.ia k = L from z]; exact PL)
      · exact A'.pL j d (ownB _ _ h).2 (by rw [show W'.la j = L from z]; exact PL)
theorem comp_imp {K : PySem.W.Frag} {fw : IL} {g : IG} {gt : TG} {tt : IT} {fe : I} {vs : List Nat} (gk : GOk K g gt) (hw : GW gt vs) {σ : L2.St} {H : Hp} {Q : VK} (h : tE K Wx ρ (iComp fw g tt fe vs) σ H Q) : tLc (tJ K Wx ρ fw) gt (tT K (fun _ _ _ _ => False) ρ tt) (tE K (fun _ _ _ _ => False) ρ fe) vs σ H Q := by
  obtain ⟨W, s, A, p⟩ := h
  refine go A p fun J ds W1 s1 H1 src A1 st1 p1 L hL => ?_
  cases ec : compL g tt fe vs ρ ds ⟨wipeS s1.g vs, s1.h⟩ with
  | none => rw [ec] at p1; exact p1.elim
  | some q =>
    obtain ⟨ys, sE⟩ := q
    rw [ec] at p1
    exact comp_go A1 src gk hw hL ec fun W' H' A' st' r' => p1 _ W' H' A' st' r'
/-- an assignment's reading from its word -/
theorem asg_imp {K : PySem.W.Frag} {g : IG} {gt : TG} (gk : GOk K g gt) {D : Ends} {σ : L2.St} {H : Hp} (h : tS K Wx ρ (sAsg fa g) D σ H) : tE K Wx ρ fa σ H fun x H1 => gt x σ H1 D.nx := by
  obtain ⟨W, s, A, p⟩ := h
  refine goS A p fun v d W1 s1 H1 r1 A1 _ p1 => ?_
  cases e : g d s1 with
  | none => rw [e] at p1; exact p1.elim
  | some s2 =>
    rw [e] at p1
    exact gk W1 s1 σ H1 v d s2 _ A1 r1 e fun σ' A' st' => p1 σ' W1 H1 A' st'
end
end B
end
section
set_option Elab.async false
set_option linter.all false
set_option maxRecDepth 100000
set_option maxHeartbeats 1000000
namespace B
open PySem PySem.Spec PyProof.Rows L2
section
variable {K : PySem.W.Frag} {W W' : Wd} {s s' : S} {σ : L2.St} {H H' : Hp}
/-- a new mutable list -/
theorem Abs.alloc {p : Addr} {ds : List D} {vs : List V} (A : Abs K W s σ H) (hp : H p = none) (r : RelsW K W s H vs ds) (hz : vs.length ≤ sizeLine) :
    ∃ W', Abs K W' ⟨s.g, s.h ++ [.lst ds]⟩ σ (upd H p (.lst vs)) ∧ Stp W s H W' ⟨s.g, s.h ++ [.lst ds]⟩ (upd H p (.lst vs)) ∧ RelW K W' ⟨s.g, s.h ++ [.lst ds]⟩ (upd H p (.lst vs)) (.ref p) (.ref s.h.length) := by
  let W' : Wd := ⟨fun k => if k = s.h.length then p else W.ia k, W.la, W.P⟩
  have old : ∀ k, k < s.h.length → W'.ia k = W.ia k := fun k hk => if_neg (by omega)
  have new : W'.ia s.h.length = p := if_pos rfl
  have hlen : (s.h ++ [Ob.lst ds]).length = s.h.length + 1 := by simp
  have sub : ∀ a, MW W' ⟨s.g, s.h ++ [.lst ds]⟩ a → MW W s a ∨ a = p := fun a m => by
    rcases m with m | ⟨k, hk, z⟩ | m
    · exact .inl (.inl m)
    · have hk : k < (s.h ++ [Ob.lst ds]).length := hk
      rw [hlen] at hk
      by_cases e : k = s.h.length
      · subst e; rw [new] at z; exact .inr z.symm
      · rw [old k (by omega)] at z; exact .inl (.inr (.inl ⟨k, by omega, z⟩))
    · exact .inl (.inr (.inr m))
  have neP : ∀ a, MW W s a → a ≠ p := fun a m z => A.fresh hp (by rw [← z]; exact m)
  have st : Stp W s H W' ⟨s.g, s.h ++ [.lst ds]⟩ (upd H p (.lst vs)) := ⟨rfl, old, by show s.h.length ≤ (s.h ++ [Ob.lst ds]).length; omega, fun a o e m => ⟨by rw [upd_ne (ne_of_none e hp)]; exact e, fun z => (sub a z).elim m (ne_of_none e hp)⟩, fun a o _ e => by rw [upd_ne (ne_of_none e hp)]; exact e⟩
  refine ⟨W', ⟨A.len, fun i d e => ?_, fun i d e => ?_, fun k o e => ?_, fun k j hk hj z => ?_, A.injL, fun k i d hk e z => ?_, fun k hk m => ?_, A.pL, fun a m => ?_⟩, st, ?_⟩
  · obtain ⟨v, h1, q⟩ := A.val i d e
    exact ⟨v, h1, st.rel q⟩
  · obtain ⟨h1, q⟩ := A.own i d e
    exact ⟨h1, q.stp st (upd_ne (neP _ (.inr (.inr ⟨i, d, e, rfl⟩))))⟩
  · have hk := (List.getElem?_eq_some_iff.mp e).1
    have hk : k < (s.h ++ [Ob.lst ds]).length := hk
    rw [hlen] at hk
    have e : (s.h ++ [Ob.lst ds])[k]? = some o := e
    by_cases ek : k = s.h.length
    · subst ek
      rw [List.getElem?_append_right (Nat.le_refl _)] at e
      simp at e
      subst e
      exact ⟨vs, by rw [new]; exact upd_same, hz, st.rels r⟩
    · rw [List.getElem?_append_left (by omega)] at e
      have := (A.hp k o e).stp st (upd_ne (neP _ (.inr (.inl ⟨k, by omega, rfl⟩))))
      rw [← old k (by omega)] at this
      exact this
  · have hk : k < (s.h ++ [Ob.lst ds]).length := hk
    have hj : j < (s.h ++ [Ob.lst ds]).length := hj
    rw [hlen] at hk hj
    by_cases ek : k = s.h.length
    · by_cases ej : j = s.h.length
      · omega
      · exfalso
        rw [ek, new, old j (by omega)] at z
        exact neP _ (.inr (.inl ⟨j, by omega, rfl⟩)) z.symm
    · by_cases ej : j = s.h.length
      · exfalso
        rw [ej, new, old k (by omega)] at z
        exact neP _ (.inr (.inl ⟨k, by omega, rfl⟩)) z
      · rw [old k (by omega), old j (by omega)] at z
        exact A.inj k j (by omega) (by omega) z
  · have hk : k < (s.h ++ [Ob.lst ds]).length := hk
    rw [hlen] at hk
    by_cases ek : k = s.h.length
    · rw [ek, new] at z
      exact neP _ (.inr (.inr ⟨i, d, e, rfl⟩)) z.symm
    · rw [old k (by omega)] at z
      exact A.sep k i d (by omega) e z
  · have hk : k < (s.h ++ [Ob.lst ds]).length := hk
    rw [hlen] at hk
    by_cases ek : k = s.h.length
    · rw [ek, new] at m
      exact neP _ (.inl m) rfl
    · rw [old k (by omega)] at m
      exact A.pI k (by omega) m
  · obtain ⟨u, e⟩ := A.pS a m
    exact ⟨u, by rw [upd_ne (neP a (.inl m))]; exact e⟩
  · have := Rel.ref (K := K) (ia := W'.ia) (n := (s.h ++ [Ob.lst ds]).length) (M := MW W' ⟨s.g, s.h ++ [.lst ds]⟩) (H := upd H p (.lst vs)) (k := s.h.length) (by rw [hlen]; omega)
    rw [new] at this
    exact this
/-- a mutable list is written -/
theorem Abs.write {k : Nat} {ds es : List D} {vs : List V} (A : Abs K W s σ H) (e : s.h[k]? = some (.lst ds)) (r : RelsW K W s H vs es) (hz : vs.length ≤ sizeLine) :
    Abs K W ⟨s.g, s.h.set k (.lst es)⟩ σ (upd H (W.ia k) (.lst vs)) ∧ Stp W s H W ⟨s.g, s.h.set k (.lst es)⟩ (upd H (W.ia k) (.lst vs)) := by
  have hk := (List.getElem?_eq_some_iff.mp e).1
  have hM : ∀ a, MW W ⟨s.g, s.h.set k (.lst es)⟩ a ↔ MW W s a := fun a => by simp [MW]
  have mk : MW W s (W.ia k) := .inr (.inl ⟨k, hk, rfl⟩)
  have st : Stp W s H W ⟨s.g, s.h.set k (.lst es)⟩ (upd H (W.ia k) (.lst vs)) := ⟨rfl, fun _ _ => rfl, by simp, fun a o h m => ⟨by rw [upd_ne (show a ≠ W.ia k from fun z => m (by rw [z]; exact mk))]; exact h, fun z => m ((hM a).mp z)⟩, fun a o p h => by rw [upd_ne (show a ≠ W.ia k from fun z => A.pI k hk (by rw [← z]; exact p))]; exact h⟩
  refine ⟨⟨A.len, fun i d h => ?_, fun i d h => ?_, fun j o h => ?_, fun i j hi hj => A.inj i j (by simpa using hi) (by simpa using hj), A.injL, fun j i d hj => A.sep j i d (by simpa using hj), fun j hj => A.pI j (by simpa using hj), A.pL, fun a m => ?_⟩, st⟩
  · obtain ⟨v, h1, q⟩ := A.val i d h
    exact ⟨v, h1, st.rel q⟩
  · obtain ⟨h1, q⟩ := A.own i d h
    exact ⟨h1, q.stp st (upd_ne fun z => A.sep k i d hk h z.symm)⟩
  · rcases getElem?_set_some h with ⟨rfl, rfl⟩ | ⟨hne, h⟩
    · exact ⟨vs, upd_same, hz, st.rels r⟩
    · exact (A.hp j o h).stp st (upd_ne fun z => hne (A.inj j k (List.getElem?_eq_some_iff.mp h).1 hk z))
  · by_cases ha : a = W.ia k
    · exact ⟨_, by rw [ha]; exact upd_same⟩
    · obtain ⟨u, h⟩ := A.pS a m
      exact ⟨u, by rw [upd_ne ha]; exact h⟩
end
section
variable {X : Cx} {Wx : WX} {ρ : Fns} {st : Stmt} {sts : List Stmt} {a b c e : Expr} {es : List Expr} {fa fb fc : I} {fl : IL} {pos : Pos}
theorem p_lstH (h : PA X es (tA X.K Wx ρ fl)) : PE X (.List es pos) (tE X.K Wx ρ (iLstH fl)) :=
  PEi (pe_lst h) fun σ H Q ⟨W, s, A, p⟩ => go A p fun x d1 W1 s1 H1 r1 A1 _ p1 => by
    split at p1
    · rename_i hz
      rw [← r1.length] at hz
      refine ⟨hz, fun q hq => ?_⟩
      obtain ⟨W2, A2, st2, r2⟩ := A1.alloc hq r1 hz
      exact p1 _ W2 _ A2 st2 r2
    · exact p1.elim
theorem post_nest {α : Type} {K : PySem.W.Frag} {σ : L2.St} {W : Wd} {s : S} {H : Hp} {E : XK} {Q : VK} {f : I} {k : List D → S → R D} (h : Post K σ (RelW K) W s H E Q ((aCons f aNil ρ s).bind k)) : Post K σ (RelW K) W s H E Q ((f ρ s).bind fun x s => k [x] s) := by
  simp only [aCons, aNil] at h
  cases e : f ρ s with
  | bad => rw [e] at h; exact h
  | ex x s1 => rw [e] at h; exact h
  | ok d s1 => rw [e] at h; exact h
theorem p_join {apos : Pos} (ha : PE X a (tE X.K Wx ρ fa)) (hb : PE X b (tE X.K Wx ρ fb)) (hs : starEach [b] X.env = [(false, eval b X.env)]) (hbase : attributeBase a "join" X.env (eval a X.env) = eval a X.env) (hline : (apos.endLine == pos.line) = true) :
    PE X (.Call (.Attribute a "join" apos) [b] [] pos) (tE X.K Wx ρ (iMt .join fa (aCons fb aNil))) :=
  PEi (pe_m1 PySem.F.slot_str_join PySem.F.type_str_join m_join ha hb hs hbase hline) fun σ H Q ⟨W, s, A, p⟩ => go A p fun x d1 W1 s1 H1 r1 A1 _ p1 => by
    cases r1 with
    | str l z =>
      refine ⟨⟨_, rfl⟩, go A1 (post_nest (α := Unit) p1) fun y d2 W2 s2 H2 r2 A2 st2 p2 => ?_⟩
      obtain ⟨d, e, f⟩ := post_lift p2
      exact ⟨W2, s2, σ, _, _, d, A2, .str l z, .cons r2 .nil, e, f⟩
    | _ => exact p1.elim
theorem s_par {i j : Nat} {x y : Str} {px py pt : Pos} {kt k2 : Nat} {pt2 : Pos} (hc : X.calm = true) (hN : X.N.Nodup) (hi : X.N[i]? = some x) (hj : X.N[j]? = some y) (hij : i ≠ j)
    (hx : X.env.scope.names.lookup x = some .local) (hy : X.env.scope.names.lookup y = some .local) (ha : PA X [a, b] (tA X.K Wx ρ (aCons fa (aCons fb aNil))))
    (hw : swappedStores [.Tuple [.Name x px, .Name y py] kt pt] (.Tuple [a, b] k2 pt2) X.env = pure (some [x, y])) (hs : swapsWithSole [.Tuple [.Name x px, .Name y py] kt pt] (.Tuple [a, b] k2 pt2) pos.line X.env = pure false) :
    PS X (.Assign [.Tuple [.Name x px, .Name y py] kt pt] (.Tuple [a, b] k2 pt2) pos) (tS X.K Wx ρ (sPar i j fa fb)) :=
  PSi (ps_par hc hN hi hj hij hx hy ha hw hs) fun D σ H ⟨W, s, A, p⟩ => by
    have p2 : PostS X.K W s H Wx D ((aCons fa (aCons fb aNil) ρ s).bind fun xs s => match xs with
      | [x, y] => .ok .nx ⟨(s.g.set i (.val x)).set j (.val y), s.h⟩
      | _ => .bad) := by
      simp only [sPar] at p
      simp only [aCons, aNil]
      cases e1 : fa ρ s with
      | bad => rw [e1] at p; exact p
      | ex z s1 => rw [e1] at p; exact p
      | ok d s1 =>
        rw [e1] at p
        simp only [bind_ok] at p ⊢
        cases e2 : fb ρ s1 with
        | bad => rw [e2] at p; exact p
        | ex z s1 => rw [e2] at p; exact p
        | ok d2 s2 => rw [e2] at p; exact p
    refine goS (Rl := RelsW X.K) A p2 fun vs ds W1 s1 H1 r1 A1 st1 p1 => ?_
    match ds, p1, r1 with
    | [d1, d2], p1, r1 =>
      obtain ⟨v, w, rfl, q1, q2⟩ := rels2 r1
      refine ⟨v, w, rfl, ?_⟩
      have B1 := A1.set (i := i) q1
      have B2 := B1.1.set (i := j) (B1.2.rel q2)
      exact p1 _ W1 H1 B2.1 (B1.2.trans B2.2)
    | [], p1, r1 => exact p1.elim
    | [_], p1, r1 => exact p1.elim
    | _ :: _ :: _ :: _, p1, r1 => exact p1.elim
theorem s_set {fo fi fv : I} (h : PS X st (tAsg (tE X.K Wx ρ fv) (gSub (tE X.K Wx ρ fo) (tE X.K Wx ρ fi) rSetL))) : PS X st (tS X.K Wx ρ (sSet fo fi fv)) :=
  PSi h fun D σ H ⟨W, s, A, p⟩ => goS A p fun x d1 W1 s1 H1 r1 A1 _ p1 => goS A1 p1 fun y d2 W2 s2 H2 r2 A2 st2 p2 => goS A2 p2 fun z d3 W3 s3 H3 r3 A3 st3 p3 => by
    have r2 := st3.rel r2
    have r1 := (st2.trans st3).rel r1
    cases r2 with
    | ref hk =>
      rename_i k
      cases r3 with
      | int n =>
        simp only at p3
        cases e : s3.h[k]? with
        | none => rw [e] at p3; exact p3.elim
        | some ob =>
          rw [e] at p3
          cases ob with
          | lst l =>
            simp only at p3
            cases ei : L2.ixN l.length n with
            | none => rw [ei] at p3; exact p3.elim
            | some j =>
              rw [ei] at p3
              obtain ⟨vs, h1, hz, q⟩ := A3.hp k _ e
              have hl := q.length
              refine ⟨_, _, _, j, rfl, rfl, h1, by rw [hl]; exact ei, ?_⟩
              have B := A3.write e (q.set r1 j) (by rw [List.length_set]; exact hz)
              exact p3 σ W3 _ B.1 B.2
      | _ => exact p3.elim
    | _ => exact p3.elim
/-! ### a def -/
theorem start_abs {N : List Str} {W : Wd} {h : List Ob} {H : Hp} {vs : List V} {ds : List D} (A : Abs X.K W ⟨[], h⟩ [] H) (r : RelsW X.K W ⟨[], h⟩ H vs ds) (hn : vs.length ≤ N.length) :
    Abs X.K W ⟨ds.map .val ++ List.replicate (N.length - ds.length) .no, h⟩ (start N vs) H ∧ Stp W ⟨[], h⟩ H W ⟨ds.map .val ++ List.replicate (N.length - ds.length) .no, h⟩ H := by
  have hl := r.length
  have cases_ : ∀ (i : Nat) (x : Sl), (ds.map Sl.val ++ List.replicate (N.length - ds.length) Sl.no)[i]? = some x → (∃ d, ds[i]? = some d ∧ x = .val d) ∨ x = .no := fun i x e => by
    by_cases hi : i < ds.length
    · rw [List.getElem?_append_left (by simpa using hi), List.getElem?_map] at e
      obtain ⟨d, h1, h2⟩ := Option.map_eq_some_iff.mp e
      exact .inl ⟨d, h1, h2.symm⟩
    · rw [List.getElem?_append_right (by simpa using hi), List.getElem?_replicate] at e
      split at e
      · cases e; exact .inr rfl
      · cases e
  have noown : ∀ (i : Nat) (d : D), (ds.map Sl.val ++ List.replicate (N.length - ds.length) Sl.no)[i]? = some (.own d) → False := fun i d e => by
    rcases cases_ i _ e with ⟨d', _, z⟩ | z <;> cases z
  have sub : ∀ a, MW W ⟨ds.map .val ++ List.replicate (N.length - ds.length) .no, h⟩ a → MW W ⟨[], h⟩ a := fun a m => by
    rcases m with m | m | ⟨i, d, e, _⟩
    · exact .inl m
    · exact .inr (.inl m)
    · exact (noown i d e).elim
  have st : Stp W ⟨[], h⟩ H W ⟨ds.map .val ++ List.replicate (N.length - ds.length) .no, h⟩ H := ⟨rfl, fun _ _ => rfl, Nat.le_refl _, fun a o e m => ⟨e, fun z => m (sub a z)⟩, fun _ _ _ e => e⟩
  refine ⟨⟨?_, fun i d e => ?_, fun i d e => (noown i d e).elim, fun k o e => (A.hp k o e).stp st rfl, A.inj, fun i j d e h => (noown i d h).elim, fun k i d _ h => (noown i d h).elim, A.pI, fun i d e => (noown i d e).elim, A.pS⟩, st⟩
  · simp only [L2.start, List.length_append, List.length_map, List.length_replicate]
    omega
  · rcases cases_ i _ e with ⟨d', e1, z⟩ | z
    · cases z
      obtain ⟨v, e2, q⟩ := r.get e1
      refine ⟨v, ?_, st.rel q⟩
      unfold L2.start
      have hi := (List.getElem?_eq_some_iff.mp e2).1
      rw [List.getElem?_append_left (by simpa using hi), List.getElem?_map, e2]
      rfl
    · cases z
/-- dropping the slots at a def's end -/
theorem Abs.drop {K : PySem.W.Frag} {W : Wd} {s : S} {σ : L2.St} {H : Hp} (A : Abs K W s σ H) : Abs K W ⟨[], s.h⟩ [] H ∧ Stp W s H W ⟨[], s.h⟩ H := by
  have sub : ∀ a, MW W ⟨[], s.h⟩ a → MW W s a := fun a m => by
    rcases m with m | m | ⟨i, d, e, _⟩
    · exact .inl m
    · exact .inr (.inl m)
    · simp at e
  have st : Stp W s H W ⟨[], s.h⟩ H := ⟨rfl, fun _ _ => rfl, Nat.le_refl _, fun a o e m => ⟨e, fun z => m (sub a z)⟩, fun _ _ _ e => e⟩
  exact ⟨⟨rfl, fun i d e => by simp at e, fun i d e => by simp at e, fun k o e => (A.hp k o e).stp st rfl, A.inj, fun i j d e h => by simp at h, fun k i d _ h => by simp at h, A.pI, fun i d e => by simp at e, A.pS⟩, st⟩
/-- a def keeps what its body's word says -/
theorem fn_ok {P : Program} {w : World} {K : PySem.W.Frag} {mg : Str → Option Value} {base : Heap} {x qual : Str} {params : Arguments} {body : List Stmt} {scope : Scope} {dvs : List V} {kws : List (Str × V)} {f : Addr} {fd : FuncData} {N ps : List Str} {k : Nat} {ρ : Fns} {fb : IS}
    (F : FunD K x qual params body scope dvs kws f fd) (Sc : FnScope N ps scope)
    (hbody : ∀ (cdv : Value) (A : Around) (outer : List Env) (s : Shared) (H : Hp) (E : XK), Room k (A.deeper (envOfC qual scope s.heap.objs.size f cdv)) →
      PSs (cxOf (L2.CX P w) P w K mg base N qual scope f cdv A outer s H E) body (tS K (fun c d _ H' => E c d H') ρ fb)) : FnOk P w K mg base (L2.CX P w) (k + 1) f fd ps (spI K ps.length (runD N.length fb ρ)) := by
  have hpl : ps.length ≤ N.length := by have := congrArg List.length Sc.pre; rw [List.length_take] at this; omega
  refine F.ok Sc (fun vs H Q E h => ?_) (fun cdv A outer s H vs Q E hr h => ⟨_, hbody cdv A outer s H E hr, ?_⟩)
  · obtain ⟨_, _, _, _, _, h, _⟩ := h
    exact h
  · obtain ⟨W, hh, ds, A0, r, hl, p⟩ := h
    obtain ⟨A1, st1⟩ := start_abs (X := cxOf (L2.CX P w) P w K mg base N qual scope f cdv A outer s H E) (N := N) A0 r (by omega)
    refine ⟨W, _, A1, ?_⟩
    unfold runD at p
    cases e : fb ρ ⟨ds.map .val ++ List.replicate (N.length - ds.length) .no, hh⟩ with
    | bad => rw [e] at p; exact p
    | ex x s1 =>
      rw [e] at p
      intro c dd σ' W' H' A' st' q
      obtain ⟨A2, st2⟩ := A'.drop
      exact p c dd W' H' A2 ((st1.trans st').trans st2) q.ofCall
    | ok fl s1 =>
      rw [e] at p
      cases fl with
      | nx =>
        intro σ' W' H' A' st'
        obtain ⟨A2, st2⟩ := A'.drop
        exact p .non W' H' A2 ((st1.trans st').trans st2) .non
      | rt d =>
        intro v σ' W' H' A' st' q
        obtain ⟨A2, st2⟩ := A'.drop
        exact p v W' H' A2 ((st1.trans st').trans st2) (st2.rel q)
      | bk => exact p.elim
      | ct => exact p.elim
end
end B
end
section
set_option Elab.async false
set_option linter.all false
set_option maxRecDepth 100000
set_option maxHeartbeats 1000000
namespace B
open PySem PySem.Spec PyProof.Rows L2
/-! ### the text's own global names -/
inductive GE where
  /-- a def: how it may be called (positional arguments, keywords, the parameters' values) -/
  | fn (sh : List (Nat × List Str × List Ai))
  | cst (d : D)
structure Gm where
  G : Str → Option GE
  /-- names of built-ins that the top leaves alone -/
  bf : List Str
/-- the words of an expression, of a test -/
structure Tr where
  E : Scope → Expr → Option I
  T : Scope → Expr → Option IT
def slot (N : List Str) (x : Str) : Option Nat := N.findIdx? fun y => decide (y = x)
theorem slot_get {N : List Str} {x : Str} {i : Nat} (h : slot N x = some i) : N[i]? = some x := by
  obtain ⟨h1, h2, _⟩ := List.findIdx?_eq_some_iff_getElem.mp h
  rw [List.getElem?_eq_getElem h1]
  exact congrArg some (of_decide_eq_true h2)
def visB (sc : Scope) (x : Str) : Bool := match sc.names.lookup x with
  | some .local => true
  | some .cell => true
  | some .free => true
  | _ => false
theorem visB_ok {sc : Scope} {x : Str} (h : visB sc x = true) : Vis sc x := by
  unfold visB at h
  split at h
  · rename_i e; exact .inl e
  · rename_i e; exact .inr (.inl e)
  · rename_i e; exact .inr (.inr e)
  · cases h
def okName (x : Str) : Bool := !(x == ("__debug__" : Str)) && !(x == ("__classdict__" : Str)) && !(decide (x = "__name__"))
def glB (sc : Scope) (x : Str) : Bool := match sc.names.lookup x with
  | some .globalImplicit => true
  | _ => false
theorem glB_ok {sc : Scope} {x : Str} (h : glB sc x = true) : sc.names.lookup x = some .globalImplicit := by
  unfold glB at h
  split at h
  · rename_i e; exact e
  · cases h
/-- built-in functions by their names -/
def biOf (x : Str) : Option Bi :=
  if x = "len" then some .len else if x = "int" then some .int else if x = "list" then some .list else if x = "all" then some .all else if x = "isinstance" then some .isi else none
/-- built-in classes as values -/
def tyOf (x : Str) : Option String :=
  if x = "str" then some "str" else if x = "int" then some "int" else if x = "bool" then some "bool" else if x = "list" then some "list" else if x = "tuple" then some "tuple" else none
def notSet : Expr → Bool
  | .Set _ _ _ => false
  | _ => true
def notStar : Expr → Bool
  | .Starred _ _ => false
  | _ => true
def notSlice : Expr → Bool
  | .Slice _ _ _ _ => false
  | _ => true
def plainTest : Expr → Bool
  | .UnaryOp .Not _ _ => false
  | .BoolOp _ _ _ => false
  | .IfExp _ _ _ _ => false
  | .Compare _ _ _ _ => false
  | _ => true
def notCall : Expr → Bool
  | .Call _ _ _ _ => false
  | _ => true
def trL (r : Tr) (sc : Scope) : List Expr → Option IL
  | [] => some aNil
  | e :: es => if notStar e then (match r.E sc e, trL r sc es with
    | some f, some g => some (aCons f g)
    | _, _ => none) else none
def trK (r : Tr) (sc : Scope) : List Keyword → Option IL
  | [] => some aNil
  | ⟨some _, e, _⟩ :: es => (match r.E sc e, trK r sc es with
    | some f, some g => some (aCons f g)
    | _, _ => none)
  | ⟨none, _, _⟩ :: _ => none
def kwN : List Keyword → List Str
  | [] => []
  | ⟨some x, _, _⟩ :: es => x :: kwN es
  | ⟨none, _, _⟩ :: es => kwN es
def trAnd (r : Tr) (sc : Scope) : List Expr → Option I
  | [] => none
  | [e] => r.E sc e
  | e :: es => (match r.E sc e, trAnd r sc es with
    | some f, some g => some (iAnd f g)
    | _, _ => none)
def trOr (r : Tr) (sc : Scope) : List Expr → Option I
  | [] => none
  | [e] => r.E sc e
  | e :: es => (match r.E sc e, trOr r sc es with
    | some f, some g => some (iOr f g)
    | _, _ => none)
def trAndT (r : Tr) (sc : Scope) : List Expr → Option IT
  | [] => none
  | [e] => r.T sc e
  | e :: es => (match r.T sc e, trAndT r sc es with
    | some f, some g => some (tAnd f g)
    | _, _ => none)
def trOrT (r : Tr) (sc : Scope) : List Expr → Option IT
  | [] => none
  | [e] => r.T sc e
  | e :: es => (match r.T sc e, trOrT r sc es with
    | some f, some g => some (tOr f g)
    | _, _ => none)
def trO (r : Tr) (sc : Scope) : Option Expr → Option (Fns → S → R (Option Int))
  | none => some pNo
  | some e => (r.E sc e).map pInt
def find? (sh : List (Nat × List Str × List Ai)) (n : Nat) (ks : List Str) : Option (List Ai) := (sh.find? fun q => decide (q.1 = n) && decide (q.2.1 = ks)).map (·.2.2)
/-- names stored by a target -/
def tgN (N : List Str) (scope : Scope) : Expr → Option Nat
  | .Name x _ => (match scope.names.lookup x with
    | some .local => slot N x
    | some .cell => slot N x
    | _ => none)
  | _ => none
def tgNs (N : List Str) (scope : Scope) : List Expr → Option (List Nat)
  | [] => some []
  | e :: es => (match tgN N scope e, tgNs N scope es with
    | some i, some is => some (i :: is)
    | _, _ => none)
def trG (N : List Str) (scope : Scope) : Expr → Option (IG × List Nat)
  | .Name x p => (tgN N scope (.Name x p)).map fun i => (gV i, [i])
  | .Tuple es _ _ => (tgNs N scope es).map fun is => (gT is, is)
  | _ => none
def isTup : Expr → Bool
  | .Tuple _ _ _ => true
  | _ => false
/-- what is walked -/
def trW (M : Gm) (r : Tr) (sc : Scope) (tg : Expr) (iter : Expr) : Option IL := match iter with
  | .Call (.Name x _) es [] _ =>
    if x = "range" then (if glB sc x && decide (x ∈ M.bf) then (match es with
      | [a] => (trL r sc [a]).map wRange
      | [a, b] => (trL r sc [a, b]).map wRange
      | _ => none) else none)
    else if x = "zip" then (if glB sc x && decide (x ∈ M.bf) && isTup tg then (match es with
      | [a, b] => (trL r sc [a, b]).map wZip
      | _ => none) else none)
    else if x = "enumerate" then (if glB sc x && decide (x ∈ M.bf) && isTup tg then (match es with
      | [a] => (trL r sc [a]).map wEnum
      | _ => none) else none)
    else (r.E sc iter).map wSeq
  | _ => if notSet iter then (r.E sc iter).map wSeq else none
def ownOf (N : List Str) (scope : Scope) : List (Str × Nat) := scope.names.filterMap fun p => match p.2 with
  | .local => (slot N p.1).map fun i => (p.1, i)
  | .cell => (slot N p.1).map fun i => (p.1, i)
  | _ => none
def trIfs (r : Tr) (sc : Scope) : List Expr → Option IT
  | [] => some tYes
  | [c] => r.T sc c
  | _ => none
def subB (is vs : List Nat) : Bool := is.all fun i => decide (i ∈ vs)
/-- a comprehension's parts -/
def trC (M : Gm) (N : List Str) (r : Tr) (sc : Scope) (elt tg iter : Expr) (ifs : List Expr) (scope : Scope) : Option (IL × IG × IT × I × List Nat) :=
  if blkC N sc scope (ownOf N scope) then (match trW M r sc tg iter, trG N scope tg, trIfs r (relS scope sc) ifs, r.E (relS scope sc) elt with
    | some w, some (g, is), some t, some e => if subB is ((ownOf N scope).map (·.2)) then some (w, g, t, e, (ownOf N scope).map (·.2)) else none
    | _, _, _, _ => none) else none
def stepE (M : Gm) (N : List Str) (r : Tr) (sc : Scope) : Expr → Option I
  | .Constant (.int i) _ _ => some (iC (.int i))
  | .Constant (.bool b) _ _ => some (iC (.bl b))
  | .Constant .none _ _ => some (iC .non)
  | .Constant (.str x) _ _ => if x.cps.toList.length ≤ sizeLine then some (iC (.str x.cps.toList)) else none
  | .Name x _ => if okName x then (if visB sc x then (slot N x).map iV else if glB sc x then (match M.G x with
    | some (.cst d) => some (iC d)
    | some (.fn _) => none
    | none => if decide (x ∈ M.bf) then (tyOf x).map fun t => iC (.ty t) else none) else none) else none
  | .BinOp a op b _ => (match r.E sc a, r.E sc b with
    | some f, some g => some (iBin op f g)
    | _, _ => none)
  | .Compare a [op] [b] _ => if notSet b then (match r.E sc a, r.E sc b with
    | some f, some g => some (iCmp op f g)
    | _, _ => none) else none
  | .Compare a [o1, o2] [b, c] _ => if notSet c then (match r.E sc a, r.E sc b, r.E sc c with
    | some f, some g, some h => some (iChain o1 o2 f g h)
    | _, _, _ => none) else none
  | .BoolOp .And vs _ => trAnd r sc vs
  | .BoolOp .Or vs _ => trOr r sc vs
  | .UnaryOp .Not a _ => (r.E sc a).map iNot
  | .IfExp c a b _ => (match r.T sc c, r.E sc a, r.E sc b with
    | some t, some f, some g => some (iIf t f g)
    | _, _, _ => none)
  | .Tuple es _ _ => (trL r sc es).map iTup
  | .List es _ => (trL r sc es).map iLst
  | .Subscript a (.Slice lo hi none _) _ => (match r.E sc a, trO r sc lo, trO r sc hi with
    | some f, some l, some h => some (iSl f l h)
    | _, _, _ => none)
  | .Subscript a b _ => if notSlice b then (match r.E sc a, r.E sc b with
    | some f, some g => some (iIx f g)
    | _, _ => none) else none
  | .Call (.Name x _) es kws _ => if okName x && glB sc x then (match M.G x with
    | some (.fn sh) => (match find? sh es.length (kwN kws), trL r sc es, trK r sc kws with
      | some pm, some f, some g => some (iCall x pm f g)
      | _, _, _ => none)
    | some (.cst _) => none
    | none => if decide (x ∈ M.bf) then (match kws, es with
      | [], e :: es => (match biOf x, trL r sc (e :: es) with
        | some b, some f => some (iBi b f)
        | _, _ => none)
      | _, _ => none) else none) else none
  | .Call (.Attribute o m apos) [b] [] pos => if decide (m = "join") && notCall o && notStar b && (apos.endLine == pos.line) then (match r.E sc o, r.E sc b with
    | some f, some g => some (iMt .join f (aCons g aNil))
    | _, _ => none) else none
  | .ListComp elt [⟨tg, iter, ifs, 0⟩] scope _ => (match trC M N r sc elt tg iter ifs scope with
    | some (w, g, t, e, vs) => some (iComp w g t e vs)
    | none => none)
  | _ => none
def stepT (r : Tr) (sc : Scope) : Expr → Option IT
  | .UnaryOp .Not a _ => (r.T sc a).map tNot
  | .BoolOp .And vs _ => trAndT r sc vs
  | .BoolOp .Or vs _ => trOrT r sc vs
  | .Compare a [op] [b] _ => if notSet b then (match r.E sc a, r.E sc b with
    | some f, some g => some (tCmpB op f g)
    | _, _ => none) else none
  | .Compare a [o1, o2] [b, c] _ => if notSet c then (match r.E sc a, r.E sc b, r.E sc c with
    | some f, some g, some h => some (tChB o1 o2 f g h)
    | _, _, _ => none) else none
  | e => if plainTest e then (r.E sc e).map tTru else none
def trN (M : Gm) (N : List Str) : Nat → Tr
  | 0 => ⟨fun _ _ => none, fun _ _ => none⟩
  | n + 1 => ⟨stepE M N (trN M N n), stepT (trN M N n)⟩
/-! ### statements -/
def isComp : Expr → Bool
  | .ListComp _ _ _ _ => true
  | .SetComp _ _ _ _ => true
  | .DictComp _ _ _ _ _ => true
  | _ => false
def isTupE : Expr → Bool
  | .Tuple _ _ _ => true
  | _ => false
/-- x = [..]: a list that others may change, if x is among hv -/
def trEh (r : Tr) (sc : Scope) (hv : List Str) (x : Str) (e : Expr) : Option I := match e with
  | .List es p => if decide (x ∈ hv) then (trL r sc es).map iLstH else r.E sc (.List es p)
  | e => r.E sc e
def locB (sc : Scope) (x : Str) : Bool := match sc.names.lookup x with
  | some .local => true
  | _ => false
def trSs (rs : Stmt → Option IS) : List Stmt → Option IS
  | [] => some sNx
  | s :: ss => (match rs s, trSs rs ss with
    | some f, some g => some (sSeq f g)
    | _, _ => none)
def stepS (M : Gm) (N hv : List Str) (r : Tr) (sc : Scope) (rs : Stmt → Option IS) : Stmt → Option IS
  | .Return none _ => some sRetN
  | .Return (some e) _ => (trEh r sc hv "return" e).map sRet
  | .Pass _ => some sNx
  | .Expr e _ => if isComp e then none else (r.E sc e).map sDrop
  | .If c a b _ => (match r.T sc c, trSs rs a, trSs rs b with
    | some t, some f, some g => some (sIf t f g)
    | _, _, _ => none)
  | .Assign [.Name x p] (.ListComp elt [⟨tg, iter, ifs, 0⟩] scope pos) _ => (match trC M N r sc elt tg iter ifs scope, slot N x with
    | some (w, g, t, e, vs), some i => if locB sc x then (if (p.line == pos.line) && !(scope.names.any fun q => q.1 == x && (q.2 == .local || q.2 == .cell)) then some (sAsg (iComp w g t e vs) (gV i)) else none)
        else (match sc.names.lookup x with
          | some .cell => some (sAsg (iComp w g t e vs) (gV i))
          | _ => none)
    | _, _ => none)
  | .Assign [.Name x p] e _ => if isComp e then none else (match tgN N sc (.Name x p), trEh r sc hv x e with
    | some i, some f => some (sAsg f (gV i))
    | _, _ => none)
  | .Assign [.Tuple [.Name x _, .Name y _] _ _] (.Tuple [a, b] k p) _ => (match sc.names.lookup x, sc.names.lookup y with
    | some .cell, some .cell => (match slot N x, slot N y, r.E sc (.Tuple [a, b] k p) with
      | some i, some j, some f => some (sAsg f (gT [i, j]))
      | _, _, _ => none)
    | _, _ => none)
  | .Assign [.Subscript o i _] e _ => if notSlice i && !isComp e && !isTupE e then (match r.E sc o, r.E sc i, r.E sc e with
    | some f, some g, some h => some (sSet f g h)
    | _, _, _ => none) else none
  | .For tg iter body [] _ => if notSet iter then (match trW M r sc tg iter, trG N sc tg, trSs rs body with
    | some w, some (g, _), some b => some (sFor w g b)
    | _, _, _ => none) else none
  | _ => none
def trS (M : Gm) (N hv : List Str) (r : Tr) (sc : Scope) : Nat → Stmt → Option IS
  | 0 => fun _ => none
  | n + 1 => stepS M N hv r sc (trS M N hv r sc n)
/-- a def's body *-/
def trB (M : Gm) (N hv : List Str) (sc : Scope) (body : List Stmt) : Option IS := trSs (trS M N hv (trN M N 24) sc 12) body
end B
end
section
set_option Elab.async false
set_option linter.all false
set_option maxRecDepth 100000
set_option maxHeartbeats 2000000
namespace B
open PySem PySem.Spec PyProof.Rows L2
/-- what the text's global names are, over a context -/
structure GmOk (X : Cx) (M : Gm) (ρ : Fns) (k : Nat) : Prop where
  fn : ∀ x sh, M.G x = some (.fn sh) → ∃ f fd ps, X.mg x = some (.ref f) ∧ PySem.W.keepIn X.K (.ref f) = true ∧ FnOk X.prog X.w X.K X.mg X.base (L2.CX X.prog X.w) k f fd ps (spI X.K ps.length (ρ x)) ∧ ∀ q ∈ sh, CB X.K fd ps q.1 q.2.1 q.2.2
  cst : ∀ x d, M.G x = some (.cst d) → ∃ v u, X.mg x = some u ∧ RelV v u ∧ ∀ ia n Ms H, Rel X.K ia n Ms H v d
  bf : ∀ x ∈ M.bf, X.mg x = none
structure Cok (X : Cx) (Wx : WX) (M : Gm) (N : List Str) (ρ : Fns) (k : Nat) (sc : Scope) : Prop where
  en : X.N = N
  es : X.env.scope = sc
  calm : X.calm = true
  nd : X.N.Nodup
  hr : Room k X.A
  tk : Takes X Wx
  g : GmOk X M ρ k
  kd : sc.kind = .function
theorem Cok.hu {X : Cx} {Wx : WX} {M : Gm} {N : List Str} {ρ : Fns} {k : Nat} {sc : Scope} (c : Cok X Wx M N ρ k sc) : X.A.units + 64 < cLine := c.hr.units
theorem Cok.gl {X : Cx} {Wx : WX} {M : Gm} {N : List Str} {ρ : Fns} {k : Nat} {sc : Scope} (c : Cok X Wx M N ρ k sc) {x : Str} (h : glB sc x = true) : Gl X x := by
  show X.env.scope.names.lookup x = _
  rw [c.es]
  exact glB_ok h
/-- within a comprehension -/
theorem Cok.blk {X : Cx} {Wx : WX} {M : Gm} {N : List Str} {ρ : Fns} {k : Nat} {sc : Scope} (c : Cok X Wx M N ρ k sc) {s : Shared} {H : Hp} {scope : Scope} {C : Addr} {cl : List (Str × Addr)} {fp : List Addr} (hk : scope.kind = .function) :
    Cok (X.blk s H scope (compEnvC scope cl C X.env) fp) (fun _ _ _ _ => False) M N ρ k (relS scope sc) := by
  refine ⟨c.en, ?_, c.calm, c.nd, c.hr, takes0, ⟨c.g.fn, c.g.cst, c.g.bf⟩, hk⟩
  rw [← c.es]
  rfl
structure TrOk (M : Gm) (N : List Str) (ρ : Fns) (k : Nat) (r : Tr) : Prop where
  E : ∀ sc e f, r.E sc e = some f → ∀ X Wx, Cok X Wx M N ρ k sc → PE X e (tE X.K Wx ρ f)
  T : ∀ sc e f, r.T sc e = some f → ∀ X Wx, Cok X Wx M N ρ k sc → PT X e (tT X.K Wx ρ f)
/-! ### small facts of the syntax -/
theorem star_ok {e : Expr} {es : List Expr} {env : Env} (h : notStar e = true) : starEach (e :: es) env = (false, eval e env) :: starEach es env := by
  cases e <;> first | rfl | cases h
theorem any_backTo {pos : Pos} {l : List (Bool × Sem Value)} (h : l.any (·.1) = false) : (backTo pos l).any (·.1) = false := by
  unfold backTo
  rw [List.any_map]
  exact h
theorem set_ok {e : Expr} (h : notSet e = true) : ∀ es k p, e ≠ .Set es k p := by
  intro es k p z
  subst z
  cases h
theorem fold_ok {e : Expr} {env : Env} (h : notSet e = true) : ∀ x, foldedSetIterable e env x = pure x := by
  intro x
  cases e <;> first | rfl | cases h
theorem marks_ok {op : CmpOp} {b : Expr} (h : notSet b = true) : behindInMarks op b = false := mark_of (.inr (set_ok h))
theorem plain_ok {e : Expr} {env : Env} (h : plainTest e = true) : ∀ whole, isTrue e env whole = (do let v ← whole; standAt e.pos; holding [v] (truthy v)) := by
  intro whole
  cases e with
  | UnaryOp op a p => cases op <;> first | rfl | cases h
  | BoolOp op a p => cases h
  | IfExp a b c p => cases h
  | Compare a b c p => cases h
  | _ => rfl
theorem ix_ok {b : Expr} (h : notSlice b = true) : PlainIx b := by
  intro o i
  cases b <;> first | rfl | cases h
theorem base_ok {o : Expr} {m : Str} {env : Env} (h : notCall o = true) : attributeBase o m env (eval o env) = eval o env := by
  cases o <;> first | rfl | cases h
theorem swaps_ok {e : Expr} {t : Option Expr} {l : Nat} {env : Env} (h : isComp e = false) : swapsWith e t l env = pure false := by
  cases e <;> first | rfl | cases h
section
variable {X : Cx} {Wx : WX} {M : Gm} {N : List Str} {ρ : Fns} {k : Nat} {sc : Scope} {r : Tr}
theorem trL_ok (o : TrOk M N ρ k r) (c : Cok X Wx M N ρ k sc) : ∀ {es : List Expr} {f : IL}, trL r sc es = some f → PA X es (tA X.K Wx ρ f) ∧ (starEach es X.env).any (·.1) = false ∧ (∀ s ds s', f ρ s = .ok ds s' → ds.length = es.length) ∧ (es = [] ∧ f = aNil ∨ ∃ e r, es = e :: r ∧ starEach (e :: r) X.env = (false, eval e X.env) :: starEach r X.env)
  | [], f, h => by
    cases h
    exact ⟨p_nil, rfl, fun s ds s' h => by cases h; rfl, .inl ⟨rfl, rfl⟩⟩
  | e :: es, f, h => by
    unfold trL at h
    split at h
    · rename_i hs
      split at h
      · rename_i f1 g1 e1 e2
        cases h
        obtain ⟨q1, q2, q3, _⟩ := trL_ok o c e2
        refine ⟨p_cons (o.E sc e f1 e1 X Wx c) q1 (star_ok hs), ?_, fun s ds s' h => ?_, .inr ⟨e, es, rfl, star_ok hs⟩⟩
        · rw [star_ok hs, List.any_cons, q2]; rfl
        · simp only [aCons] at h
          cases e3 : f1 ρ s with
          | bad => rw [e3] at h; cases h
          | ex x s1 => rw [e3] at h; cases h
          | ok d s1 =>
            rw [e3] at h
            simp only [bind_ok] at h
            cases e4 : g1 ρ s1 with
            | bad => rw [e4] at h; cases h
            | ex x s1 => rw [e4] at h; cases h
            | ok d2 s2 =>
              rw [e4] at h
              cases h
              simp [q3 _ _ _ e4]
      · cases h
    · cases h
theorem trK_ok (o : TrOk M N ρ k r) (c : Cok X Wx M N ρ k sc) {pos : Pos} : ∀ {es : List Keyword} {f : IL}, trK r sc es = some f → PK X es (tA X.K Wx ρ f) ∧ (∀ s ds s', f ρ s = .ok ds s' → ds.length = (kwN es).length) ∧ (backToKw pos (keywordEach es X.env)).all (·.1.isSome) = true ∧
    (backToKw pos (keywordEach es X.env)).filterMap (·.1) = kwN es ∧ (backToKw pos (keywordEach es X.env)).any (·.1.isNone) = false
  | [], f, h => by
    cases h
    exact ⟨⟨fun pos pins s σ H Q I q => pk_nil.run pos pins s σ H Q I (let ⟨W, s, A, p⟩ := q; p [] W H A .refl .nil)⟩, fun s ds s' h => by cases h; rfl, rfl, rfl, rfl⟩
  | ⟨none, e, p⟩ :: es, f, h => by cases h
  | ⟨some x, e, p⟩ :: es, f, h => by
    unfold trK at h
    split at h
    · rename_i f1 g1 e1 e2
      cases h
      obtain ⟨q1, q2, q3, q4, q5⟩ := trK_ok o c e2
      refine ⟨⟨fun pos pins s σ H Q I q => (pk_cons (o.E sc e f1 e1 X Wx c) q1).run pos pins s σ H Q I ?_⟩, fun s ds s' h => ?_, ?_, ?_, ?_⟩
      · obtain ⟨W, s, A, p⟩ := q
        exact go A p fun x d1 W1 s1 H1 r1 A1 _ p1 => go A1 p1 fun y d2 W2 s2 H2 r2 A2 st2 p2 => p2 _ W2 H2 A2 .refl (.cons (st2.rel r1) r2)
      · simp only [aCons] at h
        cases e3 : f1 ρ s with
        | bad => rw [e3] at h; cases h
        | ex x s1 => rw [e3] at h; cases h
        | ok d s1 =>
          rw [e3] at h
          simp only [bind_ok] at h
          cases e4 : g1 ρ s1 with
          | bad => rw [e4] at h; cases h
          | ex x s1 => rw [e4] at h; cases h
          | ok d2 s2 =>
            rw [e4] at h
            cases h
            simp [kwN, q2 _ _ _ e4]
      · exact q3
      · show x :: (backToKw pos (keywordEach es X.env)).filterMap (·.1) = x :: kwN es
        rw [q4]
      · exact q5
    · cases h
theorem trAnd_ok (o : TrOk M N ρ k r) (c : Cok X Wx M N ρ k sc) {pos : Pos} : ∀ {es : List Expr} {f : I}, trAnd r sc es = some f → PE X (.BoolOp .And es pos) (tE X.K Wx ρ f)
  | [], f, h => by cases h
  | [e], f, h => p_one (o.E sc e f h X Wx c)
  | e :: e' :: es, f, h => by
    unfold trAnd at h
    split at h
    · rename_i f1 g1 e1 e2
      cases h
      exact p_and (o.E sc e f1 e1 X Wx c) (trAnd_ok o c e2)
    · cases h
theorem trOr_ok (o : TrOk M N ρ k r) (c : Cok X Wx M N ρ k sc) {pos : Pos} : ∀ {es : List Expr} {f : I}, trOr r sc es = some f → PE X (.BoolOp .Or es pos) (tE X.K Wx ρ f)
  | [], f, h => by cases h
  | [e], f, h => p_one (o.E sc e f h X Wx c)
  | e :: e' :: es, f, h => by
    unfold trOr at h
    split at h
    · rename_i f1 g1 e1 e2
      cases h
      exact p_or (o.E sc e f1 e1 X Wx c) (trOr_ok o c e2)
    · cases h
theorem trAndT_ok (o : TrOk M N ρ k r) (c : Cok X Wx M N ρ k sc) {pos : Pos} : ∀ {es : List Expr} {f : IT}, trAndT r sc es = some f → PW X (.BoolOp .And es pos) (tT X.K Wx ρ f)
  | [], f, h => by cases h
  | [e], f, h => q_and1 (o.T sc e f h X Wx c)
  | e :: e' :: es, f, h => by
    unfold trAndT at h
    split at h
    · rename_i f1 g1 e1 e2
      cases h
      exact q_and (o.T sc e f1 e1 X Wx c) (trAndT_ok o c e2)
    · cases h
theorem trOrT_ok (o : TrOk M N ρ k r) (c : Cok X Wx M N ρ k sc) {pos : Pos} : ∀ {es : List Expr} {f : IT}, trOrT r sc es = some f → PW X (.BoolOp .Or es pos) (tT X.K Wx ρ f)
  | [], f, h => by cases h
  | [e], f, h => q_or1 (o.T sc e f h X Wx c)
  | e :: e' :: es, f, h => by
    unfold trOrT at h
    split at h
    · rename_i f1 g1 e1 e2
      cases h
      exact q_or (o.T sc e f1 e1 X Wx c) (trOrT_ok o c e2)
    · cases h
theorem trO_ok (o : TrOk M N ρ k r) (c : Cok X Wx M N ρ k sc) {e : Option Expr} {f : Fns → S → R (Option Int)} (h : trO r sc e = some f) : PO X e (tO X.K Wx ρ f) := by
  cases e with
  | none => cases h; exact o_no
  | some e =>
    obtain ⟨g, h1, rfl⟩ := Option.map_eq_some_iff.mp h
    exact o_int (o.E sc e g h1 X Wx c)
theorem stepT_ok (o : TrOk M N ρ k r) (c : Cok X Wx M N ρ k sc) {e : Expr} {f : IT} (h : stepT r sc e = some f) : PT X e (tT X.K Wx ρ f) := by
  unfold stepT at h
  split at h
  · obtain ⟨g, h1, rfl⟩ := Option.map_eq_some_iff.mp h
    exact q_not (o.T sc _ g h1 X Wx c)
  · exact (trAndT_ok o c h).pt
  · exact (trOrT_ok o c h).pt
  · split at h
    · rename_i hs
      split at h
      · rename_i f1 g1 e1 e2
        cases h
        exact q_cmp c.hu (marks_ok hs) (o.E sc _ f1 e1 X Wx c) (o.E sc _ g1 e2 X Wx c)
      · cases h
    · cases h
  · split at h
    · rename_i hs
      split at h
      · rename_i f1 g1 h1 e1 e2 e3
        cases h
        exact q_chain c.hu (marks_ok hs) (o.E sc _ f1 e1 X Wx c) (o.E sc _ g1 e2 X Wx c) (o.E sc _ h1 e3 X Wx c)
      · cases h
    · cases h
  · split at h
    · rename_i hs
      obtain ⟨g, h1, rfl⟩ := Option.map_eq_some_iff.mp h
      exact q_tru (o.E sc _ g h1 X Wx c) (plain_ok hs)
    · cases h
end
end B
end
section
set_option Elab.async false
set_option linter.all false
set_option maxRecDepth 100000
set_option maxHeartbeats 4000000
namespace B
open PySem PySem.Spec PyProof.Rows L2
/-- names of the written scope may be stored -/
def TgC (X : Cx) (scope : Scope) : Prop := ∀ x kk, scope.names.lookup x = some kk → (kk = .local ∨ kk = .cell) → Loc X.env.scope x ∧ (X.fn x = true ∨ X.env.scope.names.lookup x = some .local)
section
variable {M : Gm} {N : List Str} {ρ : Fns} {k : Nat} {sc scope : Scope} {r : Tr}
theorem tgN_ok {e : Expr} {i : Nat} (h : tgN N scope e = some i) : ∃ x p kk, e = .Name x p ∧ N[i]? = some x ∧ scope.names.lookup x = some kk ∧ (kk = .local ∨ kk = .cell) := by
  unfold tgN at h
  split at h
  · split at h
    · rename_i e; exact ⟨_, _, _, rfl, slot_get h, e, .inl rfl⟩
    · rename_i e; exact ⟨_, _, _, rfl, slot_get h, e, .inr rfl⟩
    · cases h
  · cases h
theorem pg_of {X : Cx} {e : Expr} {i : Nat} (hN : X.N = N) (nd : X.N.Nodup) (ht : TgC X scope) (h : tgN N scope e = some i) : PG X e (gName i) := by
  obtain ⟨x, p, kk, rfl, h1, h2, h3⟩ := tgN_ok h
  exact pg_name nd (by rw [hN]; exact h1) (ht x kk h2 h3).1 (ht x kk h2 h3).2
theorem pgs_of {X : Cx} (hN : X.N = N) (nd : X.N.Nodup) (ht : TgC X scope) : ∀ {es : List Expr} {is : List Nat}, tgNs N scope es = some is → PGs X es (gNames is) ∧ (assignEach es X.env).length = is.length ∧ (assignEach es X.env).findIdx? (·.1) = none
  | [], is, h => by cases h; exact ⟨pgs_nil, rfl, rfl⟩
  | e :: es, is, h => by
    unfold tgNs at h
    split at h
    · rename_i i is' h1 h2
      cases h
      obtain ⟨q1, q2, q3⟩ := pgs_of hN nd ht h2
      obtain ⟨x, p, kk, rfl, _⟩ := tgN_ok h1
      refine ⟨pgs_cons (pg_of hN nd ht h1) q1 rfl, ?_, ?_⟩
      · show (assignEach es X.env).length + 1 = is'.length + 1
        rw [q2]
      · show List.findIdx? _ ((false, assign (.Name x p) X.env) :: assignEach es X.env) = none
        rw [List.findIdx?_cons, q3]
        rfl
    · cases h
theorem trG_ok {tg : Expr} {g : IG} {is : List Nat} (h : trG N scope tg = some (g, is)) (K : PySem.W.Frag) : ∃ gt, GOk K g gt ∧ (∀ vs : List Nat, (∀ i ∈ is, i ∈ vs) → GW gt vs) ∧ ∀ X : Cx, X.K = K → X.N = N → X.N.Nodup → X.calm = true → TgC X scope → PG X tg gt := by
  unfold trG at h
  split at h
  · obtain ⟨i, h1, h2⟩ := Option.map_eq_some_iff.mp h
    cases h2
    exact ⟨gName i, fun W s σ H v d s' Q A r e q => by cases e; exact q _ (A.set r).1 (A.set r).2, fun vs hv => gw_v (hv i (by simp)), fun X _ hN nd _ ht => pg_of hN nd ht h1⟩
  · obtain ⟨is', h1, h2⟩ := Option.map_eq_some_iff.mp h
    cases h2
    refine ⟨gTup K is.length (gNames is), fun W s σ H v d s' Q A r e q => ?_, fun vs hv => gw_t hv, fun X hK hN nd hc ht => ?_⟩
    · cases r with
      | tup t z r =>
        refine ⟨_, _, rfl, t.sq, ?_, gok_vs is _ W s σ H _ s' Q A r e q⟩
        rw [r.length]
        exact (show ∀ (is : List Nat) (ds : List D) (s s' : S), gVs is ds s = some s' → ds.length = is.length from fun is => by
          induction is with
          | nil => intro ds s s' h; cases ds with | nil => rfl | cons _ _ => cases h
          | cons i is ih => intro ds s s' h; cases ds with | nil => cases h | cons d ds => simp [ih ds _ s' h]) is _ s s' e
      | _ => cases e
    · subst hK
      obtain ⟨q1, q2, q3⟩ := pgs_of hN nd ht h1
      exact pg_tup hc q1 q2 q3
  · cases h
variable {X : Cx} {Wx : WX}
theorem isTup_ok {e : Expr} (h : isTup e = true) : ∃ es kk p, e = .Tuple es kk p := by
  cases e <;> first | exact ⟨_, _, _, rfl⟩ | cases h
theorem trW_ok (o : TrOk M N ρ k r) (c : Cok X Wx M N ρ k sc) {tg iter : Expr} {w : IL} (h : trW M r sc tg iter = some w) : PI X tg iter (tJ X.K Wx ρ w) := by
  unfold trW at h
  split at h
  · rename_i x p es pos
    split at h
    · rename_i hx
      subst hx
      split at h
      · rename_i hb
        simp only [Bool.and_eq_true, decide_eq_true_eq] at hb
        split at h
        · obtain ⟨f, h1, rfl⟩ := Option.map_eq_some_iff.mp h
          obtain ⟨q1, q2, q3, q4⟩ := trL_ok o c h1
          rcases q4 with ⟨z, _⟩ | ⟨e, r', z, hs⟩
          · cases z
          · cases z
            exact w_range1 (c.gl hb.1) (c.g.bf _ hb.2) q1 hs q3
        · rename_i a b
          obtain ⟨f, h1, rfl⟩ := Option.map_eq_some_iff.mp h
          obtain ⟨q1, q2, q3, q4⟩ := trL_ok o c h1
          have hb' : starEach [b] X.env = [(false, eval b X.env)] := by
            unfold trL at h1
            split at h1
            · split at h1
              · rename_i e2
                unfold trL at e2
                split at e2
                · rename_i hs; exact star_ok hs
                · cases e2
              · cases h1
            · cases h1
          rcases q4 with ⟨z, _⟩ | ⟨e, r', z, hs⟩
          · cases z
          · cases z
            exact w_range2 (c.gl hb.1) (c.g.bf _ hb.2) q1 (by rw [hs, hb']) hb' q3
        · cases h
      · cases h
    · split at h
      · rename_i hx
        subst hx
        split at h
        · rename_i hb
          simp only [Bool.and_eq_true, decide_eq_true_eq] at hb
          obtain ⟨ts, kk, tp, rfl⟩ := isTup_ok hb.2
          split at h
          · rename_i a b
            obtain ⟨f, h1, rfl⟩ := Option.map_eq_some_iff.mp h
            obtain ⟨q1, q2, q3, q4⟩ := trL_ok o c h1
            rcases q4 with ⟨z, _⟩ | ⟨e, r', z, hs⟩
            · cases z
            · cases z
              refine w_zip (c.gl hb.1.1) (c.g.bf _ hb.1.2) q1 hs (any_backTo ?_) q3
              rw [hs, List.any_cons] at q2
              simpa using q2
          · cases h
        · cases h
      · split at h
        · rename_i hx
          subst hx
          split at h
          · rename_i hb
            simp only [Bool.and_eq_true, decide_eq_true_eq] at hb
            obtain ⟨ts, kk, tp, rfl⟩ := isTup_ok hb.2
            split at h
            · obtain ⟨f, h1, rfl⟩ := Option.map_eq_some_iff.mp h
              obtain ⟨q1, q2, q3, q4⟩ := trL_ok o c h1
              rcases q4 with ⟨z, _⟩ | ⟨e, r', z, hs⟩
              · cases z
              · cases z
                exact w_enum (c.gl hb.1.1) (c.g.bf _ hb.1.2) q1 hs q3
            · cases h
          · cases h
        · obtain ⟨f, h1, rfl⟩ := Option.map_eq_some_iff.mp h
          exact w_seq (o.E sc _ f h1 X Wx c)
  · split at h
    · obtain ⟨f, h1, rfl⟩ := Option.map_eq_some_iff.mp h
      exact w_seq (o.E sc _ f h1 X Wx c)
    · cases h
theorem trIfs_ok (o : TrOk M N ρ k r) (c : Cok X Wx M N ρ k sc) {ifs : List Expr} {t : IT} (h : trIfs r sc ifs = some t) : PTs X ifs (tT X.K Wx ρ t) := by
  unfold trIfs at h
  split at h
  · cases h
    refine ⟨fun pins s σ H Q I q => pts_nil.run pins s σ H Q I ?_⟩
    obtain ⟨W, s, A, p⟩ := q
    exact p _ W H A .refl rfl
  · exact pts_one (o.T sc _ t h X Wx c)
  · cases h
/-- a comprehension's parts are right -/
theorem trC_ok (o : TrOk M N ρ k r) (c : Cok X Wx M N ρ k sc) {elt tg iter : Expr} {ifs : List Expr} {w : IL} {g : IG} {t : IT} {e : I} {vs : List Nat} (h : trC M N r sc elt tg iter ifs scope = some (w, g, t, e, vs)) :
    ∃ own gt, vs = own.map (·.2) ∧ BlkOk X.N X.env.scope scope own ∧ PI X tg iter (tJ X.K Wx ρ w) ∧ GOk X.K g gt ∧ GW gt vs ∧ (∀ (s : Shared) (H : Hp) (C : Addr) (cl : List (Str × Addr)) (fp : List Addr), PG (X.blk s H scope (compEnvC scope cl C X.env) fp) tg gt) ∧
      (∀ (s : Shared) (H : Hp) (C : Addr) (cl : List (Str × Addr)) (fp : List Addr), PTs (X.blk s H scope (compEnvC scope cl C X.env) fp) ifs (tT X.K (fun _ _ _ _ => False) ρ t)) ∧
      ∀ (s : Shared) (H : Hp) (C : Addr) (cl : List (Str × Addr)) (fp : List Addr), PE (X.blk s H scope (compEnvC scope cl C X.env) fp) elt (tE X.K (fun _ _ _ _ => False) ρ e) := by
  unfold trC at h
  split at h
  · rename_i hb
    have bk := blkOk_by hb
    split at h
    · rename_i w' g' is' t' e' h1 h2 h3 h4
      split at h
      · rename_i hs
        cases h
        obtain ⟨gt, gk, gw, pg⟩ := trG_ok h2 X.K
        have sub : ∀ i ∈ is', i ∈ (ownOf N scope).map (·.2) := fun i hi => of_decide_eq_true (List.all_eq_true.mp hs i hi)
        refine ⟨ownOf N scope, gt, rfl, by rw [c.en, c.es]; exact bk, trW_ok o c h1, gk, gw _ sub, fun s H C cl fp => ?_, fun s H C cl fp => trIfs_ok o (c.blk bk.kind) h3, fun s H C cl fp => o.E _ _ _ h4 _ _ (c.blk bk.kind)⟩
        refine pg _ rfl c.en c.nd c.calm fun x kk hx hk => ?_
        have kp : (relS scope X.env.scope).names.lookup x = some kk := lookup_relS_keep (by rcases hk with z | z <;> (rw [z]; decide)) hx
        rcases hk with rfl | rfl
        · exact ⟨.inl kp, .inr kp⟩
        · exact ⟨.inr kp, .inl (by show (scope.names.lookup x == some .cell) = true; rw [hx]; rfl)⟩
      · cases h
    · cases h
  · cases h
end
end B
end
section
set_option Elab.async false
set_option linter.all false
set_option maxRecDepth 100000
set_option maxHeartbeats 4000000
namespace B
open PySem PySem.Spec PyProof.Rows L2
section
variable {X : Cx} {Wx : WX} {M : Gm} {N : List Str} {ρ : Fns} {k : Nat} {sc scope : Scope} {r : Tr}
theorem okName_ok {x : Str} (h : okName x = true) : (x == ("__debug__" : Str)) = false ∧ (x == ("__classdict__" : Str)) = false ∧ x ≠ "__name__" := by
  unfold okName at h
  simp only [Bool.and_eq_true, Bool.not_eq_true', decide_eq_false_iff_not] at h
  exact ⟨h.1.1, h.1.2, h.2⟩
theorem ty_boot {x : Str} {t : String} (h : tyOf x = some t) : bootBuiltins x = some (.type t) := by
  unfold tyOf at h
  split at h
  · rename_i e; cases h; subst e; decide +kernel
  · split at h
    · rename_i e; cases h; subst e; decide +kernel
    · split at h
      · rename_i e; cases h; subst e; decide +kernel
      · split at h
        · rename_i e; cases h; subst e; decide +kernel
        · split at h
          · rename_i e; cases h; subst e; decide +kernel
          · cases h
theorem bi_ok {b : Bi} {x : Str} {p pos : Pos} {e : Expr} {es : List Expr} {fl : IL} (c : Cok X Wx M N ρ k sc) (h : biOf x = some b) (hg : Gl X x) (hm : X.mg x = none) (ha : PA X (e :: es) (tA X.K Wx ρ fl)) (hn : x ≠ "__name__") (hdb : (x == ("__debug__" : Str)) = false)
    (he : starEach (e :: es) X.env = (false, eval e X.env) :: starEach es X.env) (hpl : (backTo pos (starEach es X.env)).any (·.1) = false) : PE X (.Call (.Name x p) (e :: es) [] pos) (tE X.K Wx ρ (iBi b fl)) := by
  unfold biOf at h
  split at h
  · rename_i e; cases h; subst e; exact p_bi (f := .len) c_len hg hm (by decide +kernel) ha hn hdb he hpl
  · split at h
    · rename_i e; cases h; subst e; exact p_biT (f := .int) c_int hg hm (by decide +kernel) ha hn hdb he hpl
    · split at h
      · rename_i e; cases h; subst e; exact p_biT (f := .list) c_list hg hm (by decide +kernel) ha hn hdb he hpl
      · split at h
        · rename_i e; cases h; subst e; exact p_bi (f := .all) (c_all c.calm) hg hm (by decide +kernel) ha hn hdb he hpl
        · split at h
          · rename_i e; cases h; subst e; exact p_bi (f := .isi) c_isi hg hm (by decide +kernel) ha hn hdb he hpl
          · cases h
theorem find_ok {sh : List (Nat × List Str × List Ai)} {n : Nat} {ks : List Str} {pm : List Ai} (h : find? sh n ks = some pm) : (n, ks, pm) ∈ sh := by
  unfold find? at h
  obtain ⟨q, h1, rfl⟩ := Option.map_eq_some_iff.mp h
  have h2 := List.find?_some h1
  simp only [Bool.and_eq_true, decide_eq_true_eq] at h2
  obtain ⟨q1, q2, q3⟩ := q
  obtain ⟨rfl, rfl⟩ := h2
  exact List.mem_of_find?_eq_some h1
theorem trW_set {tg iter : Expr} {w : IL} (h : trW M r sc tg iter = some w) : notSet iter = true := by
  unfold trW at h
  split at h
  · rfl
  · split at h
    · assumption
    · cases h
theorem trC_set {elt tg iter : Expr} {ifs : List Expr} {q : IL × IG × IT × I × List Nat} (h : trC M N r sc elt tg iter ifs scope = some q) : notSet iter = true := by
  unfold trC at h
  split at h
  · split at h
    · rename_i h1 _ _ _; exact trW_set h1
    · cases h
  · cases h
theorem stepE_ok (o : TrOk M N ρ k r) (c : Cok X Wx M N ρ k sc) {e : Expr} {f : I} (h : stepE M N r sc e = some f) : PE X e (tE X.K Wx ρ f) := by
  unfold stepE at h
  split at h
  · cases h; exact p_int
  · cases h; exact p_bl
  · cases h; exact p_non
  · split at h
    · rename_i hz; cases h; exact p_str hz
    · cases h
  · rename_i x p
    split at h
    · rename_i hn
      obtain ⟨n1, n2, n3⟩ := okName_ok hn
      split at h
      · rename_i hv
        obtain ⟨i, h1, rfl⟩ := Option.map_eq_some_iff.mp h
        exact p_v (pe_var (by rw [c.en]; exact slot_get h1) (by rw [c.es]; exact visB_ok hv) n1 n2)
      · split at h
        · rename_i hg
          split at h
          · rename_i d hG
            cases h
            obtain ⟨v, u, h1, h2, h3⟩ := c.g.cst x d hG
            exact p_c (pe_glob (c.gl hg) h1 h2 n1) h3
          · cases h
          · split at h
            · rename_i hb
              obtain ⟨t, h1, rfl⟩ := Option.map_eq_some_iff.mp h
              exact p_c (pe_bltn (v := .ty t) (c.gl hg) (c.g.bf _ (of_decide_eq_true hb)) (ty_boot h1) rfl n3 n1) fun _ _ _ _ => .ty t
            · cases h
        · cases h
    · cases h
  · split at h
    · rename_i f1 g1 e1 e2
      cases h
      exact p_bin (o.E sc _ f1 e1 X Wx c) (o.E sc _ g1 e2 X Wx c)
    · cases h
  · split at h
    · rename_i hs
      split at h
      · rename_i f1 g1 e1 e2
        cases h
        exact p_cmp c.hu (marks_ok hs) (o.E sc _ f1 e1 X Wx c) (o.E sc _ g1 e2 X Wx c)
      · cases h
    · cases h
  · split at h
    · rename_i hs
      split at h
      · rename_i f1 g1 h1 e1 e2 e3
        cases h
        exact p_chain c.hu (marks_ok hs) (o.E sc _ f1 e1 X Wx c) (o.E sc _ g1 e2 X Wx c) (o.E sc _ h1 e3 X Wx c)
      · cases h
    · cases h
  · exact trAnd_ok o c h
  · exact trOr_ok o c h
  · obtain ⟨g, h1, rfl⟩ := Option.map_eq_some_iff.mp h
    exact p_not (o.E sc _ g h1 X Wx c)
  · split at h
    · rename_i t1 f1 g1 e1 e2 e3
      cases h
      exact p_if (o.T sc _ t1 e1 X Wx c) (o.E sc _ f1 e2 X Wx c) (o.E sc _ g1 e3 X Wx c)
    · cases h
  · obtain ⟨g, h1, rfl⟩ := Option.map_eq_some_iff.mp h
    exact p_tup (trL_ok o c h1).1
  · obtain ⟨g, h1, rfl⟩ := Option.map_eq_some_iff.mp h
    exact p_lst (trL_ok o c h1).1
  · split at h
    · rename_i f1 l1 u1 e1 e2 e3
      cases h
      exact p_sl (o.E sc _ f1 e1 X Wx c) (trO_ok o c e2) (trO_ok o c e3)
    · cases h
  · split at h
    · rename_i hs
      split at h
      · rename_i f1 g1 e1 e2
        cases h
        exact p_ix (ix_ok hs) (o.E sc _ f1 e1 X Wx c) (o.E sc _ g1 e2 X Wx c)
      · cases h
    · cases h
  · rename_i x p es kws pos
    split at h
    · rename_i hn
      simp only [Bool.and_eq_true] at hn
      obtain ⟨n1, n2, n3⟩ := okName_ok hn.1
      split at h
      · rename_i sh hG
        split at h
        · rename_i pm f1 g1 e1 e2 e3
          cases h
          obtain ⟨fa, fd, ps, h1, h2, h3, h4⟩ := c.g.fn x sh hG
          obtain ⟨q1, q2, q3, q4⟩ := trL_ok o c e2
          obtain ⟨k1, k2, k3, k4, k5⟩ := trK_ok o c (pos := pos) e3
          exact p_call h3 c.hr (c.gl hn.2) h1 h2 (h4 _ (find_ok e1)) c.tk q1 k1 q3 k2 n1 q4 (any_backTo q2) k3 k4 k5
        · cases h
      · cases h
      · split at h
        · rename_i hb
          split at h
          · rename_i e es' 
            split at h
            · rename_i b f1 e1 e2
              cases h
              obtain ⟨q1, q2, q3, q4⟩ := trL_ok o c e2
              rcases q4 with ⟨z, _⟩ | ⟨e', r', z, hs⟩
              · cases z
              · cases z
                rw [hs, List.any_cons] at q2
                exact bi_ok c e1 (c.gl hn.2) (c.g.bf _ (of_decide_eq_true hb)) q1 n3 n1 hs (any_backTo (by simpa using q2))
            · cases h
          · cases h
        · cases h
    · cases h
  · split at h
    · rename_i hb
      simp only [Bool.and_eq_true, decide_eq_true_eq] at hb
      obtain ⟨⟨⟨hm, hc⟩, hs⟩, hl⟩ := hb
      subst hm
      split at h
      · rename_i f1 g1 e1 e2
        cases h
        exact p_join (o.E sc _ f1 e1 X Wx c) (o.E sc _ g1 e2 X Wx c) (star_ok hs) (base_ok hc) hl
      · cases h
    · cases h
  · split at h
    · rename_i w g t e' vs hC
      cases h
      obtain ⟨own, gt, rfl, bk, pi, gk, gw, pg, pt, pe⟩ := trC_ok o c hC
      exact PEi (pe_lc c.calm c.nd pi bk pg pt pe (fold_ok (trC_set hC))) fun σ H Q q => comp_imp gk gw q
    · cases h
  · cases h
theorem trN_ok : ∀ n, TrOk M N ρ k (trN M N n) := fun n => by
  induction n with
  | zero => exact ⟨fun _ _ _ h => (by cases h), fun _ _ _ h => (by cases h)⟩
  | succ n ih => exact ⟨fun sc e f h X Wx c => stepE_ok ih c h, fun sc e f h X Wx c => stepT_ok ih c h⟩
/-! ### statements -/
/-- a def's own context -/
structure CokS (X : Cx) (Wx : WX) (M : Gm) (N : List Str) (ρ : Fns) (k : Nat) (sc : Scope) : Prop extends Cok X Wx M N ρ k sc where
  po : PassesOwn (model X.prog X.w) X.A X.env X.xe
  fnT : ∀ x, X.fn x = true
theorem CokS.tgc (c : CokS X Wx M N ρ k sc) : TgC X sc := fun x kk h hk => by
  rw [← c.es] at h
  refine ⟨?_, .inl (c.fnT x)⟩
  rcases hk with rfl | rfl
  · exact .inl h
  · exact .inr h
theorem trEh_ok (o : TrOk M N ρ k r) (c : Cok X Wx M N ρ k sc) {hv : List Str} {x : Str} {e : Expr} {f : I} (h : trEh r sc hv x e = some f) : PE X e (tE X.K Wx ρ f) := by
  unfold trEh at h
  split at h
  · split at h
    · obtain ⟨g, h1, rfl⟩ := Option.map_eq_some_iff.mp h
      exact p_lstH (trL_ok o c h1).1
    · exact o.E sc _ f h X Wx c
  · exact o.E sc _ f h X Wx c
theorem trSs_ok {rs : Stmt → Option IS} (hrs : ∀ st f, rs st = some f → PS X st (tS X.K Wx ρ f)) : ∀ {ss : List Stmt} {f : IS}, trSs rs ss = some f → PSs X ss (tS X.K Wx ρ f)
  | [], f, h => by cases h; exact s_nil
  | s :: ss, f, h => by
    unfold trSs at h
    split at h
    · rename_i f1 g1 e1 e2
      cases h
      exact s_cons (hrs s f1 e1) (trSs_ok hrs e2)
    · cases h
theorem locB_ok {sc : Scope} {x : Str} (h : locB sc x = true) : sc.names.lookup x = some .local := by
  unfold locB at h
  split at h
  · rename_i e; exact e
  · cases h
theorem notTup {e o i : Expr} {p : Pos} {env : Env} : swappedStores [.Subscript o i p] e env = pure none := by
  unfold swappedStores; cases e <;> rfl
theorem gokV {K : PySem.W.Frag} {i : Nat} : GOk K (gV i) (gName i) := fun W s σ H v d s' Q A r e q => by
  cases e
  exact q _ (A.set r).1 (A.set r).2
theorem sw_cell {elt : Expr} {gs : List Comprehension} {scope : Scope} {pos py : Pos} {y : Str} {l : Nat} {env : Env} (hy : env.kindOf y = some .cell) : swapsWith (.ListComp elt gs scope pos) (some (.Name y py)) l env = pure false := by
  unfold swapsWith
  simp only [hy]
  have e : ((some NameKind.cell : Option NameKind) == some .local) = false := rfl
  rw [e, Bool.and_false]
  rfl
theorem stores_cell {x y : Str} {px py pt : Pos} {kt k2 : Nat} {a b : Expr} {pt2 : Pos} {env : Env} (hx : env.kindOf x = some .cell) : swappedStores [.Tuple [.Name x px, .Name y py] kt pt] (.Tuple [a, b] k2 pt2) env = pure none := by
  unfold swappedStores
  simp only [hx, List.filterMap_cons, List.filterMap_nil]
  have e : ((some NameKind.cell : Option NameKind) == some .local) = false := rfl
  rw [e]
  repeat' split
  all_goals first | rfl | simp_all
theorem sub_ok {o i : Expr} {pos : Pos} {env : Env} (h : notSlice i = true) : ∀ v, assign (.Subscript o i pos) env v = (do
      let ov ← holding [v] (eval o env)
      let iv ← holding [v, ov] (eval i env)
      standAt pos
      holding [v, ov, iv] (setItem ov iv v)
      release [v, ov, iv] []) := by
  intro v
  cases i <;> first | rfl | cases h
theorem stepS_ok (o : TrOk M N ρ k r) (c : CokS X Wx M N ρ k sc) {hv : List Str} {rs : Stmt → Option IS} (hrs : ∀ st f, rs st = some f → PS X st (tS X.K Wx ρ f)) {st : Stmt} {f : IS} (h : stepS M N hv r sc rs st = some f) : PS X st (tS X.K Wx ρ f) := by
  have c0 : Cok X Wx M N ρ k sc := c.toCok
  unfold stepS at h
  split at h
  · cases h; exact s_retN
  · obtain ⟨g, h1, rfl⟩ := Option.map_eq_some_iff.mp h
    exact s_ret (trEh_ok o c0 h1)
  · cases h; exact s_pass
  · split at h
    · cases h
    · rename_i hs
      obtain ⟨g, h1, rfl⟩ := Option.map_eq_some_iff.mp h
      exact s_drop (o.E sc _ g h1 X Wx c0) (swaps_ok (by simpa using hs))
  · split at h
    · rename_i t f1 g1 e1 e2 e3
      cases h
      exact s_if (o.T sc _ t e1 X Wx c0) (trSs_ok hrs e2) (trSs_ok hrs e3)
    · cases h
  · rename_i x p elt tg iter ifs scope pos sp
    split at h
    · rename_i w g t e' vs i hC hi
      obtain ⟨own, gt, rfl, bk, pi, gk, gw, pg, pt, pe⟩ := trC_ok o c0 hC
      have hN : X.N[i]? = some x := by rw [c.en]; exact slot_get hi
      split at h
      · rename_i hloc
        split at h
        · rename_i hb
          cases h
          simp only [Bool.and_eq_true, Bool.not_eq_true'] at hb
          have hl : X.env.scope.names.lookup x = some .local := by rw [c.es]; exact locB_ok hloc
          refine PSi (ps_setLc c.calm c.nd hN hl (sw_true (by rw [c.es]; exact c.kd) hl hb.1 hb.2) pi bk pg pt pe (fold_ok (trC_set hC))) fun D σ H q => comp_imp gk gw (asg_imp gokV q)
        · cases h
      · split at h
        · rename_i hcell
          cases h
          have hl : X.env.scope.names.lookup x = some .cell := by rw [c.es]; exact hcell
          refine PSi (ps_set c.nd hN (.inr hl) (PEi (pe_lc c.calm c.nd pi bk pg pt pe (fold_ok (trC_set hC))) fun σ H Q q => comp_imp gk gw q) ?_ (.inl (c.fnT x))) fun D σ H q => asg_imp gokV q
          exact sw_cell hl
        · cases h
    · cases h
  · rename_i x p e sp _
    split at h
    · cases h
    · rename_i hs
      split at h
      · rename_i i f1 e1 e2
        cases h
        obtain ⟨y, py, kk, z, h1, h2, h3⟩ := tgN_ok e1
        cases z
        obtain ⟨l1, l2⟩ := c.tgc x kk h2 h3
        exact PSi (ps_set c.nd (by rw [c.en]; exact h1) l1 (trEh_ok o c0 e2) (swaps_ok (by simpa using hs)) l2) fun D σ H q => asg_imp gokV q
      · cases h
  · rename_i x px y py kt pt a b k2 p2 sp
    split at h
    · rename_i hx hy
      split at h
      · rename_i i j f1 e1 e2 e3
        cases h
        have gx : PG X (.Name x px) (gName i) := pg_of c.en c.nd c.tgc (by show (match sc.names.lookup x with | some .local => slot N x | some .cell => slot N x | _ => none) = some i; rw [hx]; exact e1)
        have gy : PG X (.Name y py) (gName j) := pg_of c.en c.nd c.tgc (by show (match sc.names.lookup y with | some .local => slot N y | some .cell => slot N y | _ => none) = some j; rw [hy]; exact e2)
        have kx : X.env.kindOf x = some .cell := by show X.env.scope.names.lookup x = _; rw [c.es]; exact hx
        refine PSi (ps_asg (o.E sc _ f1 e3 X Wx c0) (pg_tup (n := 2) c.calm (pgs_cons gx (pgs_cons gy pgs_nil))) rfl (stores_cell kx) rfl) fun D σ H q => asg_imp (gok_t (is := [i, j])) q
      · cases h
    · cases h
  · split at h
    · rename_i hb
      simp only [Bool.and_eq_true, Bool.not_eq_true'] at hb
      split at h
      · rename_i f1 g1 h1 e1 e2 e3
        cases h
        exact s_set (ps_asg (o.E sc _ h1 e3 X Wx c0) (pg_sub (o.E sc _ f1 e1 X Wx c0) (o.E sc _ g1 e2 X Wx c0) set_list (sub_ok hb.1.1)) (by unfold swapsWithSole; exact swaps_ok hb.1.2) notTup rfl)
      · cases h
    · cases h
  · split at h
    · rename_i hs
      split at h
      · rename_i w g is b e1 e2 e3
        cases h
        obtain ⟨gt, gk, gw, pg⟩ := trG_ok e2 X.K
        exact s_for c.po c.calm (trW_ok o c0 e1) (pg X rfl c.en c.nd c.calm c.tgc) gk (trSs_ok hrs e3) (fold_ok hs)
      · cases h
    · cases h
  · cases h
theorem trS_ok (o : TrOk M N ρ k r) (c : CokS X Wx M N ρ k sc) {hv : List Str} : ∀ n st f, trS M N hv r sc n st = some f → PS X st (tS X.K Wx ρ f) := fun n => by
  induction n with
  | zero => intro st f h; cases h
  | succ n ih => intro st f h; exact stepS_ok o c ih h
theorem trB_ok (c : CokS X Wx M N ρ k sc) {hv : List Str} {body : List Stmt} {f : IS} (h : trB M N hv sc body = some f) : PSs X body (tS X.K Wx ρ f) :=
  trSs_ok (trS_ok (trN_ok 24) c 12) h
end
end B
end
section
set_option Elab.async false
set_option linter.all false
set_option maxRecDepth 100000
set_option maxHeartbeats 1000000
namespace B
open PySem PySem.Spec PyProof.Rows L2
/-- a def of the text -/
structure Ent where
  x : Str
  ps : List Str
  N : List Str
  hv : List Str
  params : Arguments
  body : List Stmt
  sc : Scope
  fb : IS
  sh : List (Nat × List Str × List Ai)
/-- the text: its defs, its constants, the built-ins that it leaves alone -/
structure Txt where
  tab : List Ent
  cs : List (Str × D)
  bf : List Str
def Txt.ent (T : Txt) (x : Str) : Option Ent := T.tab.find? fun e => decide (e.x = x)
def Txt.gm (T : Txt) : Gm := ⟨fun x => match T.ent x with
  | some e => some (.fn e.sh)
  | none => (T.cs.lookup x).map .cst, T.bf⟩
/-- what the defs do, calls at most n deep -/
def Txt.rho (T : Txt) : Nat → Fns
  | 0 => fun _ _ _ => .bad
  | n + 1 => fun x => match T.ent x with
    | some e => runD e.N.length e.fb (T.rho n)
    | none => fun _ _ => .bad
theorem Txt.ent_ok {T : Txt} {x : Str} {e : Ent} (h : T.ent x = some e) : e ∈ T.tab ∧ e.x = x := by
  unfold Txt.ent at h
  exact ⟨List.mem_of_find?_eq_some h, by have := List.find?_some h; exact of_decide_eq_true this⟩
/-- a def as the top has left it -/
def EntOk (K : PySem.W.Frag) (mg : Str → Option Value) (T : Txt) (e : Ent) : Prop :=
  ∃ f fd, mg e.x = some (.ref f) ∧ FunD K e.x e.x e.params e.body e.sc [] [] f fd ∧ FnScope e.N e.ps e.sc ∧ trB T.gm e.N e.hv e.sc e.body = some e.fb ∧ ∀ q ∈ e.sh, CB K fd e.ps q.1 q.2.1 q.2.2
structure TxtOk (K : PySem.W.Frag) (mg : Str → Option Value) (T : Txt) : Prop where
  tab : ∀ e ∈ T.tab, EntOk K mg T e
  cs : ∀ x d, T.cs.lookup x = some d → ∃ v u, mg x = some u ∧ RelV v u ∧ ∀ ia n Ms H, Rel K ia n Ms H v d
  bf : ∀ x ∈ T.bf, mg x = none
section
variable {P : Program} {w : World} {K : PySem.W.Frag} {mg : Str → Option Value} {base : Heap} {T : Txt}
theorem fn_zero {f : Addr} {fd : FuncData} {ps : List Str} {fm : Fm} (h : ∀ ds h, fm ds h = .bad) : FnOk P w K mg base (L2.CX P w) 0 f fd ps (spI K ps.length fm) := by
  refine ⟨fun vs H Q E ⟨_, _, _, _, _, h, _⟩ => h, fun A outer s H args us vs Q E _ _ _ _ ⟨W, hh, ds, _, _, _, p⟩ => ?_⟩
  rw [h] at p
  exact p.elim
/-- every def keeps what the interpreter says of it -/
theorem all_ok (O : TxtOk K mg T) : ∀ n x e, T.ent x = some e → ∃ f fd, mg x = some (.ref f) ∧ PySem.W.keepIn K (.ref f) = true ∧ FnOk P w K mg base (L2.CX P w) n f fd e.ps (spI K e.ps.length (T.rho n x)) ∧ FunD K e.x e.x e.params e.body e.sc [] [] f fd ∧ ∀ q ∈ e.sh, CB K fd e.ps q.1 q.2.1 q.2.2 := fun n => by
  induction n with
  | zero =>
    intro x e h
    obtain ⟨hm, rfl⟩ := Txt.ent_ok h
    obtain ⟨f, fd, h1, F, h3, h4, h5⟩ := O.tab e hm
    exact ⟨f, fd, h1, F.kp, fn_zero fun _ _ => rfl, F, h5⟩
  | succ n ih =>
    intro x e h
    obtain ⟨hm, rfl⟩ := Txt.ent_ok h
    obtain ⟨f, fd, h1, F, Sc, h4, h5⟩ := O.tab e hm
    refine ⟨f, fd, h1, F.kp, ?_, F, h5⟩
    have e2 : T.rho (n + 1) e.x = runD e.N.length e.fb (T.rho n) := by
      show (match T.ent e.x with
        | some e => runD e.N.length e.fb (T.rho n)
        | none => fun _ _ => .bad) = _
      rw [h]
    rw [e2]
    refine fn_ok F Sc fun cdv A outer s H E hr => ?_
    refine trB_ok (M := T.gm) (N := e.N) (k := n) (sc := e.sc) ⟨⟨rfl, rfl, rfl, Sc.nd, hr, takes_of rfl rfl rfl rfl, ⟨fun x sh hx => ?_, fun x d hx => ?_, fun x hx => O.bf x hx⟩, Sc.kind⟩, passes_of rfl, fun _ => rfl⟩ h4
    · have hx : (match T.ent x with
        | some e => some (GE.fn e.sh)
        | none => (T.cs.lookup x).map .cst) = some (.fn sh) := hx
      cases he : T.ent x with
      | none =>
        rw [he] at hx
        obtain ⟨d, _, z⟩ := Option.map_eq_some_iff.mp hx
        cases z
      | some e' =>
        rw [he] at hx
        cases hx
        obtain ⟨f', fd', q1, q2, q3, _, q4⟩ := ih x e' he
        exact ⟨f', fd', e'.ps, q1, q2, q3, q4⟩
    · have hx : (match T.ent x with
        | some e => some (GE.fn e.sh)
        | none => (T.cs.lookup x).map .cst) = some (.cst d) := hx
      cases he : T.ent x with
      | none =>
        rw [he] at hx
        obtain ⟨d', h1, z⟩ := Option.map_eq_some_iff.mp hx
        cases z
        exact O.cs x d h1
      | some e' =>
        rw [he] at hx
        cases hx
end
/-! ### constants -/
mutual
def kB (K : PySem.W.Frag) : D → Value → Bool
  | .non, .none => true
  | .bl b, .bool c => b == c
  | .int i, .int j _ => decide (i = j)
  | .str l, .str x _ => decide (x.cps.toList = l) && decide (l.length ≤ sizeLine)
  | .tup ds, .ref a => (match K.lookup a with
    | some ⟨.type c, _, .seq its _, _⟩ => decide (c = "tuple") && (decide (its.size ≤ sizeLine) && kBs K ds its.toList)
    | _ => false)
  | _, _ => false
def kBs (K : PySem.W.Frag) : List D → List Value → Bool
  | [], [] => true
  | d :: ds, u :: us => kB K d u && kBs K ds us
  | _, _ => false
end
mutual
theorem kB_ok {K : PySem.W.Frag} : ∀ {d : D} {u : Value}, kB K d u = true → ∃ v, RelV v u ∧ ∀ ia n Ms H, Rel K ia n Ms H v d
  | .non, u, h => by
    cases u <;> first | exact ⟨.non, rfl, fun _ _ _ _ => .non⟩ | cases h
  | .bl b, u, h => by
    cases u <;> first | (rename_i c; exact ⟨.bl c, rfl, fun _ _ _ _ => by rw [show b = c from eq_of_beq h]; exact .bl c⟩) | cases h
  | .int i, u, h => by
    cases u <;> first | (rename_i j t; exact ⟨.int i, ⟨t, by rw [show i = j from of_decide_eq_true h]⟩, fun _ _ _ _ => .int i⟩) | cases h
  | .str l, u, h => by
    cases u <;> first | cases h | skip
    rename_i x t
    simp only [kB, Bool.and_eq_true, decide_eq_true_eq] at h
    exact ⟨.str ⟨l.toArray⟩, ⟨t, by rw [← h.1]⟩, fun _ _ _ _ => .str l h.2⟩
  | .tup ds, u, h => by
    cases u <;> first | (cases h; done) | skip
    rename_i a
    simp only [kB] at h
    split at h
    · rename_i c dd its n sl hk
      simp only [Bool.and_eq_true, decide_eq_true_eq] at h
      obtain ⟨vs, r1, r2⟩ := kBs_ok h.2.2
      have hl : vs.length = its.size := by rw [r1.length]; simp
      exact ⟨.ref a, rfl, fun ia m Ms H => .tup (.inr ⟨_, its, n, hk, by rw [h.1], rfl, h.2.1, r1⟩) (by rw [hl]; exact h.2.1) (r2 ia m Ms H)⟩
    · cases h
  | .lst _, u, h => by cases u <;> cases h
  | .ref _, u, h => by cases u <;> cases h
  | .ty _, u, h => by cases u <;> cases h
  | .rdl _, u, h => by cases u <;> cases h
theorem kBs_ok {K : PySem.W.Frag} : ∀ {ds : List D} {us : List Value}, kBs K ds us = true → ∃ vs, Vals vs us ∧ ∀ ia n Ms H, Rels K ia n Ms H vs ds
  | [], [], _ => ⟨[], .nil, fun _ _ _ _ => .nil⟩
  | d :: ds, u :: us, h => by
    simp only [kBs, Bool.and_eq_true] at h
    obtain ⟨v, r1, r2⟩ := kB_ok h.1
    obtain ⟨vs, q1, q2⟩ := kBs_ok h.2
    exact ⟨v :: vs, .cons r1 q1, fun ia n Ms H => .cons (r2 ia n Ms H) (q2 ia n Ms H)⟩
  | [], _ :: _, h => by cases h
  | _ :: _, [], h => by cases h
end
/-! ### the head's look -/
/-- the defs as the head sees them -/
def Ent.dd (e : Ent) : He.DefD := ⟨(e.x, none), e.x, e.x, e.params, e.body, e.sc, [], []⟩
def csB (K : PySem.W.Frag) (q : Str × D) : Bool := match PySem.W.nsIn K mainGlobals q.1 with
  | some (some u) => kB K q.2 u
  | _ => false
/-- all that is looked at -/
def Txt.see (T : Txt) (K : PySem.W.Frag) : Bool := (T.tab.all fun e => (He.Fa.glo e.x).ok K) && ((T.tab.all fun e => e.dd.ok K) && ((T.cs.all fun q => csB K q) && T.bf.all fun x => (He.Fa.free x).ok K))
abbrev AlT : Type := Bool × List He.FnW
def Txt.obs (T : Txt) (K : PySem.W.Frag) : AlT := (T.see K, T.tab.map fun e => He.fnW K (e.x, none))
def Txt.val (T : Txt) : AlT := (true, T.tab.map fun e => e.dd.val)
def Txt.obsG (T : Txt) (n : Nat) (g : Addr → Option Obj) : AlT := T.obs (He.frG g (He.asD g n))
def Txt.hook (T : Txt) (n : Nat) : PySem.W.Hook where
  α := AlT
  obs := fun s => T.obsG n s.heap.get?
  val := fun _ => T.val
  says := fun _ h => ∃ K : PySem.W.Frag, K.In h ∧ T.obs K = T.val
  of := fun _ _ e => ⟨_, He.frG_in, e⟩
  keeps := fun _ _ _ ⟨K, hK, c⟩ k => ⟨K, PySem.W.Frag.In.keeps hK k, c⟩
theorem Txt.obsG_eq {T : Txt} {n : Nat} {g : Addr → Option Obj} {s : Shared} (h : ∀ a, g a = s.heap.get? a) : T.obsG n g = (T.hook n).obs s := by
  have e : g = s.heap.get? := funext h
  rw [e] <;> rfl
/-- what is shown of the text itself: the scopes, the translation, the calls' shapes *-/
structure Ent.Ok (T : Txt) (e : Ent) : Prop where
  sc : FnScope e.N e.ps e.sc
  tr : trB T.gm e.N e.hv e.sc e.body = some e.fb
  cb : ∀ (K : PySem.W.Frag) (f : Addr) (fd : FuncData), FunD K e.x e.x e.params e.body e.sc [] [] f fd → ∀ q ∈ e.sh, CB K fd e.ps q.1 q.2.1 q.2.2
theorem txt_ok {T : Txt} {K : PySem.W.Frag} {h : Heap} {mg : Str → Option Value} (X : K.In h) (G : h.Ns mainGlobals mg) (c : T.obs K = T.val) (ok : ∀ e ∈ T.tab, e.Ok T) : TxtOk K mg T := by
  have c1 : T.see K = true := congrArg (fun z : AlT => z.1) c
  have c2 : T.tab.map (fun e => He.fnW K (e.x, none)) = T.tab.map fun e => e.dd.val := congrArg (fun z : AlT => z.2) c
  unfold Txt.see at c1
  simp only [Bool.and_eq_true, List.all_eq_true] at c1
  obtain ⟨g1, g2, g3, g4⟩ := c1
  refine ⟨fun e he => ?_, fun x d hx => ?_, fun x hx => He.free_ok X G (g4 x hx)⟩
  · have hv : He.fnW K e.dd.at_ = e.dd.val := by
      have : ∀ (l : List Ent), l.map (fun e => He.fnW K (e.x, none)) = l.map (fun e => e.dd.val) → ∀ e ∈ l, He.fnW K (e.x, none) = e.dd.val := fun l => by
        induction l with
        | nil => intro _ e he; cases he
        | cons a l ih =>
          intro hl e he
          simp only [List.map_cons, List.cons.injEq] at hl
          rcases List.mem_cons.mp he with rfl | he
          · exact hl.1
          · exact ih hl.2 e he
      exact this T.tab c2 e he
    obtain ⟨fd, F⟩ := He.DefD.funD hv (g2 e he)
    exact ⟨_, fd, He.glo_ok X G (g1 e he), F, (ok e he).sc, (ok e he).tr, (ok e he).cb K _ fd F⟩
  · have hm : (x, d) ∈ T.cs := by
      have : ∀ (l : List (Str × D)), l.lookup x = some d → (x, d) ∈ l := fun l => by
        induction l with
        | nil => intro h; cases h
        | cons a l ih =>
          obtain ⟨y, z⟩ := a
          intro h
          rw [List.lookup_cons] at h
          cases hb : x == y with
          | true =>
            rw [hb] at h
            cases h
            rw [eq_of_beq hb]
            exact List.mem_cons_self
          | false =>
            rw [hb] at h
            exact List.mem_cons_of_mem _ (ih h)
      exact this T.cs hx
    have hk := g3 _ hm
    unfold csB at hk
    split at hk
    · rename_i u hu
      obtain ⟨v, r1, r2⟩ := kB_ok hk
      exact ⟨v, u, PySem.W.mg_of X G hu, r1, r2⟩
    · cases hk
/-- a call with positional arguments alone *-/
theorem cb_all {K : PySem.W.Frag} {fd : FuncData} {ps : List Str} (h : Binds K fd ps []) : CB K fd ps ps.length [] ((List.range ps.length).map Ai.ix) := by
  intro s us ws vs zs X hn hm r rz
  have hw : ws = [] := List.length_eq_zero_iff.mp hm
  subst hw
  cases rz
  refine ⟨us, vs, ?_, r, by rw [r.length]; exact hn, fun ia m M H ds es rd hp => ?_⟩
  · have := h s us X (by rw [List.append_nil]; exact hn)
    rw [List.append_nil] at this
    exact this
  · rw [List.append_nil] at rd
    have hl := rd.length
    have hv := r.length
    have key : ∀ (k : Nat) (ds : List D), k ≤ ds.length → permD ((List.range k).map Ai.ix) ds = some (ds.take k) := fun k ds => by
      have gen : ∀ (j k : Nat), j + k ≤ ds.length → permD ((List.range' j k).map Ai.ix) ds = some ((ds.drop j).take k) := fun j k => by
        induction k generalizing j with
        | zero => intro _; simp [permD]
        | succ k ih =>
          intro hj
          rw [List.range'_succ, List.map_cons, permD, ih (j + 1) (by omega)]
          have hj' : j < ds.length := by omega
          rw [List.getElem?_eq_getElem hj', List.drop_eq_getElem_cons hj', List.take_succ_cons]
      intro hk
      have := gen 0 k (by omega)
      rw [List.range_eq_range', this]
      simp
    rw [key ps.length ds (by omega)] at hp
    cases hp
    rw [List.take_of_length_le (by omega)]
    exact rd
/-- the law -/
theorem law_sp {K : PySem.W.Frag} {H : Hp} {a : Addr} {ns : List Int} {fm : Fm} (hO : Only H) (hS : SqL K H a (ns.map V.int)) (hl : ns.length ≤ 63) {h' : List Ob} (hf : fm [.rdl (ns.map .int)] [] = .ok (.bl true) h') :
    spI K 1 fm [.ref a] H (fun v _ => v = .bl true) fun _ _ _ => False := by
  have A : Abs K ⟨fun _ => 0, fun _ => 0, fun _ => False⟩ ⟨[], []⟩ [] H := ⟨rfl, fun i d e => by simp at e, fun i d e => by simp at e, fun k o e => by simp at e, fun k j hk => by simp at hk, fun i j d e h => by simp at h, fun k i d hk => by simp at hk, fun k hk => by simp at hk, fun i d e => by simp at e, fun a m => m.elim⟩
  have nM : ∀ b, ¬ MW ⟨fun _ => 0, fun _ => 0, fun _ => False⟩ ⟨[], []⟩ b := fun b m => by
    rcases m with m | ⟨k, hk, _⟩ | ⟨i, d, e, _⟩
    · exact m
    · simp at hk
    · simp at e
  refine ⟨_, [], [.rdl (ns.map .int)], A,   .cons (.rdl (vs := ns.map V.int) ?_ (by rw [List.length_map]; exact Nat.le_trans hl (by decide)) ?_) .nil, rfl, ?_⟩
  · rcases hS with h | h
    · exact .inl ⟨nM a, h⟩
    · exact .inr h
  · generalize ns = l
    induction l with
    | nil => exact .nil
    | cons n l ih => exact .cons (.int n) ih
  · rw [hf]
    intro v W' H' A' st r
    cases r
    rfl
end B
end
section
set_option Elab.async false
set_option linter.all false
set_option maxRecDepth 100000
set_option maxHeartbeats 1000000
namespace B
open PySem PySem.Spec PyProof.Rows L2
/-- the parameters' values, by the arguments' numbers -/
def pick {α : Type} (z : α) (is : List Nat) (l : List α) : List α := is.map fun i => l.getD i z
theorem pick_vals {vs : List V} {us : List Value} (r : Vals vs us) : ∀ is : List Nat, (∀ i ∈ is, i < us.length) → Vals (pick .non is vs) (pick .none is us)
  | [], _ => .nil
  | i :: is, h => by
    refine .cons ?_ (pick_vals r is fun j hj => h j (List.mem_cons_of_mem _ hj))
    have hi := h i List.mem_cons_self
    have hv : i < vs.length := by rw [r.length]; exact hi
    show RelV (vs.getD i .non) (us.getD i .none)
    rw [List.getD_eq_getElem?_getD, List.getD_eq_getElem?_getD, List.getElem?_eq_getElem hi, List.getElem?_eq_getElem hv]
    have : ∀ (vs : List V) (us : List Value), Vals vs us → ∀ i (h1 : i < vs.length) (h2 : i < us.length), RelV vs[i] us[i] := fun vs us r => by
      induction r with
      | nil => intro i h1; exact absurd h1 (Nat.not_lt_zero _)
      | cons h _ ih =>
        intro i h1 h2
        cases i with
        | zero => exact h
        | succ i => exact ih i _ _
    exact this vs us r i hv hi
theorem pick_rels {K : PySem.W.Frag} {ia : Nat → Addr} {m : Nat} {M : MS} {H : Hp} {vs : List V} {ds : List D} (r : Rels K ia m M H vs ds) : ∀ (is : List Nat) (es : List D), permD (is.map Ai.ix) ds = some es → Rels K ia m M H (pick .non is vs) es
  | [], es, h => by cases h; exact .nil
  | i :: is, es, h => by
    rw [List.map_cons, permD] at h
    split at h
    · rename_i d ds' h1 h2
      cases h
      refine .cons ?_ (pick_rels r is _ h2)
      have : ∀ (vs : List V) (ds : List D), Rels K ia m M H vs ds → ∀ (i : Nat) (d : D), ds[i]? = some d → Rel K ia m M H (vs.getD i .non) d := fun vs ds r => by
        intro i
        induction i generalizing vs ds with
        | zero =>
          intro d e
          cases r with
          | nil => simp at e
          | cons a b => simp at e; subst e; exact a
        | succ i ih =>
          intro d e
          cases r with
          | nil => simp at e
          | cons a b => simp at e; exact ih _ _ b d e
      exact this vs ds r i d h1
    · cases h
theorem cb_perm {K : PySem.W.Frag} {x qual : Str} {params : Arguments} {body : List Stmt} {scope : Scope} {kws : List (Str × V)} {f : Addr} {fd : FuncData} {ps ks : List Str} {n : Nat} (is : List Nat) (F : FunD K x qual params body scope [] kws f fd)
    (hl : is.length = ps.length) (hi : ∀ i ∈ is, i < n + ks.length)
    (h : ∀ (kV doc pm : Value) (an : Option Addr) (cdv ct : Value) (us ws : List Value), us.length = n → ws.length = ks.length → bindArgs (PySem.W.fnOf x qual params body scope .none kV doc pm an cdv ct) ⟨us, ks.zip ws⟩ = pure (ps.zip (pick .none is (us ++ ws)))) : CB K fd ps n ks (is.map Ai.ix) := by
  intro s us ws vs zs X hu hw r rz
  obtain ⟨oc, od, dV, kV, doc, pm, an, cdv, ct, osl, rfl, lk, hcd, hD, hK⟩ := F.ex
  rcases hD with ⟨_, rfl⟩ | ⟨e, _⟩
  · have ra : Vals (vs ++ zs) (us ++ ws) := by
      have : ∀ {vs : List V} {us : List Value}, Vals vs us → Vals (vs ++ zs) (us ++ ws) := fun r => by
        induction r with
        | nil => exact rz
        | cons h _ ih => exact .cons h ih
      exact this r
    refine ⟨_, _, .of_eq (h kV doc pm an cdv ct us ws hu hw), pick_vals ra is fun i hj => by rw [List.length_append, hu, hw]; exact hi i hj, by unfold pick; rw [List.length_map]; exact hl, fun ia m M H ds es rd hp => pick_rels rd is es hp⟩
  · exact absurd rfl e
/-! ### the law's end -/
theorem walk_ofW {l : PySem.W.OpenLaw} {n k : Nat} {q : Program} {loose : List Str} {XP : (Str → Option Value) → Heap → Prop} {YP : World → Heap → Prop} {d : DefRec} {CX : World → CXT} {x : Str}
    (hn : l.most = some n) (hn2 : n ≤ sizeLine) (hdf : d.params.defaults = []) (hr : Room k callerA)
    (F : ∀ (w : World) (mg : Str → Option Value) (fa : Addr) (h : Heap), YP w h → h.Ns mainGlobals mg → mg d.name = some (.ref fa) →
      ∃ (K : PySem.W.Frag) (fd : FuncData) (sp : Sp), K.In h ∧ (∀ (s : Shared) (u : Value), BindsTo s fd ⟨[u], []⟩ [(x, u)]) ∧
        (∀ (H : Hp) (a : Addr) (ns : List Int), ns.length ≤ n → Only H → SqL K H a (ns.map V.int) → sp [.ref a] H (fun v _ => v = .bl true) fun _ _ _ => False) ∧
        ∀ base : Heap, K.In base → base.Ns mainGlobals mg → FnOk l.prog w K mg base (CX w) k fa fd [x] sp)
    (hCX : ∀ (w : World) (H : Hp) (s : Shared) (e : Value) (s' : Shared), CX w [] H s (fun _ _ _ => False) e s' → False) :
    PySem.W.WalkO q loose XP YP l.row.toRowW d [] (fun f vs => PySem.call f vs) := by
  refine Att.attach_call hn hdf fun w s₀ s₁ mg mb fa o pm cd doc a vs ns G Y ho hd hcd hmg hobj hints hlen hg => ?_
  obtain ⟨K, fd, sp, KX, hb, hsp, hF⟩ := F w mg fa _ Y G.T.g hmg
  exact law_call KX G.T.g G.T.b G.T.builtins G.T.nolimit hg hobj hints (Nat.le_trans hlen hn2) hr hF hb (fun H hO hS => hsp H a ns hlen hO hS) fun H e s' => hCX w H s₁ e s'
theorem cx_no {P : Program} (w : World) (H : Hp) (s : Shared) (e : Value) (s' : Shared) (h : L2.CX P w [] H s (fun _ _ _ => False) e s') : False := by
  obtain ⟨_, _, _, _, _, _, _, _, _, _, _, _, z⟩ := h
  exact z
theorem fnok_law {P : Program} {w : World} {K : PySem.W.Frag} {mg : Str → Option Value} {base : Heap} {T : Txt} {n : Nat} {e : Ent} {f : Addr} {fd : FuncData} (O : TxtOk K mg T) (he : T.ent "law" = some e) (hx : e.x = "law") (F : FunD K e.x e.x e.params e.body e.sc [] [] f fd) (hm : mg e.x = some (.ref f)) :
    FnOk P w K mg base (L2.CX P w) n f fd e.ps (spI K e.ps.length (T.rho n "law")) := by
  obtain ⟨f', fd', q1, _, q3, F', _⟩ := all_ok (P := P) (w := w) (base := base) O n "law" e he
  rw [hx, q1] at hm
  cases hm
  obtain ⟨oc, od, dV, kV, doc, pm, an, cdv, ct, osl, _, lk, _⟩ := F.ex
  obtain ⟨oc', od', dV', kV', doc', pm', an', cdv', ct', osl', _, lk', _⟩ := F'.ex
  rw [lk] at lk'
  cases lk'
  exact q3
end B
end
section
set_option Elab.async false
set_option linter.all false
set_option maxRecDepth 100000
set_option maxHeartbeats 4000000
/-! the words, one step each, as rewriting rules; the laws' common defs -/
namespace B
open PySem
section
variable (ρ : Fns) (s : S) (a b c : I) (l r : IL) (t u : IT) (p q : IS) (d e : D) (g : List Sl) (h : List Ob)
@[simp] theorem e_C : iC d ρ s = .ok d s := rfl
@[simp] theorem e_V (i : Nat) : iV i ρ ⟨g, h⟩ = (match g[i]? with
  | some (.val d) => .ok d ⟨g, h⟩
  | some (.own d) => .ok d ⟨g.set i (.val d), h⟩
  | _ => .bad) := rfl
@[simp] theorem e_Bin (op : Operator) : iBin op a b ρ s = (a ρ s).bind fun x s => (b ρ s).bind fun y s => lift (binD op x y) s := rfl
@[simp] theorem e_Cmp (op : CmpOp) : iCmp op a b ρ s = (a ρ s).bind fun x s => (b ρ s).bind fun y s => lift ((cmpD op x y).map .bl) s := rfl
@[simp] theorem e_CmpB (op : CmpOp) : tCmpB op a b ρ s = (a ρ s).bind fun x s => (b ρ s).bind fun y s => liftT (cmpD op x y) s := rfl
@[simp] theorem e_Tru : tTru a ρ s = (a ρ s).bind fun x s => liftT (truthD x) s := rfl
@[simp] theorem e_And : tAnd t u ρ s = (t ρ s).bind fun x s => match x with
  | true => u ρ s
  | false => .ok false s := rfl
@[simp] theorem e_Or : tOr t u ρ s = (t ρ s).bind fun x s => match x with
  | true => .ok true s
  | false => u ρ s := rfl
@[simp] theorem e_Not : tNot t ρ s = (t ρ s).bind fun x s => .ok (!x) s := rfl
@[simp] theorem e_If : iIf t a b ρ s = (t ρ s).bind fun x s => match x with
  | true => a ρ s
  | false => b ρ s := rfl
@[simp] theorem e_aNil : aNil ρ s = .ok [] s := rfl
@[simp] theorem e_aCons : aCons a l ρ s = (a ρ s).bind fun x s => (l ρ s).bind fun xs s => .ok (x :: xs) s := rfl
@[simp] theorem e_Tup : iTup l ρ s = (l ρ s).bind fun xs s => lift (if xs.length ≤ sizeLine then some (.tup xs) else none) s := rfl
@[simp] theorem e_Lst : iLst l ρ s = (l ρ s).bind fun xs s => lift (if xs.length ≤ sizeLine then some (.lst xs) else none) s := rfl
@[simp] theorem e_LstH : iLstH l ρ s = (l ρ s).bind fun xs s => if xs.length ≤ sizeLine then .ok (.ref s.h.length) ⟨s.g, s.h ++ [.lst xs]⟩ else .bad := rfl
@[simp] theorem e_Ix : iIx a b ρ s = (a ρ s).bind fun x s => (b ρ s).bind fun y s => lift (ixD s.h x y) s := rfl
@[simp] theorem e_pNo : pNo ρ s = .ok none s := rfl
@[simp] theorem e_pInt : pInt a ρ s = (a ρ s).bind fun x s => match x with
  | .int i => .ok (some i) s
  | _ => .bad := rfl
@[simp] theorem e_Sl (lo hi : Fns → S → R (Option Int)) : iSl a lo hi ρ s = (a ρ s).bind fun x s => (lo ρ s).bind fun l s => (hi ρ s).bind fun u s => lift (slD s.h x l u) s := rfl
@[simp] theorem e_Bi (f : Bi) : iBi f l ρ s = (l ρ s).bind fun xs s => lift (biD f s.h xs) s := rfl
@[simp] theorem e_Call (f : Str) (pm : List Ai) : iCall f pm l r ρ s = (l ρ s).bind fun xs s => (r ρ s).bind fun ys s => match permD pm (xs ++ ys) with
  | some zs => ofF s.g (ρ f zs s.h)
  | none => .bad := rfl
@[simp] theorem e_sNx : sNx ρ s = .ok .nx s := rfl
@[simp] theorem e_Seq : sSeq p q ρ s = (p ρ s).bind fun f s => match f with
  | .nx => q ρ s
  | f => .ok f s := rfl
@[simp] theorem e_Ret : sRet a ρ s = (a ρ s).bind fun x s => .ok (.rt x) s := rfl
@[simp] theorem e_sIf : sIf t p q ρ s = (t ρ s).bind fun x s => match x with
  | true => p ρ s
  | false => q ρ s := rfl
@[simp] theorem e_Asg (k : IG) : sAsg a k ρ s = (a ρ s).bind fun x s => match k x s with
  | some s => .ok .nx s
  | none => .bad := rfl
@[simp] theorem e_gV (i : Nat) : gV i d ⟨g, h⟩ = some ⟨g.set i (.val d), h⟩ := rfl
@[simp] theorem e_Set : sSet a b c ρ s = (c ρ s).bind fun v s => (a ρ s).bind fun x s => (b ρ s).bind fun y s => match x, y with
  | .ref n, .int k => (match s.h[n]? with
    | some (.lst l) => (match L2.ixN l.length k with
      | some j => .ok .nx ⟨s.g, s.h.set n (.lst (l.set j v))⟩
      | none => .bad)
    | _ => .bad)
  | _, _ => .bad := rfl
@[simp] theorem e_ofF (d : D) : ofF g (.ok d h) = .ok d ⟨g, h⟩ := rfl
@[simp] theorem b_add (i j : Int) : binD .Add (.int i) (.int j) = some (.int (i + j)) := rfl
@[simp] theorem b_sub (i j : Int) : binD .Sub (.int i) (.int j) = some (.int (i - j)) := rfl
@[simp] theorem c_eq (i j : Int) : cmpD .Eq (.int i) (.int j) = some (decide (i = j)) := by
  show some (i == j) = _
  by_cases h : i = j <;> simp [h]
@[simp] theorem c_ne (i j : Int) : cmpD .NotEq (.int i) (.int j) = some (!decide (i = j)) := by
  show some (!(i == j)) = _
  by_cases h : i = j <;> simp [h]
@[simp] theorem c_lt (i j : Int) : cmpD .Lt (.int i) (.int j) = some (decide (i < j)) := rfl
@[simp] theorem c_le (i j : Int) : cmpD .LtE (.int i) (.int j) = some (decide (i ≤ j)) := rfl
@[simp] theorem c_gt (i j : Int) : cmpD .Gt (.int i) (.int j) = some (decide (j < i)) := rfl
@[simp] theorem c_ge (i j : Int) : cmpD .GtE (.int i) (.int j) = some (decide (j ≤ i)) := rfl
@[simp] theorem c_eqB (x y : Bool) : cmpD .Eq (.bl x) (.bl y) = some (x == y) := rfl
@[simp] theorem c_neB (x y : Bool) : cmpD .NotEq (.bl x) (.bl y) = some (!(x == y)) := rfl
@[simp] theorem t_bl (x : Bool) : truthD (.bl x) = some x := rfl
end
/-- mod with a positive second number -/
theorem b_mod {i j : Int} (h : 0 < j) : binD .Mod (.int i) (.int j) = some (.int (i % j)) := by
  show (if j ≠ 0 then some (D.int (i.fmod j)) else none) = _
  rw [if_pos (by omega), Int.fmod_eq_emod_of_nonneg _ (by omega)]
theorem b_div {i j : Int} (h : 0 < j) (h2 : j < 1073741824) : binD .FloorDiv (.int i) (.int j) = some (.int (i / j)) := by
  show (if j ≠ 0 ∧ j.natAbs < 1073741824 then some (D.int (i.fdiv j)) else none) = _
  rw [if_pos ⟨by omega, by omega⟩, Int.fdiv_eq_ediv_of_nonneg _ (by omega)]
theorem b_mul {i j : Int} (h : (-(2 ^ 64) < i ∧ i < 2 ^ 64) ∨ (-(2 ^ 64) < j ∧ j < 2 ^ 64)) : binD .Mult (.int i) (.int j) = some (.int (i * j)) := by
  show (if (-(2 ^ 64) < i ∧ i < 2 ^ 64) ∨ (-(2 ^ 64) < j ∧ j < 2 ^ 64) then some (D.int (i * j)) else none) = _
  rw [if_pos h]
/-! ### the bag -/
def bagL (cs : List Int) (i c sd n : Int) : List D := [.lst (cs.map .int), .int i, .int c, .int sd, .int n]
def BagL (l : List D) : Prop := ∃ cs i c sd n, l = bagL cs i c sd n ∧ 0 ≤ i ∧ 0 ≤ c ∧ 0 ≤ sd ∧ sd < 2147483587
def wPull : IS := (sSeq (sIf (tAnd (tCmpB .Eq (iIx (iV 0) (iC (.int 2))) (iC (.int 0))) (tCmpB .Lt (iIx (iV 0) (iC (.int 1))) (iBi .len (aCons (iIx (iV 0) (iC (.int 0))) aNil)))) (sSeq (sAsg (iIx (iIx (iV 0) (iC (.int 0))) (iIx (iV 0) (iC (.int 1)))) (gV 2))
  (sSeq (sSet (iV 0) (iC (.int 1)) (iBin .Add (iIx (iV 0) (iC (.int 1))) (iC (.int 1))))
  (sSeq (sIf (tCmpB .GtE (iV 2) (iBin .Pow (iC (.int 10)) (iC (.int 18)))) (sSeq (sSet (iV 0) (iC (.int 2)) (iV 2))
  sNx) (sSeq (sSet (iV 0) (iC (.int 3)) (iBin .Mod (iBi .int (aCons (iBin .Add (iBin .Add (iBin .Mult (iIx (iV 0) (iC (.int 3))) (iC (.int 46133))) (iBin .Mult (iBin .Mod (iBi .int (aCons (iV 2) aNil)) (iC (.int 2147483549))) (iC (.int 52963)))) (iC (.int 37))) aNil)) (iC (.int 2147483587))))
  sNx))
  sNx))) sNx)
  (sSeq (sIf (tCmpB .Gt (iIx (iV 0) (iC (.int 2))) (iC (.int 0))) (sSeq (sAsg (iBin .Mod (iBi .int (aCons (iIx (iV 0) (iC (.int 2))) aNil)) (iV 1)) (gV 3))
  (sSeq (sSet (iV 0) (iC (.int 2)) (iBin .FloorDiv (iIx (iV 0) (iC (.int 2))) (iV 1)))
  (sSeq (sRet (iV 3))
  sNx))) sNx)
  (sSeq (sSet (iV 0) (iC (.int 4)) (iBin .Add (iIx (iV 0) (iC (.int 4))) (iC (.int 1))))
  (sSeq (sAsg (iIx (iV 0) (iC (.int 3))) (gV 4))
  (sSeq (sSet (iV 0) (iC (.int 3)) (iBin .Mod (iBi .int (aCons (iBin .Add (iBin .Add (iBin .Add (iBin .Mult (iV 4) (iV 4)) (iBin .Mult (iV 4) (iC (.int 31013)))) (iBin .Mult (iIx (iV 0) (iC (.int 4))) (iC (.int 1299827)))) (iC (.int 87623))) aNil)) (iC (.int 2147483587))))
  (sSeq (sRet (iBin .Mod (iBi .int (aCons (iBin .Add (iBin .FloorDiv (iIx (iV 0) (iC (.int 3))) (iC (.int 73))) (iBin .Mult (iBin .Mod (iBi .int (aCons (iIx (iV 0) (iC (.int 3))) aNil)) (iC (.int 7907))) (iC (.int 61)))) aNil)) (iV 1)))
  sNx))))))
section
variable {ρ : Fns} {h : List Ob} {b : Nat} {m : Int}
theorem ix_ref {l : List D} {i : Int} (hb : h[b]? = some (.lst l)) : ixD h (.ref b) (.int i) = L2.atI l i := by
  simp [ixD, seqD, hb]
theorem ix_bag {cs : List Int} {i c sd n : Int} (hb : h[b]? = some (.lst (bagL cs i c sd n))) : ixD h (.ref b) (.int 0) = some (.lst (cs.map .int)) ∧ ixD h (.ref b) (.int 1) = some (.int i) ∧ ixD h (.ref b) (.int 2) = some (.int c) ∧ ixD h (.ref b) (.int 3) = some (.int sd) ∧ ixD h (.ref b) (.int 4) = some (.int n) := by
  refine ⟨?_, ?_, ?_, ?_, ?_⟩ <;> (rw [ix_ref hb]; rfl)
/-- the second part of a pull: c is left over, or the seed turns -/
def wPull2 : IS := (sSeq (sIf (tCmpB .Gt (iIx (iV 0) (iC (.int 2))) (iC (.int 0))) (sSeq (sAsg (iBin .Mod (iBi .int (aCons (iIx (iV 0) (iC (.int 2))) aNil)) (iV 1)) (gV 3))
  (sSeq (sSet (iV 0) (iC (.int 2)) (iBin .FloorDiv (iIx (iV 0) (iC (.int 2))) (iV 1)))
  (sSeq (sRet (iV 3))
  sNx))) sNx)
  (sSeq (sSet (iV 0) (iC (.int 4)) (iBin .Add (iIx (iV 0) (iC (.int 4))) (iC (.int 1))))
  (sSeq (sAsg (iIx (iV 0) (iC (.int 3))) (gV 4))
  (sSeq (sSet (iV 0) (iC (.int 3)) (iBin .Mod (iBi .int (aCons (iBin .Add (iBin .Add (iBin .Add (iBin .Mult (iV 4) (iV 4)) (iBin .Mult (iV 4) (iC (.int 31013)))) (iBin .Mult (iIx (iV 0) (iC (.int 4))) (iC (.int 1299827)))) (iC (.int 87623))) aNil)) (iC (.int 2147483587))))
  (sSeq (sRet (iBin .Mod (iBi .int (aCons (iBin .Add (iBin .FloorDiv (iIx (iV 0) (iC (.int 3))) (iC (.int 73))) (iBin .Mult (iBin .Mod (iBi .int (aCons (iIx (iV 0) (iC (.int 3))) aNil)) (iC (.int 7907))) (iC (.int 61)))) aNil)) (iV 1)))
  sNx)))))
@[simp] theorem bi_int (h : List Ob) (i : Int) : biD .int h [.int i] = some (.int i) := rfl
theorem pull2_ok {cs : List Int} {i c sd n : Int} {z : Sl} (hb : h[b]? = some (.lst (bagL cs i c sd n))) (hi : 0 ≤ i) (hc : 0 ≤ c) (h0 : 0 ≤ sd) (h1 : sd < 2147483587) (hm : 0 < m) (hm2 : m < 1073741824) :
    ∃ d l' g', 0 ≤ d ∧ d < m ∧ BagL l' ∧ wPull2 ρ ⟨[.val (.ref b), .val (.int m), z, .no, .no], h⟩ = .ok (.rt (.int d)) ⟨g', h.set b (.lst l')⟩ := by
  obtain ⟨i0, i1, i2, i3, i4⟩ := ix_bag hb
  have hl : b < h.length := by
    rcases Nat.lt_or_ge b h.length with q | q
    · exact q
    · rw [List.getElem?_eq_none q] at hb; cases hb
  by_cases hp : 0 < c
  · refine ⟨c % m, bagL cs i (c / m) sd n, [.val (.ref b), .val (.int m), z, .val (.int (c % m)), .no], Int.emod_nonneg _ (by omega), Int.emod_lt_of_pos _ hm, ⟨cs, i, c / m, sd, n, rfl, hi, Int.ediv_nonneg hc (by omega), h0, h1⟩, ?_⟩
    simp [wPull2, i2, hp, b_mod hm, b_div hm hm2, hb]
    simp [bagL, L2.ixN]
  · obtain ⟨x, hx⟩ : ∃ x, x = sd * sd + sd * 31013 + (n + 1) * 1299827 + 87623 := ⟨_, rfl⟩
    obtain ⟨y, hy⟩ : ∃ y, y = x % 2147483587 / 73 + x % 2147483587 % 7907 * 61 := ⟨_, rfl⟩
    have e1 : (h.set b (.lst (bagL cs i c sd (n + 1))))[b]? = some (.lst (bagL cs i c sd (n + 1))) := List.getElem?_set_self hl
    have e2 : (h.set b (.lst (bagL cs i c (x % 2147483587) (n + 1))))[b]? = some (.lst (bagL cs i c (x % 2147483587) (n + 1))) := List.getElem?_set_self hl
    obtain ⟨j0, j1, j2, j3, j4⟩ := ix_bag e1
    obtain ⟨k0, k1, k2, k3, k4⟩ := ix_bag e2
    refine ⟨y % m, bagL cs i c (x % 2147483587) (n + 1), [.val (.ref b), .val (.int m), z, .no, .val (.int sd)], Int.emod_nonneg _ (by omega), Int.emod_lt_of_pos _ hm, ⟨cs, i, c, _, _, rfl, hi, hc, Int.emod_nonneg _ (by omega), Int.emod_lt_of_pos _ (by omega)⟩, ?_⟩
    have z1 : (bagL cs i c sd n).set 4 (.int (n + 1)) = bagL cs i c sd (n + 1) := rfl
    have z2 : (bagL cs i c sd (n + 1)).set 3 (.int (x % 2147483587)) = bagL cs i c (x % 2147483587) (n + 1) := rfl
    have y4 : L2.ixN (bagL cs i c sd n).length 4 = some 4 := rfl
    have y3 : L2.ixN (bagL cs i c sd (n + 1)).length 3 = some 3 := rfl
    have m1 : binD .Mult (.int sd) (.int sd) = some (.int (sd * sd)) := b_mul (by omega)
    have m2 : binD .Mult (.int sd) (.int 31013) = some (.int (sd * 31013)) := b_mul (by omega)
    have m3 : binD .Mult (.int (n + 1)) (.int 1299827) = some (.int ((n + 1) * 1299827)) := b_mul (by omega)
    have m4 : ∀ q : Int, binD .Mult (.int q) (.int 61) = some (.int (q * 61)) := fun q => b_mul (by omega)
    have d1 : ∀ q : Int, binD .Mod (.int q) (.int 2147483587) = some (.int (q % 2147483587)) := fun q => b_mod (by omega)
    have d2 : ∀ q : Int, binD .Mod (.int q) (.int 7907) = some (.int (q % 7907)) := fun q => b_mod (by omega)
    have d3 : ∀ q : Int, binD .FloorDiv (.int q) (.int 73) = some (.int (q / 73)) := fun q => b_div (by omega) (by omega)
    simp only [wPull2, e_Seq, e_sIf, e_CmpB, e_Ix, e_V, e_C, bind_ok, List.getElem?_cons_zero, List.getElem?_cons_succ, i2, lift_some, c_gt, liftT_some, hp, decide_false, e_sNx, e_Set, e_Bin, i4, b_add, hb, y4, z1, e_Asg, j3, e_gV, List.set_cons_zero, List.set_cons_succ, e_Bi, e_aCons, e_aNil, m1, m2, j4, m3, bi_int, ← hx, d1, e1, y3, z2, List.set_set, e_Ret, k3, d2, d3, m4, ← hy, b_mod hm]
theorem pull_ok {l : List D} (hb : h[b]? = some (.lst l)) (B : BagL l) (hm : 0 < m) (hm2 : m < 1073741824) :
    ∃ d l', 0 ≤ d ∧ d < m ∧ BagL l' ∧ runD 5 wPull ρ [.ref b, .int m] h = .ok (.int d) (h.set b (.lst l')) := by
  obtain ⟨cs, i, c, sd, n, rfl, hi, hc, h0, h1⟩ := B
  obtain ⟨i0, i1, i2, i3, i4⟩ := ix_bag hb
  have hl : b < h.length := by
    rcases Nat.lt_or_ge b h.length with q | q
    · exact q
    · rw [List.getElem?_eq_none q] at hb; cases hb
  have ln : ∀ h, biD .len h [.lst (cs.map D.int)] = some (.int cs.length) := fun h => by simp [biD, lenD, seqD]
  have step : ∀ (z : Sl) (h' : List Ob) (c' i' sd' : Int), h'[b]? = some (.lst (bagL cs i' c' sd' n)) → 0 ≤ i' → 0 ≤ c' → 0 ≤ sd' → sd' < 2147483587 → (∀ o, h'.set b o = h.set b o) →
      (sIf (tAnd (tCmpB .Eq (iIx (iV 0) (iC (.int 2))) (iC (.int 0))) (tCmpB .Lt (iIx (iV 0) (iC (.int 1))) (iBi .len (aCons (iIx (iV 0) (iC (.int 0))) aNil)))) (sSeq (sAsg (iIx (iIx (iV 0) (iC (.int 0))) (iIx (iV 0) (iC (.int 1)))) (gV 2))
  (sSeq (sSet (iV 0) (iC (.int 1)) (iBin .Add (iIx (iV 0) (iC (.int 1))) (iC (.int 1))))
  (sSeq (sIf (tCmpB .GtE (iV 2) (iBin .Pow (iC (.int 10)) (iC (.int 18)))) (sSeq (sSet (iV 0) (iC (.int 2)) (iV 2))
  sNx) (sSeq (sSet (iV 0) (iC (.int 3)) (iBin .Mod (iBi .int (aCons (iBin .Add (iBin .Add (iBin .Mult (iIx (iV 0) (iC (.int 3))) (iC (.int 46133))) (iBin .Mult (iBin .Mod (iBi .int (aCons (iV 2) aNil)) (iC (.int 2147483549))) (iC (.int 52963)))) (iC (.int 37))) aNil)) (iC (.int 2147483587))))
  sNx))
  sNx))) sNx) ρ ⟨[.val (.ref b), .val (.int m), .no, .no, .no], h⟩ = .ok .nx ⟨[.val (.ref b), .val (.int m), z, .no, .no], h'⟩ →
      ∃ d l', 0 ≤ d ∧ d < m ∧ BagL l' ∧ runD 5 wPull ρ [.ref b, .int m] h = .ok (.int d) (h.set b (.lst l')) := fun z h' c' i' sd' q1 q2 q3 q4 q5 q6 q7 => by
    obtain ⟨d, l', g', p1, p2, p3, p4⟩ := pull2_ok (ρ := ρ) (z := z) q1 q2 q3 q4 q5 hm hm2
    refine ⟨d, l', p1, p2, p3, ?_⟩
    unfold runD
    show (match wPull ρ ⟨[.val (.ref b), .val (.int m), .no, .no, .no], h⟩ with
      | .ok .nx s => Rf.ok .non s.h
      | .ok (.rt d) s => .ok d s.h
      | .ok _ _ => .bad
      | .ex x s => .ex x s.h
      | .bad => .bad) = _
    have e : wPull ρ ⟨[.val (.ref b), .val (.int m), .no, .no, .no], h⟩ = .ok (.rt (.int d)) ⟨g', h'.set b (.lst l')⟩ := by
      unfold wPull
      rw [e_Seq, q7, bind_ok]
      exact p4
    rw [e, q6]
  by_cases hz : c = 0 ∧ i < cs.length
  · obtain ⟨rfl, hi2⟩ := hz
    obtain ⟨x, hx⟩ : ∃ x, cs[i.toNat]? = some x := ⟨_, List.getElem?_eq_getElem (by omega)⟩
    have cx : L2.atI (cs.map D.int) i = some (.int x) := by
      unfold L2.atI L2.ixN
      rw [if_pos hi, List.length_map, if_pos hi2]
      simp [hx]
    have cx2 : ixD h (.lst (cs.map D.int)) (.int i) = some (.int x) := by
      show (some (cs.map D.int)).bind (fun l => L2.atI l i) = _
      exact cx
    have e1 : (h.set b (.lst (bagL cs (i + 1) 0 sd n)))[b]? = some (.lst (bagL cs (i + 1) 0 sd n)) := List.getElem?_set_self hl
    obtain ⟨j0, j1, j2, j3, j4⟩ := ix_bag e1
    have pw : binD .Pow (.int 10) (.int 18) = some (.int (10 ^ 18)) := rfl
    have z1 : (bagL cs i 0 sd n).set 1 (.int (i + 1)) = bagL cs (i + 1) 0 sd n := rfl
    have y1 : L2.ixN (bagL cs i 0 sd n).length 1 = some 1 := rfl
    have y2 : L2.ixN (bagL cs (i + 1) 0 sd n).length 2 = some 2 := rfl
    have y3 : L2.ixN (bagL cs (i + 1) 0 sd n).length 3 = some 3 := rfl
    have dt : decide True = true := rfl
    by_cases hg : (10 : Int) ^ 18 ≤ x
    · refine step (.val (.int x)) (h.set b (.lst (bagL cs (i + 1) x sd n))) x (i + 1) sd (List.getElem?_set_self hl) (by omega) (by omega) h0 h1 (fun o => by rw [List.set_set]) ?_
      have z2 : (bagL cs (i + 1) 0 sd n).set 2 (.int x) = bagL cs (i + 1) x sd n := rfl
      simp only [e_Seq, e_sIf, e_And, e_CmpB, e_Ix, e_V, e_C, bind_ok, List.getElem?_cons_zero, List.getElem?_cons_succ, i2, lift_some, c_eq, dt, liftT_some, c_lt, i1, i0, ln, e_Bi, e_aCons, e_aNil, hi2, decide_true, e_Asg, cx2, e_gV, List.set_cons_zero, List.set_cons_succ, e_Set, e_Bin, b_add, hb, y1, z1, c_ge, pw, hg, e1, y2, z2, List.set_set, e_sNx]
    · refine step (.val (.int x)) (h.set b (.lst (bagL cs (i + 1) 0 ((sd * 46133 + x % 2147483549 * 52963 + 37) % 2147483587) n))) 0 (i + 1) _ (List.getElem?_set_self hl) (by omega) (by omega) (Int.emod_nonneg _ (by omega)) (Int.emod_lt_of_pos _ (by omega)) (fun o => by rw [List.set_set]) ?_
      have z2 : (bagL cs (i + 1) 0 sd n).set 3 (.int ((sd * 46133 + x % 2147483549 * 52963 + 37) % 2147483587)) = bagL cs (i + 1) 0 ((sd * 46133 + x % 2147483549 * 52963 + 37) % 2147483587) n := rfl
      have m1 : ∀ q : Int, binD .Mult (.int q) (.int 46133) = some (.int (q * 46133)) := fun q => b_mul (by omega)
      have m2 : ∀ q : Int, binD .Mult (.int q) (.int 52963) = some (.int (q * 52963)) := fun q => b_mul (by omega)
      have d1 : ∀ q : Int, binD .Mod (.int q) (.int 2147483587) = some (.int (q % 2147483587)) := fun q => b_mod (by omega)
      have d2 : ∀ q : Int, binD .Mod (.int q) (.int 2147483549) = some (.int (q % 2147483549)) := fun q => b_mod (by omega)
      simp only [e_Seq, e_sIf, e_And, e_CmpB, e_Ix, e_V, e_C, bind_ok, List.getElem?_cons_zero, List.getElem?_cons_succ, i2, lift_some, c_eq, dt, liftT_some, c_lt, i1, i0, ln, e_Bi, e_aCons, e_aNil, hi2, decide_true, e_Asg, cx2, e_gV, List.set_cons_zero, List.set_cons_succ, e_Set, e_Bin, b_add, hb, y1, z1, c_ge, pw, hg, decide_false, e1, y3, z2, List.set_set, e_sNx, bi_int, m1, m2, d1, d2, j3]
  · refine step .no h c i sd hb hi hc h0 h1 (fun _ => rfl) ?_
    by_cases hc0 : c = 0
    · subst hc0
      have hi2 : ¬ i < cs.length := fun z => hz ⟨rfl, z⟩
      have dt : decide True = true := rfl
      simp only [e_sIf, e_And, e_CmpB, e_Ix, e_V, e_C, bind_ok, List.getElem?_cons_zero, List.getElem?_cons_succ, i2, lift_some, c_eq, dt, liftT_some, c_lt, i1, i0, ln, e_Bi, e_aCons, e_aNil, hi2, decide_false, e_sNx]
    · simp only [e_sIf, e_And, e_CmpB, e_Ix, e_V, e_C, bind_ok, List.getElem?_cons_zero, List.getElem?_cons_succ, i2, lift_some, c_eq, liftT_some, hc0, decide_false, e_sNx]
end
end B
end
section
set_option Elab.async false
set_option linter.all false
set_option maxRecDepth 100000
set_option maxHeartbeats 4000000
namespace B
open PySem
inductive F2 {α β : Type} (Q : α → β → Prop) : List α → List β → Prop
  | nil : F2 Q [] []
  | cons {a : α} {b : β} {as : List α} {bs : List β} : Q a b → F2 Q as bs → F2 Q (a :: as) (b :: bs)
theorem F2.length {α β : Type} {Q : α → β → Prop} {as : List α} {bs : List β} (h : F2 Q as bs) : as.length = bs.length := by
  induction h with
  | nil => rfl
  | cons _ _ ih => simp [ih]
theorem F2.map {α β : Type} {f : α → β} {as : List α} {bs : List β} (h : F2 (fun a b => b = f a) as bs) : bs = as.map f := by
  induction h with
  | nil => rfl
  | cons e _ ih => rw [e, ih]; rfl
/-! ### comprehensions -/
theorem comp_inv {k : IG} {e : I} {vs : List Nat} {ρ : Fns} {g : List Sl} {P : List Ob → Prop} {Q : D → D → Prop} : ∀ (ds : List D) (h : List Ob), P h →
    (∀ d ∈ ds, ∀ h, P h → ∃ s1 y s2, k d ⟨wipeS g vs, h⟩ = some s1 ∧ e ρ s1 = .ok y s2 ∧ wipeS s2.g vs = wipeS g vs ∧ P s2.h ∧ Q d y) →
    ∃ ys h', P h' ∧ F2 Q ds ys ∧ compL k tYes e vs ρ ds ⟨wipeS g vs, h⟩ = some (ys, ⟨wipeS g vs, h'⟩)
  | [], h, p, _ => ⟨[], h, p, .nil, rfl⟩
  | d :: ds, h, p, H => by
    obtain ⟨s1, y, s2, e1, e2, e3, p2, q⟩ := H d List.mem_cons_self h p
    obtain ⟨ys, h', p', qs, e4⟩ := comp_inv ds s2.h p2 fun d' hd => H d' (List.mem_cons_of_mem _ hd)
    refine ⟨y :: ys, h', p', .cons q qs, ?_⟩
    show (match k d ⟨wipeS g vs, h⟩ with
      | none => none
      | some s1 => match tYes ρ s1 with
        | .ok true s2 => (match e ρ s2 with
          | .ok y s3 => (match compL k tYes e vs ρ ds ⟨wipeS s3.g vs, s3.h⟩ with
            | some (ys, s4) => some (y :: ys, s4)
            | none => none)
          | _ => none)
        | .ok false s2 => compL k tYes e vs ρ ds ⟨wipeS s2.g vs, s2.h⟩
        | _ => none) = _
    rw [e1]
    show (match e ρ s1 with
          | .ok y s3 => (match compL k tYes e vs ρ ds ⟨wipeS s3.g vs, s3.h⟩ with
            | some (ys, s4) => some (y :: ys, s4)
            | none => none)
          | _ => none) = _
    rw [e2]
    show (match compL k tYes e vs ρ ds ⟨wipeS s2.g vs, s2.h⟩ with
            | some (ys, s4) => some (y :: ys, s4)
            | none => none) = _
    rw [e3, e4]
theorem i_comp {w : IL} {k : IG} {e : I} {vs : List Nat} {ρ : Fns} {g : List Sl} {h h1 : List Ob} {ds : List D} {P : List Ob → Prop} {Q : D → D → Prop} (hw : w ρ ⟨g, h⟩ = .ok ds ⟨g, h1⟩) (p : P h1)
    (H : ∀ d ∈ ds, ∀ h, P h → ∃ s1 y s2, k d ⟨wipeS g vs, h⟩ = some s1 ∧ e ρ s1 = .ok y s2 ∧ wipeS s2.g vs = wipeS g vs ∧ P s2.h ∧ Q d y) (hg : backS (wipeS g vs) g vs = g) :
    ∃ ys h', P h' ∧ F2 Q ds ys ∧ iComp w k tYes e vs ρ ⟨g, h⟩ = .ok (.lst ys) ⟨g, h'⟩ := by
  obtain ⟨ys, h', p', qs, e4⟩ := comp_inv ds h1 p H
  refine ⟨ys, h', p', qs, ?_⟩
  show (w ρ ⟨g, h⟩).bind (fun ds s => match compL k tYes e vs ρ ds ⟨wipeS s.g vs, s.h⟩ with
    | some (ys, s') => R.ok (D.lst ys) ⟨backS s'.g s.g vs, s'.h⟩
    | none => .bad) = _
  rw [hw, bind_ok]
  show (match compL k tYes e vs ρ ds ⟨wipeS g vs, h1⟩ with
    | some (ys, s') => R.ok (D.lst ys) ⟨backS s'.g g vs, s'.h⟩
    | none => .bad) = _
  rw [e4]
  show R.ok (D.lst ys) ⟨backS (wipeS g vs) g vs, h'⟩ = _
  rw [hg]
/-- the heap stays -/
theorem i_map {w : IL} {k : IG} {e : I} {vs : List Nat} {ρ : Fns} {g : List Sl} {h h1 : List Ob} {ds : List D} {f : D → D} (hw : w ρ ⟨g, h⟩ = .ok ds ⟨g, h1⟩)
    (H : ∀ d ∈ ds, ∃ s1 s2, k d ⟨wipeS g vs, h1⟩ = some s1 ∧ e ρ s1 = .ok (f d) s2 ∧ wipeS s2.g vs = wipeS g vs ∧ s2.h = h1) (hg : backS (wipeS g vs) g vs = g) :
    iComp w k tYes e vs ρ ⟨g, h⟩ = .ok (.lst (ds.map f)) ⟨g, h1⟩ := by
  obtain ⟨ys, h', p', qs, e4⟩ := i_comp (P := fun h => h = h1) (Q := fun d y => y = f d) (e := e) (k := k) hw rfl (fun d hd h hh => by
    subst hh
    obtain ⟨s1, s2, a, b, c, dd⟩ := H d hd
    exact ⟨s1, _, s2, a, b, c, dd, rfl⟩) hg
  rw [e4, p', qs.map]
theorem seq_nx {p q : IS} {ρ : Fns} {s s' : S} (h : p ρ s = .ok .nx s') : sSeq p q ρ s = q ρ s' := by
  rw [e_Seq, h, bind_ok]
theorem seq_rt {p q : IS} {ρ : Fns} {s s' : S} {d : D} (h : p ρ s = .ok (.rt d) s') : sSeq p q ρ s = .ok (.rt d) s' := by
  rw [e_Seq, h, bind_ok]
theorem run_rt {n : Nat} {b : IS} {ρ : Fns} {ds : List D} {h : List Ob} {d : D} {g : List Sl} {h' : List Ob} {g' : List Sl} (e : b ρ ⟨g, h⟩ = .ok (.rt d) ⟨g', h'⟩) (hg : ds.map .val ++ List.replicate (n - ds.length) .no = g) : runD n b ρ ds h = .ok d h' := by
  unfold runD
  rw [hg, e]
/-! ### the common defs -/
def wOpened : IS := (sSeq (sRet (iLstH (aCons (iBi .list (aCons (iSl (iV 0) pNo (pInt (iC (.int 63)))) aNil)) (aCons (iC (.int 0)) (aCons (iC (.int 0)) (aCons (iC (.int 5744)) (aCons (iC (.int 0)) aNil)))))))
  sNx)
theorem opened_ok {ρ : Fns} {ns : List Int} {h : List Ob} : runD 1 wOpened ρ [.rdl (ns.map .int)] h = .ok (.ref h.length) (h ++ [.lst (bagL (ns.take 63) 0 0 5744 0)]) := by
  have e : wOpened ρ ⟨[.val (.rdl (ns.map .int))], h⟩ = .ok (.rt (.ref h.length)) ⟨[.val (.rdl (ns.map .int))], h ++ [.lst (bagL (ns.take 63) 0 0 5744 0)]⟩ := by
    have c : ∀ l : List D, cut l none (some 63) = l.take 63 := fun l => by
      unfold cut
      rw [HT.sIx_none, show (63 : Int) = ((63 : Nat) : Int) from rfl, HT.sIx_nat]
      simp
    simp [wOpened, slD, c, biD, listD, seqD, bagL, sizeLine]
  exact run_rt e rfl
def PullOk (ρ : Fns) : Prop := ∀ (h : List Ob) (b : Nat) (l : List D) (m : Int), h[b]? = some (.lst l) → BagL l → 0 < m → m < 1073741824 → ∃ d l', 0 ≤ d ∧ d < m ∧ BagL l' ∧ ρ "_law_pull" [.ref b, .int m] h = .ok (.int d) (h.set b (.lst l'))
/-- pulled from h: the bag alone has changed -/
def Pulled (b : Nat) (h h' : List Ob) : Prop := ∃ l', BagL l' ∧ h' = h.set b (.lst l')
def HasBag (h : List Ob) (b : Nat) : Prop := ∃ l, h[b]? = some (.lst l) ∧ BagL l
theorem Pulled.bag {b : Nat} {h h' : List Ob} (p : Pulled b h h') (B : HasBag h b) : HasBag h' b := by
  obtain ⟨l, hb, _⟩ := B
  obtain ⟨l', B', rfl⟩ := p
  have hl : b < h.length := by
    rcases Nat.lt_or_ge b h.length with q | q
    · exact q
    · rw [List.getElem?_eq_none q] at hb; cases hb
  exact ⟨l', List.getElem?_set_self hl, B'⟩
theorem Pulled.trans {b : Nat} {h h1 h2 : List Ob} (p : Pulled b h h1) (q : Pulled b h1 h2) : Pulled b h h2 := by
  obtain ⟨l, _, rfl⟩ := p
  obtain ⟨l', B, rfl⟩ := q
  exact ⟨l', B, List.set_set ..⟩
theorem Pulled.refl {b : Nat} {h : List Ob} (B : HasBag h b) : Pulled b h h := by
  obtain ⟨l, hb, B⟩ := B
  refine ⟨l, B, ?_⟩
  have hl : b < h.length := by
    rcases Nat.lt_or_ge b h.length with q | q
    · exact q
    · rw [List.getElem?_eq_none q] at hb; cases hb
  rw [List.getElem?_eq_getElem hl] at hb
  rw [← (Option.some.inj hb : h[b] = _)]
  exact (List.set_getElem_self hl).symm
theorem PullOk.go {ρ : Fns} (P : PullOk ρ) {h : List Ob} {b : Nat} {m : Int} (B : HasBag h b) (h0 : 0 < m) (h1 : m < 1073741824) : ∃ (d : Nat) (h' : List Ob), (d : Int) < m ∧ Pulled b h h' ∧ ρ "_law_pull" [.ref b, .int m] h = .ok (.int d) h' := by
  obtain ⟨l, hb, B⟩ := B
  obtain ⟨d, l', q1, q2, q3, q4⟩ := P h b l m hb B h0 h1
  refine ⟨d.toNat, _, by omega, ⟨l', q3, rfl⟩, ?_⟩
  rw [q4, Int.toNat_of_nonneg q1]
theorem PullOk.of {T : Txt} {e : Ent} {n : Nat} (h : T.ent "_law_pull" = some e) (h1 : e.N.length = 5) (h2 : e.fb = wPull) : PullOk (T.rho (n + 1)) := fun hh b l m hb B h3 h4 => by
  have e2 : T.rho (n + 1) "_law_pull" = runD 5 wPull (T.rho n) := by
    show (match T.ent "_law_pull" with
        | some e => runD e.N.length e.fb (T.rho n)
        | none => fun _ _ => .bad) = _
    rw [h]
    show runD e.N.length e.fb (T.rho n) = _
    rw [h1, h2]
  rw [e2]
  exact pull_ok hb B h3 h4
theorem rho_run {T : Txt} {x : Str} {e : Ent} {n : Nat} (h : T.ent x = some e) : T.rho (n + 1) x = runD e.N.length e.fb (T.rho n) := by
  show (match T.ent x with
      | some e => runD e.N.length e.fb (T.rho n)
      | none => fun _ _ => .bad) = _
  rw [h]
def wAny : IS := (sSeq (sRet (iIx (iV 1) (iCall "_law_pull" [.ix 0, .ix 1] (aCons (iV 0) (aCons (iBi .len (aCons (iV 1) aNil)) aNil)) aNil)))
  sNx)
theorem at_nat {α : Type} {l : List α} {d : Nat} (h : d < l.length) : L2.atI l (d : Int) = some l[d] := by
  unfold L2.atI L2.ixN
  rw [if_pos (by omega), if_pos (by omega)]
  simp [h]
/-- one of the things -/
theorem any_str {ρ : Fns} (P : PullOk ρ) {h : List Ob} {b : Nat} {s : List Nat} (B : HasBag h b) (h0 : s ≠ []) (h1 : s.length < 1073741824) : ∃ c h', c ∈ s ∧ Pulled b h h' ∧ runD 2 wAny ρ [.ref b, .str s] h = .ok (.str [c]) h' := by
  have hp : 0 < s.length := List.length_pos_iff.mpr h0
  obtain ⟨d, h', q1, q2, q3⟩ := P.go (m := (s.length : Int)) B (by omega) (by omega)
  have hd : d < s.length := by omega
  refine ⟨s[d], h', List.getElem_mem hd, q2, ?_⟩
  have e : wAny ρ ⟨[.val (.ref b), .val (.str s)], h⟩ = .ok (.rt (.str [s[d]])) ⟨[.val (.ref b), .val (.str s)], h'⟩ := by
    simp [wAny, biD, lenD, permD, q3, ixD, at_nat hd]
  exact run_rt e rfl
theorem any_lst {ρ : Fns} (P : PullOk ρ) {h : List Ob} {b : Nat} {s : List D} (B : HasBag h b) (h0 : s ≠ []) (h1 : s.length < 1073741824) : ∃ c h', c ∈ s ∧ Pulled b h h' ∧ runD 2 wAny ρ [.ref b, .lst s] h = .ok c h' := by
  have hp : 0 < s.length := List.length_pos_iff.mpr h0
  obtain ⟨d, h', q1, q2, q3⟩ := P.go (m := (s.length : Int)) B (by omega) (by omega)
  have hd : d < s.length := by omega
  refine ⟨s[d], h', List.getElem_mem hd, q2, ?_⟩
  have e : wAny ρ ⟨[.val (.ref b), .val (.lst s)], h⟩ = .ok (.rt s[d]) ⟨[.val (.ref b), .val (.lst s)], h'⟩ := by
    simp [wAny, biD, lenD, permD, q3, ixD, seqD, at_nat hd]
  exact run_rt e rfl
theorem any_tup {ρ : Fns} (P : PullOk ρ) {h : List Ob} {b : Nat} {s : List D} (B : HasBag h b) (h0 : s ≠ []) (h1 : s.length < 1073741824) : ∃ c h', c ∈ s ∧ Pulled b h h' ∧ runD 2 wAny ρ [.ref b, .tup s] h = .ok c h' := by
  have hp : 0 < s.length := List.length_pos_iff.mpr h0
  obtain ⟨d, h', q1, q2, q3⟩ := P.go (m := (s.length : Int)) B (by omega) (by omega)
  have hd : d < s.length := by omega
  refine ⟨s[d], h', List.getElem_mem hd, q2, ?_⟩
  have e : wAny ρ ⟨[.val (.ref b), .val (.tup s)], h⟩ = .ok (.rt s[d]) ⟨[.val (.ref b), .val (.tup s)], h'⟩ := by
    simp [wAny, biD, lenD, permD, q3, ixD, seqD, at_nat hd]
  exact run_rt e rfl
end B
end
section
set_option Elab.async false
set_option linter.all false
set_option maxRecDepth 100000
set_option maxHeartbeats 4000000
namespace B
open PySem
section
variable (ρ : Fns) (s : S) (a b c : I) (l r : IL) (t u : IT) (p q : IS) (d e : D) (g : List Sl) (h : List Ob)
@[simp] theorem e_iAnd : iAnd a b ρ s = (a ρ s).bind fun x s => match truthD x with
  | some true => b ρ s
  | some false => .ok x s
  | none => .bad := rfl
@[simp] theorem e_iOr : iOr a b ρ s = (a ρ s).bind fun x s => match truthD x with
  | some true => .ok x s
  | some false => b ρ s
  | none => .bad := rfl
@[simp] theorem e_iNot : iNot a ρ s = (a ρ s).bind fun x s => lift ((truthD x).map fun b => .bl (!b)) s := rfl
@[simp] theorem e_Chain (o1 o2 : CmpOp) : iChain o1 o2 a b c ρ s = (a ρ s).bind fun x s => (b ρ s).bind fun y s => match cmpD o1 x y with
  | some true => (c ρ s).bind fun z s => lift ((cmpD o2 y z).map .bl) s
  | some false => .ok (.bl false) s
  | none => .bad := rfl
@[simp] theorem e_ChB (o1 o2 : CmpOp) : tChB o1 o2 a b c ρ s = (a ρ s).bind fun x s => (b ρ s).bind fun y s => match cmpD o1 x y with
  | some true => (c ρ s).bind fun z s => liftT (cmpD o2 y z) s
  | some false => .ok false s
  | none => .bad := rfl
@[simp] theorem e_gT (is : List Nat) (xs : List D) : gT is (.tup xs) s = gVs is xs s := rfl
@[simp] theorem e_gVs0 : gVs [] [] s = some s := rfl
@[simp] theorem e_gVs1 (i : Nat) (is : List Nat) (ds : List D) : gVs (i :: is) (d :: ds) ⟨g, h⟩ = gVs is ds ⟨g.set i (.val d), h⟩ := rfl
@[simp] theorem e_Mt (m : Mt) : iMt m a l ρ s = (a ρ s).bind fun x s => match mtOk m x with
  | true => (l ρ s).bind fun xs s => lift (mtD m x xs) s
  | false => .bad := rfl
@[simp] theorem e_wSeq : wSeq a ρ s = (a ρ s).bind fun x s => match x with
  | .str t => .ok (t.map fun c => .str [c]) s
  | .tup l => .ok l s
  | .lst l => .ok l s
  | _ => .bad := rfl
@[simp] theorem e_wZip : wZip l ρ s = (l ρ s).bind fun xs s => match xs with
  | [.lst l, .lst r] => .ok ((l.zip r).map pairD) s
  | [.tup l, .tup r] => .ok ((l.zip r).map pairD) s
  | _ => .bad := rfl
end
def cpOk (x : List Nat) : Bool := x.all fun c => decide (c < 1114112)
theorem eqOk_str {x : List Nat} (h : cpOk x = true) : eqOk (.str x) = true := by
  simp only [eqOk, isData, pd, SeqAt.shaped, PyData.canLay0, PyData.depth, PyData.strOk]
  simpa [cpOk] using h
theorem c_eqS {x y : List Nat} (hx : cpOk x = true) (hy : cpOk y = true) : cmpD .Eq (.str x) (.str y) = some (decide (x = y)) := by
  show (if eqOk (.str x) && eqOk (.str y) then some ((⟨x.toArray⟩ : Str) == ⟨y.toArray⟩) else none) = _
  rw [eqOk_str hx, eqOk_str hy]
  simp only [Bool.and_self, if_true]
  by_cases e : x = y
  · subst e
    simp
  · have : ((⟨x.toArray⟩ : Str) == ⟨y.toArray⟩) = false := by
      apply beq_eq_false_iff_ne.mpr
      intro z
      apply e
      have := congrArg (fun s : Str => s.cps.toList) z
      exact this
    rw [this]
    simp [e]
@[simp] theorem i_non_int (h : List Ob) : biD .isi h [.non, .ty "int"] = some (.bl false) := rfl
@[simp] theorem i_non_bool (h : List Ob) : biD .isi h [.non, .ty "bool"] = some (.bl false) := rfl
@[simp] theorem i_non_str (h : List Ob) : biD .isi h [.non, .ty "str"] = some (.bl false) := rfl
@[simp] theorem i_non_list (h : List Ob) : biD .isi h [.non, .ty "list"] = some (.bl false) := rfl
@[simp] theorem i_non_tuple (h : List Ob) : biD .isi h [.non, .ty "tuple"] = some (.bl false) := rfl
@[simp] theorem i_non_lt (h : List Ob) : biD .isi h [.non, .tup [.ty "list", .ty "tuple"]] = some (.bl false) := rfl
@[simp] theorem i_bl_int (h : List Ob) (x : Bool) : biD .isi h [(.bl x), .ty "int"] = some (.bl true) := rfl
@[simp] theorem i_bl_bool (h : List Ob) (x : Bool) : biD .isi h [(.bl x), .ty "bool"] = some (.bl true) := rfl
@[simp] theorem i_bl_str (h : List Ob) (x : Bool) : biD .isi h [(.bl x), .ty "str"] = some (.bl false) := rfl
@[simp] theorem i_bl_list (h : List Ob) (x : Bool) : biD .isi h [(.bl x), .ty "list"] = some (.bl false) := rfl
@[simp] theorem i_bl_tuple (h : List Ob) (x : Bool) : biD .isi h [(.bl x), .ty "tuple"] = some (.bl false) := rfl
@[simp] theorem i_bl_lt (h : List Ob) (x : Bool) : biD .isi h [(.bl x), .tup [.ty "list", .ty "tuple"]] = some (.bl false) := rfl
@[simp] theorem i_int_int (h : List Ob) (x : Int) : biD .isi h [(.int x), .ty "int"] = some (.bl true) := rfl
@[simp] theorem i_int_bool (h : List Ob) (x : Int) : biD .isi h [(.int x), .ty "bool"] = some (.bl false) := rfl
@[simp] theorem i_int_str (h : List Ob) (x : Int) : biD .isi h [(.int x), .ty "str"] = some (.bl false) := rfl
@[simp] theorem i_int_list (h : List Ob) (x : Int) : biD .isi h [(.int x), .ty "list"] = some (.bl false) := rfl
@[simp] theorem i_int_tuple (h : List Ob) (x : Int) : biD .isi h [(.int x), .ty "tuple"] = some (.bl false) := rfl
@[simp] theorem i_int_lt (h : List Ob) (x : Int) : biD .isi h [(.int x), .tup [.ty "list", .ty "tuple"]] = some (.bl false) := rfl
@[simp] theorem i_str_int (h : List Ob) (x : List Nat) : biD .isi h [(.str x), .ty "int"] = some (.bl false) := rfl
@[simp] theorem i_str_bool (h : List Ob) (x : List Nat) : biD .isi h [(.str x), .ty "bool"] = some (.bl false) := rfl
@[simp] theorem i_str_str (h : List Ob) (x : List Nat) : biD .isi h [(.str x), .ty "str"] = some (.bl true) := rfl
@[simp] theorem i_str_list (h : List Ob) (x : List Nat) : biD .isi h [(.str x), .ty "list"] = some (.bl false) := rfl
@[simp] theorem i_str_tuple (h : List Ob) (x : List Nat) : biD .isi h [(.str x), .ty "tuple"] = some (.bl false) := rfl
@[simp] theorem i_str_lt (h : List Ob) (x : List Nat) : biD .isi h [(.str x), .tup [.ty "list", .ty "tuple"]] = some (.bl false) := rfl
@[simp] theorem i_tup_int (h : List Ob) (x : List D) : biD .isi h [(.tup x), .ty "int"] = some (.bl false) := rfl
@[simp] theorem i_tup_bool (h : List Ob) (x : List D) : biD .isi h [(.tup x), .ty "bool"] = some (.bl false) := rfl
@[simp] theorem i_tup_str (h : List Ob) (x : List D) : biD .isi h [(.tup x), .ty "str"] = some (.bl false) := rfl
@[simp] theorem i_tup_list (h : List Ob) (x : List D) : biD .isi h [(.tup x), .ty "list"] = some (.bl false) := rfl
@[simp] theorem i_tup_tuple (h : List Ob) (x : List D) : biD .isi h [(.tup x), .ty "tuple"] = some (.bl true) := rfl
@[simp] theorem i_tup_lt (h : List Ob) (x : List D) : biD .isi h [(.tup x), .tup [.ty "list", .ty "tuple"]] = some (.bl true) := rfl
@[simp] theorem i_lst_int (h : List Ob) (x : List D) : biD .isi h [(.lst x), .ty "int"] = some (.bl false) := rfl
@[simp] theorem i_lst_bool (h : List Ob) (x : List D) : biD .isi h [(.lst x), .ty "bool"] = some (.bl false) := rfl
@[simp] theorem i_lst_str (h : List Ob) (x : List D) : biD .isi h [(.lst x), .ty "str"] = some (.bl false) := rfl
@[simp] theorem i_lst_list (h : List Ob) (x : List D) : biD .isi h [(.lst x), .ty "list"] = some (.bl true) := rfl
@[simp] theorem i_lst_tuple (h : List Ob) (x : List D) : biD .isi h [(.lst x), .ty "tuple"] = some (.bl false) := rfl
@[simp] theorem i_lst_lt (h : List Ob) (x : List D) : biD .isi h [(.lst x), .tup [.ty "list", .ty "tuple"]] = some (.bl true) := rfl
@[simp] theorem n_non : cmpD .Is .non .non = some true := rfl
@[simp] theorem nn_non : cmpD .IsNot .non .non = some false := rfl
@[simp] theorem n_bl (x : Bool) : cmpD .Is (.bl x) .non = some false := rfl
@[simp] theorem nn_bl (x : Bool) : cmpD .IsNot (.bl x) .non = some true := rfl
@[simp] theorem n_int (x : Int) : cmpD .Is (.int x) .non = some false := rfl
@[simp] theorem nn_int (x : Int) : cmpD .IsNot (.int x) .non = some true := rfl
@[simp] theorem n_str (x : List Nat) : cmpD .Is (.str x) .non = some false := rfl
@[simp] theorem nn_str (x : List Nat) : cmpD .IsNot (.str x) .non = some true := rfl
@[simp] theorem n_tup (x : List D) : cmpD .Is (.tup x) .non = some false := rfl
@[simp] theorem nn_tup (x : List D) : cmpD .IsNot (.tup x) .non = some true := rfl
@[simp] theorem n_lst (x : List D) : cmpD .Is (.lst x) .non = some false := rfl
@[simp] theorem nn_lst (x : List D) : cmpD .IsNot (.lst x) .non = some true := rfl
@[simp] theorem k_list : ([D.ty "list", D.ty "tuple"] : List D).length ≤ sizeLine := by decide
theorem wRange_nat {l : IL} {ρ : Fns} {s s' : S} {n : Nat} (h : l ρ s = .ok [.int (n : Int)] s') (hn : n ≤ sizeLine) : wRange l ρ s = .ok ((List.range n).map fun (k : Nat) => D.int (k : Int)) s' := by
  show (l ρ s).bind (fun xs s => match xs with
    | [.int n] => if -(2 ^ 62) ≤ n ∧ n ≤ sizeLine then R.ok ((List.range n.toNat).map fun (k : Nat) => D.int (k : Int)) s else .bad
    | [.int i, .int j] => if (-(2 ^ 62) ≤ i ∧ i < 2 ^ 62 ∧ -(2 ^ 62) ≤ j ∧ j < 2 ^ 62) ∧ j - i ≤ sizeLine then .ok ((List.range (j - i).toNat).map fun (k : Nat) => D.int (i + (k : Int))) s else .bad
    | _ => .bad) = _
  rw [h, bind_ok]
  show (if -(2 ^ 62) ≤ (n : Int) ∧ (n : Int) ≤ sizeLine then R.ok ((List.range (n : Int).toNat).map fun (k : Nat) => D.int (k : Int)) s' else .bad) = _
  rw [if_pos ⟨by omega, by omega⟩, Int.toNat_natCast]
/-! ### alike -/
def wLike : IS := (sSeq (sIf (tTru (iBi .isi (aCons (iV 1) (aCons (iTup (aCons (iC (.ty "list")) (aCons (iC (.ty "tuple")) aNil))) aNil)))) (sSeq (sIf (tOr (tCmpB .NotEq (iBi .isi (aCons (iV 0) (aCons (iC (.ty "list")) aNil))) (iBi .isi (aCons (iV 1) (aCons (iC (.ty "list")) aNil)))) (tCmpB .NotEq (iBi .isi (aCons (iV 0) (aCons (iC (.ty "tuple")) aNil))) (iBi .isi (aCons (iV 1) (aCons (iC (.ty "tuple")) aNil))))) (sSeq (sRet (iC (.bl false)))
  sNx) sNx)
  (sSeq (sRet (iAnd (iCmp .Eq (iBi .len (aCons (iV 0) aNil)) (iBi .len (aCons (iV 1) aNil))) (iBi .all (aCons (iComp (wZip (aCons (iV 0) (aCons (iV 1) aNil))) (gT [2, 3]) tYes (iCall "_law_like" [.ix 0, .ix 1] (aCons (iV 2) (aCons (iV 3) aNil)) aNil) [2, 3]) aNil))))
  sNx)) sNx)
  (sSeq (sIf (tOr (tCmpB .Is (iV 1) (iC .non)) (tCmpB .Is (iV 0) (iC .non))) (sSeq (sRet (iAnd (iCmp .Is (iV 1) (iC .non)) (iCmp .Is (iV 0) (iC .non))))
  sNx) sNx)
  (sSeq (sIf (tOr (tCmpB .NotEq (iBi .isi (aCons (iV 0) (aCons (iC (.ty "bool")) aNil))) (iBi .isi (aCons (iV 1) (aCons (iC (.ty "bool")) aNil)))) (tCmpB .NotEq (iBi .isi (aCons (iV 0) (aCons (iC (.ty "int")) aNil))) (iBi .isi (aCons (iV 1) (aCons (iC (.ty "int")) aNil))))) (sSeq (sRet (iC (.bl false)))
  sNx) sNx)
  (sSeq (sRet (iAnd (iCmp .Eq (iBi .isi (aCons (iV 0) (aCons (iC (.ty "str")) aNil))) (iBi .isi (aCons (iV 1) (aCons (iC (.ty "str")) aNil)))) (iCmp .Eq (iV 0) (iV 1))))
  sNx))))
/-- trees of plain values, at most n deep -/
def okD : Nat → D → Bool
  | _, .non => true
  | _, .bl _ => true
  | _, .int _ => true
  | _, .str s => cpOk s
  | n + 1, .lst l => l.all (okD n)
  | n + 1, .tup l => l.all (okD n)
  | _, _ => false
theorem all_true {α : Type} (l : List α) : bools (l.map fun _ => D.bl true) = some (l.map fun _ => true) := by
  induction l with
  | nil => rfl
  | cons a l ih => simp [bools, ih]
theorem like_step {ρ : Fns} {h : List Ob} {n : Nat} (ih : ∀ d, okD n d = true → ρ "_law_like" [d, d] h = .ok (.bl true) h) (l : List D) (hl : l.all (okD n) = true) (z : D) (g : List Sl) (hg : g = [.val z, .val z, .no, .no]) (hw : (aCons (iV 0) (aCons (iV 1) aNil)) ρ ⟨g, h⟩ = .ok [z, z] ⟨g, h⟩) (hz : z = .lst l ∨ z = .tup l) :
    iComp (wZip (aCons (iV 0) (aCons (iV 1) aNil))) (gT [2, 3]) tYes (iCall "_law_like" [.ix 0, .ix 1] (aCons (iV 2) (aCons (iV 3) aNil)) aNil) [2, 3] ρ ⟨g, h⟩ = .ok (.lst (((l.zip l).map pairD).map fun _ => .bl true)) ⟨g, h⟩ := by
  have w : wZip (aCons (iV 0) (aCons (iV 1) aNil)) ρ ⟨g, h⟩ = .ok ((l.zip l).map pairD) ⟨g, h⟩ := by
    rw [e_wZip, hw, bind_ok]
    rcases hz with rfl | rfl <;> rfl
  subst hg
  refine i_map (f := fun _ => .bl true) w (fun d hd => ?_) rfl
  obtain ⟨⟨x, y⟩, hp, rfl⟩ := List.mem_map.mp hd
  have hxy : x = y ∧ x ∈ l := by
    have : ∀ (l : List D), (x, y) ∈ l.zip l → x = y ∧ x ∈ l := fun l => by
      induction l with
      | nil => intro z; cases z
      | cons a l ih =>
        intro z
        rw [List.zip_cons_cons] at z
        rcases List.mem_cons.mp z with e | z
        · cases e; exact ⟨rfl, List.mem_cons_self⟩
        · exact ⟨(ih z).1, List.mem_cons_of_mem _ (ih z).2⟩
    exact this l hp
  obtain ⟨rfl, hx⟩ := hxy
  have hx' := ih x (List.all_eq_true.mp hl x hx)
  refine ⟨⟨[.val z, .val z, .val x, .val x], h⟩, ⟨[.val z, .val z, .val x, .val x], h⟩, rfl, ?_, rfl, rfl⟩
  simp [permD, hx']
theorem like_ok {T : Txt} {e : Ent} (he : T.ent "_law_like" = some e) (h1 : e.N.length = 4) (h2 : e.fb = wLike) : ∀ (n : Nat) (d : D) (h : List Ob), okD n d = true → T.rho (n + 1) "_law_like" [d, d] h = .ok (.bl true) h := fun n => by
  have lst2 : (2 : Nat) ≤ sizeLine := by decide
  have flat : ∀ (ρ : Fns) (d : D) (h : List Ob), okD 0 d = true → runD 4 wLike ρ [d, d] h = .ok (.bl true) h := fun ρ d h hd => by
    cases d <;> first | (cases hd; done) | skip
    · exact run_rt (g := [.val .non, .val .non, .no, .no]) (g' := [.val .non, .val .non, .no, .no]) (by simp [wLike, lst2]) rfl
    · rename_i b
      exact run_rt (g := [.val (.bl b), .val (.bl b), .no, .no]) (g' := [.val (.bl b), .val (.bl b), .no, .no]) (by simp [wLike, lst2]) rfl
    · rename_i b
      exact run_rt (g := [.val (.int b), .val (.int b), .no, .no]) (g' := [.val (.int b), .val (.int b), .no, .no]) (by simp [wLike, lst2]) rfl
    · rename_i b
      have hb : cpOk b = true := hd
      exact run_rt (g := [.val (.str b), .val (.str b), .no, .no]) (g' := [.val (.str b), .val (.str b), .no, .no]) (by simp [wLike, lst2, c_eqS hb hb]) rfl
  induction n with
  | zero =>
    intro d h hd
    rw [rho_run he, h1, h2]
    exact flat _ d h hd
  | succ n ih =>
    intro d h hd
    rw [rho_run he, h1, h2]
    have al : ∀ (h : List Ob) (l : List D), biD .all h [.lst (((l.zip l).map pairD).map fun _ => D.bl true)] = some (.bl true) := fun h l => by
      show (bools (((l.zip l).map pairD).map fun _ => D.bl true)).map (fun bs => D.bl (bs.all id)) = _
      rw [all_true]
      simp
    cases d <;> first | exact flat _ _ h rfl | exact flat _ _ h hd | (cases hd; done) | skip
    · rename_i l
      have c := like_step (ρ := T.rho (n + 1)) (h := h) (fun d hd => ih d h hd) l hd (.tup l) _ rfl (by simp) (.inr rfl)
      refine run_rt (g := [.val (.tup l), .val (.tup l), .no, .no]) (g' := [.val (.tup l), .val (.tup l), .no, .no]) ?_ rfl
      have ll : ∀ h, biD .len h [.tup l] = some (.int l.length) := fun _ => rfl
      simp only [wLike, e_Seq, e_sIf, e_Tru, e_Bi, e_aCons, e_aNil, e_V, e_Tup, e_C, bind_ok, List.getElem?_cons_zero, List.getElem?_cons_succ, List.length_cons, List.length_nil, lst2, if_true, lift_some, i_tup_lt, t_bl, liftT_some, e_Or, e_CmpB, i_tup_list, i_tup_tuple, c_neB, e_sNx, e_Ret, e_iAnd, e_Cmp, ll, c_eq, Option.map_some, c, al, Bool.not_true, beq_self_eq_true, decide_true]
    · rename_i l
      have c := like_step (ρ := T.rho (n + 1)) (h := h) (fun d hd => ih d h hd) l hd (.lst l) _ rfl (by simp) (.inl rfl)
      refine run_rt (g := [.val (.lst l), .val (.lst l), .no, .no]) (g' := [.val (.lst l), .val (.lst l), .no, .no]) ?_ rfl
      have ll : ∀ h, biD .len h [.lst l] = some (.int l.length) := fun _ => rfl
      simp only [wLike, e_Seq, e_sIf, e_Tru, e_Bi, e_aCons, e_aNil, e_V, e_Tup, e_C, bind_ok, List.getElem?_cons_zero, List.getElem?_cons_succ, List.length_cons, List.length_nil, lst2, if_true, lift_some, i_lst_lt, t_bl, liftT_some, e_Or, e_CmpB, i_lst_list, i_lst_tuple, c_neB, e_sNx, e_Ret, e_iAnd, e_Cmp, ll, c_eq, Option.map_some, c, al, Bool.not_true, beq_self_eq_true, decide_true]
end B
end
section
set_option Elab.async false
set_option linter.all false
set_option maxRecDepth 100000
set_option maxHeartbeats 4000000
namespace B
open PySem
def LET : List Nat := [97, 98, 99, 100, 101, 102, 103, 104, 105, 106, 107, 108, 109, 110, 111, 112, 113, 114, 115, 116, 117, 118, 119, 120, 121, 122]
def RES : List (List Nat) := [[116, 114, 117, 101], [110, 111, 116], [97, 110, 100], [111, 114], [102, 114, 111, 109], [116, 111], [105, 102], [101, 108, 115, 101], [101, 110, 100], [102, 97, 105, 108], [114, 101, 116, 117, 114, 110], [99, 97, 108, 108], [110, 101, 119], [99, 117, 116], [116, 105, 101], [115, 101, 116], [99, 108, 101, 97, 114], [100, 114, 111, 112], [115, 99, 114, 105, 112, 116], [114, 117, 108, 101], [103, 114, 97, 112, 104], [110, 111, 100, 101], [108, 105, 110, 107], [102, 108, 97, 103, 115], [108, 105, 110, 107, 115]]
/-- a name as the program takes it -/
structure IsN (w : List Nat) : Prop where
  pos : 1 ≤ w.length
  le : w.length ≤ 8
  res : w ∉ RES
  let_ : ∀ c ∈ w, c ∈ LET
def wNames : IS := (sSeq (sAsg (iC (.str [97, 98, 99, 100, 101, 102, 103, 104, 105, 106, 107, 108, 109, 110, 111, 112, 113, 114, 115, 116, 117, 118, 119, 120, 121, 122])) (gV 2))
  (sSeq (sAsg (iMt .join (iC (.str [])) (aCons (iComp (wRange (aCons (iCall "_law_pull" [.ix 0, .ix 1] (aCons (iV 0) (aCons (iC (.int 7)) aNil)) aNil) aNil)) (gV 4) tYes (iCall "_law_any" [.ix 0, .ix 1] (aCons (iV 0) (aCons (iV 2) aNil)) aNil) [4]) aNil)) (gV 3))
  (sSeq (sAsg (iTup (aCons (iCall "_law_pull" [.ix 0, .ix 1] (aCons (iV 0) (aCons (iBin .Add (iBi .len (aCons (iV 3) aNil)) (iC (.int 1))) aNil)) aNil) (aCons (iCall "_law_pull" [.ix 0, .ix 1] (aCons (iV 0) (aCons (iC (.int 26)) aNil)) aNil) aNil))) (gT [5, 6]))
  (sSeq (sAsg (iComp (wRange (aCons (iV 1) aNil)) (gV 4) tYes (iBin .Add (iBin .Add (iSl (iV 3) pNo (pInt (iV 5))) (iIx (iV 2) (iBin .Mod (iBi .int (aCons (iBin .Add (iV 6) (iBin .Mult (iC (.int 5)) (iV 4))) aNil)) (iC (.int 26))))) (iSl (iV 3) (pInt (iV 5)) pNo)) [4]) (gV 7))
  (sSeq (sAsg (iLst (aCons (iC (.str [116, 114, 117, 101])) (aCons (iC (.str [110, 111, 116])) (aCons (iC (.str [97, 110, 100])) (aCons (iC (.str [111, 114])) (aCons (iC (.str [102, 114, 111, 109])) (aCons (iC (.str [116, 111])) (aCons (iC (.str [105, 102])) (aCons (iC (.str [101, 108, 115, 101])) (aCons (iC (.str [101, 110, 100])) (aCons (iC (.str [102, 97, 105, 108])) (aCons (iC (.str [114, 101, 116, 117, 114, 110])) (aCons (iC (.str [99, 97, 108, 108])) (aCons (iC (.str [110, 101, 119])) (aCons (iC (.str [99, 117, 116])) (aCons (iC (.str [116, 105, 101])) aNil)))))))))))))))) (gV 8))
  (sSeq (sAsg (iBin .Add (iV 8) (iLst (aCons (iC (.str [115, 101, 116])) (aCons (iC (.str [99, 108, 101, 97, 114])) (aCons (iC (.str [100, 114, 111, 112])) (aCons (iC (.str [115, 99, 114, 105, 112, 116])) (aCons (iC (.str [114, 117, 108, 101])) (aCons (iC (.str [103, 114, 97, 112, 104])) (aCons (iC (.str [110, 111, 100, 101])) (aCons (iC (.str [108, 105, 110, 107])) (aCons (iC (.str [102, 108, 97, 103, 115])) (aCons (iC (.str [108, 105, 110, 107, 115])) aNil)))))))))))) (gV 8))
  (sSeq (sRet (iComp (wSeq (iV 7)) (gV 9) tYes (iIf (tCmpB .In (iV 9) (iV 8)) (iBin .Add (iV 9) (iC (.str [120]))) (iV 9)) [9]))
  sNx)))))))
def AnyOk (ρ : Fns) : Prop := ∀ (h : List Ob) (b : Nat) (s : List Nat), HasBag h b → s ≠ [] → s.length < 1073741824 → ∃ c h', c ∈ s ∧ Pulled b h h' ∧ ρ "_law_any" [.ref b, .str s] h = .ok (.str [c]) h'
theorem AnyOk.of {T : Txt} {e : Ent} {n : Nat} (P : PullOk (T.rho n)) (h : T.ent "_law_any" = some e) (h1 : e.N.length = 2) (h2 : e.fb = wAny) : AnyOk (T.rho (n + 1)) := fun hh b s B h3 h4 => by
  rw [rho_run h, h1, h2]
  exact any_str P B h3 h4
/-- the words' parts -/
def stem (P : IS) : IS := P
theorem join_one : ∀ {ys : List D}, (∀ y ∈ ys, ∃ c ∈ LET, y = .str [c]) → ∃ s : List Nat, strL ys = some (s.map fun c => [c]) ∧ s.length = ys.length ∧ ∀ c ∈ s, c ∈ LET
  | [], _ => ⟨[], rfl, rfl, fun c h => absurd h (List.not_mem_nil)⟩
  | y :: ys, h => by
    obtain ⟨c, hc, rfl⟩ := h y List.mem_cons_self
    obtain ⟨s, h1, h2, h3⟩ := join_one fun y hy => h y (List.mem_cons_of_mem _ hy)
    refine ⟨c :: s, ?_, by simp [h2], fun d hd => ?_⟩
    · show (strL ys).map ([c] :: ·) = _
      rw [h1]
      rfl
    · rcases List.mem_cons.mp hd with rfl | hd
      · exact hc
      · exact h3 d hd
theorem joinL_one : ∀ s : List Nat, TL.joinL [] (s.map fun c => [c]) = s
  | [] => rfl
  | [c] => rfl
  | c :: d :: s => by
    have := joinL_one (d :: s)
    show [c] ++ ([] ++ TL.joinL [] ((d :: s).map fun c => [c])) = _
    rw [this]
    rfl
theorem join_ok {s : List Nat} {ys : List D} (h : strL ys = some (s.map fun c => [c])) (hl : s.length ≤ 1000) : mtD .join (.str []) [.lst ys] = some (.str s) := by
  show (strL ys).bind (fun ys => if (ys.map (·.length)).sum + ys.length * ([] : List Nat).length ≤ 16777216 then some (D.str (TL.joinL [] ys)) else none) = _
  rw [h]
  show (if ((s.map fun c => [c]).map (·.length)).sum + (s.map fun c => [c]).length * ([] : List Nat).length ≤ 16777216 then some (D.str (TL.joinL [] (s.map fun c => [c]))) else none) = _
  have e : ((s.map fun c => [c]).map (·.length)).sum = s.length := by
    rw [List.map_map]
    show (s.map fun _ => 1).sum = _
    clear hl h
    induction s with
    | nil => rfl
    | cons a s ih => simp [ih]; omega
  rw [e, if_pos (by simp; omega), joinL_one]
theorem slice_to (s : List Nat) (n : Nat) (h : List Ob) : slD h (.str s) none (some (n : Int)) = some (.str (s.take n)) := by
  show some (D.str (cut s none (some (n : Int)))) = _
  unfold cut
  rw [HT.sIx_none, HT.sIx_nat]
  simp
theorem slice_from (s : List Nat) (n : Nat) (h : List Ob) : slD h (.str s) (some (n : Int)) none = some (.str (s.drop n)) := by
  show some (D.str (cut s (some (n : Int)) none)) = _
  unfold cut
  rw [HT.sIx_none, HT.sIx_nat]
  by_cases hn : n ≤ s.length
  · rw [Nat.min_eq_left hn, List.take_of_length_le (by simp)]
  · rw [Nat.min_eq_right (by omega), List.drop_length, List.drop_of_length_le (by omega)]
    simp
theorem b_addS {a b : List Nat} (h : a.length + b.length ≤ 1000000) : binD .Add (.str a) (.str b) = some (.str (a ++ b)) := by
  show (if a.length + b.length ≤ sizeLine then some (D.str (a ++ b)) else none) = _
  rw [if_pos (Nat.le_trans h (by decide))]
/-- one found name -/
def found (st : List Nat) (at_ first k : Nat) : List Nat := st.take at_ ++ [LET.getD ((first + 5 * k) % 26) 0] ++ st.drop at_
def fixN (w : List Nat) : List Nat := if w ∈ RES then w ++ [120] else w
theorem in_res (w : List Nat) : cmpD .In (.str w) (.lst (RES.map .str)) = some (decide (w ∈ RES)) := by
  show (if flatD (.str w) && (RES.map D.str).all flatD then some ((RES.map D.str).any fun z => eqF z (.str w)) else none) = _
  rw [if_pos (show (flatD (.str w) && (RES.map D.str).all flatD) = true from rfl)]
  rw [List.any_map]
  congr 1
  rw [Bool.eq_iff_iff, List.any_eq_true, decide_eq_true_iff]
  constructor
  · rintro ⟨x, hx, e⟩
    have : x = w := eq_of_beq e
    rw [← this]; exact hx
  · intro hx
    exact ⟨w, hx, beq_self_eq_true w⟩
theorem isN_fix {w : List Nat} (h1 : 1 ≤ w.length) (h2 : w.length ≤ 7) (h3 : ∀ c ∈ w, c ∈ LET) : IsN (fixN w) := by
  unfold fixN
  split
  · rename_i h
    refine ⟨by simp, by simp; omega, ?_, fun c hc => ?_⟩
    · have : ∀ w ∈ RES, w ++ [120] ∉ RES := by decide
      exact this w h
    · rcases List.mem_append.mp hc with hc | hc
      · exact h3 c hc
      · rw [List.mem_singleton.mp hc]; decide
  · rename_i h
    exact ⟨h1, by omega, h, h3⟩
structure Named (ws : List (List Nat)) (n : Nat) : Prop where
  len : ws.length = n
  ok : ∀ w ∈ ws, IsN w
  nd : ws.Nodup
theorem let_inj : ∀ i < 26, ∀ j < 26, LET.getD i 0 = LET.getD j 0 → i = j := by decide
theorem let_mem : ∀ i < 26, LET.getD i 0 ∈ LET := by decide
theorem five_inj (f i j : Nat) (hi : i < 26) (hj : j < 26) (h : (f + 5 * i) % 26 = (f + 5 * j) % 26) : i = j := by omega
theorem found_len {st : List Nat} {at_ first k : Nat} (h : at_ ≤ st.length) : (found st at_ first k).length = st.length + 1 := by
  unfold found
  simp
  omega
theorem found_inj {st : List Nat} {at_ first i j : Nat} (h : at_ ≤ st.length) (hi : i < 26) (hj : j < 26) (e : found st at_ first i = found st at_ first j) : i = j := by
  unfold found at e
  have e := List.append_cancel_right e
  have e := List.append_cancel_left e
  have e := (List.cons.inj e).1
  exact five_inj first i j hi hj (let_inj _ (Nat.mod_lt _ (by decide)) _ (Nat.mod_lt _ (by decide)) e)
theorem fix_inj {v w : List Nat} (hl : v.length = w.length) (e : fixN v = fixN w) : v = w := by
  unfold fixN at e
  split at e <;> split at e
  · exact List.append_cancel_right e
  · have := congrArg List.length e; simp at this; omega
  · have := congrArg List.length e; simp at this; omega
  · exact e
theorem named {st : List Nat} {at_ first n : Nat} (hs : st.length ≤ 6) (ha : at_ ≤ st.length) (hn : n ≤ 26) (hl : ∀ c ∈ st, c ∈ LET) : Named ((List.range n).map fun k => fixN (found st at_ first k)) n := by
  refine ⟨by simp, fun w hw => ?_, ?_⟩
  · obtain ⟨k, hk, rfl⟩ := List.mem_map.mp hw
    refine isN_fix (by rw [found_len ha]; omega) (by rw [found_len ha]; omega) fun c hc => ?_
    unfold found at hc
    rcases List.mem_append.mp hc with hc | hc
    · rcases List.mem_append.mp hc with hc | hc
      · exact hl c (List.mem_of_mem_take hc)
      · rw [List.mem_singleton.mp hc]; exact let_mem _ (Nat.mod_lt _ (by decide))
    · exact hl c (List.mem_of_mem_drop hc)
  · refine List.pairwise_map.mpr ?_
    refine List.Pairwise.imp_of_mem (fun {a b} ha' hb' hab => ?_) (List.nodup_range (n := n))
    intro e
    rw [List.mem_range] at ha' hb'
    exact hab (found_inj ha (by omega) (by omega) (fix_inj (by rw [found_len ha, found_len ha]) e))
def NamesOk (ρ : Fns) : Prop := ∀ (h : List Ob) (b n : Nat), HasBag h b → n ≤ 26 → ∃ ws h', Named ws n ∧ Pulled b h h' ∧ ρ "_law_names" [.ref b, .int (n : Int)] h = .ok (.lst (ws.map .str)) h'
theorem names_ok {ρ : Fns} (P : PullOk ρ) (A : AnyOk ρ) {h : List Ob} {b n : Nat} (B : HasBag h b) (hn : n ≤ 26) : ∃ ws h', Named ws n ∧ Pulled b h h' ∧ runD 10 wNames ρ [.ref b, .int (n : Int)] h = .ok (.lst (ws.map .str)) h' := by
  have n7 : (7 : Int) < 1073741824 := by decide
  obtain ⟨d, h1, d7, p1, e1⟩ := P.go (m := 7) B (by decide) n7
  have d7 : d < 7 := by omega
  have B1 := p1.bag B
  have sz : ∀ k : Nat, k ≤ 1000 → k ≤ sizeLine := fun k hk => Nat.le_trans hk (by decide)
  -- the stem
  obtain ⟨ys, h2, p2, q2, e2⟩ := i_comp (P := fun h' => Pulled b h h') (Q := fun _ y => ∃ c ∈ LET, y = D.str [c]) (ρ := ρ) (g := [.val (.ref b), .val (.int n), .val (.str LET), .no, .no, .no, .no, .no, .no, .no]) (h := h) (h1 := h1) (vs := [4]) (k := gV 4)
    (w := wRange (aCons (iCall "_law_pull" [.ix 0, .ix 1] (aCons (iV 0) (aCons (iC (.int 7)) aNil)) aNil) aNil)) (e := iCall "_law_any" [.ix 0, .ix 1] (aCons (iV 0) (aCons (iV 2) aNil)) aNil)
    (wRange_nat (n := d) (by simp [permD, e1]) (sz d (by omega))) p1 (fun x hx h' ph => by
      obtain ⟨c, h3, hc, p3, e3⟩ := A h' b LET (ph.bag B) (by decide) (by decide)
      refine ⟨_, _, ⟨[.val (.ref b), .val (.int n), .val (.str LET), .no, .val x, .no, .no, .no, .no, .no], h3⟩, rfl, ?_, rfl, ph.trans p3, c, hc, rfl⟩
      simp [permD, e3, wipeS]) rfl
  obtain ⟨st, j1, j2, j3⟩ := join_one (ys := ys) (fun y hy => by
    have : ∀ {ds ys : List D}, F2 (fun _ y => ∃ c ∈ LET, y = D.str [c]) ds ys → ∀ y ∈ ys, ∃ c ∈ LET, y = D.str [c] := fun q => by
      induction q with
      | nil => intro y hy; cases hy
      | cons a _ ih =>
        intro y hy
        rcases List.mem_cons.mp hy with rfl | hy
        · exact a
        · exact ih y hy
    exact this q2 y hy)
  have jl : st.length ≤ 6 := by
    have := q2.length
    rw [List.length_map, List.length_range] at this
    omega
  have B2 := p2.bag B
  obtain ⟨at_, h3, a7, p3, e3⟩ := P.go (m := (st.length : Int) + 1) B2 (by omega) (by omega)
  have B3 := p3.bag B2
  obtain ⟨fi, h4, f7, p4, e4⟩ := P.go (m := 26) B3 (by decide) (by decide)
  have ha : at_ ≤ st.length := by omega
  refine ⟨_, h4, named jl ha hn j3 (first := fi), (p2.trans p3).trans p4, ?_⟩
  obtain ⟨g0, hg0⟩ : ∃ g0 : List Sl, g0 = [.val (.ref b), .val (.int n), .no, .no, .no, .no, .no, .no, .no, .no] := ⟨_, rfl⟩
  refine run_rt (g' := [.val (.ref b), .val (.int n), .val (.str LET), .val (.str st), .no, .val (.int at_), .val (.int fi), .val (.lst ((List.range n).map fun k => .str (found st at_ fi k))), .val (.lst (RES.map .str)), .no]) ?_ rfl
  unfold wNames
  refine (seq_nx (s' := ⟨[.val (.ref b), .val (.int n), .val (.str LET), .no, .no, .no, .no, .no, .no, .no], h⟩) rfl).trans ?_
  refine (seq_nx (s' := ⟨[.val (.ref b), .val (.int n), .val (.str LET), .val (.str st), .no, .no, .no, .no, .no, .no], h2⟩) ?_).trans ?_
  · rw [e_Asg, e_Mt, e_C, bind_ok]
    show ((aCons _ aNil ρ _).bind fun xs s => lift (mtD .join (.str []) xs) s).bind _ = _
    rw [e_aCons, e2]
    simp [join_ok j1 (by omega)]
  refine (seq_nx (s' := ⟨[.val (.ref b), .val (.int n), .val (.str LET), .val (.str st), .no, .val (.int at_), .val (.int fi), .no, .no, .no], h4⟩) ?_).trans ?_
  · have ln : ∀ h, biD .len h [.str st] = some (.int st.length) := fun _ => rfl
    simp [permD, ln, e3, e4, sz 2 (by omega)]
  refine (seq_nx (s' := ⟨[.val (.ref b), .val (.int n), .val (.str LET), .val (.str st), .no, .val (.int at_), .val (.int fi), .val (.lst ((List.range n).map fun k => .str (found st at_ fi k))), .no, .no], h4⟩) ?_).trans ?_
  · have c := i_map (f := fun x => match x with | .int k => .str (found st at_ fi k.toNat) | _ => .non) (ρ := ρ) (g := [.val (.ref b), .val (.int n), .val (.str LET), .val (.str st), .no, .val (.int at_), .val (.int fi), .no, .no, .no]) (h := h4) (h1 := h4) (vs := [4]) (k := gV 4)
      (w := wRange (aCons (iV 1) aNil)) (e := iBin .Add (iBin .Add (iSl (iV 3) pNo (pInt (iV 5))) (iIx (iV 2) (iBin .Mod (iBi .int (aCons (iBin .Add (iV 6) (iBin .Mult (iC (.int 5)) (iV 4))) aNil)) (iC (.int 26))))) (iSl (iV 3) (pInt (iV 5)) pNo))
      (wRange_nat (n := n) (by simp) (sz n (by omega))) (fun x hx => by
        obtain ⟨k, hk, rfl⟩ := List.mem_map.mp hx
        refine ⟨_, ⟨[.val (.ref b), .val (.int n), .val (.str LET), .val (.str st), .val (.int k), .val (.int at_), .val (.int fi), .no, .no, .no], h4⟩, rfl, ?_, rfl, rfl⟩
        have m1 : binD .Mult (.int 5) (.int (k : Int)) = some (.int (5 * (k : Int))) := b_mul (by omega)
        have m2 : ∀ q : Int, binD .Mod (.int q) (.int 26) = some (.int (q % 26)) := fun q => b_mod (by omega)
        have m3 : ixD h4 (.str LET) (.int (((fi : Int) + 5 * (k : Int)) % 26)) = some (.str [LET.getD ((fi + 5 * k) % 26) 0]) := by
          have e : ((fi : Int) + 5 * (k : Int)) % 26 = (((fi + 5 * k) % 26 : Nat) : Int) := by omega
          have hlt : (fi + 5 * k) % 26 < LET.length := Nat.mod_lt _ (by decide)
          rw [e]
          show (L2.atI LET _).map _ = _
          rw [at_nat hlt, List.getD_eq_getElem?_getD, List.getElem?_eq_getElem hlt]
          rfl
        have a1 : binD .Add (.str (st.take at_)) (.str [LET.getD ((fi + 5 * k) % 26) 0]) = some (.str (st.take at_ ++ [LET.getD ((fi + 5 * k) % 26) 0])) := b_addS (by simp; omega)
        have a2 : binD .Add (.str (st.take at_ ++ [LET.getD ((fi + 5 * k) % 26) 0])) (.str (st.drop at_)) = some (.str (found st at_ fi k)) := b_addS (by simp; omega)
        simp [wipeS, slice_to, slice_from, m1, m2, m3, a1, a2, -List.getD_eq_getElem?_getD]) rfl
    rw [e_Asg, c, bind_ok]
    simp [List.map_map, Function.comp_def]
  refine (seq_nx (s' := ⟨[.val (.ref b), .val (.int n), .val (.str LET), .val (.str st), .no, .val (.int at_), .val (.int fi), .val (.lst ((List.range n).map fun k => .str (found st at_ fi k))), .val (.lst ((RES.take 15).map .str)), .no], h4⟩) ?_).trans ?_
  · simp [RES, sizeLine]
  refine (seq_nx (s' := ⟨[.val (.ref b), .val (.int n), .val (.str LET), .val (.str st), .no, .val (.int at_), .val (.int fi), .val (.lst ((List.range n).map fun k => .str (found st at_ fi k))), .val (.lst (RES.map .str)), .no], h4⟩) ?_).trans ?_
  · simp [RES, sizeLine, binD]
  refine seq_rt ?_
  have c := i_map (f := fun x => match x with | .str k => .str (fixN k) | _ => .non) (ρ := ρ) (g := [.val (.ref b), .val (.int n), .val (.str LET), .val (.str st), .no, .val (.int at_), .val (.int fi), .val (.lst ((List.range n).map fun k => .str (found st at_ fi k))), .val (.lst (RES.map .str)), .no]) (h := h4) (h1 := h4) (vs := [9]) (k := gV 9)
      (w := wSeq (iV 7)) (e := iIf (tCmpB .In (iV 9) (iV 8)) (iBin .Add (iV 9) (iC (.str [120]))) (iV 9)) (ds := (List.range n).map fun k => .str (found st at_ fi k)) (by simp) (fun x hx => by
        obtain ⟨k, hk, rfl⟩ := List.mem_map.mp hx
        refine ⟨_, ⟨[.val (.ref b), .val (.int n), .val (.str LET), .val (.str st), .no, .val (.int at_), .val (.int fi), .val (.lst ((List.range n).map fun k => .str (found st at_ fi k))), .val (.lst (RES.map .str)), .val (.str (found st at_ fi k))], h4⟩, rfl, ?_, rfl, rfl⟩
        have fl := found_len (first := fi) (k := k) ha
        have a1 : binD .Add (.str (found st at_ fi k)) (.str [120]) = some (.str (found st at_ fi k ++ [120])) := b_addS (by rw [fl]; simp; omega)
        by_cases hr : found st at_ fi k ∈ RES
        · simp [wipeS, in_res, hr, a1, fixN]
        · simp [wipeS, in_res, hr, fixN]) rfl
  rw [e_Ret, c, bind_ok]
  simp [List.map_map, Function.comp_def]
theorem NamesOk.of {T : Txt} {e : Ent} {n : Nat} (P : PullOk (T.rho n)) (A : AnyOk (T.rho n)) (h : T.ent "_law_names" = some e) (h1 : e.N.length = 10) (h2 : e.fb = wNames) : NamesOk (T.rho (n + 1)) := fun hh b n B hn => by
  rw [rho_run h, h1, h2]
  exact names_ok P A B hn
end B
end
section
set_option Elab.async false
set_option linter.all false
set_option maxRecDepth 100000
set_option maxHeartbeats 0
namespace B.K02
open PySem PySem.Spec PyProof.Rows L2
def c_LETTERS : D := (.str [97, 98, 99, 100, 101, 102, 103, 104, 105, 106, 107, 108, 109, 110, 111, 112, 113, 114, 115, 116, 117, 118, 119, 120, 121, 122])
def c_LONGEST_NAME : D := (.int 8)
def c_RESERVED : D := (.tup [(.str [116, 114, 117, 101]), (.str [110, 111, 116]), (.str [97, 110, 100]), (.str [111, 114]), (.str [102, 114, 111, 109]), (.str [116, 111]), (.str [105, 102]), (.str [101, 108, 115, 101]), (.str [101, 110, 100]), (.str [102, 97, 105, 108]), (.str [114, 101, 116, 117, 114, 110]), (.str [99, 97, 108, 108]), (.str [110, 101, 119]), (.str [99, 117, 116]), (.str [116, 105, 101]), (.str [115, 101, 116]), (.str [99, 108, 101, 97, 114]), (.str [100, 114, 111, 112]), (.str [115, 99, 114, 105, 112, 116]), (.str [114, 117, 108, 101]), (.str [103, 114, 97, 112, 104]), (.str [110, 111, 100, 101]), (.str [108, 105, 110, 107]), (.str [102, 108, 97, 103, 115]), (.str [108, 105, 110, 107, 115])])
def fb_is_name : IS := (sSeq (sIf (tOr (tNot (tTru (iBi .isi (aCons (iV 0) (aCons (iC (.ty "str")) aNil))))) (tOr (tNot (tChB .LtE .LtE (iC (.int 1)) (iBi .len (aCons (iV 0) aNil)) (iC c_LONGEST_NAME))) (tCmpB .In (iV 0) (iC c_RESERVED)))) (sSeq (sRet (iC (.bl false)))
  sNx) sNx)
  (sSeq (sRet (iBi .all (aCons (iComp (wSeq (iV 0)) (gV 1) tYes (iCmp .In (iV 1) (iC c_LETTERS)) [1]) aNil)))
  sNx))
def fb__law_opened : IS := (sSeq (sRet (iLstH (aCons (iBi .list (aCons (iSl (iV 0) pNo (pInt (iC (.int 63)))) aNil)) (aCons (iC (.int 0)) (aCons (iC (.int 0)) (aCons (iC (.int 5744)) (aCons (iC (.int 0)) aNil)))))))
  sNx)
def fb__law_pull : IS := (sSeq (sIf (tAnd (tCmpB .Eq (iIx (iV 0) (iC (.int 2))) (iC (.int 0))) (tCmpB .Lt (iIx (iV 0) (iC (.int 1))) (iBi .len (aCons (iIx (iV 0) (iC (.int 0))) aNil)))) (sSeq (sAsg (iIx (iIx (iV 0) (iC (.int 0))) (iIx (iV 0) (iC (.int 1)))) (gV 2))
  (sSeq (sSet (iV 0) (iC (.int 1)) (iBin .Add (iIx (iV 0) (iC (.int 1))) (iC (.int 1))))
  (sSeq (sIf (tCmpB .GtE (iV 2) (iBin .Pow (iC (.int 10)) (iC (.int 18)))) (sSeq (sSet (iV 0) (iC (.int 2)) (iV 2))
  sNx) (sSeq (sSet (iV 0) (iC (.int 3)) (iBin .Mod (iBi .int (aCons (iBin .Add (iBin .Add (iBin .Mult (iIx (iV 0) (iC (.int 3))) (iC (.int 46133))) (iBin .Mult (iBin .Mod (iBi .int (aCons (iV 2) aNil)) (iC (.int 2147483549))) (iC (.int 52963)))) (iC (.int 37))) aNil)) (iC (.int 2147483587))))
  sNx))
  sNx))) sNx)
  (sSeq (sIf (tCmpB .Gt (iIx (iV 0) (iC (.int 2))) (iC (.int 0))) (sSeq (sAsg (iBin .Mod (iBi .int (aCons (iIx (iV 0) (iC (.int 2))) aNil)) (iV 1)) (gV 3))
  (sSeq (sSet (iV 0) (iC (.int 2)) (iBin .FloorDiv (iIx (iV 0) (iC (.int 2))) (iV 1)))
  (sSeq (sRet (iV 3))
  sNx))) sNx)
  (sSeq (sSet (iV 0) (iC (.int 4)) (iBin .Add (iIx (iV 0) (iC (.int 4))) (iC (.int 1))))
  (sSeq (sAsg (iIx (iV 0) (iC (.int 3))) (gV 4))
  (sSeq (sSet (iV 0) (iC (.int 3)) (iBin .Mod (iBi .int (aCons (iBin .Add (iBin .Add (iBin .Add (iBin .Mult (iV 4) (iV 4)) (iBin .Mult (iV 4) (iC (.int 31013)))) (iBin .Mult (iIx (iV 0) (iC (.int 4))) (iC (.int 1299827)))) (iC (.int 87623))) aNil)) (iC (.int 2147483587))))
  (sSeq (sRet (iBin .Mod (iBi .int (aCons (iBin .Add (iBin .FloorDiv (iIx (iV 0) (iC (.int 3))) (iC (.int 73))) (iBin .Mult (iBin .Mod (iBi .int (aCons (iIx (iV 0) (iC (.int 3))) aNil)) (iC (.int 7907))) (iC (.int 61)))) aNil)) (iV 1)))
  sNx))))))
def fb__law_any : IS := (sSeq (sRet (iIx (iV 1) (iCall "_law_pull" [.ix 0, .ix 1] (aCons (iV 0) (aCons (iBi .len (aCons (iV 1) aNil)) aNil)) aNil)))
  sNx)
def fb__law_like : IS := (sSeq (sIf (tTru (iBi .isi (aCons (iV 1) (aCons (iTup (aCons (iC (.ty "list")) (aCons (iC (.ty "tuple")) aNil))) aNil)))) (sSeq (sIf (tOr (tCmpB .NotEq (iBi .isi (aCons (iV 0) (aCons (iC (.ty "list")) aNil))) (iBi .isi (aCons (iV 1) (aCons (iC (.ty "list")) aNil)))) (tCmpB .NotEq (iBi .isi (aCons (iV 0) (aCons (iC (.ty "tuple")) aNil))) (iBi .isi (aCons (iV 1) (aCons (iC (.ty "tuple")) aNil))))) (sSeq (sRet (iC (.bl false)))
  sNx) sNx)
  (sSeq (sRet (iAnd (iCmp .Eq (iBi .len (aCons (iV 0) aNil)) (iBi .len (aCons (iV 1) aNil))) (iBi .all (aCons (iComp (wZip (aCons (iV 0) (aCons (iV 1) aNil))) (gT [2, 3]) tYes (iCall "_law_like" [.ix 0, .ix 1] (aCons (iV 2) (aCons (iV 3) aNil)) aNil) [2, 3]) aNil))))
  sNx)) sNx)
  (sSeq (sIf (tOr (tCmpB .Is (iV 1) (iC .non)) (tCmpB .Is (iV 0) (iC .non))) (sSeq (sRet (iAnd (iCmp .Is (iV 1) (iC .non)) (iCmp .Is (iV 0) (iC .non))))
  sNx) sNx)
  (sSeq (sIf (tOr (tCmpB .NotEq (iBi .isi (aCons (iV 0) (aCons (iC (.ty "bool")) aNil))) (iBi .isi (aCons (iV 1) (aCons (iC (.ty "bool")) aNil)))) (tCmpB .NotEq (iBi .isi (aCons (iV 0) (aCons (iC (.ty "int")) aNil))) (iBi .isi (aCons (iV 1) (aCons (iC (.ty "int")) aNil))))) (sSeq (sRet (iC (.bl false)))
  sNx) sNx)
  (sSeq (sRet (iAnd (iCmp .Eq (iBi .isi (aCons (iV 0) (aCons (iC (.ty "str")) aNil))) (iBi .isi (aCons (iV 1) (aCons (iC (.ty "str")) aNil)))) (iCmp .Eq (iV 0) (iV 1))))
  sNx))))
def fb__law_names : IS := (sSeq (sAsg (iC (.str [97, 98, 99, 100, 101, 102, 103, 104, 105, 106, 107, 108, 109, 110, 111, 112, 113, 114, 115, 116, 117, 118, 119, 120, 121, 122])) (gV 2))
  (sSeq (sAsg (iMt .join (iC (.str [])) (aCons (iComp (wRange (aCons (iCall "_law_pull" [.ix 0, .ix 1] (aCons (iV 0) (aCons (iC (.int 7)) aNil)) aNil) aNil)) (gV 4) tYes (iCall "_law_any" [.ix 0, .ix 1] (aCons (iV 0) (aCons (iV 2) aNil)) aNil) [4]) aNil)) (gV 3))
  (sSeq (sAsg (iTup (aCons (iCall "_law_pull" [.ix 0, .ix 1] (aCons (iV 0) (aCons (iBin .Add (iBi .len (aCons (iV 3) aNil)) (iC (.int 1))) aNil)) aNil) (aCons (iCall "_law_pull" [.ix 0, .ix 1] (aCons (iV 0) (aCons (iC (.int 26)) aNil)) aNil) aNil))) (gT [5, 6]))
  (sSeq (sAsg (iComp (wRange (aCons (iV 1) aNil)) (gV 4) tYes (iBin .Add (iBin .Add (iSl (iV 3) pNo (pInt (iV 5))) (iIx (iV 2) (iBin .Mod (iBi .int (aCons (iBin .Add (iV 6) (iBin .Mult (iC (.int 5)) (iV 4))) aNil)) (iC (.int 26))))) (iSl (iV 3) (pInt (iV 5)) pNo)) [4]) (gV 7))
  (sSeq (sAsg (iLst (aCons (iC (.str [116, 114, 117, 101])) (aCons (iC (.str [110, 111, 116])) (aCons (iC (.str [97, 110, 100])) (aCons (iC (.str [111, 114])) (aCons (iC (.str [102, 114, 111, 109])) (aCons (iC (.str [116, 111])) (aCons (iC (.str [105, 102])) (aCons (iC (.str [101, 108, 115, 101])) (aCons (iC (.str [101, 110, 100])) (aCons (iC (.str [102, 97, 105, 108])) (aCons (iC (.str [114, 101, 116, 117, 114, 110])) (aCons (iC (.str [99, 97, 108, 108])) (aCons (iC (.str [110, 101, 119])) (aCons (iC (.str [99, 117, 116])) (aCons (iC (.str [116, 105, 101])) aNil)))))))))))))))) (gV 8))
  (sSeq (sAsg (iBin .Add (iV 8) (iLst (aCons (iC (.str [115, 101, 116])) (aCons (iC (.str [99, 108, 101, 97, 114])) (aCons (iC (.str [100, 114, 111, 112])) (aCons (iC (.str [115, 99, 114, 105, 112, 116])) (aCons (iC (.str [114, 117, 108, 101])) (aCons (iC (.str [103, 114, 97, 112, 104])) (aCons (iC (.str [110, 111, 100, 101])) (aCons (iC (.str [108, 105, 110, 107])) (aCons (iC (.str [102, 108, 97, 103, 115])) (aCons (iC (.str [108, 105, 110, 107, 115])) aNil)))))))))))) (gV 8))
  (sSeq (sRet (iComp (wSeq (iV 7)) (gV 9) tYes (iIf (tCmpB .In (iV 9) (iV 8)) (iBin .Add (iV 9) (iC (.str [120]))) (iV 9)) [9]))
  sNx)))))))
def fb_law : IS := (sSeq (sAsg (iCall "_law_opened" [.ix 0] (aCons (iV 0) aNil) aNil) (gV 1))
  (sSeq (sAsg (iCall "_law_names" [.ix 0, .ix 1] (aCons (iV 1) (aCons (iC (.int 4)) aNil)) aNil) (gV 2))
  (sSeq (sIf (tOr (tNot (tTru (iCall "_law_like" [.ix 0, .ix 1] (aCons (iComp (wSeq (iV 2)) (gV 3) tYes (iCall "is_name" [.ix 0] (aCons (iV 3) aNil) aNil) [3]) (aCons (iBin .Mult (iLst (aCons (iC (.bl true)) aNil)) (iC (.int 4))) aNil)) aNil))) (tCmpB .IsNot (iCall "is_name" [.ix 0] aNil (aCons (iIx (iV 2) (iC (.int 0))) aNil)) (iC (.bl true)))) (sSeq (sRet (iC (.bl false)))
  sNx) sNx)
  (sSeq (sAsg (iCall "_law_pull" [.ix 0, .ix 1] (aCons (iV 1) (aCons (iBin .Add (iBi .len (aCons (iIx (iV 2) (iC (.int 0))) aNil)) (iC (.int 1))) aNil)) aNil) (gV 4))
  (sSeq (sAsg (iBin .Add (iBin .Add (iSl (iIx (iV 2) (iC (.int 0))) pNo (pInt (iV 4))) (iCall "_law_any" [.ix 0, .ix 1] (aCons (iV 1) (aCons (iLst (aCons (iC (.str [65])) (aCons (iC (.str [48])) (aCons (iC (.str [32])) (aCons (iC (.str [95])) (aCons (iC (.str [10])) (aCons (iC (.str [46])) (aCons (iC (.str [126])) (aCons (iC (.str [90])) aNil))))))))) aNil)) aNil)) (iSl (iIx (iV 2) (iC (.int 0))) (pInt (iV 4)) pNo)) (gV 5))
  (sSeq (sAsg (iLst (aCons (iC (.str [116, 114, 117, 101])) (aCons (iC (.str [110, 111, 116])) (aCons (iC (.str [97, 110, 100])) (aCons (iC (.str [111, 114])) (aCons (iC (.str [102, 114, 111, 109])) (aCons (iC (.str [116, 111])) (aCons (iC (.str [105, 102])) (aCons (iC (.str [101, 108, 115, 101])) (aCons (iC (.str [101, 110, 100])) (aCons (iC (.str [102, 97, 105, 108])) (aCons (iC (.str [114, 101, 116, 117, 114, 110])) (aCons (iC (.str [99, 97, 108, 108])) (aCons (iC (.str [110, 101, 119])) (aCons (iC (.str [99, 117, 116])) aNil))))))))))))))) (gV 6))
  (sSeq (sAsg (iBin .Add (iV 6) (iLst (aCons (iC (.str [116, 105, 101])) (aCons (iC (.str [115, 101, 116])) (aCons (iC (.str [99, 108, 101, 97, 114])) (aCons (iC (.str [100, 114, 111, 112])) (aCons (iC (.str [115, 99, 114, 105, 112, 116])) (aCons (iC (.str [114, 117, 108, 101])) (aCons (iC (.str [103, 114, 97, 112, 104])) (aCons (iC (.str [110, 111, 100, 101])) (aCons (iC (.str [108, 105, 110, 107])) (aCons (iC (.str [102, 108, 97, 103, 115])) (aCons (iC (.str [108, 105, 110, 107, 115])) aNil))))))))))))) (gV 6))
  (sSeq (sAsg (iBin .Add (iLst (aCons (iV 5) (aCons (iC (.str [])) (aCons (iC (.str [97, 98, 99, 100, 101, 102, 103, 104, 105])) (aCons (iBin .Add (iIx (iV 2) (iC (.int 0))) (iC (.str [97, 98, 99, 100, 101, 102, 103, 104]))) (aCons (iC .non) (aCons (iC (.int 7)) (aCons (iC (.bl true)) (aCons (iTup (aCons (iC (.str [97])) aNil)) (aCons (iLst (aCons (iC (.str [97])) aNil)) aNil)))))))))) (iV 6)) (gV 7))
  (sSeq (sIf (tNot (tTru (iCall "_law_like" [.ix 0, .ix 1] (aCons (iComp (wSeq (iV 7)) (gV 3) tYes (iCall "is_name" [.ix 0] (aCons (iV 3) aNil) aNil) [3]) (aCons (iBin .Mult (iLst (aCons (iC (.bl false)) aNil)) (iBi .len (aCons (iV 7) aNil))) aNil)) aNil))) (sSeq (sRet (iC (.bl false)))
  sNx) sNx)
  (sSeq (sAsg (iCall "_law_any" [.ix 0, .ix 1] (aCons (iV 1) (aCons (iV 6) aNil)) aNil) (gV 8))
  (sSeq (sAsg (iLst (aCons (iC (.str [97])) (aCons (iC (.str [122])) (aCons (iC (.str [97, 98, 99, 100, 101, 102, 103, 104])) (aCons (iIf (tCmpB .NotIn (iBin .Add (iV 8) (iC (.str [115]))) (iV 6)) (iBin .Add (iV 8) (iC (.str [115]))) (iBin .Add (iV 8) (iC (.str [122])))) (aCons (iBin .Add (iSl (iV 8) pNo (pInt (iC (.int 1)))) (iC (.str [113, 113]))) (aCons (iC (.str [107, 101, 101, 112, 115])) (aCons (iC (.str [111, 112, 101, 110])) aNil)))))))) (gV 9))
  (sSeq (sRet (iCall "_law_like" [.ix 0, .ix 1] (aCons (iComp (wSeq (iV 9)) (gV 3) tYes (iCall "is_name" [.ix 0] (aCons (iV 3) aNil) aNil) [3]) (aCons (iBin .Mult (iLst (aCons (iC (.bl true)) aNil)) (iC (.int 7))) aNil)) aNil))
  sNx))))))))))))
end B.K02
end
section
set_option Elab.async false
set_option linter.all false
set_option maxRecDepth 100000
set_option maxHeartbeats 0
namespace B.K02
open PySem PySem.Spec PyProof.Rows L2
def top (i : Nat) : Stmt := PySem.Challenge.pw_bothtied_k02_names.main.body.getD i (.Pass ⟨0, 0, 0, 0⟩)
def e_is_name : Ent := ⟨"is_name", ["value"], ["value", "sign"], [], defArgs (top 4), defBody (top 4), defScope (top 4), fb_is_name, [(1, [], [.ix 0]), (0, ["value"], [.ix 0])]⟩
def e__law_opened : Ent := ⟨"_law_opened", ["_law_script"], ["_law_script"], ["return"], defArgs (top 6), defBody (top 6), defScope (top 6), fb__law_opened, [(1, [], [.ix 0])]⟩
def e__law_pull : Ent := ⟨"_law_pull", ["_law_bag", "_law_many"], ["_law_bag", "_law_many", "_law_cell", "_law_digit", "_law_seed"], [], defArgs (top 7), defBody (top 7), defScope (top 7), fb__law_pull, [(2, [], [.ix 0, .ix 1])]⟩
def e__law_any : Ent := ⟨"_law_any", ["_law_bag", "_law_things"], ["_law_bag", "_law_things"], [], defArgs (top 8), defBody (top 8), defScope (top 8), fb__law_any, [(2, [], [.ix 0, .ix 1])]⟩
def e__law_like : Ent := ⟨"_law_like", ["_law_found", "_law_due"], ["_law_found", "_law_due", "_law_one", "_law_other"], [], defArgs (top 9), defBody (top 9), defScope (top 9), fb__law_like, [(2, [], [.ix 0, .ix 1])]⟩
def e__law_names : Ent := ⟨"_law_names", ["_law_bag", "_law_many"], ["_law_bag", "_law_many", "_law_letters", "_law_stem", "_law_k", "_law_at", "_law_first", "_law_found", "_law_words", "_law_name"], [], defArgs (top 10), defBody (top 10), defScope (top 10), fb__law_names, [(2, [], [.ix 0, .ix 1])]⟩
def e_law : Ent := ⟨"law", ["_law_script"], ["_law_script", "_law_bag", "_law_words", "_law_word", "_law_at", "_law_bent", "_law_reserved", "_law_bad", "_law_late", "_law_good"], [], defArgs (top 11), defBody (top 11), defScope (top 11), fb_law, []⟩
def T : Txt := ⟨[e_is_name, e__law_opened, e__law_pull, e__law_any, e__law_like, e__law_names, e_law], [("LETTERS", c_LETTERS), ("LONGEST_NAME", c_LONGEST_NAME), ("RESERVED", c_RESERVED)], ["len", "int", "list", "all", "isinstance", "range", "zip", "str", "bool", "tuple"]⟩
theorem ok_is_name : e_is_name.Ok T := ⟨⟨rfl, rfl, rfl, by decide +kernel, rfl, by decide +kernel, by decide +kernel⟩, by kernel_rfl, fun K f fd F q hq => by
    rcases List.mem_cons.mp hq with rfl | hq
    · exact cb_perm [0] F rfl (by decide) fun _ _ _ _ _ _ us ws hu hw => match us, hu, ws, hw with | [_], _, [], _ => by kernel_rfl
    rcases List.mem_cons.mp hq with rfl | hq
    · exact cb_perm [0] F rfl (by decide) fun _ _ _ _ _ _ us ws hu hw => match us, hu, ws, hw with | [], _, [_], _ => by kernel_rfl
    cases hq⟩
theorem ok__law_opened : e__law_opened.Ok T := ⟨⟨rfl, rfl, rfl, by decide +kernel, rfl, by decide +kernel, by decide +kernel⟩, by kernel_rfl, fun K f fd F q hq => by
    rcases List.mem_cons.mp hq with rfl | hq
    · exact cb_perm [0] F rfl (by decide) fun _ _ _ _ _ _ us ws hu hw => match us, hu, ws, hw with | [_], _, [], _ => by kernel_rfl
    cases hq⟩
theorem ok__law_pull : e__law_pull.Ok T := ⟨⟨rfl, rfl, rfl, by decide +kernel, rfl, by decide +kernel, by decide +kernel⟩, by kernel_rfl, fun K f fd F q hq => by
    rcases List.mem_cons.mp hq with rfl | hq
    · exact cb_perm [0, 1] F rfl (by decide) fun _ _ _ _ _ _ us ws hu hw => match us, hu, ws, hw with | [_, _], _, [], _ => by kernel_rfl
    cases hq⟩
theorem ok__law_any : e__law_any.Ok T := ⟨⟨rfl, rfl, rfl, by decide +kernel, rfl, by decide +kernel, by decide +kernel⟩, by kernel_rfl, fun K f fd F q hq => by
    rcases List.mem_cons.mp hq with rfl | hq
    · exact cb_perm [0, 1] F rfl (by decide) fun _ _ _ _ _ _ us ws hu hw => match us, hu, ws, hw with | [_, _], _, [], _ => by kernel_rfl
    cases hq⟩
theorem ok__law_like : e__law_like.Ok T := ⟨⟨rfl, rfl, rfl, by decide +kernel, rfl, by decide +kernel, by decide +kernel⟩, by kernel_rfl, fun K f fd F q hq => by
    rcases List.mem_cons.mp hq with rfl | hq
    · exact cb_perm [0, 1] F rfl (by decide) fun _ _ _ _ _ _ us ws hu hw => match us, hu, ws, hw with | [_, _], _, [], _ => by kernel_rfl
    cases hq⟩
theorem ok__law_names : e__law_names.Ok T := ⟨⟨rfl, rfl, rfl, by decide +kernel, rfl, by decide +kernel, by decide +kernel⟩, by kernel_rfl, fun K f fd F q hq => by
    rcases List.mem_cons.mp hq with rfl | hq
    · exact cb_perm [0, 1] F rfl (by decide) fun _ _ _ _ _ _ us ws hu hw => match us, hu, ws, hw with | [_, _], _, [], _ => by kernel_rfl
    cases hq⟩
theorem ok_law : e_law.Ok T := ⟨⟨rfl, rfl, rfl, by decide +kernel, rfl, by decide +kernel, by decide +kernel⟩, by kernel_rfl, fun K f fd F q hq => by

    cases hq⟩
theorem ok_all : ∀ e ∈ T.tab, e.Ok T := fun e he => by
  rcases List.mem_cons.mp he with rfl | he
  · exact ok_is_name
  rcases List.mem_cons.mp he with rfl | he
  · exact ok__law_opened
  rcases List.mem_cons.mp he with rfl | he
  · exact ok__law_pull
  rcases List.mem_cons.mp he with rfl | he
  · exact ok__law_any
  rcases List.mem_cons.mp he with rfl | he
  · exact ok__law_like
  rcases List.mem_cons.mp he with rfl | he
  · exact ok__law_names
  rcases List.mem_cons.mp he with rfl | he
  · exact ok_law
  cases he
end B.K02
end
section
set_option Elab.async false
set_option linter.all false
set_option maxRecDepth 100000
set_option maxHeartbeats 0
namespace B.K02
open PySem PySem.Spec PyProof.Rows L2
def nm0 : List Str := ["LETTERS", "LONGEST_NAME", "RESERVED", "is_name", "_law_opened", "_law_pull", "_law_any", "_law_like", "_law_names"]
def names : List Str := nm0
abbrev R : PySem.W.OpenRow := PySem.W.OpenLaw.row PySem.Challenge.rw_bothtied_k02_names
abbrev hk : PySem.W.Hook := T.hook 4
def ob (s : PySem.W.SharedT) : AlT := T.obsG 4 (HandSHeadRun.getT s)
theorem ob_eq (s : PySem.W.SharedT) : ob s = hk.obs s.abs := Txt.obsG_eq (HandSHeadRun.getT_eq s)
theorem run (w : World) : HandSHeadRun.RunEq R (PySem.W.view R.prog [11]) hk ob 3000 names w := by
  intro os
  kernel_rfl
theorem facts {P : Program} {w : World} {K : PySem.W.Frag} {h : Heap} {mg : Str → Option Value} {f : Addr} (X : K.In h) (G : h.Ns mainGlobals mg) (hfa : mg ("law" : Str) = some (.ref f)) (c : T.obs K = T.val) :
    ∃ fd : FuncData, (∀ (s : Shared) (v : Value), BindsTo s fd ⟨[v], []⟩ [("_law_script", v)]) ∧ ∀ base : Heap, K.In base → base.Ns mainGlobals mg → FnOk P w K mg base (L2.CX P w) 8 f fd ["_law_script"] (spI K 1 (T.rho 8 "law")) := by
  have O := txt_ok X G c ok_all
  obtain ⟨f', fd, h1, F, _, _, _⟩ := O.tab e_law (by repeat (first | exact List.mem_cons_self | apply List.mem_cons_of_mem))
  have e := hfa.symm.trans h1
  cases e
  have b := FunD.bindsA (ps := ["_law_script"]) F fun _ _ _ _ _ _ us hl => match us, hl with | [_], _ => rfl
  refine ⟨fd, fun s v => b s [v] rfl, fun base _ _ => ?_⟩
  exact fnok_law (e := e_law) O (by kernel_rfl) rfl F h1
end B.K02
end
section
set_option Elab.async false
set_option linter.all false
set_option maxRecDepth 100000
set_option maxHeartbeats 4000000
namespace B.K02
open PySem
def isNB (s : List Nat) : Bool := decide (1 ≤ s.length) && (decide (s.length ≤ 8) && (!decide (s ∈ RES) && s.all fun c => decide (c ∈ LET)))
theorem isNB_of {s : List Nat} (h : IsN s) : isNB s = true := by
  unfold isNB
  simp only [Bool.and_eq_true, decide_eq_true_eq, Bool.not_eq_true', decide_eq_false_iff_not, List.all_eq_true]
  exact ⟨h.pos, h.le, h.res, h.let_⟩
def isB : D → Bool
  | .str s => isNB s
  | _ => false
/-- what is_name is asked of -/
def askable : D → Bool
  | .non => true
  | .bl _ => true
  | .int _ => true
  | .str _ => true
  | .tup _ => true
  | .lst _ => true
  | _ => false
theorem in_resT (w : List Nat) : cmpD .In (.str w) c_RESERVED = some (decide (w ∈ RES)) := by
  have := in_res w
  exact this
theorem isname_ok {ρ : Fns} {x : D} {h : List Ob} (hx : askable x = true) : runD 2 fb_is_name ρ [x] h = .ok (.bl (isB x)) h := by
  cases x <;> first | (cases hx; done) | skip
  · exact run_rt (g := [.val .non, .no]) (g' := [.val .non, .no]) (by simp [fb_is_name, isB]) rfl
  · rename_i v
    exact run_rt (g := [.val (.bl v), .no]) (g' := [.val (.bl v), .no]) (by simp [fb_is_name, isB]) rfl
  · rename_i v
    exact run_rt (g := [.val (.int v), .no]) (g' := [.val (.int v), .no]) (by simp [fb_is_name, isB]) rfl
  · rename_i v
    refine run_rt (g := [.val (.str v), .no]) (g' := [.val (.str v), .no]) ?_ rfl
    have ln : ∀ h, biD .len h [.str v] = some (.int v.length) := fun _ => rfl
    have c := i_map (f := fun x => match x with | .str [c] => .bl (decide (c ∈ LET)) | _ => .non) (ρ := ρ) (g := [.val (.str v), .no]) (h := h) (h1 := h) (vs := [1]) (k := gV 1)
      (w := wSeq (iV 0)) (e := iCmp .In (iV 1) (iC c_LETTERS)) (ds := v.map fun c => .str [c]) (by simp) (fun x hx => by
        obtain ⟨k, hk, rfl⟩ := List.mem_map.mp hx
        refine ⟨_, ⟨[.val (.str v), .val (.str [k])], h⟩, rfl, ?_, rfl, rfl⟩
        have : cmpD .In (.str [k]) c_LETTERS = some (decide (k ∈ LET)) := rfl
        simp [wipeS, this]) rfl
    have al : ∀ h, biD .all h [.lst ((v.map fun c => D.str [c]).map fun x => match x with | .str [c] => .bl (decide (c ∈ LET)) | _ => .non)] = some (.bl (v.all fun c => decide (c ∈ LET))) := fun h => by
      have : ∀ v : List Nat, bools ((v.map fun c => D.str [c]).map fun x => match x with | .str [c] => .bl (decide (c ∈ LET)) | _ => .non) = some (v.map fun c => decide (c ∈ LET)) := fun v => by
        induction v with
        | nil => rfl
        | cons a v ih =>
          show (bools ((v.map fun c => D.str [c]).map _)).map _ = _
          rw [ih]
          rfl
      show (bools _).map (fun bs => D.bl (bs.all id)) = _
      rw [this]
      simp [List.all_map]
    have LN : c_LONGEST_NAME = .int 8 := rfl
    by_cases h1 : 1 ≤ v.length
    · have h1' : (1 : Int) ≤ (v.length : Int) := by omega
      by_cases h2 : v.length ≤ 8
      · have h2' : (v.length : Int) ≤ 8 := by omega
        by_cases h3 : v ∈ RES
        · simp [fb_is_name, ln, h1', h2', LN, in_resT, h3, isB, isNB]
        · simp only [fb_is_name, e_Seq, e_sIf, e_Or, e_Not, e_Tru, e_Bi, e_aCons, e_aNil, e_V, e_C, bind_ok, List.getElem?_cons_zero, List.getElem?_cons_succ, i_str_str, lift_some, t_bl, liftT_some, Bool.not_true, e_ChB, ln, c_le, h1', decide_true, LN, h2', e_CmpB, in_resT, h3, decide_false, e_sNx, e_Ret, c, al]
          simp [isB, isNB, h1, h2, h3]
      · have h2' : ¬ (v.length : Int) ≤ 8 := by omega
        simp [fb_is_name, ln, h1', h2', LN, isB, isNB, h2]
    · have h1' : ¬ (1 : Int) ≤ (v.length : Int) := by omega
      simp [fb_is_name, ln, h1', LN, isB, isNB, h1]
  · rename_i v
    exact run_rt (g := [.val (.tup v), .no]) (g' := [.val (.tup v), .no]) (by simp [fb_is_name, isB]) rfl
  · rename_i v
    exact run_rt (g := [.val (.lst v), .no]) (g' := [.val (.lst v), .no]) (by simp [fb_is_name, isB]) rfl
/-- what is known of the defs that law calls -/
structure Known (ρ : Fns) : Prop where
  opened : ∀ (ns : List Int) (h : List Ob), ρ "_law_opened" [.rdl (ns.map .int)] h = .ok (.ref h.length) (h ++ [.lst (bagL (ns.take 63) 0 0 5744 0)])
  pull : PullOk ρ
  names : NamesOk ρ
  anyL : ∀ (h : List Ob) (b : Nat) (s : List D), HasBag h b → s ≠ [] → s.length < 1073741824 → ∃ c h', c ∈ s ∧ Pulled b h h' ∧ ρ "_law_any" [.ref b, .lst s] h = .ok c h'
  like : ∀ (d : D) (h : List Ob), okD 6 d = true → ρ "_law_like" [d, d] h = .ok (.bl true) h
  isname : ∀ (x : D) (h : List Ob), askable x = true → ρ "is_name" [x] h = .ok (.bl (isB x)) h
theorem known : Known (T.rho 7) where
  opened := fun ns h => by
    rw [rho_run (e := e__law_opened) (by kernel_rfl)]
    exact opened_ok
  pull := PullOk.of (e := e__law_pull) (by kernel_rfl) rfl rfl
  names := NamesOk.of (e := e__law_names) (PullOk.of (e := e__law_pull) (by kernel_rfl) rfl rfl) (AnyOk.of (e := e__law_any) (PullOk.of (e := e__law_pull) (by kernel_rfl) rfl rfl) (by kernel_rfl) rfl rfl) (by kernel_rfl) rfl rfl
  anyL := fun h b s B h0 h1 => by
    rw [rho_run (e := e__law_any) (by kernel_rfl)]
    exact any_lst (PullOk.of (e := e__law_pull) (by kernel_rfl) rfl rfl) B h0 h1
  like := fun d h hd => like_ok (e := e__law_like) (by kernel_rfl) rfl rfl 6 d h hd
  isname := fun x h hx => by
    rw [rho_run (e := e_is_name) (by kernel_rfl)]
    exact isname_ok hx
/-- is_name of each of a list's items, slot 3 the block's own -/
theorem each {ρ : Fns} (KN : Known ρ) {i : Nat} {l : List D} {h : List Ob} {x0 x1 x2 x4 x5 x6 x7 x8 x9 : Sl} (hi : ([x0, x1, x2, .no, x4, x5, x6, x7, x8, x9] : List Sl)[i]? = some (.val (.lst l))) (ha : l.all askable = true) :
    iComp (wSeq (iV i)) (gV 3) tYes (iCall "is_name" [.ix 0] (aCons (iV 3) aNil) aNil) [3] ρ ⟨[x0, x1, x2, .no, x4, x5, x6, x7, x8, x9], h⟩ = .ok (.lst (l.map fun x => .bl (isB x))) ⟨[x0, x1, x2, .no, x4, x5, x6, x7, x8, x9], h⟩ := by
  refine i_map (f := fun x => .bl (isB x)) (h1 := h) (ds := l) ?_ (fun x hx => ?_) rfl
  · rw [e_wSeq, e_V, hi]
    rfl
  · refine ⟨_, ⟨[x0, x1, x2, .val x, x4, x5, x6, x7, x8, x9], h⟩, rfl, ?_, rfl, rfl⟩
    have := KN.isname x h (List.all_eq_true.mp ha x hx)
    simp [wipeS, permD, this]
theorem notin_res (w : List Nat) : cmpD .NotIn (.str w) (.lst (RES.map .str)) = some (!decide (w ∈ RES)) := by
  have e1 : cmpD .NotIn (.str w) (.lst (RES.map .str)) = (cmpD .In (.str w) (.lst (RES.map .str))).map (!·) := by
    show (if flatD (.str w) && (RES.map D.str).all flatD then some (!(RES.map D.str).any fun z => eqF z (.str w)) else none) = (if flatD (.str w) && (RES.map D.str).all flatD then some ((RES.map D.str).any fun z => eqF z (.str w)) else none).map _
    rw [if_pos (show (flatD (.str w) && (RES.map D.str).all flatD) = true from rfl), if_pos (show (flatD (.str w) && (RES.map D.str).all flatD) = true from rfl)]
    rfl
  rw [e1, in_res]
  rfl
theorem law_ok {ρ : Fns} (KN : Known ρ) (ns : List Int) : ∃ h', runD 10 fb_law ρ [.rdl (ns.map .int)] [] = .ok (.bl true) h' := by
  -- the bag, the names
  obtain ⟨h0, hh0⟩ : ∃ h0, h0 = ([] : List Ob) ++ [.lst (bagL (ns.take 63) 0 0 5744 0)] := ⟨_, rfl⟩
  have e0 : ρ "_law_opened" [.rdl (ns.map .int)] [] = .ok (.ref 0) h0 := by
    rw [hh0]
    exact KN.opened ns []
  have B0 : HasBag h0 0 := ⟨_, by rw [hh0]; rfl, _, 0, 0, 5744, 0, rfl, by decide, by decide, by decide, by decide⟩
  obtain ⟨ws, h1, N, p1, e1⟩ := KN.names h0 0 4 B0 (by decide)
  have B1 := p1.bag B0
  obtain ⟨w0, w1, w2, w3, rfl⟩ : ∃ w0 w1 w2 w3, ws = [w0, w1, w2, w3] := by
    have := N.len
    match ws, this with
    | [a, b, c, d], _ => exact ⟨a, b, c, d, rfl⟩
  have k0 := N.ok w0 (by simp)
  have k1 := N.ok w1 (by simp)
  have k2 := N.ok w2 (by simp)
  have k3 := N.ok w3 (by simp)
  have hw0 := k0.le
  have hp0 := k0.pos
  obtain ⟨at_, h2, a1, p2, e2⟩ := KN.pull.go (m := (w0.length : Int) + 1) B1 (by omega) (by omega)
  have B2 := p2.bag B1
  obtain ⟨cD, h3, c1, p3, e3⟩ := KN.anyL h2 0 [.str [65], .str [48], .str [32], .str [95], .str [10], .str [46], .str [126], .str [90]] B2 (by simp) (by decide)
  have B3 := p3.bag B2
  obtain ⟨c, hc, rfl⟩ : ∃ c, c ∈ [65, 48, 32, 95, 10, 46, 126, 90] ∧ cD = .str [c] := by
    simp only [List.mem_cons, List.not_mem_nil, or_false] at c1
    rcases c1 with rfl | rfl | rfl | rfl | rfl | rfl | rfl | rfl <;> exact ⟨_, by decide, rfl⟩
  have hcL : c ∉ LET := by
    have : ∀ c ∈ [65, 48, 32, 95, 10, 46, 126, 90], c ∉ LET := by decide
    exact this c hc
  obtain ⟨rD, h4, r1, p4, e4⟩ := KN.anyL h3 0 (RES.map .str) B3 (by simp [RES]) (by decide)
  obtain ⟨r, hr, rfl⟩ := List.mem_map.mp r1
  refine ⟨h4, ?_⟩
  obtain ⟨W, hW⟩ : ∃ W, W = [D.str w0, .str w1, .str w2, .str w3] := ⟨_, rfl⟩
  obtain ⟨bent, hbent⟩ : ∃ bent, bent = w0.take at_ ++ [c] ++ w0.drop at_ := ⟨_, rfl⟩
  obtain ⟨bad, hbad⟩ : ∃ bad, bad = [D.str bent, .str [], .str [97, 98, 99, 100, 101, 102, 103, 104, 105], .str (w0 ++ [97, 98, 99, 100, 101, 102, 103, 104]), .non, .int 7, .bl true, .tup [.str [97]], .lst [.str [97]]] ++ RES.map D.str := ⟨_, rfl⟩
  obtain ⟨good, hgood⟩ : ∃ good, good = [D.str [97], .str [122], .str [97, 98, 99, 100, 101, 102, 103, 104], .str (if r ++ [115] ∈ RES then r ++ [122] else r ++ [115]), .str (r.take 1 ++ [113, 113]), .str [107, 101, 101, 112, 115], .str [111, 112, 101, 110]] := ⟨_, rfl⟩
  have blen : bent.length = w0.length + 1 := by
    rw [hbent]
    simp
    omega
  have W0 : ∀ h, ixD h (.lst W) (.int 0) = some (.str w0) := fun h => by rw [hW]; rfl
  have ln : ∀ h, biD .len h [.str w0] = some (.int w0.length) := fun _ => rfl
  have sz : ∀ k : Nat, k ≤ 1000 → k ≤ sizeLine := fun k hk => Nat.le_trans hk (by decide)
  have S : D := .rdl (ns.map .int)
  refine run_rt (g := [.val (.rdl (ns.map .int)), .no, .no, .no, .no, .no, .no, .no, .no, .no]) (g' := [.val (.rdl (ns.map .int)), .val (.ref 0), .val (.lst W), .no, .val (.int at_), .val (.str bent), .val (.lst (RES.map .str)), .val (.lst bad), .val (.str r), .val (.lst good)]) ?_ rfl
  unfold fb_law
  refine (seq_nx (s' := ⟨[.val (.rdl (ns.map .int)), .val (.ref 0), .no, .no, .no, .no, .no, .no, .no, .no], h0⟩) ?_).trans ?_
  · simp [permD, e0]
  refine (seq_nx (s' := ⟨[.val (.rdl (ns.map .int)), .val (.ref 0), .val (.lst W), .no, .no, .no, .no, .no, .no, .no], h1⟩) ?_).trans ?_
  · have e1' : ρ "_law_names" [.ref 0, .int 4] h0 = .ok (.lst W) h1 := by rw [hW]; exact e1
    simp [permD, e1']
  refine (seq_nx (s' := ⟨[.val (.rdl (ns.map .int)), .val (.ref 0), .val (.lst W), .no, .no, .no, .no, .no, .no, .no], h1⟩) ?_).trans ?_
  · have c := each KN (i := 2) (l := W) (h := h1) (x0 := .val (.rdl (ns.map .int))) (x1 := .val (.ref 0)) (x2 := .val (.lst W)) (x4 := .no) (x5 := .no) (x6 := .no) (x7 := .no) (x8 := .no) (x9 := .no) rfl (by rw [hW]; rfl)
    have c2 : (W.map fun x => D.bl (isB x)) = [.bl true, .bl true, .bl true, .bl true] := by
      rw [hW]
      simp [isB, isNB_of k0, isNB_of k1, isNB_of k2, isNB_of k3]
    rw [c2] at c
    have m1 : binD .Mult (.lst [.bl true]) (.int 4) = some (.lst [.bl true, .bl true, .bl true, .bl true]) := rfl
    have q1 := KN.like (.lst [.bl true, .bl true, .bl true, .bl true]) h1 rfl
    have q2 := KN.isname (.str w0) h1 rfl
    have q3 : isB (.str w0) = true := isNB_of k0
    have q4 : cmpD .IsNot (.bl true) (.bl true) = some false := rfl
    rw [e_sIf, e_Or, e_Not, e_Tru, e_Call, e_aCons, c, bind_ok]
    simp [sz 1 (by omega), m1, permD, q1, W0, q2, q3, q4]
  refine (seq_nx (s' := ⟨[.val (.rdl (ns.map .int)), .val (.ref 0), .val (.lst W), .no, .val (.int at_), .no, .no, .no, .no, .no], h2⟩) ?_).trans ?_
  · simp [permD, W0, ln, e2]
  refine (seq_nx (s' := ⟨[.val (.rdl (ns.map .int)), .val (.ref 0), .val (.lst W), .no, .val (.int at_), .val (.str bent), .no, .no, .no, .no], h3⟩) ?_).trans ?_
  · have a1 : binD .Add (.str (w0.take at_)) (.str [c]) = some (.str (w0.take at_ ++ [c])) := b_addS (by simp; omega)
    have a2 : binD .Add (.str (w0.take at_ ++ [c])) (.str (w0.drop at_)) = some (.str bent) := by
      rw [hbent]
      exact b_addS (by simp; omega)
    simp [W0, slice_to, slice_from, sz 8 (by omega), permD, e3, a1, a2]
  refine (seq_nx (s' := ⟨[.val (.rdl (ns.map .int)), .val (.ref 0), .val (.lst W), .no, .val (.int at_), .val (.str bent), .val (.lst ((RES.take 14).map .str)), .no, .no, .no], h3⟩) ?_).trans ?_
  · simp [RES, sizeLine]
  refine (seq_nx (s' := ⟨[.val (.rdl (ns.map .int)), .val (.ref 0), .val (.lst W), .no, .val (.int at_), .val (.str bent), .val (.lst (RES.map .str)), .no, .no, .no], h3⟩) ?_).trans ?_
  · simp [RES, sizeLine, binD]
  refine (seq_nx (s' := ⟨[.val (.rdl (ns.map .int)), .val (.ref 0), .val (.lst W), .no, .val (.int at_), .val (.str bent), .val (.lst (RES.map .str)), .val (.lst bad), .no, .no], h3⟩) ?_).trans ?_
  · have a1 : binD .Add (.str w0) (.str [97, 98, 99, 100, 101, 102, 103, 104]) = some (.str (w0 ++ [97, 98, 99, 100, 101, 102, 103, 104])) := b_addS (by simp; omega)
    have a2 : ∀ l : List D, l.length = 9 → binD .Add (.lst l) (.lst (RES.map .str)) = some (.lst (l ++ RES.map .str)) := fun l hl => by
      show (if l.length + (RES.map D.str).length ≤ sizeLine then some (D.lst (l ++ RES.map D.str)) else none) = _
      rw [if_pos (by rw [hl]; exact sz _ (by decide))]
    have a2' := a2 [D.str bent, .str [], .str [97, 98, 99, 100, 101, 102, 103, 104, 105], .str (w0 ++ [97, 98, 99, 100, 101, 102, 103, 104]), .non, .int 7, .bl true, .tup [.str [97]], .lst [.str [97]]] rfl
    simp only [e_Asg, e_Bin, e_Lst, e_Tup, e_aCons, e_aNil, e_V, e_C, e_Ix, bind_ok, List.getElem?_cons_zero, List.getElem?_cons_succ, W0, lift_some, a1, List.length_cons, List.length_nil, sz 1 (by omega), sz 9 (by omega), if_true, Nat.zero_add, Nat.reduceAdd, a2', ← hbad, e_gV, List.set_cons_zero, List.set_cons_succ]
  refine (seq_nx (s' := ⟨[.val (.rdl (ns.map .int)), .val (.ref 0), .val (.lst W), .no, .val (.int at_), .val (.str bent), .val (.lst (RES.map .str)), .val (.lst bad), .no, .no], h3⟩) ?_).trans ?_
  · have c0 := each KN (i := 7) (l := bad) (h := h3) (x0 := .val (.rdl (ns.map .int))) (x1 := .val (.ref 0)) (x2 := .val (.lst W)) (x4 := .val (.int at_)) (x5 := .val (.str bent)) (x6 := .val (.lst (RES.map .str))) (x7 := .val (.lst bad)) (x8 := .no) (x9 := .no) rfl (by rw [hbad]; rfl)
    have b1 : isNB bent = false := by
      unfold isNB
      have : (bent.all fun c => decide (c ∈ LET)) = false := by
        rw [Bool.eq_false_iff]
        intro z
        have := List.all_eq_true.mp z c (by rw [hbent]; simp)
        exact hcL (of_decide_eq_true this)
      rw [this]
      simp
    have b2 : isNB (w0 ++ [97, 98, 99, 100, 101, 102, 103, 104]) = false := by
      unfold isNB
      have : decide ((w0 ++ [97, 98, 99, 100, 101, 102, 103, 104]).length ≤ 8) = false := decide_eq_false (by rw [List.length_append]; show ¬ w0.length + 8 ≤ 8; omega)
      rw [this]
      simp
    have c2 : (bad.map fun x => D.bl (isB x)) = List.replicate 34 (.bl false) := by
      rw [hbad]
      have f : ∀ r ∈ RES, isNB r = false := by decide +kernel
      have t : ((RES.map D.str).map fun x => D.bl (isB x)) = List.replicate 25 (.bl false) := by
        rw [List.map_map, List.map_congr_left (g := fun _ => D.bl false) (fun r hr => by show D.bl (isNB r) = _; rw [f r hr])]
        rfl
      have b3 : isNB [] = false := by decide +kernel
      have b4 : isNB [97, 98, 99, 100, 101, 102, 103, 104, 105] = false := by decide +kernel
      rw [List.map_append, t]
      simp only [List.map_cons, List.map_nil, isB, b1, b2, b3, b4]
      rfl
    rw [c2] at c0
    have lb : ∀ h, biD .len h [.lst bad] = some (.int 34) := fun h => by rw [hbad]; rfl
    have m1 : binD .Mult (.lst [.bl false]) (.int 34) = some (.lst (List.replicate 34 (.bl false))) := rfl
    have q1 := KN.like (.lst (List.replicate 34 (.bl false))) h3 rfl
    rw [e_sIf, e_Not, e_Tru, e_Call, e_aCons, c0, bind_ok]
    simp -implicitDefEqProofs only [e_aCons, e_aNil, e_Bin, e_Lst, e_C, bind_ok, List.length_cons, List.length_nil, Nat.zero_add, sz 1 (by omega), if_true, lift_some, e_Bi, e_V, List.getElem?_cons_zero, List.getElem?_cons_succ, lb, m1]
    simp -implicitDefEqProofs only [List.append_nil, permD, List.getElem?_cons_zero, List.getElem?_cons_succ, q1, e_ofF, bind_ok, t_bl, liftT_some, Bool.not_true, e_sNx]
  refine (seq_nx (s' := ⟨[.val (.rdl (ns.map .int)), .val (.ref 0), .val (.lst W), .no, .val (.int at_), .val (.str bent), .val (.lst (RES.map .str)), .val (.lst bad), .val (.str r), .no], h4⟩) ?_).trans ?_
  · simp only [e_Asg, e_Call, e_aCons, e_aNil, e_V, bind_ok, List.getElem?_cons_zero, List.getElem?_cons_succ, List.append_nil, permD, e4, e_ofF, e_gV, List.set_cons_zero, List.set_cons_succ]
  have rl : r.length ≤ 6 := by
    have : ∀ r ∈ RES, r.length ≤ 6 := by decide
    exact this r hr
  refine (seq_nx (s' := ⟨[.val (.rdl (ns.map .int)), .val (.ref 0), .val (.lst W), .no, .val (.int at_), .val (.str bent), .val (.lst (RES.map .str)), .val (.lst bad), .val (.str r), .val (.lst good)], h4⟩) ?_).trans ?_
  · have a1 : binD .Add (.str r) (.str [115]) = some (.str (r ++ [115])) := b_addS (by simp; omega)
    have a2 : binD .Add (.str r) (.str [122]) = some (.str (r ++ [122])) := b_addS (by simp; omega)
    have a3 : binD .Add (.str (r.take 1)) (.str [113, 113]) = some (.str (r.take 1 ++ [113, 113])) := b_addS (by simp; omega)
    have a4 : ∀ h, slD h (.str r) none (some 1) = some (.str (r.take 1)) := fun h => slice_to r 1 h
    rw [hgood]
    by_cases hs : r ++ [115] ∈ RES
    · simp only [e_Asg, e_Lst, e_aCons, e_aNil, e_V, e_C, e_If, e_CmpB, e_Bin, bind_ok, List.getElem?_cons_zero, List.getElem?_cons_succ, a1, a2, a3, a4, lift_some, notin_res, hs, decide_true, Bool.not_true, liftT_some, e_Sl, e_pNo, e_pInt, List.length_cons, List.length_nil, Nat.zero_add, Nat.reduceAdd, sz 7 (by omega), if_true, e_gV, List.set_cons_zero, List.set_cons_succ]
    · simp only [e_Asg, e_Lst, e_aCons, e_aNil, e_V, e_C, e_If, e_CmpB, e_Bin, bind_ok, List.getElem?_cons_zero, List.getElem?_cons_succ, a1, a2, a3, a4, lift_some, notin_res, hs, decide_false, Bool.not_false, liftT_some, e_Sl, e_pNo, e_pInt, List.length_cons, List.length_nil, Nat.zero_add, Nat.reduceAdd, sz 7 (by omega), if_true, if_false, e_gV, List.set_cons_zero, List.set_cons_succ]
  refine seq_rt ?_
  have c0 := each KN (i := 9) (l := good) (h := h4) (x0 := .val (.rdl (ns.map .int))) (x1 := .val (.ref 0)) (x2 := .val (.lst W)) (x4 := .val (.int at_)) (x5 := .val (.str bent)) (x6 := .val (.lst (RES.map .str))) (x7 := .val (.lst bad)) (x8 := .val (.str r)) (x9 := .val (.lst good)) rfl (by rw [hgood]; rfl)
  have c2 : (good.map fun x => D.bl (isB x)) = List.replicate 7 (.bl true) := by
    rw [hgood]
    have f1 : ∀ r ∈ RES, isNB (if r ++ [115] ∈ RES then r ++ [122] else r ++ [115]) = true := by decide +kernel
    have f2 : ∀ r ∈ RES, isNB (r.take 1 ++ [113, 113]) = true := by decide +kernel
    have f3 : isNB [97] = true := by decide +kernel
    have f4 : isNB [122] = true := by decide +kernel
    have f5 : isNB [97, 98, 99, 100, 101, 102, 103, 104] = true := by decide +kernel
    have f6 : isNB [107, 101, 101, 112, 115] = true := by decide +kernel
    have f7 : isNB [111, 112, 101, 110] = true := by decide +kernel
    simp only [List.map_cons, List.map_nil, isB, f1 r hr, f2 r hr, f3, f4, f5, f6, f7]
    rfl
  rw [c2] at c0
  have m1 : binD .Mult (.lst [.bl true]) (.int 7) = some (.lst (List.replicate 7 (.bl true))) := rfl
  have q1 := KN.like (.lst (List.replicate 7 (.bl true))) h4 rfl
  rw [e_Ret, e_Call, e_aCons, c0, bind_ok]
  simp only [e_aCons, e_aNil, e_Bin, e_Lst, e_C, bind_ok, List.length_cons, List.length_nil, Nat.zero_add, sz 1 (by omega), if_true, lift_some, m1]
  simp only [List.append_nil, permD, List.getElem?_cons_zero, List.getElem?_cons_succ, q1, e_ofF, bind_ok]
theorem plain (ns : List Int) (hl : ns.length ≤ 63) : ∃ h', T.rho 8 "law" [.rdl (ns.map .int)] [] = .ok (.bl true) h' := by
  rw [rho_run (e := e_law) (by kernel_rfl)]
  exact law_ok known ns
end B.K02
end
section
set_option Elab.async false
set_option linter.all false
set_option maxRecDepth 100000
set_option maxHeartbeats 0
open PySem PySem.W PySem.Calls PyProof.Rows
theorem PySem.Challenge.cw_bothtied_k02_names_holds : PySem.Challenge.rw_bothtied_k02_names.Holds := by
  w_on; o_law
  refine HandSHeadRun.head_any (r := OpenLaw.row PySem.Challenge.rw_bothtied_k02_names) (q := view (OpenLaw.row PySem.Challenge.rw_bothtied_k02_names).prog [11]) (H := B.K02.hk) (ob := B.K02.ob) (M := 3000) (loose := B.K02.names) (d := HandSHeadRun.topDef (OpenLaw.row PySem.Challenge.rw_bothtied_k02_names).prog 11) (kwd := []) B.K02.ob_eq
    (by kernel_rfl) (fun s => by kernel_rfl) B.K02.run (by kernel_rfl) (by kernel_rfl) (by kernel_rfl) (by rfl) (by first | assumption | decide +kernel) (by decide +kernel) ⟨rfl, rfl, rfl, rfl, rfl, by decide +kernel⟩ ?hw ?hc
  case hw => w_witness2
  case hc =>
    refine B.walk_ofW (l := PySem.Challenge.rw_bothtied_k02_names) (n := 63) (k := 8) (x := "_law_script") (CX := L2.CX (PySem.Challenge.rw_bothtied_k02_names).prog) rfl (by decide) (by kernel_rfl) ⟨rfl, by decide, by decide⟩ ?F B.cx_no
    intro w mg fa h Y G hmg0
    obtain ⟨K, KX, c⟩ := Y
    have hmg : mg ("law" : PySem.Str) = some (.ref fa) := by
      have e : (HandSHeadRun.topDef (OpenLaw.row PySem.Challenge.rw_bothtied_k02_names).prog 11).name = ("law" : PySem.Str) := by kernel_rfl
      rw [← e]
      exact hmg0
    obtain ⟨fd, hb, hF⟩ := B.K02.facts (P := (PySem.Challenge.rw_bothtied_k02_names).prog) (w := w) KX G hmg c
    refine ⟨K, fd, _, KX, hb, fun H a ns hl hO hS => ?_, hF⟩
    obtain ⟨h', e⟩ := B.K02.plain ns hl
    exact B.law_sp hO hS hl e
end
