import PyProof.Rows.All
import Wide.All
import OpenK.AllK
import Wide.FinOn
import HandS.ForMost
import HandS.ForExc
import HandS.Defaults
import HandS.Flow
import HandS.Style
import HandS.IsInst
import HandS.Deep
import HandS.Zip
import HandS.CallSlots
import HandS.Codes
import HandS.TupAny
import HandS.TupLe
import HandS.HeadHook1
import HandS.Star
import KE.SortCalls
import HandS.Property
import HandS.MakeKw
import HandS.HeadWalk
import HandS.OwnEq
import HandS.FStr
import HandS.HeadEnd
import HandS.HeadHook2
import HandS.Head0
import HandS.Head1
import HandS.Head2
import PySem.Challenge.RW_bothtied_k05_profiles_and_slots
section
set_option Elab.async false
set_option linter.all false
/-! B: a small interpreter over plain data (values by trees, mutable things by numbers), and what its words mean. -/
namespace B
open PySem

/-- values: trees; ref n: the n-th mutable thing -/
inductive D where
  | non | bl (b : Bool) | int (i : Int) | str (s : List Nat)
  | tup (l : List D) | lst (l : List D)
  | ref (n : Nat) | ty (n : String)
  /-- a list that is read alone (the script) -/
  | rdl (l : List D)
  /-- an instance of an own class that is never changed any more: the class's name, the attributes' names and values -/
  | ins (c : Str) (ns : List Str) (ds : List D)
  /-- an own class -/
  | cls (c : Str)
/-- a slot: unset, a value, a container of one's own (it may be changed) -/
inductive Sl where
  | no | val (d : D) | own (d : D)
/-- a mutable thing -/
inductive Ob where
  | lst (l : List D)
  | ins (c : Str) (ns : List Str) (ds : List D)
structure S where
  g : List Sl
  h : List Ob
inductive R (α : Type) where
  | ok (a : α) (s : S) | ex (x : D) (s : S) | bad
def R.bind {α β : Type} (r : R α) (k : α → S → R β) : R β := match r with
  | .ok a s => k a s
  | .ex x s => .ex x s
  | .bad => .bad
@[simp] theorem bind_ok {α β : Type} (a : α) (s : S) (k : α → S → R β) : (R.ok a s).bind k = k a s := rfl
@[simp] theorem bind_ex {α β : Type} (x : D) (s : S) (k : α → S → R β) : (R.ex x s : R α).bind k = .ex x s := rfl
@[simp] theorem bind_bad {α β : Type} (k : α → S → R β) : (R.bad : R α).bind k = .bad := rfl
/-- what a def does: arguments, mutable things *-/
inductive Rf where
  | ok (d : D) (h : List Ob) | ex (x : D) (h : List Ob) | bad
abbrev Fm := List D → List Ob → Rf
abbrev Fns := Str → Fm
abbrev I := Fns → S → R D
abbrev IT := Fns → S → R Bool
abbrev IL := Fns → S → R (List D)

def lift (o : Option D) (s : S) : R D := match o with
  | some d => .ok d s
  | none => .bad
def liftT (o : Option Bool) (s : S) : R Bool := match o with
  | some d => .ok d s
  | none => .bad
def liftL (o : Option (List D)) (s : S) : R (List D) := match o with
  | some d => .ok d s
  | none => .bad
@[simp] theorem lift_some (d : D) (s : S) : lift (some d) s = .ok d s := rfl
@[simp] theorem liftT_some (d : Bool) (s : S) : liftT (some d) s = .ok d s := rfl
@[simp] theorem liftL_some (d : List D) (s : S) : liftL (some d) s = .ok d s := rfl

/-! ### plain data -/
mutual
def pd : D → PyData
  | .non => .none
  | .bl b => .bool b
  | .int i => .int i
  | .str s => .str ⟨s.toArray⟩
  | .tup l => .tuple (pds l)
  | .lst l => .list (pds l)
  | .ref _ => .dict []
  | .ty _ => .dict []
  | .rdl _ => .dict []
  | .ins _ _ _ => .dict []
  | .cls _ => .dict []
def pds : List D → List PyData
  | [] => []
  | d :: r => pd d :: pds r
end
mutual
def isData : D → Bool
  | .non => true
  | .bl _ => true
  | .int _ => true
  | .str _ => true
  | .tup l => isDatas l
  | .lst l => isDatas l
  | .ref _ => false
  | .ty _ => false
  | .rdl _ => false
  | .ins _ _ _ => false
  | .cls _ => false
def isDatas : List D → Bool
  | [] => true
  | d :: r => isData d && isDatas r
end
def eqOk (d : D) : Bool := isData d && SeqAt.shaped (pd d)
def eqD (d e : D) : Bool := PyData.eqv (pd d) (pd e)
def flatD : D → Bool
  | .non => true
  | .bl _ => true
  | .int _ => true
  | .str _ => true
  | _ => false
/-- == of flat values -/
def eqF : D → D → Bool
  | .non, .non => true
  | .bl a, .bl b => a == b
  | .bl a, .int b => (if a then 1 else 0) == b
  | .int a, .bl b => a == (if b then 1 else 0)
  | .int a, .int b => a == b
  | .str a, .str b => a == b
  | _, _ => false
def lim : Nat := sizeLine
def binD (op : Operator) (x y : D) : Option D := match op, x, y with
  | .Add, .int i, .int j => some (.int (i + j))
  | .Add, .str a, .str b => if a.length + b.length ≤ sizeLine then some (.str (a ++ b)) else none
  | .Add, .lst a, .lst b => if a.length + b.length ≤ sizeLine then some (.lst (a ++ b)) else none
  | .Add, .tup a, .tup b => if a.length + b.length ≤ sizeLine then some (.tup (a ++ b)) else none
  | .Sub, .int i, .int j => some (.int (i - j))
  | .Mult, .int i, .int j => if (-(2 ^ 64) < i ∧ i < 2 ^ 64) ∨ (-(2 ^ 64) < j ∧ j < 2 ^ 64) then some (.int (i * j)) else none
  | .Mult, .lst a, .int k => if -(2 ^ 63) ≤ k ∧ k < 2 ^ 63 ∧ a.length * k.toNat ≤ sizeLine then some (.lst (List.replicate k.toNat a).flatten) else none
  | .FloorDiv, .int i, .int j => if j ≠ 0 ∧ j.natAbs < 1073741824 then some (.int (i.fdiv j)) else none
  | .Mod, .int i, .int j => if j ≠ 0 then some (.int (i.fmod j)) else none
  | .Pow, .int i, .int j => if 0 ≤ j ∧ j ≤ 1000000 ∧ i.natAbs < 2 ^ 64 then some (.int (i ^ j.toNat)) else none
  | _, _, _ => none
def isNon : D → Bool
  | .non => true
  | _ => false
def cmpD (op : CmpOp) (x y : D) : Option Bool := match op with
  | .Eq => if eqOk x && eqOk y then some (eqD x y) else none
  | .NotEq => if eqOk x && eqOk y then some (!eqD x y) else none
  | .Lt => match x, y with
    | .int i, .int j => some (decide (i < j))
    | _, _ => none
  | .LtE => match x, y with
    | .int i, .int j => some (decide (i ≤ j))
    | _, _ => none
  | .Gt => match x, y with
    | .int i, .int j => some (decide (j < i))
    | _, _ => none
  | .GtE => match x, y with
    | .int i, .int j => some (decide (j ≤ i))
    | _, _ => none
  | .Is => match y with
    | .non => some (isNon x)
    | .bl b => (match x with
      | .bl a => some (decide (a = b))
      | _ => none)
    | _ => none
  | .IsNot => match y with
    | .non => some (!isNon x)
    | .bl b => (match x with
      | .bl a => some (!decide (a = b))
      | _ => none)
    | _ => none
  | .In => match y with
    | .str t => (match x with
      | .str [c] => some (decide (c ∈ t))
      | _ => none)
    | .tup l => if flatD x && l.all flatD then some (l.any fun z => eqF z x) else none
    | .lst l => if flatD x && l.all flatD then some (l.any fun z => eqF z x) else none
    | _ => none
  | .NotIn => match y with
    | .str t => (match x with
      | .str [c] => some (!decide (c ∈ t))
      | _ => none)
    | .tup l => if flatD x && l.all flatD then some (!l.any fun z => eqF z x) else none
    | .lst l => if flatD x && l.all flatD then some (!l.any fun z => eqF z x) else none
    | _ => none
def truthD : D → Option Bool
  | .non => some false
  | .bl b => some b
  | .int i => some (i != 0)
  | .str s => some (!s.isEmpty)
  | .tup l => some (!l.isEmpty)
  | .lst l => some (!l.isEmpty)
  | _ => none
/-- the items of a sequence -/
def seqD (h : List Ob) : D → Option (List D)
  | .tup l => some l
  | .lst l => some l
  | .rdl l => some l
  | .ref n => (match h[n]? with
    | some (.lst l) => some l
    | _ => none)
  | _ => none
def ixD (h : List Ob) (x y : D) : Option D := match y with
  | .int i => (match x with
    | .str s => (L2.atI s i).map fun c => .str [c]
    | x => (seqD h x).bind fun l => L2.atI l i)
  | _ => none
/-- a part of a slice: None or an int -/
def cut {α : Type} (l : List α) (lo hi : Option Int) : List α := (l.drop (HT.sIx l.length 0 lo)).take (HT.sIx l.length l.length hi - HT.sIx l.length 0 lo)
def slD (h : List Ob) (x : D) (lo hi : Option Int) : Option D := match x with
  | .str s => some (.str (cut s lo hi))
  | .lst l => some (.lst (cut l lo hi))
  | .tup l => some (.tup (cut l lo hi))
  | .rdl l => some (.lst (cut l lo hi))
  | .ref n => (match h[n]? with
    | some (.lst l) => some (.lst (cut l lo hi))
    | _ => none)
  | _ => none
/-- isinstance with one built-in class -/
def isiD (x : D) (t : String) : Option Bool := match x, t with
  | .str _, "str" => some true
  | .str _, "int" => some false
  | .str _, "bool" => some false
  | .str _, "list" => some false
  | .str _, "tuple" => some false
  | .int _, "int" => some true
  | .int _, "str" => some false
  | .int _, "bool" => some false
  | .int _, "list" => some false
  | .int _, "tuple" => some false
  | .bl _, "bool" => some true
  | .bl _, "int" => some true
  | .bl _, "str" => some false
  | .bl _, "list" => some false
  | .bl _, "tuple" => some false
  | .non, "int" => some false
  | .non, "str" => some false
  | .non, "bool" => some false
  | .non, "list" => some false
  | .non, "tuple" => some false
  | .tup _, "tuple" => some true
  | .tup _, "int" => some false
  | .tup _, "str" => some false
  | .tup _, "bool" => some false
  | .tup _, "list" => some false
  | .lst _, "list" => some true
  | .lst _, "int" => some false
  | .lst _, "str" => some false
  | .lst _, "bool" => some false
  | .lst _, "tuple" => some false
  | _, _ => none
def bools : List D → Option (List Bool)
  | [] => some []
  | .bl b :: r => (bools r).map (b :: ·)
  | _ => none
def strL : List D → Option (List (List Nat))
  | [] => some []
  | .str b :: r => (strL r).map (b :: ·)
  | _ => none
/-- the built-ins that are called by name -/
inductive Bi where
  | len | int | list | all | isi | tup
def lenD (h : List Ob) : List D → Option D
  | [.str s] => some (.int s.length)
  | [x] => (seqD h x).map fun l => .int l.length
  | _ => none
def intD : List D → Option D
  | [.int i] => some (.int i)
  | [.bl b] => some (.int (if b then 1 else 0))
  | _ => none
def listD (h : List Ob) : List D → Option D
  | [x] => (seqD h x).map .lst
  | _ => none
def tupD (h : List Ob) : List D → Option D
  | [.tup l] => some (.tup l)
  | [.lst l] => some (.tup l)
  | [.rdl l] => some (.tup l)
  | [.ref n] => (match h[n]? with
    | some (.lst l) => some (.tup l)
    | _ => none)
  | _ => none
def allD : List D → Option D
  | [.lst l] => (bools l).map fun bs => .bl (bs.all id)
  | _ => none
def isiC : List D → Option D
  | [x, .ty t] => (isiD x t).map .bl
  | [x, .tup [.ty t, .ty u]] => (isiD x t).bind fun a => (isiD x u).map fun b => .bl (a || b)
  | _ => none
def biD (f : Bi) (h : List Ob) (xs : List D) : Option D := match f with
  | .len => lenD h xs
  | .int => intD xs
  | .list => listD h xs
  | .all => allD xs
  | .isi => isiC xs
  | .tup => tupD h xs
/-- methods of built-in types -/
inductive Mt where
  | join
def joinD : D → List D → Option D
  | .str a, [.lst l] => (strL l).bind fun ys => if (ys.map (·.length)).sum + ys.length * a.length ≤ 16777216 then some (.str (TL.joinL a ys)) else none
  | .str a, [.tup l] => (strL l).bind fun ys => if (ys.map (·.length)).sum + ys.length * a.length ≤ 16777216 then some (.str (TL.joinL a ys)) else none
  | _, _ => none
/-- the receiver is of the method's type -/
def mtOk : Mt → D → Bool
  | .join, .str _ => true
  | _, _ => false
def mtD (m : Mt) (x : D) (xs : List D) : Option D := match m with
  | .join => joinD x xs

/-! ### the words: expressions -/
def iC (d : D) : I := fun _ s => .ok d s
def iV (i : Nat) : I := fun _ s => match s.g[i]? with
  | some (.val d) => .ok d s
  | some (.own d) => .ok d ⟨s.g.set i (.val d), s.h⟩
  | _ => .bad
def iBin (op : Operator) (a b : I) : I := fun ρ s => (a ρ s).bind fun x s => (b ρ s).bind fun y s => lift (binD op x y) s
def iCmp (op : CmpOp) (a b : I) : I := fun ρ s => (a ρ s).bind fun x s => (b ρ s).bind fun y s => lift ((cmpD op x y).map .bl) s
def iChain (o1 o2 : CmpOp) (a b c : I) : I := fun ρ s => (a ρ s).bind fun x s => (b ρ s).bind fun y s => match cmpD o1 x y with
  | some true => (c ρ s).bind fun z s => lift ((cmpD o2 y z).map .bl) s
  | some false => .ok (.bl false) s
  | none => .bad
def tTru (a : I) : IT := fun ρ s => (a ρ s).bind fun x s => liftT (truthD x) s
def tAnd (a b : IT) : IT := fun ρ s => (a ρ s).bind fun x s => match x with
  | true => b ρ s
  | false => .ok false s
def tOr (a b : IT) : IT := fun ρ s => (a ρ s).bind fun x s => match x with
  | true => .ok true s
  | false => b ρ s
def tNot (a : IT) : IT := fun ρ s => (a ρ s).bind fun x s => .ok (!x) s
def iAnd (a b : I) : I := fun ρ s => (a ρ s).bind fun x s => match truthD x with
  | some true => b ρ s
  | some false => .ok x s
  | none => .bad
def iOr (a b : I) : I := fun ρ s => (a ρ s).bind fun x s => match truthD x with
  | some true => .ok x s
  | some false => b ρ s
  | none => .bad
def iNot (a : I) : I := fun ρ s => (a ρ s).bind fun x s => lift ((truthD x).map fun b => .bl (!b)) s
def iIf (c : IT) (a b : I) : I := fun ρ s => (c ρ s).bind fun x s => match x with
  | true => a ρ s
  | false => b ρ s
def aNil : IL := fun _ s => .ok [] s
def aCons (a : I) (r : IL) : IL := fun ρ s => (a ρ s).bind fun x s => (r ρ s).bind fun xs s => .ok (x :: xs) s
/-- [*a, ..] -/
def aStar (a : I) (r : IL) : IL := fun ρ s => (a ρ s).bind fun x s => match seqD s.h x with
  | some l => (r ρ s).bind fun xs s => .ok (l ++ xs) s
  | none => .bad
/-- what is never reached -/
def iBad : I := fun _ _ => .bad
def tBad : IT := fun _ _ => .bad
def iTup (a : IL) : I := fun ρ s => (a ρ s).bind fun xs s => lift (if xs.length ≤ sizeLine then some (.tup xs) else none) s
def iLst (a : IL) : I := fun ρ s => (a ρ s).bind fun xs s => lift (if xs.length ≤ sizeLine then some (.lst xs) else none) s
/-- a list that may be changed by others -/
def iLstH (a : IL) : I := fun ρ s => (a ρ s).bind fun xs s => if xs.length ≤ sizeLine then .ok (.ref s.h.length) ⟨s.g, s.h ++ [.lst xs]⟩ else .bad
def iIx (a b : I) : I := fun ρ s => (a ρ s).bind fun x s => (b ρ s).bind fun y s => lift (ixD s.h x y) s
def pNo : Fns → S → R (Option Int) := fun _ s => .ok none s
def pInt (a : I) : Fns → S → R (Option Int) := fun ρ s => (a ρ s).bind fun x s => match x with
  | .int i => .ok (some i) s
  | _ => .bad
def iSl (a : I) (lo hi : Fns → S → R (Option Int)) : I := fun ρ s => (a ρ s).bind fun x s => (lo ρ s).bind fun l s => (hi ρ s).bind fun u s => lift (slD s.h x l u) s
def iBi (f : Bi) (a : IL) : I := fun ρ s => (a ρ s).bind fun xs s => lift (biD f s.h xs) s
def iMt (m : Mt) (a : I) (b : IL) : I := fun ρ s => (a ρ s).bind fun x s => match mtOk m x with
  | true => (b ρ s).bind fun xs s => lift (mtD m x xs) s
  | false => .bad
def ofF (g : List Sl) (r : Rf) : R D := match r with
  | .ok d h => .ok d ⟨g, h⟩
  | .ex x h => .ex x ⟨g, h⟩
  | .bad => .bad
/-- how a parameter comes by its value: an argument (positional ones first, then keywords), a default -/
inductive Ai where
  | ix (n : Nat) | df (d : D)
def permD : List Ai → List D → Option (List D)
  | [], _ => some []
  | .ix n :: r, xs => match xs[n]?, permD r xs with
    | some d, some ds => some (d :: ds)
    | _, _ => none
  | .df d :: r, xs => match permD r xs with
    | some ds => some (d :: ds)
    | none => none
def iCall (f : Str) (pm : List Ai) (a b : IL) : I := fun ρ s => (a ρ s).bind fun xs s => (b ρ s).bind fun ys s => match permD pm (xs ++ ys) with
  | some zs => ofF s.g (ρ f zs s.h)
  | none => .bad

/-! ### instances -/
def lookD (f : Str) : List Str → List D → Option D
  | n :: ns, d :: ds => if n = f then some d else lookD f ns ds
  | _, _ => none
def putN (f : Str) : List Str → List Str
  | [] => [f]
  | n :: ns => if n = f then n :: ns else n :: putN f ns
def putD (f : Str) (y : D) : List Str → List D → List D
  | n :: ns, d :: ds => if n = f then y :: ds else d :: putD f y ns ds
  | _, _ => [y]
/-- what a value is as an instance -/
def insOf (h : List Ob) : D → Option (Str × List Str × List D)
  | .ins c ns ds => some (c, ns, ds)
  | .ref k => (match h[k]? with
    | some (.ins c ns ds) => some (c, ns, ds)
    | _ => none)
  | _ => none
/-- how a class has an attribute: as each instance's own, by a property -/
inductive Ah where
  | fld | prop (key : Str)
def iAt (tb : List (Str × Ah)) (a : I) (f : Str) : I := fun ρ s => (a ρ s).bind fun x s => match insOf s.h x with
  | some (c, ns, ds) => (match tb.lookup c with
    | some .fld => lift (lookD f ns ds) s
    | some (.prop key) => (match ρ key [x] s.h with
      | .ok d h => .ok d ⟨s.g, h⟩
      | _ => .bad)
    | none => .bad)
  | none => .bad
/-- o.m(..): the method's key and its call's shape by the class -/
def iMeth (tb : List (Str × Str × List Ai)) (o : I) (m : Str) (a b : IL) : I := fun ρ s => (o ρ s).bind fun x s => match insOf s.h x with
  | some (c, ns, ds) => (match tb.lookup c, lookD m ns ds with
    | some (key, pm), none => (a ρ s).bind fun xs s => (b ρ s).bind fun ys s => match permD pm (x :: xs ++ ys) with
      | some zs => ofF s.g (ρ key zs s.h)
      | none => .bad
    | _, _ => .bad)
  | none => .bad
mutual
/-- the mutable things in d are among the first k -/
def scp (k : Nat) : D → Bool
  | .ref n => decide (n < k)
  | .tup l => scps k l
  | .lst l => scps k l
  | .rdl l => scps k l
  | .ins _ _ l => scps k l
  | _ => true
def scps (k : Nat) : List D → Bool
  | [] => true
  | d :: r => scp k d && scps k r
end
mutual
def eqT : D → D → Bool
  | .non, .non => true
  | .bl a, .bl b => a == b
  | .int a, .int b => decide (a = b)
  | .str a, .str b => decide (a = b)
  | .tup a, .tup b => eqTs a b
  | .lst a, .lst b => eqTs a b
  | .rdl a, .rdl b => eqTs a b
  | .ref a, .ref b => decide (a = b)
  | .ty a, .ty b => decide (a = b)
  | .cls a, .cls b => decide (a = b)
  | .ins a b c, .ins x y z => decide (a = x) && (decide (b = y) && eqTs c z)
  | _, _ => false
def eqTs : List D → List D → Bool
  | [], [] => true
  | a :: r, b :: q => eqT a b && eqTs r q
  | _, _ => false
end
def eqOb : Ob → Ob → Bool
  | .lst a, .lst b => eqTs a b
  | .ins a b c, .ins x y z => decide (a = x) && (decide (b = y) && eqTs c z)
  | _, _ => false
def eqH : List Ob → List Ob → Bool
  | [], [] => true
  | a :: r, b :: q => eqOb a b && eqH r q
  | _, _ => false
/-- what a new instance is: it stays mutable, or (fz) it stands still from now on -/
def made (fz : Bool) (g : List Sl) (h : List Ob) (r : Rf) : R D := match r with
  | .ok .non h' => (match fz with
    | false => .ok (.ref h.length) ⟨g, h'⟩
    | true => if eqH (h'.take h.length) h && decide (h'.length = h.length + 1) then (match h'[h.length]? with
      | some (.ins c ns ds) => if scps h.length ds then .ok (.ins c ns ds) ⟨g, h⟩ else .bad
      | _ => .bad) else .bad)
  | .ok _ _ => .bad
  | .ex x h' => .ex x ⟨g, h'⟩
  | .bad => .bad
/-- C(..) -/
def iMake (c key : Str) (pm : List Ai) (fz : Bool) (a b : IL) : I := fun ρ s => (a ρ s).bind fun xs s => (b ρ s).bind fun ys s => match permD pm (.ref s.h.length :: xs ++ ys) with
  | some zs => made fz s.g s.h (ρ key zs (s.h ++ [.ins c [] []]))
  | none => .bad

/-! ### what is walked -/
def wSeq (a : I) : IL := fun ρ s => (a ρ s).bind fun x s => match x with
  | .str t => .ok (t.map fun c => .str [c]) s
  | .tup l => .ok l s
  | .lst l => .ok l s
  | _ => .bad
def wRange (a : IL) : IL := fun ρ s => (a ρ s).bind fun xs s => match xs with
  | [.int n] => if -(2 ^ 62) ≤ n ∧ n ≤ sizeLine then .ok ((List.range n.toNat).map fun (k : Nat) => D.int (k : Int)) s else .bad
  | [.int i, .int j] => if (-(2 ^ 62) ≤ i ∧ i < 2 ^ 62 ∧ -(2 ^ 62) ≤ j ∧ j < 2 ^ 62) ∧ j - i ≤ sizeLine then .ok ((List.range (j - i).toNat).map fun (k : Nat) => D.int (i + (k : Int))) s else .bad
  | _ => .bad
def pairD (p : D × D) : D := .tup [p.1, p.2]
def wZip (a : IL) : IL := fun ρ s => (a ρ s).bind fun xs s => match xs with
  | [.lst l, .lst r] => .ok ((l.zip r).map pairD) s
  | [.tup l, .tup r] => .ok ((l.zip r).map pairD) s
  | _ => .bad
def numD (p : D × Nat) : D := .tup [.int (p.2 : Int), p.1]
def wEnum (a : IL) : IL := fun ρ s => (a ρ s).bind fun xs s => match xs with
  | [.lst l] => .ok (l.zipIdx.map numD) s
  | _ => .bad

/-! ### targets -/
abbrev IG := D → S → Option S
def gV (i : Nat) : IG := fun d s => some ⟨s.g.set i (.val d), s.h⟩
def gVs : List Nat → List D → S → Option S
  | [], [], s => some s
  | i :: is, d :: ds, s => gVs is ds ⟨s.g.set i (.val d), s.h⟩
  | _, _, _ => none
def gT (is : List Nat) : IG := fun d s => match d with
  | .tup l => gVs is l s
  | _ => none

/-! ### comprehensions -/
def wipeS (g : List Sl) : List Nat → List Sl
  | [] => g
  | v :: vs => (wipeS g vs).set v .no
def tYes : IT := fun _ s => .ok true s
/-- the items made from the items ds; no error may leave -/
def compL (g : IG) (t : IT) (e : I) (vs : List Nat) (ρ : Fns) : List D → S → Option (List D × S)
  | [], s => some ([], s)
  | d :: ds, s => match g d s with
    | none => none
    | some s1 => match t ρ s1 with
      | .ok true s2 => (match e ρ s2 with
        | .ok y s3 => (match compL g t e vs ρ ds ⟨wipeS s3.g vs, s3.h⟩ with
          | some (ys, s4) => some (y :: ys, s4)
          | none => none)
        | _ => none)
      | .ok false s2 => compL g t e vs ρ ds ⟨wipeS s2.g vs, s2.h⟩
      | _ => none
/-- the block's names as they were around it -/
def backS (g' g : List Sl) : List Nat → List Sl
  | [] => g'
  | v :: vs => (backS g' g vs).set v (match g[v]? with
    | some (.val d) => .val d
    | _ => .no)
def iComp (w : IL) (g : IG) (t : IT) (e : I) (vs : List Nat) : I := fun ρ s => (w ρ s).bind fun ds s => match compL g t e vs ρ ds ⟨wipeS s.g vs, s.h⟩ with
  | some (ys, s') => .ok (.lst ys) ⟨backS s'.g s.g vs, s'.h⟩
  | none => .bad

/-! ### statements -/
inductive Fl where
  | nx | rt (d : D) | bk | ct
abbrev IS := Fns → S → R Fl
def sNx : IS := fun _ s => .ok .nx s
def sSeq (a b : IS) : IS := fun ρ s => (a ρ s).bind fun f s => match f with
  | .nx => b ρ s
  | f => .ok f s
def sRet (a : I) : IS := fun ρ s => (a ρ s).bind fun x s => .ok (.rt x) s
def sRetN : IS := fun _ s => .ok (.rt .non) s
def sDrop (a : I) : IS := fun ρ s => (a ρ s).bind fun _ s => .ok .nx s
def sIf (c : IT) (a b : IS) : IS := fun ρ s => (c ρ s).bind fun x s => match x with
  | true => a ρ s
  | false => b ρ s
def sAsg (a : I) (g : IG) : IS := fun ρ s => (a ρ s).bind fun x s => match g x s with
  | some s => .ok .nx s
  | none => .bad
/-- a, b = x, y -/
def sPar (i j : Nat) (a b : I) : IS := fun ρ s => (a ρ s).bind fun x s => (b ρ s).bind fun y s => .ok .nx ⟨(s.g.set i (.val x)).set j (.val y), s.h⟩
/-- o[i] = e, o a list that others may change -/
def sSet (o i e : I) : IS := fun ρ s => (e ρ s).bind fun v s => (o ρ s).bind fun x s => (i ρ s).bind fun y s => match x, y with
  | .ref n, .int k => (match s.h[n]? with
    | some (.lst l) => (match L2.ixN l.length k with
      | some j => .ok .nx ⟨s.g, s.h.set n (.lst (l.set j v))⟩
      | none => .bad)
    | _ => .bad)
  | _, _ => .bad
/-- o.f = e -/
def sAtt (tb : List Str) (o : I) (f : Str) (e : I) : IS := fun ρ s => (e ρ s).bind fun v s => (o ρ s).bind fun x s => match x with
  | .ref k => (match s.h[k]? with
    | some (.ins c ns ds) => if decide (c ∈ tb) && decide (ns.length < 1000) then .ok .nx ⟨s.g, s.h.set k (.ins c (putN f ns) (putD f v ns ds))⟩ else .bad
    | _ => .bad)
  | _ => .bad
/-- what is never reached -/
def sBad : IS := fun _ _ => .bad
def forL (g : IG) (b : IS) (ρ : Fns) : List D → S → R Fl
  | [], s => .ok .nx s
  | d :: ds, s => match g d s with
    | none => .bad
    | some s1 => (b ρ s1).bind fun f s2 => match f with
      | .nx => forL g b ρ ds s2
      | .ct => forL g b ρ ds s2
      | .bk => .ok .nx s2
      | .rt d => .ok (.rt d) s2
def sFor (w : IL) (g : IG) (b : IS) : IS := fun ρ s => (w ρ s).bind fun ds s => forL g b ρ ds s

/-- a def's meaning: n names, its body -/
def runD (n : Nat) (b : IS) (ρ : Fns) : Fm := fun ds h => match b ρ ⟨ds.map .val ++ List.replicate (n - ds.length) .no, h⟩ with
  | .ok .nx s => .ok .non s.h
  | .ok (.rt d) s => .ok d s.h
  | .ok _ _ => .bad
  | .ex x s => .ex x s.h
  | .bad => .bad
end B
end
section
set_option Elab.async false
set_option linter.all false
set_option maxRecDepth 100000
namespace B
open PySem L2

abbrev MS := Addr → Prop
/-- a tuple that stands still: tracked and outside M, or written by the top -/
def TupN (K : PySem.W.Frag) (M : MS) (H : Hp) (a : Addr) (xs : List V) : Prop :=
  (¬ M a ∧ H a = some (.tup xs)) ∨
    ∃ (o : Obj) (its : Array Value) (n : Nat), K.lookup a = some o ∧ o.cls = .type "tuple" ∧ o.data = .seq its n ∧ its.size ≤ sizeLine ∧ Vals xs its.toList
theorem TupN.sq {K : PySem.W.Frag} {M : MS} {H : Hp} {a : Addr} {xs : List V} (h : TupN K M H a xs) : SqT K H a xs := by
  rcases h with h | h
  · exact .inl (.inl h.2)
  · exact .inr h
/-- a list that is read alone -/
def LstN (K : PySem.W.Frag) (M : MS) (H : Hp) (a : Addr) (xs : List V) : Prop :=
  (¬ M a ∧ Rd H a (.lst xs)) ∨
    ∃ (o : Obj) (its : Array Value) (n : Nat), K.lookup a = some o ∧ o.cls = .type "list" ∧ o.dict = none ∧ o.data = .seq its n ∧ its.size ≤ sizeLine ∧ Vals xs its.toList
theorem LstN.sq {K : PySem.W.Frag} {M : MS} {H : Hp} {a : Addr} {xs : List V} (h : LstN K M H a xs) : SqL K H a xs := by
  rcases h with h | h
  · exact .inl h.2
  · exact .inr h
/-! what a value is, as a tree -/
mutual
inductive Rel (K : PySem.W.Frag) (ia : Nat → Addr) (n : Nat) (M : MS) (H : Hp) : V → D → Prop
  | non : Rel K ia n M H .non .non
  | bl (b : Bool) : Rel K ia n M H (.bl b) (.bl b)
  | int (i : Int) : Rel K ia n M H (.int i) (.int i)
  | str (l : List Nat) : l.length ≤ sizeLine → Rel K ia n M H (.str ⟨l.toArray⟩) (.str l)
  | tup {a : Addr} {vs : List V} {ds : List D} : TupN K M H a vs → vs.length ≤ sizeLine → Rels K ia n M H vs ds → Rel K ia n M H (.ref a) (.tup ds)
  | lst {a : Addr} {vs : List V} {ds : List D} : ¬ M a → H a = some (.lst vs) → vs.length ≤ sizeLine → Rels K ia n M H vs ds → Rel K ia n M H (.ref a) (.lst ds)
  | ref {k : Nat} : k < n → Rel K ia n M H (.ref (ia k)) (.ref k)
  | ty (t : String) : Rel K ia n M H (.ty t) (.ty t)
  | rdl {a : Addr} {vs : List V} {ds : List D} : LstN K M H a vs → vs.length ≤ sizeLine → Rels K ia n M H vs ds → Rel K ia n M H (.ref a) (.rdl ds)
  | ins {a dx : Addr} {c : Str} {ns : List Str} {vs : List V} {ds : List D} : ¬ M a → H a = some (.ins (He.ga K c) dx (ns.zip vs)) → ns.length = vs.length → Rels K ia n M H vs ds → Rel K ia n M H (.ref a) (.ins c ns ds)
  | cls (c : Str) : Rel K ia n M H (.ref (He.ga K c)) (.cls c)
inductive Rels (K : PySem.W.Frag) (ia : Nat → Addr) (n : Nat) (M : MS) (H : Hp) : List V → List D → Prop
  | nil : Rels K ia n M H [] []
  | cons {v : V} {d : D} {vs : List V} {ds : List D} : Rel K ia n M H v d → Rels K ia n M H vs ds → Rels K ia n M H (v :: vs) (d :: ds)
end
section
variable {K : PySem.W.Frag} {ia ia' : Nat → Addr} {n n' : Nat} {M M' : MS} {H H' : Hp}
/-! from here to there: what stood still stands still -/
mutual
theorem Rel.mono (fz : ∀ a o, H a = some o → ¬ M a → H' a = some o ∧ ¬ M' a) (hn : n ≤ n') (hi : ∀ k, k < n → ia' k = ia k) : ∀ {v : V} {d : D}, Rel K ia n M H v d → Rel K ia' n' M' H' v d
  | _, _, .non => .non
  | _, _, .bl b => .bl b
  | _, _, .int i => .int i
  | _, _, .str l h => .str l h
  | _, _, .tup t z r => by
    refine .tup ?_ z (Rels.mono fz hn hi r)
    rcases t with ⟨m, e⟩ | t
    · exact .inl ⟨(fz _ _ e m).2, (fz _ _ e m).1⟩
    · exact .inr t
  | _, _, .lst m e z r => by
    exact .lst (fz _ _ e m).2 (fz _ _ e m).1 z (Rels.mono fz hn hi r)
  | _, _, .ref (k := k) h => by
    rw [← hi k h]
    exact .ref (Nat.lt_of_lt_of_le h hn)
  | _, _, .ty t => .ty t
  | _, _, .rdl t z r => by
    refine .rdl ?_ z (Rels.mono fz hn hi r)
    rcases t with ⟨m, e | ⟨o, e⟩⟩ | t
    · exact .inl ⟨(fz _ _ e m).2, .inl (fz _ _ e m).1⟩
    · exact .inl ⟨(fz _ _ e m).2, .inr ⟨o, (fz _ _ e m).1⟩⟩
    · exact .inr t
  | _, _, .ins m e z r => by
    exact .ins (fz _ _ e m).2 (fz _ _ e m).1 z (Rels.mono fz hn hi r)
  | _, _, .cls c => .cls c
theorem Rels.mono (fz : ∀ a o, H a = some o → ¬ M a → H' a = some o ∧ ¬ M' a) (hn : n ≤ n') (hi : ∀ k, k < n → ia' k = ia k) : ∀ {vs : List V} {ds : List D}, Rels K ia n M H vs ds → Rels K ia' n' M' H' vs ds
  | _, _, .nil => .nil
  | _, _, .cons a r => .cons (Rel.mono fz hn hi a) (Rels.mono fz hn hi r)
end
theorem Rels.length {vs : List V} {ds : List D} (r : Rels K ia n M H vs ds) : vs.length = ds.length := by
  induction vs generalizing ds with
  | nil => cases r; rfl
  | cons v vs ih => cases r with | cons a r => simp [ih r]
theorem Rels.get {vs : List V} {ds : List D} (r : Rels K ia n M H vs ds) {i : Nat} {d : D} (h : ds[i]? = some d) : ∃ v, vs[i]? = some v ∧ Rel K ia n M H v d := by
  induction vs generalizing ds i with
  | nil => cases r; simp at h
  | cons v vs ih =>
    cases r with
    | cons a r =>
      cases i with
      | zero => simp at h; subst h; exact ⟨v, rfl, a⟩
      | succ i => simpa using ih r (by simpa using h)
theorem Rels.getV {vs : List V} {ds : List D} (r : Rels K ia n M H vs ds) {i : Nat} {v : V} (h : vs[i]? = some v) : ∃ d, ds[i]? = some d ∧ Rel K ia n M H v d := by
  induction vs generalizing ds i with
  | nil => simp at h
  | cons w vs ih =>
    cases r with
    | cons a r =>
      cases i with
      | zero => simp at h; subst h; exact ⟨_, rfl, a⟩
      | succ i => simpa using ih r (by simpa using h)
theorem Rels.append {vs ws : List V} {ds es : List D} (r : Rels K ia n M H vs ds) (q : Rels K ia n M H ws es) : Rels K ia n M H (vs ++ ws) (ds ++ es) := by
  induction vs generalizing ds with
  | nil => cases r; exact q
  | cons v vs ih => cases r with | cons a r => exact .cons a (ih r)
theorem Rels.take {vs : List V} {ds : List D} (r : Rels K ia n M H vs ds) (k : Nat) : Rels K ia n M H (vs.take k) (ds.take k) := by
  induction vs generalizing ds k with
  | nil => cases r; simp; exact .nil
  | cons v vs ih => cases r with | cons a r => cases k with
    | zero => simp; exact .nil
    | succ k => simp; exact .cons a (ih r k)
theorem Rels.drop {vs : List V} {ds : List D} (r : Rels K ia n M H vs ds) (k : Nat) : Rels K ia n M H (vs.drop k) (ds.drop k) := by
  induction vs generalizing ds k with
  | nil => cases r; simp; exact .nil
  | cons v vs ih => cases r with | cons a r => cases k with
    | zero => simp; exact .cons a r
    | succ k => simp; exact ih r k
theorem Rels.set {vs : List V} {ds : List D} (r : Rels K ia n M H vs ds) {v : V} {d : D} (q : Rel K ia n M H v d) (k : Nat) : Rels K ia n M H (vs.set k v) (ds.set k d) := by
  induction vs generalizing ds k with
  | nil => cases r; simp; exact .nil
  | cons w vs ih => cases r with | cons a r => cases k with
    | zero => simp; exact .cons q r
    | succ k => simp; exact .cons a (ih r k)
theorem Rels.rep {vs : List V} {ds : List D} (r : Rels K ia n M H vs ds) (k : Nat) : Rels K ia n M H (List.replicate k vs).flatten (List.replicate k ds).flatten := by
  induction k with
  | zero => simp; exact .nil
  | succ k ih => simp only [List.replicate_succ, List.flatten_cons]; exact r.append ih
theorem Rels.cut {vs : List V} {ds : List D} (r : Rels K ia n M H vs ds) (lo hi : Option Int) : Rels K ia n M H (cutV vs lo hi) (B.cut ds lo hi) := by
  unfold cutV B.cut
  rw [r.length]
  exact (r.drop _).take _
theorem Rels.bls {vs : List V} {bs : List Bool} : ∀ {ds : List D}, Rels K ia n M H vs ds → bools ds = some bs → vs = bs.map V.bl := by
  induction vs generalizing bs with
  | nil => intro ds r h; cases r; simp [bools] at h; subst h; rfl
  | cons v vs ih =>
    intro ds r h
    cases r with
    | cons a r =>
      cases a <;> simp [bools] at h
      obtain ⟨c, h1, h2⟩ := h
      subst h2
      rw [ih r h1]; rfl
theorem Rels.strs {vs : List V} {bs : List (List Nat)} : ∀ {ds : List D}, Rels K ia n M H vs ds → strL ds = some bs → vs = (bs.map fun b => (⟨b.toArray⟩ : Str)).map V.str := by
  induction vs generalizing bs with
  | nil => intro ds r h; cases r; simp [strL] at h; subst h; rfl
  | cons v vs ih =>
    intro ds r h
    cases r with
    | cons a r =>
      cases a <;> simp [strL] at h
      obtain ⟨c, h1, h2⟩ := h
      subst h2
      rw [ih r h1]; rfl
end
/-! ### worlds -/
/-- where things lie: the mutable things, the slots' own containers, what others hold -/
structure Wd where
  ia : Nat → Addr
  la : Nat → Addr
  P : MS
def MW (W : Wd) (s : S) : MS := fun a => W.P a ∨ (∃ k, k < s.h.length ∧ W.ia k = a) ∨ ∃ (i : Nat) (d : D), s.g[i]? = some (.own d) ∧ W.la i = a
abbrev RelW (K : PySem.W.Frag) (W : Wd) (s : S) (H : Hp) : V → D → Prop := Rel K W.ia s.h.length (MW W s) H
abbrev RelsW (K : PySem.W.Frag) (W : Wd) (s : S) (H : Hp) : List V → List D → Prop := Rels K W.ia s.h.length (MW W s) H
def ObR (K : PySem.W.Frag) (W : Wd) (s : S) (H : Hp) (a : Addr) : Ob → Prop
  | .lst ds => ∃ vs, H a = some (.lst vs) ∧ vs.length ≤ sizeLine ∧ RelsW K W s H vs ds
  | .ins c ns ds => ∃ dx vs, H a = some (.ins (He.ga K c) dx (ns.zip vs)) ∧ ns.length = vs.length ∧ RelsW K W s H vs ds
def OwR (K : PySem.W.Frag) (W : Wd) (s : S) (H : Hp) (a : Addr) : D → Prop
  | .lst ds => ∃ vs, H a = some (.lst vs) ∧ vs.length ≤ sizeLine ∧ RelsW K W s H vs ds
  | _ => False
structure Abs (K : PySem.W.Frag) (W : Wd) (s : S) (σ : L2.St) (H : Hp) : Prop where
  len : s.g.length = σ.length
  val : ∀ (i : Nat) (d : D), s.g[i]? = some (.val d) → ∃ v, σ[i]? = some (some v) ∧ RelW K W s H v d
  own : ∀ (i : Nat) (d : D), s.g[i]? = some (.own d) → σ[i]? = some (some (.ref (W.la i))) ∧ OwR K W s H (W.la i) d
  hp : ∀ (k : Nat) (o : Ob), s.h[k]? = some o → ObR K W s H (W.ia k) o
  inj : ∀ k j, k < s.h.length → j < s.h.length → W.ia k = W.ia j → k = j
  injL : ∀ (i j : Nat) (d e : D), s.g[i]? = some (.own d) → s.g[j]? = some (.own e) → W.la i = W.la j → i = j
  sep : ∀ (k i : Nat) (d : D), k < s.h.length → s.g[i]? = some (.own d) → W.ia k ≠ W.la i
  pI : ∀ k, k < s.h.length → ¬ W.P (W.ia k)
  pL : ∀ (i : Nat) (d : D), s.g[i]? = some (.own d) → ¬ W.P (W.la i)
  pS : ∀ a, W.P a → ∃ o, H a = some o
/-- a step: the mutable things may have changed, more may be there; all else stands -/
structure Stp (W : Wd) (s : S) (H : Hp) (W' : Wd) (s' : S) (H' : Hp) : Prop where
  P : W'.P = W.P
  ia : ∀ k, k < s.h.length → W'.ia k = W.ia k
  hl : s.h.length ≤ s'.h.length
  fz : ∀ a o, H a = some o → ¬ MW W s a → H' a = some o ∧ ¬ MW W' s' a
  pr : ∀ a o, W.P a → H a = some o → H' a = some o
/-- what stood still stands still -/
structure Fzn (W : Wd) (s : S) (H : Hp) (W' : Wd) (s' : S) (H' : Hp) : Prop where
  ia : ∀ k, k < s.h.length → W'.ia k = W.ia k
  hl : s.h.length ≤ s'.h.length
  fz : ∀ a o, H a = some o → ¬ MW W s a → H' a = some o ∧ ¬ MW W' s' a
section
variable {K : PySem.W.Frag} {W W1 W2 W' : Wd} {s s1 s2 s' : S} {σ : L2.St} {H H1 H2 H' : Hp}
theorem Stp.fzn (a : Stp W s H W' s' H') : Fzn W s H W' s' H' := ⟨a.ia, a.hl, a.fz⟩
theorem Fzn.trans (a : Fzn W s H W1 s1 H1) (b : Fzn W1 s1 H1 W2 s2 H2) : Fzn W s H W2 s2 H2 where
  ia := fun k h => (b.ia k (Nat.lt_of_lt_of_le h a.hl)).trans (a.ia k h)
  hl := Nat.le_trans a.hl b.hl
  fz := fun x o e m => b.fz x o (a.fz x o e m).1 (a.fz x o e m).2
theorem Fzn.rel (a : Fzn W s H W' s' H') {v : V} {d : D} (r : Rel K W.ia s.h.length (MW W s) H v d) : Rel K W'.ia s'.h.length (MW W' s') H' v d := r.mono a.fz a.hl a.ia
theorem Stp.refl : Stp W s H W s H := ⟨rfl, fun _ _ => rfl, Nat.le_refl _, fun _ _ e m => ⟨e, m⟩, fun _ _ _ e => e⟩
theorem Stp.trans (a : Stp W s H W1 s1 H1) (b : Stp W1 s1 H1 W2 s2 H2) : Stp W s H W2 s2 H2 where
  P := b.P.trans a.P
  ia := fun k h => (b.ia k (Nat.lt_of_lt_of_le h a.hl)).trans (a.ia k h)
  hl := Nat.le_trans a.hl b.hl
  fz := fun x o e m => b.fz x o (a.fz x o e m).1 (a.fz x o e m).2
  pr := fun x o p e => b.pr x o (by rw [a.P]; exact p) (a.pr x o p e)
theorem Stp.rel (a : Stp W s H W' s' H') {v : V} {d : D} (r : RelW K W s H v d) : RelW K W' s' H' v d := r.mono a.fz a.hl a.ia
theorem Stp.rels (a : Stp W s H W' s' H') {v : List V} {d : List D} (r : RelsW K W s H v d) : RelsW K W' s' H' v d := r.mono a.fz a.hl a.ia
/-- a new thing is laid, outside of all that is tracked -/
theorem Stp.laid {p : Addr} {o : HO} (hp : H p = none) : Stp W s H W s (upd H p o) :=
  ⟨rfl, fun _ _ => rfl, Nat.le_refl _, fun a u e m => ⟨by rw [upd_ne (ne_of_none e hp)]; exact e, m⟩, fun a u _ e => by rw [upd_ne (ne_of_none e hp)]; exact e⟩
/-- what is in M stands in H -/
theorem Abs.there (A : Abs K W s σ H) {a : Addr} (m : MW W s a) : ∃ o, H a = some o := by
  rcases m with m | ⟨k, hk, rfl⟩ | ⟨i, d, e, rfl⟩
  · exact A.pS a m
  · obtain ⟨o, ho⟩ : ∃ o, s.h[k]? = some o := ⟨s.h[k], by simp [hk]⟩
    have := A.hp k o ho
    cases o with
    | lst ds => obtain ⟨vs, e, _⟩ := this; exact ⟨_, e⟩
    | ins c ns ds => obtain ⟨dx, vs, e, _⟩ := this; exact ⟨_, e⟩
  · have := (A.own i d e).2
    cases d with
    | lst ds => obtain ⟨vs, e, _⟩ := this; exact ⟨_, e⟩
    | _ => exact this.elim
theorem Abs.fresh (A : Abs K W s σ H) {p : Addr} (hp : H p = none) : ¬ MW W s p := fun m => by
  obtain ⟨o, e⟩ := A.there m
  rw [hp] at e; cases e
theorem ObR.stp (a : Stp W s H W' s' H') {x : Addr} {o : Ob} (e : H' x = H x) (r : ObR K W s H x o) : ObR K W' s' H' x o := by
  cases o with
  | lst ds => obtain ⟨vs, h, z, q⟩ := r; exact ⟨vs, e.trans h, z, a.rels q⟩
  | ins c ns ds => obtain ⟨dx, vs, h, z, q⟩ := r; exact ⟨dx, vs, e.trans h, z, a.rels q⟩
theorem OwR.stp (a : Stp W s H W' s' H') {x : Addr} {o : D} (e : H' x = H x) (r : OwR K W s H x o) : OwR K W' s' H' x o := by
  cases o with
  | lst ds => obtain ⟨vs, h, z, q⟩ := r; exact ⟨vs, e.trans h, z, a.rels q⟩
  | _ => exact r.elim
/-- a new thing laid -/
theorem Abs.laid (A : Abs K W s σ H) {p : Addr} {o : HO} (hp : H p = none) : Abs K W s σ (upd H p o) := by
  have st : Stp W s H W s (upd H p o) := .laid hp
  have ne : ∀ a, MW W s a → a ≠ p := fun a m z => A.fresh hp (z ▸ m)
  refine ⟨A.len, fun i d e => ?_, fun i d e => ?_, fun k o' e => ?_, A.inj, A.injL, A.sep, A.pI, A.pL, fun a m => ?_⟩
  · obtain ⟨v, e1, r⟩ := A.val i d e
    exact ⟨v, e1, st.rel r⟩
  · obtain ⟨e1, r⟩ := A.own i d e
    exact ⟨e1, r.stp st (upd_ne (ne _ (.inr (.inr ⟨i, d, e, rfl⟩))))⟩
  · refine (A.hp k o' e).stp st (upd_ne (ne _ (.inr (.inl ⟨k, (List.getElem?_eq_some_iff.mp e).1, rfl⟩))))
  · obtain ⟨u, e⟩ := A.pS a m
    exact ⟨u, by rw [upd_ne (ne a (.inl m))]; exact e⟩
end
end B
end
section
set_option Elab.async false
set_option linter.all false
set_option maxRecDepth 100000
set_option maxHeartbeats 1000000
namespace B
open PySem PySem.Spec PyProof.Rows L2

/-- an exception as it lies (none so far) -/
def XR (K : PySem.W.Frag) (W : Wd) (s : S) (H : Hp) (x : D) (c : Value) (dd : Option Addr) : Prop := False
/-- what is wanted behind a word: Q of what it gives, E of what it raises -/
def Post {α β : Type} (K : PySem.W.Frag) (σ : L2.St) (Rl : Wd → S → Hp → β → α → Prop) (W : Wd) (s : S) (H : Hp) (E : XK) (Q : β → Hp → Prop) : R α → Prop
  | .ok a s' => ∀ b W' H', Abs K W' s' σ H' → Stp W s H W' s' H' → Rl W' s' H' b a → Q b H'
  | .ex x s' => ∀ c dd W' H', Abs K W' s' σ H' → Stp W s H W' s' H' → XR K W' s' H' x c dd → E c dd H'
  | .bad => False
section
variable {α α' β β' : Type} {K : PySem.W.Frag} {σ : L2.St} {Rl : Wd → S → Hp → β → α → Prop} {Rl' : Wd → S → Hp → β' → α' → Prop} {W W' : Wd} {s s' : S} {H H' : Hp} {E : XK}
theorem Post.later {Q : β → Hp → Prop} {r : R α} (h : Post K σ Rl W s H E Q r) (st : Stp W s H W' s' H') : Post K σ Rl W' s' H' E Q r := by
  cases r with
  | ok a s2 => exact fun b W2 H2 A st2 q => h b W2 H2 A (st.trans st2) q
  | ex x s2 => exact fun c dd W2 H2 A st2 q => h c dd W2 H2 A (st.trans st2) q
  | bad => exact h
theorem Post.bind {Q : β' → Hp → Prop} {r : R α} {k : α → S → R α'} (h : Post K σ Rl' W s H E Q (r.bind k)) :
    Post K σ Rl W s H E (fun b H1 => ∃ a W1 s1, Rl W1 s1 H1 b a ∧ Abs K W1 s1 σ H1 ∧ Stp W s H W1 s1 H1 ∧ Post K σ Rl' W1 s1 H1 E Q (k a s1)) r := by
  cases r with
  | ok a s2 => exact fun b W2 H2 A st q => ⟨a, W2, s2, q, A, st, Post.later (r := k a s2) h st⟩
  | ex x s2 => exact h
  | bad => exact h
theorem Post.imp {Q Q' : β → Hp → Prop} {r : R α} (h : Post K σ Rl W s H E Q r) (q : ∀ b H', Q b H' → Q' b H') : Post K σ Rl W s H E Q' r := by
  cases r with
  | ok a s2 => exact fun b W2 H2 A st z => q _ _ (h b W2 H2 A st z)
  | ex x s2 => exact h
  | bad => exact h
end
/-- the reading of a word -/
def tG {α β : Type} (K : PySem.W.Frag) (Wx : WX) (ρ : Fns) (Rl : Wd → S → Hp → β → α → Prop) (f : Fns → S → R α) : L2.St → Hp → (β → Hp → Prop) → Prop :=
  fun σ H Q => ∃ W s, Abs K W s σ H ∧ Post K σ Rl W s H (fun c d H' => Wx c d σ H') Q (f ρ s)
def RlT : Wd → S → Hp → Bool → Bool → Prop := fun _ _ _ b a => b = a
def RlO : Wd → S → Hp → Option Int → Option Int → Prop := fun _ _ _ b a => b = a
abbrev tE (K : PySem.W.Frag) (Wx : WX) (ρ : Fns) (f : I) : TE := tG K Wx ρ (RelW K) f
abbrev tT (K : PySem.W.Frag) (Wx : WX) (ρ : Fns) (f : IT) : TT := tG K Wx ρ RlT f
abbrev tA (K : PySem.W.Frag) (Wx : WX) (ρ : Fns) (f : IL) : TA := tG K Wx ρ (RelsW K) f
abbrev tO (K : PySem.W.Frag) (Wx : WX) (ρ : Fns) (f : Fns → S → R (Option Int)) : L2.St → Hp → (Option Int → Hp → Prop) → Prop := tG K Wx ρ RlO f

/-! ### data -/
section
variable {K : PySem.W.Frag} {ia : Nat → Addr} {n : Nat} {M : MS} {H : Hp}
mutual
theorem Rel.dp : ∀ {v : V} {d : D}, Rel K ia n M H v d → isData d = true → Dp K H v (pd d)
  | _, _, .non, _ => .non
  | _, _, .bl b, _ => .bl b
  | _, _, .int i, _ => .int i
  | _, _, .str l h, _ => .str _
  | _, _, .tup t z r, h => .tup t.sq (Rels.dp r h)
  | _, _, .lst m e z r, h => .lst (.inl (.inl e)) (Rels.dp r h)
  | _, _, .ref _, h => by cases h
  | _, _, .ty _, h => by cases h
  | _, _, .rdl _ _ _, h => by cases h
theorem Rels.dp : ∀ {v : List V} {d : List D}, Rels K ia n M H v d → isDatas d = true → DpAll K H v (pds d)
  | _, _, .nil, _ => .nil
  | _, _, .cons a r, h => by
    simp only [isDatas, Bool.and_eq_true] at h
    exact .cons (Rel.dp a h.1) (Rels.dp r h.2)
end
theorem Rel.flat {v : V} {d : D} (r : Rel K ia n M H v d) (h : flatD d = true) : flatV v = true := by
  cases r <;> first | rfl | cases h
theorem eqV_eqF {v w : V} {d e : D} (r : Rel K ia n M H v d) (q : Rel K ia n M H w e) (hd : flatD d = true) (he : flatD e = true) : eqV v w = eqF d e := by
  cases r <;> first | exact Bool.noConfusion hd | skip
  all_goals (cases q <;> first | rfl | exact Bool.noConfusion he | skip)
  rename_i a _ b _
  show ((⟨a.toArray⟩ : Str) == ⟨b.toArray⟩) = (a == b)
  by_cases e : a = b
  · subst e; simp
  · rw [beq_eq_false_iff_ne.mpr e, beq_eq_false_iff_ne.mpr]
    intro z
    exact e (by simpa using congrArg (fun t : Str => t.cps.toList) z)
theorem Rels.flats {vs : List V} {ds : List D} (r : Rels K ia n M H vs ds) (h : ds.all flatD = true) : vs.all flatV = true := by
  induction vs generalizing ds with
  | nil => rfl
  | cons v vs ih => cases r with | cons a r =>
    simp only [List.all_cons, Bool.and_eq_true] at h ⊢
    exact ⟨a.flat h.1, ih r h.2⟩
theorem Rels.inV {vs : List V} {ds : List D} {x : V} {d : D} (r : Rels K ia n M H vs ds) (q : Rel K ia n M H x d) (h : ds.all flatD = true) (hd : flatD d = true) : L2.inV x vs = ds.any fun z => eqF z d := by
  unfold L2.inV
  induction vs generalizing ds with
  | nil => cases r; rfl
  | cons v vs ih => cases r with | cons a r =>
    simp only [List.all_cons, Bool.and_eq_true] at h
    rw [List.any_cons, List.any_cons, ih r h.2, eqV_eqF a q h.1 hd]
end
/-! ### operators -/
/-- a new list is laid -/
def NewL (Q : VK) (H : Hp) (vs : List V) : Prop := ∀ p, H p = none → Q (.ref p) (upd H p (.lst vs))
section
variable {X : Cx}
/-- what follows from a word's value, the state being as it was -/
def Fin1 (K : PySem.W.Frag) (W : Wd) (s : S) (σ : L2.St) (H : Hp) (Q : VK) (d : D) : Prop := ∀ v W' H', Abs K W' s σ H' → Stp W s H W' s H' → RelW K W' s H' v d → Q v H'
section
variable {K : PySem.W.Frag} {W : Wd} {s : S} {σ : L2.St} {H : Hp} {Q : VK} {d : D} {v : V}
theorem Fin1.now (f : Fin1 K W s σ H Q d) (A : Abs K W s σ H) (r : RelW K W s H v d) : Q v H := f v W H A .refl r
theorem Fin1.lst {ds : List D} {vs : List V} (f : Fin1 K W s σ H Q (.lst ds)) (A : Abs K W s σ H) (r : RelsW K W s H vs ds) (hz : vs.length ≤ sizeLine) : NewL Q H vs := fun p hp =>
  f _ W _ (A.laid hp) (.laid hp) (.lst (A.fresh hp) upd_same hz ((Stp.laid hp).rels r))
theorem Fin1.tup {ds : List D} {vs : List V} (f : Fin1 K W s σ H Q (.tup ds)) (A : Abs K W s σ H) (r : RelsW K W s H vs ds) (hz : vs.length ≤ sizeLine) : ∀ p, H p = none → Q (.ref p) (upd H p (.tup vs)) := fun p hp =>
  f _ W _ (A.laid hp) (.laid hp) (.tup (.inl ⟨A.fresh hp, upd_same⟩) hz ((Stp.laid hp).rels r))
theorem post_lift {o : Option D} {E : XK} (h : Post K σ (RelW K) W s H E Q (lift o s)) : ∃ d, o = some d ∧ Fin1 K W s σ H Q d := by
  cases o with
  | none => exact h.elim
  | some d => exact ⟨d, rfl, h⟩
end
theorem str_app (a b : List Nat) : (⟨a.toArray⟩ : Str) ++ (⟨b.toArray⟩ : Str) = ⟨(a ++ b).toArray⟩ := by
  show Str.mk (a.toArray ++ b.toArray) = _
  simp
/-- two values of a binary operator -/
def rB (K : PySem.W.Frag) (f : D → D → Option D) : R2 := fun x y H Q => ∃ W s σ d1 d2 d, Abs K W s σ H ∧ RelW K W s H x d1 ∧ RelW K W s H y d2 ∧ f d1 d2 = some d ∧ Fin1 K W s σ H Q d
theorem op_bin {op : Operator} : OpR X (binaryOp op) (rB X.K (binD op)) := by
  intro pins s σ H x y v u Q I rx ry h
  obtain ⟨W, s1, σ1, d1, d2, d, A, r1, r2, e, f⟩ := h
  unfold binD at e
  split at e
  · cases e; cases r1; cases r2
    exact op_add pins s σ H _ _ v u Q I rx ry ⟨_, _, rfl, rfl, f.now A (.int _)⟩
  · cases r1; cases r2
    split at e
    · rename_i hz
      cases e
      refine op_add_str pins s σ H _ _ v u Q I rx ry ⟨_, _, rfl, rfl, ?_, ?_⟩
      · simpa [Str.length] using hz
      · rw [str_app]
        exact f.now A (.str _ (by simpa using hz))
    · cases e
  · split at e
    · rename_i hz
      cases e
      cases r1 with
      | lst m1 e1 z1 q1 =>
        cases r2 with
        | lst m2 e2 z2 q2 =>
          have h1 := q1.length
          have h2 := q2.length
          exact op_cat pins s σ H _ _ v u Q I rx ry ⟨_, _, _, _, rfl, rfl, e1, e2, by omega, f.lst A (q1.append q2) (by rw [List.length_append]; omega)⟩
    · cases e
  · split at e
    · rename_i hz
      cases e
      have r1' := r1
      have r2' := r2
      cases r1 with
      | @tup _ xs _ t1 z1 q1 =>
        cases r2 with
        | @tup _ ys _ t2 z2 q2 =>
          have h1 := q1.length
          have h2 := q2.length
          refine op_catA pins s σ H _ _ v u Q I rx ry ⟨_, _, _, _, rfl, rfl, t1.sq, t2.sq, by omega, fun ex => ?_, fun _ ey => ?_, fun _ _ => f.tup A (q1.append q2) (by rw [List.length_append]; omega)⟩
          · subst ex
            cases q1
            exact f.now A r2'
          · subst ey
            cases q2
            rw [List.append_nil] at f
            exact f.now A r1'
    · cases e
  · cases e; cases r1; cases r2
    exact op_sub pins s σ H _ _ v u Q I rx ry ⟨_, _, rfl, rfl, f.now A (.int _)⟩
  · cases r1; cases r2
    split at e
    · rename_i hz
      cases e
      exact op_mul pins s σ H _ _ v u Q I rx ry ⟨_, _, rfl, rfl, hz, f.now A (.int _)⟩
    · cases e
  · split at e
    · rename_i hz
      cases e
      cases r2
      cases r1 with
      | lst m1 e1 z1 q1 =>
        have h1 := q1.length
        refine op_rep pins s σ H _ _ v u Q I rx ry ⟨_, _, _, rfl, rfl, e1, hz.1, hz.2.1, by rw [h1]; exact hz.2.2, ?_⟩
        exact f.lst A (q1.rep _) (by simp only [List.length_flatten, List.map_replicate, List.sum_replicate_nat]; rw [h1, Nat.mul_comm]; exact hz.2.2)
    · cases e
  · cases r1; cases r2
    split at e
    · rename_i hz
      cases e
      exact op_fdivN pins s σ H _ _ v u Q I rx ry ⟨_, _, rfl, rfl, hz, f.now A (.int _)⟩
    · cases e
  · cases r1; cases r2
    split at e
    · rename_i hz
      cases e
      exact op_modN pins s σ H _ _ v u Q I rx ry ⟨_, _, rfl, rfl, hz, f.now A (.int _)⟩
    · cases e
  · cases r1; cases r2
    split at e
    · rename_i hz
      cases e
      exact op_pow pins s σ H _ _ v u Q I rx ry ⟨_, _, rfl, rfl, hz, f.now A (.int _)⟩
    · cases e
  · cases e
end
end B
end
section
set_option Elab.async false
set_option linter.all false
set_option maxRecDepth 100000
set_option maxHeartbeats 1000000
namespace B
open PySem PySem.Spec PyProof.Rows L2
section
variable {X : Cx} {K : PySem.W.Frag} {ia : Nat → Addr} {n : Nat} {M : MS} {H : Hp}
theorem Rel.isNon {v : V} {d : D} (r : Rel K ia n M H v d) : decide (v = .non) = B.isNon d := by
  cases r <;> simp [B.isNon]
theorem op_cmp {op : CmpOp} (hu : X.A.units + 64 < cLine) : OpR X (compareOp op) (rB X.K fun x y => (cmpD op x y).map .bl) := by
  intro pins s σ H x y v u Q I rx ry h
  obtain ⟨W, s1, σ1, d1, d2, d, A, r1, r2, e, f⟩ := h
  obtain ⟨b, e, rfl⟩ := Option.map_eq_some_iff.mp e
  have fin : Q (.bl b) H := f.now A (.bl b)
  cases op with
  | Eq =>
    simp only [cmpD] at e
    split at e
    · rename_i hz
      cases e
      simp only [Bool.and_eq_true, eqOk] at hz
      exact op_eqD hu pins s σ H x y v u Q I rx ry ⟨_, _, r1.dp hz.1.1, r2.dp hz.2.1, hz.1.2, hz.2.2, fin⟩
    · cases e
  | NotEq =>
    simp only [cmpD] at e
    split at e
    · rename_i hz
      cases e
      simp only [Bool.and_eq_true, eqOk] at hz
      exact op_neD hu pins s σ H x y v u Q I rx ry ⟨_, _, r1.dp hz.1.1, r2.dp hz.2.1, hz.1.2, hz.2.2, fin⟩
    · cases e
  | Lt =>
    simp only [cmpD] at e
    split at e
    · cases e; cases r1; cases r2
      exact op_lt pins s σ H _ _ v u Q I rx ry ⟨_, _, rfl, rfl, fin⟩
    · cases e
  | LtE =>
    simp only [cmpD] at e
    split at e
    · cases e; cases r1; cases r2
      exact op_le pins s σ H _ _ v u Q I rx ry ⟨_, _, rfl, rfl, fin⟩
    · cases e
  | Gt =>
    simp only [cmpD] at e
    split at e
    · cases e; cases r1; cases r2
      exact op_gt pins s σ H _ _ v u Q I rx ry ⟨_, _, rfl, rfl, fin⟩
    · cases e
  | GtE =>
    simp only [cmpD] at e
    split at e
    · cases e; cases r1; cases r2
      exact op_ge pins s σ H _ _ v u Q I rx ry ⟨_, _, rfl, rfl, fin⟩
    · cases e
  | Is =>
    simp only [cmpD] at e
    split at e
    · cases e; cases r2
      rw [← r1.isNon] at fin
      exact op_isN pins s σ H _ _ v u Q I rx ry ⟨rfl, fin⟩
    · split at e
      · cases e; cases r1; cases r2
        exact op_isBl pins s σ H _ _ v u Q I rx ry ⟨_, _, rfl, rfl, fin⟩
      · cases e
    · cases e
  | IsNot =>
    simp only [cmpD] at e
    split at e
    · cases e; cases r2
      rw [← r1.isNon] at fin
      exact op_notN pins s σ H _ _ v u Q I rx ry ⟨rfl, fin⟩
    · split at e
      · cases e; cases r1; cases r2
        exact op_notBl pins s σ H _ _ v u Q I rx ry ⟨_, _, rfl, rfl, fin⟩
      · cases e
    · cases e
  | In =>
    simp only [cmpD] at e
    split at e
    · split at e
      · cases e; cases r1; cases r2
        exact op_in_sign pins s σ H _ _ v u Q I rx ry ⟨_, _, rfl, rfl, fin⟩
      · cases e
    · split at e
      · rename_i hz
        cases e
        simp only [Bool.and_eq_true] at hz
        cases r2 with
        | tup t z q =>
          rw [← q.inV r1 hz.2 hz.1] at fin
          exact op_in_seq pins s σ H _ _ v u Q I rx ry ⟨_, _, rfl, .inr t.sq, r1.flat hz.1, q.flats hz.2, fin⟩
      · cases e
    · split at e
      · rename_i hz
        cases e
        simp only [Bool.and_eq_true] at hz
        cases r2 with
        | lst m e z q =>
          rw [← q.inV r1 hz.2 hz.1] at fin
          exact op_in_seq pins s σ H _ _ v u Q I rx ry ⟨_, _, rfl, .inl (SqL.of e), r1.flat hz.1, q.flats hz.2, fin⟩
      · cases e
    · cases e
  | NotIn =>
    simp only [cmpD] at e
    split at e
    · split at e
      · cases e; cases r1; cases r2
        exact op_notIn_sign pins s σ H _ _ v u Q I rx ry ⟨_, _, rfl, rfl, fin⟩
      · cases e
    · split at e
      · rename_i hz
        cases e
        simp only [Bool.and_eq_true] at hz
        cases r2 with
        | tup t z q =>
          rw [← q.inV r1 hz.2 hz.1] at fin
          exact op_notIn_seq pins s σ H _ _ v u Q I rx ry ⟨_, _, rfl, .inr t.sq, r1.flat hz.1, q.flats hz.2, fin⟩
      · cases e
    · split at e
      · rename_i hz
        cases e
        simp only [Bool.and_eq_true] at hz
        cases r2 with
        | lst m e z q =>
          rw [← q.inV r1 hz.2 hz.1] at fin
          exact op_notIn_seq pins s σ H _ _ v u Q I rx ry ⟨_, _, rfl, .inl (SqL.of e), r1.flat hz.1, q.flats hz.2, fin⟩
      · cases e
    · cases e
theorem Rel.truth {v : V} {d : D} {b : Bool} (r : Rel K ia n M H v d) (h : truthD d = some b) : TruV K v H b := by
  cases r with
  | non => cases h; exact rfl
  | bl c => cases h; exact rfl
  | int i => cases h; exact rfl
  | str l z =>
    cases h
    refine ⟨by simpa [Str.length] using z, ?_⟩
    cases l with
    | nil => rfl
    | cons a l =>
      show true = ((((a :: l).toArray.size : Nat) : Int) != 0)
      rw [List.size_toArray, List.length_cons]
      symm
      rw [bne_iff_ne]
      omega
  | tup t z q =>
    cases h
    refine .inr (.inl ⟨_, t.sq, ?_⟩)
    cases q <;> rfl
  | lst m e z q =>
    cases h
    refine .inl ⟨_, SqL.of e, ?_⟩
    cases q <;> rfl
  | ref k => cases h
  | ty t => cases h
  | rdl t z q => cases h
  | ins m e z q => cases h
  | cls c => cases h
theorem Rels.atI {vs : List V} {ds : List D} {i : Int} {d : D} (r : Rels K ia n M H vs ds) (h : L2.atI ds i = some d) : ∃ v, L2.atI vs i = some v ∧ Rel K ia n M H v d := by
  unfold L2.atI at h ⊢
  obtain ⟨j, h1, h2⟩ := Option.bind_eq_some_iff.mp h
  obtain ⟨v, e, q⟩ := r.get h2
  rw [← r.length] at h1
  exact ⟨v, by rw [h1]; exact e, q⟩
end
/-- a sequence as it stands -/
theorem rel_seq {K : PySem.W.Frag} {W : Wd} {s : S} {σ : L2.St} {H : Hp} {v : V} {d : D} {l : List D} (A : Abs K W s σ H) (r : RelW K W s H v d) (h : seqD s.h d = some l) :
    ∃ a vs, v = .ref a ∧ (SqL K H a vs ∨ SqT K H a vs) ∧ vs.length ≤ sizeLine ∧ RelsW K W s H vs l := by
  cases r with
  | tup t z q => cases h; exact ⟨_, _, rfl, .inr t.sq, z, q⟩
  | lst m e z q => cases h; exact ⟨_, _, rfl, .inl (SqL.of e), z, q⟩
  | @ref k hk =>
    simp only [seqD] at h
    split at h
    · rename_i l' e
      cases h
      obtain ⟨vs, e1, z, q⟩ := A.hp k _ e
      exact ⟨_, _, rfl, .inl (SqL.of e1), z, q⟩
    · cases h
  | rdl t z q => cases h; exact ⟨_, _, rfl, .inl t.sq, z, q⟩
  | _ => cases h
/-- .. with the state -/
def rBs (K : PySem.W.Frag) (f : List Ob → D → D → Option D) : R2 := fun x y H Q => ∃ W s σ d1 d2 d, Abs K W s σ H ∧ RelW K W s H x d1 ∧ RelW K W s H y d2 ∧ f s.h d1 d2 = some d ∧ Fin1 K W s σ H Q d
section
variable {X : Cx}
theorem ix_bs : IxR X (rBs X.K ixD) := by
  intro value slice pins s σ H x y v u Q I rx ry h hs
  obtain ⟨W, s1, σ1, d1, d2, d, A, r1, r2, e, f⟩ := h
  unfold ixD at e
  split at e
  · rename_i i
    cases r2
    split at e
    · rename_i t
      obtain ⟨c, e1, rfl⟩ := Option.map_eq_some_iff.mp e
      cases r1 with
      | str l z =>
        exact ix_seq value slice pins s σ H _ _ v u Q I rx ry (.inr (.inr ⟨_, _, c, rfl, rfl, by simpa [Str.length] using z, e1, f.now A (.str [c] (by show 1 ≤ sizeLine; decide))⟩)) hs
    · obtain ⟨l, e1, e2⟩ := Option.bind_eq_some_iff.mp e
      obtain ⟨a, vs, rfl, hq, z, q⟩ := rel_seq A r1 e1
      obtain ⟨w, e3, q3⟩ := q.atI e2
      rcases hq with hq | hq
      · exact ix_seq value slice pins s σ H _ _ v u Q I rx ry (.inl ⟨_, _, _, _, rfl, rfl, hq, e3, f.now A q3⟩) hs
      · exact ix_seq value slice pins s σ H _ _ v u Q I rx ry (.inr (.inl ⟨_, _, _, _, rfl, rfl, hq, e3, f.now A q3⟩)) hs
  · cases e
/-- a slice -/
def rSlB (K : PySem.W.Frag) : V → Option Int → Option Int → Hp → VK → Prop := fun x lo hi H Q => ∃ W s σ d1 d, Abs K W s σ H ∧ RelW K W s H x d1 ∧ slD s.h d1 lo hi = some d ∧ Fin1 K W s σ H Q d
theorem sl_b : SlR X (rSlB X.K) := by
  intro pins s σ H x v vl vu lo hi sl Q I rx hs pl pu h
  obtain ⟨W, s1, σ1, d1, d, A, r1, e, f⟩ := h
  have lst : ∀ {a : Addr} {vs : List V} {l : List D}, x = .ref a → SqL X.K H a vs → vs.length ≤ sizeLine → RelsW X.K W s1 H vs l → d = .lst (cut l lo hi) →
      ∃ T id, typeLookup (.type T) "__getitem__" = pure (some (.builtin id)) ∧ s.TypeIs v T ∧ wpAny (model X.prog X.w) X.A (getItem v (.ref sl)) (EP X pins σ Q) X.xe s := by
    intro a vs l e1 e2 z q e3
    subst e1 e3
    refine sl_list pins s σ H _ v vl vu lo hi sl Q I rx hs pl pu ⟨a, vs, rfl, e2, ?_⟩
    exact f.lst A (q.cut lo hi) (Nat.le_trans (cutV_length _ _ _) z)
  unfold slD at e
  split at e
  · cases e
    cases r1 with
    | str _ z =>
      rename_i l
      refine sl_str pins s σ H _ v vl vu lo hi sl Q I rx hs pl pu ⟨_, rfl, by simpa [Str.length] using z, ?_⟩
      have h1 : cutS ⟨l.toArray⟩ lo hi = ⟨(cut l lo hi).toArray⟩ := by simp [cutS, cut, Str.length]
      rw [h1]
      refine f.now A (.str _ ?_)
      have := cutS_length ⟨l.toArray⟩ lo hi
      rw [h1] at this
      simp only [Str.length, List.size_toArray] at this
      omega
  · cases e
    cases r1 with
    | lst m e z q => exact lst rfl (SqL.of e) z q rfl
  · cases e
    rename_i ds
    have r1' := r1
    cases r1 with
    | @tup _ xs _ t z q =>
      refine sl_tupA pins s σ H _ v vl vu lo hi sl Q I rx hs pl pu ⟨_, xs, rfl, t.sq, fun hw => ?_, fun hw => ?_⟩
      · have hl := q.length
        have e : cut ds lo hi = ds := by
          unfold cut
          rw [← hl, hw.1, hw.2, List.drop_zero, Nat.sub_zero, hl, List.take_length]
        rw [e] at f
        exact f.now A r1'
      · exact f.tup A (q.cut lo hi) (Nat.le_trans (cutV_length _ _ _) z)
  · cases e
    cases r1 with
    | rdl t z q => exact lst rfl t.sq z q rfl
  · split at e
    · rename_i l' e1
      cases e
      cases r1 with
      | ref hk =>
        obtain ⟨vs, e2, z, q⟩ := A.hp _ _ e1
        exact lst rfl (SqL.of e2) z q rfl
    · cases e
  · cases e
/-- a call by values -/
def rC (K : PySem.W.Frag) (f : List Ob → List D → Option D) : List V → Hp → VK → Prop := fun vs H Q => ∃ W s σ ds d, Abs K W s σ H ∧ RelsW K W s H vs ds ∧ f s.h ds = some d ∧ Fin1 K W s σ H Q d
theorem rels1 {K : PySem.W.Frag} {W : Wd} {s : S} {H : Hp} {vs : List V} {d : D} (r : RelsW K W s H vs [d]) : ∃ v, vs = [v] ∧ RelW K W s H v d := by
  cases r with | cons a r => cases r; exact ⟨_, rfl, a⟩
theorem rels2 {K : PySem.W.Frag} {W : Wd} {s : S} {H : Hp} {vs : List V} {d e : D} (r : RelsW K W s H vs [d, e]) : ∃ v w, vs = [v, w] ∧ RelW K W s H v d ∧ RelW K W s H w e := by
  cases r with | cons a r => cases r with | cons b r => cases r; exact ⟨_, _, rfl, a, b⟩
theorem c_len : CallR X (.builtin "len") (rC X.K lenD) := by
  intro pins s σ H xs us Q I r h
  obtain ⟨W, s1, σ1, ds, d, A, q, e, f⟩ := h
  unfold lenD at e
  split at e
  · cases e
    obtain ⟨v, rfl, q1⟩ := rels1 q
    cases q1 with
    | str l z =>
      refine call_len pins s σ H _ us Q I r ⟨_, _, rfl, ⟨by simpa [Str.length] using z, rfl⟩, ?_⟩
      have := f.now A (.int _)
      simpa [Str.length] using this
  · obtain ⟨l, e1, rfl⟩ := Option.map_eq_some_iff.mp e
    obtain ⟨v, rfl, q1⟩ := rels1 q
    obtain ⟨a, vs, rfl, hq, z, q2⟩ := rel_seq A q1 e1
    have hl := q2.length
    have fin : Q (.int (vs.length : Nat)) H := by rw [hl]; exact f.now A (.int _)
    rcases hq with hq | hq
    · exact call_len pins s σ H _ us Q I r ⟨_, _, rfl, .inl ⟨_, hq, rfl⟩, fin⟩
    · exact call_len pins s σ H _ us Q I r ⟨_, _, rfl, .inr ⟨_, hq, rfl⟩, fin⟩
  · cases e
theorem c_int : CallR X (.type "int") (rC X.K fun _ => intD) := by
  intro pins s σ H xs us Q I r h
  obtain ⟨W, s1, σ1, ds, d, A, q, e, f⟩ := h
  have e : intD ds = some d := e
  unfold intD at e
  split at e
  · cases e
    obtain ⟨v, rfl, q1⟩ := rels1 q
    cases q1
    exact call_int1 pins s σ H _ us Q I r (.inl ⟨_, rfl, f.now A (.int _)⟩)
  · cases e
    obtain ⟨v, rfl, q1⟩ := rels1 q
    cases q1
    exact call_int1 pins s σ H _ us Q I r (.inr ⟨_, rfl, f.now A (.int _)⟩)
  · cases e
theorem c_list : CallR X (.type "list") (rC X.K listD) := by
  intro pins s σ H xs us Q I r h
  obtain ⟨W, s1, σ1, ds, d, A, q, e, f⟩ := h
  unfold listD at e
  split at e
  · obtain ⟨l, e1, rfl⟩ := Option.map_eq_some_iff.mp e
    obtain ⟨v, rfl, q1⟩ := rels1 q
    obtain ⟨a, vs, rfl, hq, z, q2⟩ := rel_seq A q1 e1
    exact call_list_of pins s σ H _ us Q I r ⟨_, _, rfl, hq, f.lst A q2 z⟩
  · cases e
theorem c_tup : CallR X (.type "tuple") (rC X.K tupD) := by
  intro pins s σ H xs us Q I r h
  obtain ⟨W, s1, σ1, ds, d, A, q, e, f⟩ := h
  unfold tupD at e
  split at e
  · cases e
    obtain ⟨v, rfl, q1⟩ := rels1 q
    have q1' := q1
    cases q1 with
    | tup t z q2 => exact call_tuple_of pins s σ H _ us Q I r ⟨_, _, rfl, .inr ⟨t.sq, f.now A q1'⟩⟩
  · cases e
    obtain ⟨v, rfl, q1⟩ := rels1 q
    cases q1 with
    | lst m e z q2 => exact call_tuple_of pins s σ H _ us Q I r ⟨_, _, rfl, .inl ⟨SqL.of e, f.tup A q2 z⟩⟩
  · cases e
    obtain ⟨v, rfl, q1⟩ := rels1 q
    cases q1 with
    | rdl t z q2 => exact call_tuple_of pins s σ H _ us Q I r ⟨_, _, rfl, .inl ⟨t.sq, f.tup A q2 z⟩⟩
  · obtain ⟨v, rfl, q1⟩ := rels1 q
    split at e
    · rename_i l hl
      cases e
      cases q1 with
      | ref hk =>
        obtain ⟨vs, h1, z, q2⟩ := A.hp _ _ hl
        exact call_tuple_of pins s σ H _ us Q I r ⟨_, _, rfl, .inl ⟨SqL.of h1, f.tup A q2 z⟩⟩
    · cases e
  · cases e
theorem c_all (hc : X.calm = true) : CallR X (.builtin "all") (rC X.K fun _ => allD) := by
  intro pins s σ H xs us Q I r h
  obtain ⟨W, s1, σ1, ds, d, A, q, e, f⟩ := h
  have e : allD ds = some d := e
  unfold allD at e
  split at e
  · obtain ⟨bs, e1, rfl⟩ := Option.map_eq_some_iff.mp e
    obtain ⟨v, rfl, q1⟩ := rels1 q
    cases q1 with
    | lst m e z q2 =>
      rw [q2.bls e1] at e
      exact cr_all hc pins s σ H _ us Q I r ⟨_, bs, rfl, SqL.of e, f.now A (.bl _)⟩
  · cases e
/-- the class of a value -/
def clsD : D → Option String
  | .non => some "NoneType"
  | .bl _ => some "bool"
  | .int _ => some "int"
  | .str _ => some "str"
  | .tup _ => some "tuple"
  | .lst _ => some "list"
  | _ => none
theorem Rel.tyX {K : PySem.W.Frag} {ia : Nat → Addr} {n : Nat} {M : MS} {H : Hp} {v : V} {d : D} {t : String} (r : Rel K ia n M H v d) (h : clsD d = some t) : TyX K H v (.type t) := by
  cases r with
  | non => cases h; exact .base .non
  | bl c => cases h; exact .base (.bl _)
  | int i => cases h; exact .base (.int _)
  | str l z => cases h; exact .base (.str _)
  | tup t z q =>
    cases h
    rcases t with ⟨_, e⟩ | ⟨o, its, n, e, c, _⟩
    · exact .base (.tup e)
    · exact .kTuple e c
  | lst m e z q => cases h; exact .base (.lst e)
  | ref k => cases h
  | ty t => cases h
  | rdl t z q => cases h
  | ins m e z q => cases h
  | cls c => cases h
theorem isi_cls {x : D} {t : String} {b : Bool} (h : isiD x t = some b) (K : PySem.W.Frag) : ∃ c, clsD x = some c ∧ PySem.W.kitOne K (.type c) (.type t) = some b := by
  unfold isiD at h
  split at h <;> first | cases h | skip
  all_goals (refine ⟨_, rfl, ?_⟩; rfl)
theorem c_isi : CallR X (.builtin "isinstance") (rC X.K fun _ => isiC) := by
  intro pins s σ H xs us Q I r h
  obtain ⟨W, s1, σ1, ds, d, A, q, e, f⟩ := h
  have e : isiC ds = some d := e
  unfold isiC at e
  split at e
  · obtain ⟨b, e1, rfl⟩ := Option.map_eq_some_iff.mp e
    obtain ⟨v, w, rfl, q1, q2⟩ := rels2 q
    cases q2
    obtain ⟨c, e2, e3⟩ := isi_cls e1 X.K
    exact call_isi pins s σ H _ us Q I r ⟨_, _, _, _, b, rfl, .ty _, q1.tyX e2, e3, f.now A (.bl _)⟩
  · rename_i tt uu _
    obtain ⟨a, e1, e⟩ := Option.bind_eq_some_iff.mp e
    obtain ⟨b, e2, rfl⟩ := Option.map_eq_some_iff.mp e
    obtain ⟨v, w, rfl, q1, q2⟩ := rels2 q
    obtain ⟨c, e3, e4⟩ := isi_cls e1 X.K
    obtain ⟨c', e5, e6⟩ := isi_cls e2 X.K
    rw [e3] at e5
    cases e5
    have ka : ∀ t u : String, PySem.W.kitOne X.K (.type c) (.type t) = some a → PySem.W.kitOne X.K (.type c) (.type u) = some b → PySem.W.kitAny X.K (.type c) [.type t, .type u] = some (a || b) := fun t u h1 h2 => by
      unfold PySem.W.kitAny
      rw [h1]
      cases a with
      | true => rfl
      | false =>
        show PySem.W.kitAny X.K (.type c) [.type u] = _
        unfold PySem.W.kitAny
        rw [h2]
        cases b <;> rfl
    cases q2 with
    | tup t z q3 =>
      obtain ⟨w1, w2, rfl, p1, p2⟩ := rels2 q3
      cases p1
      cases p2
      rcases t with ⟨_, et⟩ | ⟨o, its, n, el, ec, ed, ez, ev⟩
      · exact call_isiT pins s σ H _ us Q I r ⟨_, _, _, _, _, _, rfl, et, .cons (.ty _) (.cons (.ty _) .nil), q1.tyX e3, ka _ _ e4 e6, f.now A (.bl _)⟩
      · obtain ⟨oc, od, dt, sl⟩ := o
        simp only at ec ed
        subst ec ed
        have eits : its = ([.type tt, .type uu] : List Value).toArray := by
          have : its.toList = [.type tt, .type uu] := by
            generalize its.toList = il at ev
            cases ev with | cons a1 r1 => cases r1 with | cons a2 r2 => cases r2; cases a1; cases a2; rfl
          rw [← this]
        subst eits
        exact call_isiK pins s σ H _ us Q I r ⟨_, _, _, _, _, _, _, _, rfl, el, q1.tyX e3, ka _ _ e4 e6, f.now A (.bl _)⟩
  · cases e
theorem joinL_len (a : List Nat) : ∀ ys : List (List Nat), (TL.joinL a ys).length ≤ (ys.map (·.length)).sum + ys.length * a.length
  | [] => Nat.zero_le _
  | [p] => by simp [TL.joinL]
  | p :: q :: r => by
    have := joinL_len a (q :: r)
    simp only [TL.joinL, List.length_append, List.map_cons, List.sum_cons, List.length_cons] at this ⊢
    have e : (r.length + 1 + 1) * a.length = (r.length + 1) * a.length + a.length := Nat.succ_mul _ _
    omega
theorem m_join : MtR X "str.join" (fun x xs H Q => ∃ W s σ d1 ds d, Abs X.K W s σ H ∧ RelW X.K W s H x d1 ∧ RelsW X.K W s H xs ds ∧ joinD d1 ds = some d ∧ Fin1 X.K W s σ H Q d) := by
  intro pins s σ H x xs v us Q I rx rs h
  obtain ⟨W, s1, σ1, d1, ds, d, A, q1, q, e, f⟩ := h
  unfold joinD at e
  split at e
  · obtain ⟨ys, e1, e⟩ := Option.bind_eq_some_iff.mp e
    split at e
    · rename_i hz
      cases e
      obtain ⟨v, rfl, q2⟩ := rels1 q
      cases q1 with
      | str l0 z =>
        rename_i l
        cases q2 with
        | lst m e z q3 =>
          rw [q3.strs e1] at e
          refine mt_join pins s σ H _ _ _ us Q I rx rs ⟨_, _, _, rfl, rfl, .inl (SqL.of e), ?_, ?_⟩
          · simpa [Str.length, Function.comp_def] using hz
          · have fin := f.now A (.str _ (Nat.le_trans (joinL_len _ ys) (Nat.le_trans hz (by decide))))
            exact Eq.mpr (congrArg (fun t => Q (V.str t) H) (SX.join_S _ ys)) fin
    · cases e
  · obtain ⟨ys, e1, e⟩ := Option.bind_eq_some_iff.mp e
    split at e
    · rename_i hz
      cases e
      obtain ⟨v, rfl, q2⟩ := rels1 q
      cases q1 with
      | str l0 z =>
        rename_i l
        cases q2 with
        | tup t z q3 =>
          have t := t.sq
          rw [q3.strs e1] at t
          refine mt_join pins s σ H _ _ _ us Q I rx rs ⟨_, _, _, rfl, rfl, .inr t, ?_, ?_⟩
          · simpa [Str.length, Function.comp_def] using hz
          · have fin := f.now A (.str _ (Nat.le_trans (joinL_len _ ys) (Nat.le_trans hz (by decide))))
            exact Eq.mpr (congrArg (fun t => Q (V.str t) H) (SX.join_S _ ys)) fin
    · cases e
  · cases e
end
end B
end
section
set_option Elab.async false
set_option linter.all false
set_option maxRecDepth 100000
set_option maxHeartbeats 1000000
namespace B
open PySem PySem.Spec PyProof.Rows L2
section
variable {X : Cx} {Wx : WX} {ρ : Fns} {a b c e : Expr} {es : List Expr} {fa fb fc : I} {pos : Pos}
theorem PEi {t t' : TE} (h : PE X e t) (i : ∀ σ H Q, t' σ H Q → t σ H Q) : PE X e t' := ⟨fun pins s σ H Q I q => h.run pins s σ H Q I (i σ H Q q)⟩
theorem PTi {t t' : TT} (h : PT X e t) (i : ∀ σ H Q, t' σ H Q → t σ H Q) : PT X e t' := ⟨fun pins s σ H Q I q => h.run pins s σ H Q I (i σ H Q q)⟩
theorem PWi {t t' : TT} (h : PW X e t) (i : ∀ σ H Q, t' σ H Q → t σ H Q) : PW X e t' := ⟨fun w pins s σ H Q I q => h.run w pins s σ H Q I (i σ H Q q)⟩
theorem PAi {t t' : TA} (h : PA X es t) (i : ∀ σ H Q, t' σ H Q → t σ H Q) : PA X es t' := ⟨fun p pins s σ H Q I q => h.run p pins s σ H Q I (i σ H Q q)⟩
theorem POi {o : Option Expr} {t t' : TO} (h : PO X o t) (i : ∀ σ H Q, t' σ H Q → t σ H Q) : PO X o t' := ⟨fun pins s σ H Q I q => h.run pins s σ H Q I (i σ H Q q)⟩
/-- what a word gives, followed by another -/
theorem go {α β α' β' : Type} {K : PySem.W.Frag} {Rl : Wd → S → Hp → β → α → Prop} {Rl' : Wd → S → Hp → β' → α' → Prop} {σ : L2.St} {H : Hp} {W : Wd} {s : S} {Q : β' → Hp → Prop} {f : Fns → S → R α} {k : α → S → R α'}
    (A : Abs K W s σ H) (h : Post K σ Rl' W s H (fun c d H' => Wx c d σ H') Q ((f ρ s).bind k)) {Q2 : β → Hp → Prop}
    (n : ∀ b a W1 s1 H1, Rl W1 s1 H1 b a → Abs K W1 s1 σ H1 → Stp W s H W1 s1 H1 → Post K σ Rl' W1 s1 H1 (fun c d H' => Wx c d σ H') Q (k a s1) → Q2 b H1) : tG K Wx ρ Rl f σ H Q2 :=
  ⟨W, s, A, (Post.bind (Rl := Rl) h).imp fun b H1 ⟨a, W1, s1, r, A1, st, p⟩ => n b a W1 s1 H1 r A1 st p⟩
/-! ### constants and names -/
theorem p_c {v : V} {d : D} (h : PE X e (tC v)) (r : ∀ ia n M H, Rel X.K ia n M H v d) : PE X e (tE X.K Wx ρ (iC d)) :=
  PEi h fun σ H Q ⟨W, s, A, p⟩ => p v W H A .refl (r _ _ _ _)
theorem p_int {i j} : PE X (.Constant (.int i) j pos) (tE X.K Wx ρ (iC (.int i))) := p_c pe_int fun _ _ _ _ => .int i
theorem p_bl {i j} : PE X (.Constant (.bool i) j pos) (tE X.K Wx ρ (iC (.bl i))) := p_c pe_bl fun _ _ _ _ => .bl i
theorem p_non {j} : PE X (.Constant .none j pos) (tE X.K Wx ρ (iC .non)) := p_c pe_non fun _ _ _ _ => .non
theorem p_str {x : Str} {j} (hz : x.cps.toList.length ≤ sizeLine) : PE X (.Constant (.str x) j pos) (tE X.K Wx ρ (iC (.str x.cps.toList))) := p_c pe_str fun _ _ _ _ => by
  have := Rel.str (K := X.K) (ia := ‹_›) (n := ‹_›) (M := ‹_›) (H := ‹_›) x.cps.toList hz
  simpa using this
/-- a slot's own container is let go: it stands still from now on -/
theorem Abs.freeze {K : PySem.W.Frag} {W : Wd} {s : S} {σ : L2.St} {H : Hp} {i : Nat} {d : D} (A : Abs K W s σ H) (e : s.g[i]? = some (.own d)) :
    Abs K W ⟨s.g.set i (.val d), s.h⟩ σ H ∧ Stp W s H W ⟨s.g.set i (.val d), s.h⟩ H ∧ RelW K W ⟨s.g.set i (.val d), s.h⟩ H (.ref (W.la i)) d := by
  have back : ∀ (j : Nat) (d' : D), (s.g.set i (.val d))[j]? = some (.own d') → j ≠ i ∧ s.g[j]? = some (.own d') := fun j d' h => by
    by_cases hj : j = i
    · subst hj
      rw [List.getElem?_set_self (List.getElem?_eq_some_iff.mp e).1] at h; cases h
    · rw [List.getElem?_set_ne (Ne.symm hj)] at h
      exact ⟨hj, h⟩
  have sub : ∀ a, MW W ⟨s.g.set i (.val d), s.h⟩ a → MW W s a := fun a m => by
    rcases m with m | m | ⟨j, d', h, z⟩
    · exact .inl m
    · exact .inr (.inl m)
    · exact .inr (.inr ⟨j, d', (back j d' h).2, z⟩)
  have st : Stp W s H W ⟨s.g.set i (.val d), s.h⟩ H := ⟨rfl, fun _ _ => rfl, Nat.le_refl _, fun a o h m => ⟨h, fun m' => m (sub a m')⟩, fun _ _ _ h => h⟩
  have rel : RelW K W ⟨s.g.set i (.val d), s.h⟩ H (.ref (W.la i)) d := by
    obtain ⟨_, r⟩ := A.own i d e
    cases d with
    | lst ds =>
      obtain ⟨vs, h, z, q⟩ := r
      refine .lst (fun m => ?_) h z (st.rels q)
      rcases m with m | ⟨k, hk, z⟩ | ⟨j, d', h, z⟩
      · exact A.pL i _ e m
      · exact A.sep k i _ hk e z
      · exact (back j d' h).1 (A.injL j i _ _ (back j d' h).2 e z)
    | _ => exact r.elim
  refine ⟨⟨by simpa using A.len, fun j d' h => ?_, fun j d' h => ?_, fun k o h => (A.hp k o h).stp st rfl, A.inj, fun j k d1 d2 h1 h2 => A.injL j k d1 d2 (back _ _ h1).2 (back _ _ h2).2, fun k j d' hk h => A.sep k j d' hk (back _ _ h).2, A.pI, fun j d' h => A.pL j d' (back _ _ h).2, A.pS⟩, st, rel⟩
  · by_cases hj : j = i
    · subst hj
      rw [List.getElem?_set_self (List.getElem?_eq_some_iff.mp e).1] at h
      cases h
      exact ⟨_, (A.own j _ e).1, rel⟩
    · have h : (s.g.set i (.val d))[j]? = some (.val d') := h
      rw [List.getElem?_set_ne (Ne.symm hj)] at h
      obtain ⟨v, h1, r⟩ := A.val j d' h
      exact ⟨v, h1, st.rel r⟩
  · obtain ⟨h1, r⟩ := A.own j d' (back _ _ h).2
    exact ⟨h1, r.stp st rfl⟩
theorem p_v {i : Nat} (h : PE X e (tVar i)) : PE X e (tE X.K Wx ρ (iV i)) := PEi h fun σ H Q ⟨W, s, A, p⟩ => by
  simp only [iV] at p
  split at p
  · rename_i d e
    obtain ⟨v, h1, r⟩ := A.val i d e
    exact ⟨v, h1, p v W H A .refl r⟩
  · rename_i d e
    obtain ⟨h1, _⟩ := A.own i d e
    obtain ⟨A', st, r⟩ := A.freeze e
    exact ⟨_, h1, p _ W H A' st r⟩
  · exact p.elim
/-! ### operators -/
theorem p_bin {op : Operator} (ha : PE X a (tE X.K Wx ρ fa)) (hb : PE X b (tE X.K Wx ρ fb)) : PE X (.BinOp a op b pos) (tE X.K Wx ρ (iBin op fa fb)) :=
  PEi (pe_op op_bin ha hb) fun σ H Q ⟨W, s, A, p⟩ => go A p fun x d1 W1 s1 H1 r1 A1 _ p1 => go A1 p1 fun y d2 W2 s2 H2 r2 A2 st2 p2 => by
    obtain ⟨d, e, f⟩ := post_lift p2
    exact ⟨W2, s2, σ, d1, d2, d, A2, st2.rel r1, r2, e, f⟩
theorem mark_of {op : CmpOp} (h : op ≠ .In ∧ op ≠ .NotIn ∨ ∀ es k p, b ≠ .Set es k p) : behindInMarks op b = false := by
  rcases h with h | h
  · exact nobehind b h.1 h.2
  · cases b <;> first | (simp [behindInMarks]; done) | exact (h _ _ _ rfl).elim
theorem p_cmp {op : CmpOp} (hu : X.A.units + 64 < cLine) (hm : behindInMarks op b = false) (ha : PE X a (tE X.K Wx ρ fa)) (hb : PE X b (tE X.K Wx ρ fb)) : PE X (.Compare a [op] [b] pos) (tE X.K Wx ρ (iCmp op fa fb)) :=
  PEi (pe_cmpR (op_cmp hu) ha hb hm) fun σ H Q ⟨W, s, A, p⟩ => go A p fun x d1 W1 s1 H1 r1 A1 _ p1 => go A1 p1 fun y d2 W2 s2 H2 r2 A2 st2 p2 => by
    obtain ⟨d, e, f⟩ := post_lift p2
    exact ⟨W2, s2, σ, d1, d2, d, A2, st2.rel r1, r2, e, f⟩
/-- a comparison as a test -/
def tCmpB (op : CmpOp) (a b : I) : IT := fun ρ s => (a ρ s).bind fun x s => (b ρ s).bind fun y s => liftT (cmpD op x y) s
theorem post_liftT {K : PySem.W.Frag} {σ : L2.St} {W : Wd} {s : S} {H : Hp} {E : XK} {Q : Bool → Hp → Prop} {o : Option Bool} (A : Abs K W s σ H) (h : Post K σ RlT W s H E Q (liftT o s)) : ∃ b, o = some b ∧ ∀ W' H', Abs K W' s σ H' → Stp W s H W' s H' → Q b H' := by
  cases o with
  | none => exact h.elim
  | some b => exact ⟨b, rfl, fun W' H' A' st => h b W' H' A' st rfl⟩
theorem q_cmp {op : CmpOp} (hu : X.A.units + 64 < cLine) (hm : behindInMarks op b = false) (ha : PE X a (tE X.K Wx ρ fa)) (hb : PE X b (tE X.K Wx ρ fb)) : PT X (.Compare a [op] [b] pos) (tT X.K Wx ρ (tCmpB op fa fb)) :=
  PTi (pt_cmpR (op_cmp hu) ha hb hm) fun σ H Q ⟨W, s, A, p⟩ => by
    refine go A p fun x d1 W1 s1 H1 r1 A1 _ p1 => go A1 p1 fun y d2 W2 s2 H2 r2 A2 st2 p2 => ?_
    obtain ⟨d, e, f⟩ := post_liftT A2 p2
    refine ⟨W2, s2, σ, d1, d2, .bl d, A2, st2.rel r1, r2, congrArg (Option.map D.bl) e, fun v W' H' A' st' r' => ?_⟩
    cases r'
    exact ⟨d, rfl, f W' H' A' st'⟩
theorem p_chain {o1 o2 : CmpOp} (hu : X.A.units + 64 < cLine) (hm : lastMarks [o1, o2] [b, c] = false) (ha : PE X a (tE X.K Wx ρ fa)) (hb : PE X b (tE X.K Wx ρ fb)) (hc : PE X c (tE X.K Wx ρ fc)) :
    PE X (.Compare a [o1, o2] [b, c] pos) (tE X.K Wx ρ (iChain o1 o2 fa fb fc)) :=
  PEi (pe_chain (op_cmp hu) (op_cmp hu) ha hb hc hm) fun σ H Q ⟨W, s, A, p⟩ => by
    refine go A p fun x d1 W1 s1 H1 r1 A1 _ p1 => go A1 p1 fun y d2 W2 s2 H2 r2 A2 st2 p2 => ?_
    cases e : cmpD o1 d1 d2 with
    | none => rw [e] at p2; exact p2.elim
    | some k =>
      rw [e] at p2
      refine ⟨W2, s2, σ, d1, d2, .bl k, A2, st2.rel r1, r2, congrArg (Option.map D.bl) e, fun v W3 H3 A3 st3 r3 => ?_⟩
      cases r3
      refine ⟨k, rfl, ?_⟩
      cases k with
      | true =>
        rw [if_pos rfl]
        refine go A3 (Post.later p2 st3) fun z d3 W4 s4 H4 r4 A4 st4 p4 => ?_
        obtain ⟨d, e4, f⟩ := post_lift p4
        exact ⟨W4, s4, σ, d2, d3, d, A4, (st3.trans st4).rel r2, r4, e4, f⟩
      | false =>
        rw [if_neg Bool.false_ne_true]
        exact p2 _ W3 H3 A3 st3 (.bl false)
def tChB (o1 o2 : CmpOp) (a b c : I) : IT := fun ρ s => (a ρ s).bind fun x s => (b ρ s).bind fun y s => match cmpD o1 x y with
  | some true => (c ρ s).bind fun z s => liftT (cmpD o2 y z) s
  | some false => .ok false s
  | none => .bad
theorem q_chain {o1 o2 : CmpOp} (hu : X.A.units + 64 < cLine) (hm : lastMarks [o1, o2] [b, c] = false) (ha : PE X a (tE X.K Wx ρ fa)) (hb : PE X b (tE X.K Wx ρ fb)) (hc : PE X c (tE X.K Wx ρ fc)) :
    PT X (.Compare a [o1, o2] [b, c] pos) (tT X.K Wx ρ (tChB o1 o2 fa fb fc)) :=
  PTi (pt_chain (op_cmp hu) (op_cmp hu) ha hb hc hm) fun σ H Q ⟨W, s, A, p⟩ => by
    refine go A p fun x d1 W1 s1 H1 r1 A1 _ p1 => go A1 p1 fun y d2 W2 s2 H2 r2 A2 st2 p2 => ?_
    cases e : cmpD o1 d1 d2 with
    | none => rw [e] at p2; exact p2.elim
    | some k =>
      rw [e] at p2
      refine ⟨W2, s2, σ, d1, d2, .bl k, A2, st2.rel r1, r2, congrArg (Option.map D.bl) e, fun v W3 H3 A3 st3 r3 => ?_⟩
      cases r3
      refine ⟨k, rfl, ?_⟩
      cases k with
      | true =>
        rw [if_pos rfl]
        refine go A3 (Post.later p2 st3) fun z d3 W4 s4 H4 r4 A4 st4 p4 => ?_
        obtain ⟨d, e4, f⟩ := post_liftT A4 p4
        refine ⟨W4, s4, σ, d2, d3, .bl d, A4, (st3.trans st4).rel r2, r4, congrArg (Option.map D.bl) e4, fun v W' H' A' st' r' => ?_⟩
        cases r'
        exact ⟨d, rfl, f W' H' A' st'⟩
      | false =>
        rw [if_neg Bool.false_ne_true]
        exact ⟨false, rfl, p2 _ W3 H3 A3 st3 rfl⟩
/-! ### and, or, not, if *-/
theorem p_one {op : BoolOp} {t : TE} (h : PE X a t) : PE X (.BoolOp op [a] pos) t := pe_one h
theorem p_and {rest : List Expr} (ha : PE X a (tE X.K Wx ρ fa)) (hb : PE X (.BoolOp .And (b :: rest) pos) (tE X.K Wx ρ fb)) : PE X (.BoolOp .And (a :: b :: rest) pos) (tE X.K Wx ρ (iAnd fa fb)) :=
  PEi (pe_andT ha hb) fun σ H Q ⟨W, s, A, p⟩ => go A p fun x d1 W1 s1 H1 r1 A1 _ p1 => by
    cases e : truthD d1 with
    | none => rw [e] at p1; exact p1.elim
    | some k =>
      rw [e] at p1
      refine ⟨k, r1.truth e, ?_⟩
      cases k with
      | true => rw [if_pos rfl]; exact ⟨W1, s1, A1, p1⟩
      | false => rw [if_neg Bool.false_ne_true]; exact p1 _ W1 H1 A1 .refl r1
theorem p_or {rest : List Expr} (ha : PE X a (tE X.K Wx ρ fa)) (hb : PE X (.BoolOp .Or (b :: rest) pos) (tE X.K Wx ρ fb)) : PE X (.BoolOp .Or (a :: b :: rest) pos) (tE X.K Wx ρ (iOr fa fb)) :=
  PEi (pe_orT ha hb) fun σ H Q ⟨W, s, A, p⟩ => go A p fun x d1 W1 s1 H1 r1 A1 _ p1 => by
    cases e : truthD d1 with
    | none => rw [e] at p1; exact p1.elim
    | some k =>
      rw [e] at p1
      refine ⟨k, r1.truth e, ?_⟩
      cases k with
      | true => rw [if_pos rfl]; exact p1 _ W1 H1 A1 .refl r1
      | false => rw [if_neg Bool.false_ne_true]; exact ⟨W1, s1, A1, p1⟩
theorem p_not (ha : PE X a (tE X.K Wx ρ fa)) : PE X (.UnaryOp .Not a pos) (tE X.K Wx ρ (iNot fa)) :=
  PEi (pe_notT ha) fun σ H Q ⟨W, s, A, p⟩ => go A p fun x d1 W1 s1 H1 r1 A1 _ p1 => by
    obtain ⟨d, e, f⟩ := post_lift p1
    obtain ⟨k, e1, rfl⟩ := Option.map_eq_some_iff.mp e
    exact ⟨k, r1.truth e1, f.now A1 (.bl _)⟩
variable {ta tb : IT}
theorem q_tru (ha : PE X a (tE X.K Wx ρ fa)) (he : ∀ whole, isTrue a X.env whole = (do let v ← whole; standAt a.pos; holding [v] (truthy v))) : PT X a (tT X.K Wx ρ (tTru fa)) :=
  PTi (pt_truth ha he) fun σ H Q ⟨W, s, A, p⟩ => go A p fun x d1 W1 s1 H1 r1 A1 _ p1 => by
    obtain ⟨b, e, f⟩ := post_liftT A1 p1
    exact ⟨b, r1.truth e, f W1 H1 A1 .refl⟩
theorem q_not (ha : PT X a (tT X.K Wx ρ ta)) : PT X (.UnaryOp .Not a pos) (tT X.K Wx ρ (tNot ta)) :=
  PTi (pt_not ha) fun σ H Q ⟨W, s, A, p⟩ => go A p fun x d1 W1 s1 H1 r1 A1 _ p1 => by
    cases r1
    exact p1 _ W1 H1 A1 .refl rfl
theorem q_and1 (ha : PT X a (tT X.K Wx ρ ta)) : PW X (.BoolOp .And [a] pos) (tT X.K Wx ρ ta) := pw_and1 ha
theorem q_or1 (ha : PT X a (tT X.K Wx ρ ta)) : PW X (.BoolOp .Or [a] pos) (tT X.K Wx ρ ta) := pw_or1 ha
theorem q_and {rest : List Expr} (ha : PT X a (tT X.K Wx ρ ta)) (hb : PW X (.BoolOp .And (b :: rest) pos) (tT X.K Wx ρ tb)) : PW X (.BoolOp .And (a :: b :: rest) pos) (tT X.K Wx ρ (tAnd ta tb)) :=
  PWi (pw_and ha hb) fun σ H Q ⟨W, s, A, p⟩ => go A p fun x d1 W1 s1 H1 r1 A1 _ p1 => by
    cases r1
    cases x with
    | true => rw [if_pos rfl]; exact ⟨W1, s1, A1, p1⟩
    | false => rw [if_neg Bool.false_ne_true]; exact p1 _ W1 H1 A1 .refl rfl
theorem q_or {rest : List Expr} (ha : PT X a (tT X.K Wx ρ ta)) (hb : PW X (.BoolOp .Or (b :: rest) pos) (tT X.K Wx ρ tb)) : PW X (.BoolOp .Or (a :: b :: rest) pos) (tT X.K Wx ρ (tOr ta tb)) :=
  PWi (pw_or ha hb) fun σ H Q ⟨W, s, A, p⟩ => go A p fun x d1 W1 s1 H1 r1 A1 _ p1 => by
    cases r1
    cases x with
    | true => rw [if_pos rfl]; exact p1 _ W1 H1 A1 .refl rfl
    | false => rw [if_neg Bool.false_ne_true]; exact ⟨W1, s1, A1, p1⟩
theorem p_if (hc : PT X c (tT X.K Wx ρ ta)) (ha : PE X a (tE X.K Wx ρ fa)) (hb : PE X b (tE X.K Wx ρ fb)) : PE X (.IfExp c a b pos) (tE X.K Wx ρ (iIf ta fa fb)) :=
  PEi (pe_ifExp hc ha hb) fun σ H Q ⟨W, s, A, p⟩ => go A p fun x d1 W1 s1 H1 r1 A1 _ p1 => by
    cases r1
    cases x with
    | true => rw [if_pos rfl]; exact ⟨W1, s1, A1, p1⟩
    | false => rw [if_neg Bool.false_ne_true]; exact ⟨W1, s1, A1, p1⟩
/-! ### lists of expressions, displays *-/
variable {fl : IL}
theorem p_nil : PA X [] (tA X.K Wx ρ aNil) := PAi pa_nil fun σ H Q ⟨W, s, A, p⟩ => p _ W H A .refl .nil
theorem p_cons (ha : PE X e (tE X.K Wx ρ fa)) (hr : PA X es (tA X.K Wx ρ fl)) (hs : starEach (e :: es) X.env = (false, eval e X.env) :: starEach es X.env) : PA X (e :: es) (tA X.K Wx ρ (aCons fa fl)) :=
  PAi (pa_cons ha hr hs) fun σ H Q ⟨W, s, A, p⟩ => go A p fun x d1 W1 s1 H1 r1 A1 _ p1 => go A1 p1 fun y d2 W2 s2 H2 r2 A2 st2 p2 => p2 _ W2 H2 A2 .refl (.cons (st2.rel r1) r2)
theorem p_tup {k} (h : PA X es (tA X.K Wx ρ fl)) : PE X (.Tuple es k pos) (tE X.K Wx ρ (iTup fl)) :=
  PEi (pe_tup h) fun σ H Q ⟨W, s, A, p⟩ => go A p fun x d1 W1 s1 H1 r1 A1 _ p1 => by
    obtain ⟨d, e, f⟩ := post_lift p1
    split at e
    · rename_i hz
      cases e
      rw [← r1.length] at hz
      exact ⟨hz, f.tup A1 r1 hz⟩
    · cases e
theorem p_lst (h : PA X es (tA X.K Wx ρ fl)) : PE X (.List es pos) (tE X.K Wx ρ (iLst fl)) :=
  PEi (pe_lst h) fun σ H Q ⟨W, s, A, p⟩ => go A p fun x d1 W1 s1 H1 r1 A1 _ p1 => by
    obtain ⟨d, e, f⟩ := post_lift p1
    split at e
    · rename_i hz
      cases e
      rw [← r1.length] at hz
      exact ⟨hz, f.lst A1 r1 hz⟩
    · cases e
theorem pa_starB {p : Pos} (he : PE X e (tE X.K Wx ρ fa)) (hr : PA X es (tA X.K Wx ρ fl)) : PA X (.Starred e p :: es) (tA X.K Wx ρ (aStar fa fl)) :=
  PAi (StX.pa_star he hr) fun σ H Q ⟨W, s, A, p⟩ => go A p fun x d1 W1 s1 H1 r1 A1 _ p1 => by
    cases es : seqD s1.h d1 with
    | none => rw [es] at p1; exact p1.elim
    | some l =>
      rw [es] at p1
      obtain ⟨a, vs, rfl, hq, z, q2⟩ := rel_seq A1 r1 es
      refine ⟨a, vs, rfl, hq.symm, go A1 p1 fun ys ds W2 s2 H2 r2 A2 st2 p2 => ?_⟩
      exact p2 _ W2 H2 A2 .refl ((st2.rels q2).append r2)
theorem p_bad : PE X e (tE X.K Wx ρ iBad) := ⟨fun pins s σ H Q I ⟨W, s1, A, p⟩ => p.elim⟩
theorem q_bad : PT X e (tT X.K Wx ρ tBad) := ⟨fun pins s σ H Q I ⟨W, s1, A, p⟩ => p.elim⟩
theorem p_ix (hs : PlainIx b) (ha : PE X a (tE X.K Wx ρ fa)) (hb : PE X b (tE X.K Wx ρ fb)) : PE X (.Subscript a b pos) (tE X.K Wx ρ (iIx fa fb)) :=
  PEi (pe_ix ix_bs ha hb hs) fun σ H Q ⟨W, s, A, p⟩ => go A p fun x d1 W1 s1 H1 r1 A1 _ p1 => go A1 p1 fun y d2 W2 s2 H2 r2 A2 st2 p2 => by
    obtain ⟨d, e, f⟩ := post_lift p2
    exact ⟨W2, s2, σ, d1, d2, d, A2, st2.rel r1, r2, e, f⟩
theorem o_no : PO X none (tO X.K Wx ρ pNo) := POi po_none fun σ H Q ⟨W, s, A, p⟩ => p _ W H A .refl rfl
theorem o_int (ha : PE X a (tE X.K Wx ρ fa)) : PO X (some a) (tO X.K Wx ρ (pInt fa)) := POi (po_some ha) fun σ H Q ⟨W, s, A, p⟩ => go A p fun x d1 W1 s1 H1 r1 A1 _ p1 => by
  cases r1 with
  | int i => exact ⟨i, rfl, p1 _ W1 H1 A1 .refl rfl⟩
  | _ => exact p1.elim
theorem p_sl {lo hi : Option Expr} {fl fh : Fns → S → R (Option Int)} {p2 : Pos} (ha : PE X a (tE X.K Wx ρ fa)) (hl : PO X lo (tO X.K Wx ρ fl)) (hh : PO X hi (tO X.K Wx ρ fh)) : PE X (.Subscript a (.Slice lo hi none p2) pos) (tE X.K Wx ρ (iSl fa fl fh)) :=
  PEi (pe_slice sl_b ha hl hh) fun σ H Q ⟨W, s, A, p⟩ => go A p fun x d1 W1 s1 H1 r1 A1 _ p1 => go A1 p1 fun l l' W2 s2 H2 r2 A2 st2 p2 => go A2 p2 fun u u' W3 s3 H3 r3 A3 st3 p3 => by
    cases r2
    cases r3
    obtain ⟨d, e, f⟩ := post_lift p3
    exact ⟨W3, s3, σ, d1, d, A3, (st2.trans st3).rel r1, e, f⟩
theorem p_bi {x : Str} {p : Pos} {id : String} {f : Bi} (hc : CallR X (.builtin id) (rC X.K (biD f))) (hg : Gl X x) (hm : X.mg x = none) (hv : bootBuiltins x = some (.builtin id)) (ha : PA X (e :: es) (tA X.K Wx ρ fl)) (hn : x ≠ "__name__") (hdb : (x == ("__debug__" : Str)) = false)
    (he : starEach (e :: es) X.env = (false, eval e X.env) :: starEach es X.env) (hpl : (backTo pos (starEach es X.env)).any (·.1) = false) : PE X (.Call (.Name x p) (e :: es) [] pos) (tE X.K Wx ρ (iBi f fl)) :=
  PEi (pe_callB hc hg hm hv ha hn hdb he hpl) fun σ H Q ⟨W, s, A, p⟩ => go A p fun vs ds W1 s1 H1 r1 A1 _ p1 => by
    obtain ⟨d, e, f⟩ := post_lift p1
    exact ⟨W1, s1, σ, ds, d, A1, r1, e, f⟩
theorem p_biT {x : Str} {p : Pos} {id : String} {f : Bi} (hc : CallR X (.type id) (rC X.K (biD f))) (hg : Gl X x) (hm : X.mg x = none) (hv : bootBuiltins x = some (.type id)) (ha : PA X (e :: es) (tA X.K Wx ρ fl)) (hn : x ≠ "__name__") (hdb : (x == ("__debug__" : Str)) = false)
    (he : starEach (e :: es) X.env = (false, eval e X.env) :: starEach es X.env) (hpl : (backTo pos (starEach es X.env)).any (·.1) = false) : PE X (.Call (.Name x p) (e :: es) [] pos) (tE X.K Wx ρ (iBi f fl)) :=
  PEi (pe_callTy hc hg hm hv ha hn hdb he hpl) fun σ H Q ⟨W, s, A, p⟩ => go A p fun vs ds W1 s1 H1 r1 A1 _ p1 => by
    obtain ⟨d, e, f⟩ := post_lift p1
    exact ⟨W1, s1, σ, ds, d, A1, r1, e, f⟩
end
end B
end
section
set_option Elab.async false
set_option linter.all false
set_option maxRecDepth 100000
set_option maxHeartbeats 1000000
namespace B
open PySem PySem.Spec PyProof.Rows L2
section
variable {K : PySem.W.Frag} {ia : Nat → Addr} {n : Nat} {M M' : MS} {H : Hp}
theorem Rel.cong {v : V} {d : D} (r : Rel K ia n M H v d) (h : ∀ a, M' a → M a) : Rel K ia n M' H v d := r.mono (fun _ _ e m => ⟨e, fun z => m (h _ z)⟩) (Nat.le_refl _) fun _ _ => rfl
theorem Rels.cong {v : List V} {d : List D} (r : Rels K ia n M H v d) (h : ∀ a, M' a → M a) : Rels K ia n M' H v d := r.mono (fun _ _ e m => ⟨e, fun z => m (h _ z)⟩) (Nat.le_refl _) fun _ _ => rfl
end
/-! ### calls of the program's own defs -/
/-- what a def promises: what fm says -/
def spI (K : PySem.W.Frag) (n : Nat) (fm : Fm) : Sp := fun vs H Q E => ∃ W h ds, Abs K W ⟨[], h⟩ [] H ∧ RelsW K W ⟨[], h⟩ H vs ds ∧ vs.length = n ∧ Post K [] (RelW K) W ⟨[], h⟩ H E Q (ofF [] (fm ds h))
/-- the callee's world -/
def Wd.call (W : Wd) (s : S) : Wd := ⟨W.ia, W.la, fun a => W.P a ∨ ∃ (i : Nat) (d : D), s.g[i]? = some (.own d) ∧ W.la i = a⟩
theorem mw_call {W : Wd} {s : S} {a : Addr} : MW (W.call s) ⟨[], s.h⟩ a ↔ MW W s a := by
  constructor
  · rintro ((m | m) | m | ⟨i, d, e, _⟩)
    · exact .inl m
    · exact .inr (.inr m)
    · exact .inr (.inl m)
    · simp at e
  · rintro (m | m | m)
    · exact .inl (.inl m)
    · exact .inr (.inl m)
    · exact .inl (.inr m)
theorem Abs.toCall {K : PySem.W.Frag} {W : Wd} {s : S} {σ : L2.St} {H : Hp} (A : Abs K W s σ H) : Abs K (W.call s) ⟨[], s.h⟩ [] H := by
  refine ⟨rfl, fun i d e => by simp at e, fun i d e => by simp at e, fun k o e => ?_, A.inj, fun i j d e h => by simp at h, fun k i d _ h => by simp at h, fun k hk m => ?_, fun i d e => by simp at e, fun a m => ?_⟩
  · have := A.hp k o e
    cases o with
    | lst ds => obtain ⟨vs, h, z, q⟩ := this; exact ⟨vs, h, z, q.cong fun a m => mw_call.mp m⟩
    | ins c ns ds => obtain ⟨dx, vs, h, z, q⟩ := this; exact ⟨dx, vs, h, z, q.cong fun a m => mw_call.mp m⟩
  · rcases m with m | ⟨i, d, e, z⟩
    · exact A.pI k hk m
    · exact A.sep k i d hk e z.symm
  · exact A.there (mw_call.mp (.inl m))
/-- back from a call -/
theorem Abs.ofCall {K : PySem.W.Frag} {W W2 : Wd} {s : S} {h' : List Ob} {σ : L2.St} {H H2 : Hp} (A : Abs K W s σ H) (A2 : Abs K W2 ⟨[], h'⟩ [] H2) (st : Stp (W.call s) ⟨[], s.h⟩ H W2 ⟨[], h'⟩ H2) :
    Abs K ⟨W2.ia, W.la, W.P⟩ ⟨s.g, h'⟩ σ H2 ∧ Stp W s H ⟨W2.ia, W.la, W.P⟩ ⟨s.g, h'⟩ H2 ∧ ∀ v d, RelW K W2 ⟨[], h'⟩ H2 v d → RelW K ⟨W2.ia, W.la, W.P⟩ ⟨s.g, h'⟩ H2 v d := by
  have hP : ∀ a, W2.P a ↔ (W.P a ∨ ∃ (i : Nat) (d : D), s.g[i]? = some (.own d) ∧ W.la i = a) := fun a => by rw [st.P]; exact Iff.rfl
  have hM : ∀ a, MW ⟨W2.ia, W.la, W.P⟩ ⟨s.g, h'⟩ a ↔ MW W2 ⟨[], h'⟩ a := fun a => by
    constructor
    · rintro (m | m | m)
      · exact .inl ((hP a).mpr (.inl m))
      · exact .inr (.inl m)
      · exact .inl ((hP a).mpr (.inr m))
    · rintro (m | m | ⟨i, d, e, _⟩)
      · rcases (hP a).mp m with m | m
        · exact .inl m
        · exact .inr (.inr m)
      · exact .inr (.inl m)
      · simp at e
  have st' : Stp W s H ⟨W2.ia, W.la, W.P⟩ ⟨s.g, h'⟩ H2 := ⟨rfl, st.ia, st.hl, fun a o e m => ⟨(st.fz a o e fun z => m (mw_call.mp z)).1, fun z => (st.fz a o e fun z => m (mw_call.mp z)).2 ((hM a).mp z)⟩, fun a o p e => st.pr a o (.inl p) e⟩
  refine ⟨⟨A.len, fun i d e => ?_, fun i d e => ?_, fun k o e => ?_, A2.inj, A.injL, fun k i d hk e z => ?_, fun k hk m => ?_, A.pL, fun a m => ?_⟩, st', fun v d r => r.cong fun a m => (hM a).mp m⟩
  · obtain ⟨v, h1, r⟩ := A.val i d e
    exact ⟨v, h1, st'.rel r⟩
  · obtain ⟨h1, r⟩ := A.own i d e
    obtain ⟨o, ho⟩ := A.there (.inr (.inr ⟨i, d, e, rfl⟩))
    exact ⟨h1, r.stp st' (by rw [ho]; exact st.pr _ o (.inr ⟨i, d, e, rfl⟩) ho)⟩
  · have := A2.hp k o e
    cases o with
    | lst ds => obtain ⟨vs, h, z, q⟩ := this; exact ⟨vs, h, z, q.cong fun a m => (hM a).mp m⟩
    | ins c ns ds => obtain ⟨dx, vs, h, z, q⟩ := this; exact ⟨dx, vs, h, z, q.cong fun a m => (hM a).mp m⟩
  · exact A2.pI k hk ((hP _).mpr (.inr ⟨i, d, e, z.symm⟩))
  · exact A2.pI k hk ((hP _).mpr (.inl m))
  · exact A2.pS a ((hP _).mpr (.inl m))
/-- the world's exception relation across a call -/
theorem XR.ofCall {K : PySem.W.Frag} {W2 W3 : Wd} {s2 s3 : S} {H : Hp} {x : D} {c : Value} {dd : Option Addr} (h : XR K W2 s2 H x c dd) : XR K W3 s3 H x c dd := h
theorem post_call {K : PySem.W.Frag} {W : Wd} {s : S} {σ : L2.St} {H : Hp} {E : XK} {Q : VK} {r : Rf} (A : Abs K W s σ H) (p : Post K σ (RelW K) W s H E Q (ofF s.g r)) : Post K [] (RelW K) (W.call s) ⟨[], s.h⟩ H E Q (ofF [] r) := by
  cases r with
  | ok d h' => exact fun v W2 H2 A2 st r2 => let ⟨A3, st3, k⟩ := A.ofCall A2 st; p v _ H2 A3 st3 (k v d r2)
  | ex x h' => exact fun c dd W2 H2 A2 st r2 => let ⟨A3, st3, k⟩ := A.ofCall A2 st; p c dd _ H2 A3 st3 r2.ofCall
  | bad => exact p
/-- how a call with n positional arguments and the keywords ks binds -/
def CB (K : PySem.W.Frag) (fd : FuncData) (ps : List Str) (n : Nat) (ks : List Str) (pm : List Ai) : Prop :=
  ∀ (s : Shared) (us ws : List Value) (vs zs : List V), K.In s.heap → us.length = n → ws.length = ks.length → Vals vs us → Vals zs ws → ∃ (ls : List Value) (lv : List V), BindsTo s fd ⟨us, ks.zip ws⟩ (ps.zip ls) ∧ Vals lv ls ∧ lv.length = ps.length ∧
    ∀ (ia : Nat → Addr) (m : Nat) (M : MS) (H : Hp) (ds es : List D), Rels K ia m M H (vs ++ zs) ds → permD pm ds = some es → Rels K ia m M H lv es
section
variable {X : Cx} {Wx : WX} {ρ : Fns} {a b c e : Expr} {es : List Expr} {kws : List Keyword} {fa fb fc : I} {fl fk : IL} {pos : Pos}
def tCallB (sp : Sp) (E : L2.St → XK) (n m : Nat) (lv : List V → List V → List V → Prop) (t tk : TA) : TE := fun σ H Q => t σ H fun vs H1 => tk σ H1 fun zs H2 => vs.length = n ∧ zs.length = m ∧ ∀ l, lv vs zs l → sp l H2 Q (E σ)
theorem run_call {k : Nat} {f : Addr} {fd : FuncData} {ps ks : List Str} {n : Nat} {pm : List Ai} {fm : Fm} {pins : List (Addr × Obj)} {σ : L2.St} {H : Hp} {s : Shared} {Q : VK} {us ws : List Value} {vs zs : List V} (F : FnOk X.prog X.w X.K X.mg X.base (L2.CX X.prog X.w) k f fd ps (spI X.K ps.length fm)) (hr : Room k X.A) (hb : CB X.K fd ps n ks pm) (tk : Takes X Wx)
    (I : Inv X pins σ H s) (r : Vals vs us) (rz : Vals zs ws) (hn : vs.length = n) (hm : zs.length = ks.length) {W : Wd} {s1 : S} {ds es : List D} (A : Abs X.K W s1 σ H) (rd : RelsW X.K W s1 H (vs ++ zs) ds) (hp : permD pm ds = some es) (p : Post X.K σ (RelW X.K) W s1 H (fun c d H' => Wx c d σ H') Q (ofF s1.g (fm es s1.h))) :
    wpAny (model X.prog X.w) X.A (call (.ref f) us (ks.zip ws)) (EP X pins σ Q) X.xe s := by
  obtain ⟨ls, lv, bt, rl, hl, rr⟩ := hb s us ws vs zs I.kIn (by rw [← r.length]; exact hn) (by rw [← rz.length]; exact hm) r rz
  have sp : spI X.K ps.length fm lv H Q (fun c d H' => Wx c d σ H') := ⟨W.call s1, s1.h, es, A.toCall, (rr _ _ _ _ ds es rd hp).cong fun a m => mw_call.mp m, hl, post_call A p⟩
  refine wpAny_call (codeAny_mono (F.run X.A X.stack s H ⟨us, ks.zip ws⟩ ls lv Q _ hr I.env0 bt rl sp) fun r s' hq => ?_)
  cases r with
  | error e => exact passAt tk σ pins H s e s' I hq
  | ok fl =>
    cases fl with
    | ret u => exact I.after hq
    | next => exact False.elim hq
    | brk => exact False.elim hq
    | cont => exact False.elim hq
/-- a call by another promise -/
def iCallG (fm : Fns → Fm) (pm : List Ai) (a b : IL) : I := fun ρ s => (a ρ s).bind fun xs s => (b ρ s).bind fun ys s => match permD pm (xs ++ ys) with
  | some zs => ofF s.g (fm ρ zs s.h)
  | none => .bad
theorem p_callG {fm : Fns → Fm} {k n : Nat} {f : Addr} {fd : FuncData} {ps ks : List Str} {pm : List Ai} {x : Str} {p : Pos} (F : FnOk X.prog X.w X.K X.mg X.base (L2.CX X.prog X.w) k f fd ps (spI X.K ps.length (fm ρ))) (hr : Room k X.A) (hg : Gl X x) (hm : X.mg x = some (.ref f)) (hk : PySem.W.keepIn X.K (.ref f) = true)
    (hb : CB X.K fd ps n ks pm) (tk : Takes X Wx) (ha : PA X es (tA X.K Wx ρ fl)) (hkw : PK X kws (tA X.K Wx ρ fk)) (hl : ∀ s ds s', fl ρ s = .ok ds s' → ds.length = n) (hl2 : ∀ s ds s', fk ρ s = .ok ds s' → ds.length = ks.length) (hdb : (x == ("__debug__" : Str)) = false)
    (he : (es = [] ∧ fl = aNil) ∨ ∃ e r, es = e :: r ∧ starEach (e :: r) X.env = (false, eval e X.env) :: starEach r X.env) (hpl : (backTo pos (starEach es X.env)).any (·.1) = false) (hall : (backToKw pos (keywordEach kws X.env)).all (·.1.isSome) = true) (hks : (backToKw pos (keywordEach kws X.env)).filterMap (·.1) = ks)
    (hkn : (backToKw pos (keywordEach kws X.env)).any (·.1.isNone) = false) : PE X (.Call (.Name x p) es kws pos) (tE X.K Wx ρ (iCallG fm pm fl fk)) := by
  refine ⟨fun pins s σ H Q I h => ?_⟩
  obtain ⟨W, s0, A, h⟩ := h
  refine wpAny_Call_Name_kw (ld_glob I hg hm ?_ hdb)
  have h1 : tA X.K Wx ρ fl σ H fun vs H1 => tA X.K Wx ρ fk σ H1 fun zs H2 => vs.length = n ∧ zs.length = ks.length ∧ ∃ W2 s2 ds es, Abs X.K W2 s2 σ H2 ∧ RelsW X.K W2 s2 H2 (vs ++ zs) ds ∧ permD pm ds = some es ∧ Post X.K σ (RelW X.K) W2 s2 H2 (fun c d H' => Wx c d σ H') Q (ofF s2.g (fm ρ es s2.h)) := by
    refine ⟨W, s0, A, ?_⟩
    simp only [iCallG] at h
    cases e1 : fl ρ s0 with
    | bad => rw [e1] at h; exact h
    | ex x s1 => rw [e1] at h; exact h
    | ok ds s1 =>
      rw [e1] at h
      intro vs W1 H1 A1 st1 r1
      have h := Post.later h st1
      refine ⟨W1, s1, A1, ?_⟩
      simp only [R.bind] at h
      cases e2 : fk ρ s1 with
      | bad => rw [e2] at h; exact h
      | ex x s2 => rw [e2] at h; exact h
      | ok ds2 s2 =>
        rw [e2] at h
        intro zs W2 H2 A2 st2 r2
        have h := Post.later h st2
        simp only at h
        cases e3 : permD pm (ds ++ ds2) with
        | none => rw [e3] at h; exact h.elim
        | some es =>
          rw [e3] at h
          exact ⟨by rw [r1.length]; exact hl _ _ _ e1, by rw [r2.length]; exact hl2 _ _ _ e2, W2, s2, _, es, A2, (st2.rels r1).append r2, e3, h⟩
  have fin : ∀ {us ws : List Value} {vs zs : List V} {s2 : Shared} {H2 : Hp}, Inv X pins σ H2 s2 → Vals vs us → Vals zs ws → (vs.length = n ∧ zs.length = ks.length ∧ ∃ W2 s2 ds es, Abs X.K W2 s2 σ H2 ∧ RelsW X.K W2 s2 H2 (vs ++ zs) ds ∧ permD pm ds = some es ∧ Post X.K σ (RelW X.K) W2 s2 H2 (fun c d H' => Wx c d σ H') Q (ofF s2.g (fm ρ es s2.h))) →
      wpAny (model X.prog X.w) X.A (call (.ref f) us (ks.zip ws)) (EP X pins σ Q) X.xe s2 := fun I2 r rz ⟨n1, n2, W2, s2, ds, es, A2, rd, hp, p⟩ => run_call F hr hb tk I2 r rz n1 n2 A2 rd hp p
  rcases he with ⟨rfl, rfl⟩ | ⟨e, r, rfl, hs⟩
  · refine PySem.W.callWith_KW0 (h₀ := X.base) I.ok.mod.kin hk hall ?_ (by rw [hpl, hkn]; rfl)
    obtain ⟨W0, s00, A0, p0⟩ := h1
    have q := p0 [] W0 H A0 .refl .nil
    refine thn (hkw.run pos pins s σ H _ I q) fun ws s2 ⟨zs, H2, I2, rz, q2⟩ => ⟨I2.kIn, ?_⟩
    rw [hks]
    exact fin (us := []) I2 .nil rz q2
  · refine PySem.W.callWith_KW (h₀ := X.base) I.ok.mod.kin hk hall (thn (ha.run pos pins s σ H _ I h1) fun us s1 ⟨vs, H1, I1, r, q⟩ => ?_) (by rw [hpl, hkn]; rfl) hs
    refine thn (hkw.run pos pins s1 σ H1 _ I1 q) fun ws s2 ⟨zs, H2, I2, rz, q2⟩ => ⟨I2.kIn, ?_⟩
    rw [hks]
    exact fin I2 r rz q2
theorem p_call {k n : Nat} {f : Addr} {fd : FuncData} {ps ks : List Str} {pm : List Ai} {x : Str} {p : Pos} (F : FnOk X.prog X.w X.K X.mg X.base (L2.CX X.prog X.w) k f fd ps (spI X.K ps.length (ρ x))) (hr : Room k X.A) (hg : Gl X x) (hm : X.mg x = some (.ref f)) (hk : PySem.W.keepIn X.K (.ref f) = true)
    (hb : CB X.K fd ps n ks pm) (tk : Takes X Wx) (ha : PA X es (tA X.K Wx ρ fl)) (hkw : PK X kws (tA X.K Wx ρ fk)) (hl : ∀ s ds s', fl ρ s = .ok ds s' → ds.length = n) (hl2 : ∀ s ds s', fk ρ s = .ok ds s' → ds.length = ks.length) (hdb : (x == ("__debug__" : Str)) = false)
    (he : (es = [] ∧ fl = aNil) ∨ ∃ e r, es = e :: r ∧ starEach (e :: r) X.env = (false, eval e X.env) :: starEach r X.env) (hpl : (backTo pos (starEach es X.env)).any (·.1) = false) (hall : (backToKw pos (keywordEach kws X.env)).all (·.1.isSome) = true) (hks : (backToKw pos (keywordEach kws X.env)).filterMap (·.1) = ks)
    (hkn : (backToKw pos (keywordEach kws X.env)).any (·.1.isNone) = false) : PE X (.Call (.Name x p) es kws pos) (tE X.K Wx ρ (iCall x pm fl fk)) :=
  p_callG (fm := fun ρ => ρ x) F hr hg hm hk hb tk ha hkw hl hl2 hdb he hpl hall hks hkn
end
/-! ### statements -/
def PostS (K : PySem.W.Frag) (W : Wd) (s : S) (H : Hp) (Wx : WX) (D : Ends) : R Fl → Prop
  | .ok .nx s' => ∀ σ' W' H', Abs K W' s' σ' H' → Stp W s H W' s' H' → D.nx σ' H'
  | .ok (.rt d) s' => ∀ v σ' W' H', Abs K W' s' σ' H' → Stp W s H W' s' H' → RelW K W' s' H' v d → D.rt v H'
  | .ok .bk s' => ∀ σ' W' H', Abs K W' s' σ' H' → Stp W s H W' s' H' → D.bk σ' H'
  | .ok .ct s' => ∀ σ' W' H', Abs K W' s' σ' H' → Stp W s H W' s' H' → D.ct σ' H'
  | .ex x s' => ∀ c dd σ' W' H', Abs K W' s' σ' H' → Stp W s H W' s' H' → XR K W' s' H' x c dd → Wx c dd σ' H'
  | .bad => False
def tS (K : PySem.W.Frag) (Wx : WX) (ρ : Fns) (f : IS) : TS := fun D σ H => ∃ W s, Abs K W s σ H ∧ PostS K W s H Wx D (f ρ s)
theorem PostS.later {K : PySem.W.Frag} {W W' : Wd} {s s' : S} {H H' : Hp} {Wx : WX} {D : Ends} {r : R Fl} (h : PostS K W s H Wx D r) (st : Stp W s H W' s' H') : PostS K W' s' H' Wx D r := by
  cases r with
  | ok a s2 =>
    cases a with
    | nx => exact fun σ2 W2 H2 A st2 => h σ2 W2 H2 A (st.trans st2)
    | rt d => exact fun v σ2 W2 H2 A st2 => h v σ2 W2 H2 A (st.trans st2)
    | bk => exact fun σ2 W2 H2 A st2 => h σ2 W2 H2 A (st.trans st2)
    | ct => exact fun σ2 W2 H2 A st2 => h σ2 W2 H2 A (st.trans st2)
  | ex x s2 => exact fun c dd σ2 W2 H2 A st2 q => h c dd σ2 W2 H2 A (st.trans st2) q
  | bad => exact h
section
variable {X : Cx} {Wx : WX} {ρ : Fns} {st : Stmt} {sts : List Stmt} {a b c e : Expr} {es : List Expr} {fa fb fc : I} {fl : IL} {pos : Pos}
theorem PSi {t t' : TS} (h : PS X st t) (i : ∀ D σ H, t' D σ H → t D σ H) : PS X st t' := ⟨fun pins s σ H D I q => h.run pins s σ H D I (i D σ H q)⟩
theorem PSsi {t t' : TS} (h : PSs X sts t) (i : ∀ D σ H, t' D σ H → t D σ H) : PSs X sts t' := ⟨fun pins s σ H D I q => h.run pins s σ H D I (i D σ H q)⟩
/-- a word, then a statement's rest -/
theorem goS {α β : Type} {K : PySem.W.Frag} {Rl : Wd → S → Hp → β → α → Prop} {σ : L2.St} {H : Hp} {W : Wd} {s : S} {D : Ends} {f : Fns → S → R α} {k : α → S → R Fl}
    (A : Abs K W s σ H) (h : PostS K W s H Wx D ((f ρ s).bind k)) {Q2 : β → Hp → Prop}
    (n : ∀ b a W1 s1 H1, Rl W1 s1 H1 b a → Abs K W1 s1 σ H1 → Stp W s H W1 s1 H1 → PostS K W1 s1 H1 Wx D (k a s1) → Q2 b H1) : tG K Wx ρ Rl f σ H Q2 := by
  refine ⟨W, s, A, ?_⟩
  cases e : f ρ s with
  | ok a s1 =>
    rw [e] at h
    exact fun b W1 H1 A1 st1 r1 => n b a W1 s1 H1 r1 A1 st1 (PostS.later h st1)
  | ex x s1 =>
    rw [e] at h
    exact fun c dd W1 H1 A1 st1 q => h c dd σ W1 H1 A1 st1 q
  | bad =>
    rw [e] at h
    exact h
theorem s_nil : PSs X [] (tS X.K Wx ρ sNx) := PSsi pss_nil fun D σ H ⟨W, s, A, p⟩ => p σ W H A .refl
theorem s_cons {f1 f2 : IS} (h1 : PS X st (tS X.K Wx ρ f1)) (h2 : PSs X sts (tS X.K Wx ρ f2)) : PSs X (st :: sts) (tS X.K Wx ρ (sSeq f1 f2)) :=
  PSsi (pss_cons h1 h2) fun D σ H ⟨W, s, A, p⟩ => by
    refine ⟨W, s, A, ?_⟩
    simp only [sSeq] at p
    cases e : f1 ρ s with
    | ok fl s1 =>
      rw [e] at p
      cases fl with
      | nx => exact fun σ' W' H' A' st' => ⟨W', s1, A', PostS.later p st'⟩
      | rt d => exact p
      | bk => exact p
      | ct => exact p
    | ex x s1 => rw [e] at p; exact p
    | bad => rw [e] at p; exact p
theorem s_one {f1 : IS} (h1 : PS X st (tS X.K Wx ρ f1)) : PSs X [st] (tS X.K Wx ρ f1) := pss_one h1
theorem s_ret (ha : PE X a (tE X.K Wx ρ fa)) : PS X (.Return (some a) pos) (tS X.K Wx ρ (sRet fa)) :=
  PSi (ps_ret ha) fun D σ H ⟨W, s, A, p⟩ => goS A p fun v d W1 s1 H1 r1 A1 _ p1 => p1 v σ W1 H1 A1 .refl r1
theorem s_retN : PS X (.Return none pos) (tS X.K Wx ρ sRetN) := PSi ps_retN fun D σ H ⟨W, s, A, p⟩ => p .non σ W H A .refl .non
theorem s_drop (ha : PE X a (tE X.K Wx ρ fa)) (hs : swapsWith a none pos.line X.env = pure false) : PS X (.Expr a pos) (tS X.K Wx ρ (sDrop fa)) :=
  PSi (ps_expr ha hs) fun D σ H ⟨W, s, A, p⟩ => goS A p fun v d W1 s1 H1 r1 A1 _ p1 => p1 σ W1 H1 A1 .refl
theorem s_pass : PS X (.Pass pos) (tS X.K Wx ρ sNx) := PSi ps_pass fun D σ H ⟨W, s, A, p⟩ => p σ W H A .refl
theorem s_if {ta : IT} {s1 s2 : List Stmt} {f1 f2 : IS} (hc : PT X c (tT X.K Wx ρ ta)) (h1 : PSs X s1 (tS X.K Wx ρ f1)) (h2 : PSs X s2 (tS X.K Wx ρ f2)) : PS X (.If c s1 s2 pos) (tS X.K Wx ρ (sIf ta f1 f2)) :=
  PSi (ps_if hc h1 h2) fun D σ H ⟨W, s, A, p⟩ => goS A p fun x d1 W1 s1 H1 r1 A1 _ p1 => by
    cases r1
    cases x with
    | true => rw [if_pos rfl]; exact ⟨W1, s1, A1, p1⟩
    | false => rw [if_neg Bool.false_ne_true]; exact ⟨W1, s1, A1, p1⟩
/-! ### targets -/
theorem getElem?_set_some {α : Type} {l : List α} {i j : Nat} {x y : α} (h : (l.set i x)[j]? = some y) : (j = i ∧ y = x) ∨ (j ≠ i ∧ l[j]? = some y) := by
  by_cases hj : j = i
  · subst hj
    by_cases hl : j < l.length
    · rw [List.getElem?_set_self hl] at h; cases h; exact .inl ⟨rfl, rfl⟩
    · rw [List.getElem?_eq_none (by simpa using hl)] at h; cases h
  · rw [List.getElem?_set_ne (Ne.symm hj)] at h; exact .inr ⟨hj, h⟩
theorem Abs.set {K : PySem.W.Frag} {W : Wd} {s : S} {σ : L2.St} {H : Hp} {i : Nat} {d : D} {v : V} (A : Abs K W s σ H) (r : RelW K W s H v d) :
    Abs K W ⟨s.g.set i (.val d), s.h⟩ (σ.set i (some v)) H ∧ Stp W s H W ⟨s.g.set i (.val d), s.h⟩ H := by
  have back : ∀ (j : Nat) (d' : D), (s.g.set i (.val d))[j]? = some (.own d') → j ≠ i ∧ s.g[j]? = some (.own d') := fun j d' h => by
    rcases getElem?_set_some h with ⟨_, z⟩ | z
    · cases z
    · exact z
  have sub : ∀ a, MW W ⟨s.g.set i (.val d), s.h⟩ a → MW W s a := fun a m => by
    rcases m with m | m | ⟨j, d', h, z⟩
    · exact .inl m
    · exact .inr (.inl m)
    · exact .inr (.inr ⟨j, d', (back j d' h).2, z⟩)
  have st : Stp W s H W ⟨s.g.set i (.val d), s.h⟩ H := ⟨rfl, fun _ _ => rfl, Nat.le_refl _, fun a o h m => ⟨h, fun m' => m (sub a m')⟩, fun _ _ _ h => h⟩
  refine ⟨⟨by simpa using A.len, fun j d' h => ?_, fun j d' h => ?_, fun k o h => (A.hp k o h).stp st rfl, A.inj, fun j k d1 d2 h1 h2 => A.injL j k d1 d2 (back _ _ h1).2 (back _ _ h2).2, fun k j d' hk h => A.sep k j d' hk (back _ _ h).2, A.pI, fun j d' h => A.pL j d' (back _ _ h).2, A.pS⟩, st⟩
  · have h : (s.g.set i (.val d))[j]? = some (.val d') := h
    have hj : j < s.g.length := by
      have := (List.getElem?_eq_some_iff.mp h).1
      simpa using this
    rcases getElem?_set_some h with ⟨rfl, z⟩ | ⟨hne, h⟩
    · cases z
      exact ⟨v, List.getElem?_set_self (by rw [← A.len]; exact hj), st.rel r⟩
    · obtain ⟨w, h1, q⟩ := A.val j d' h
      exact ⟨w, by rw [List.getElem?_set_ne (Ne.symm hne)]; exact h1, st.rel q⟩
  · obtain ⟨hne, h⟩ := back _ _ h
    obtain ⟨h1, q⟩ := A.own j d' h
    exact ⟨by rw [List.getElem?_set_ne (Ne.symm hne)]; exact h1, q.stp st rfl⟩
/-- what a target does, in the layer's reading -/
def GOk (K : PySem.W.Frag) (g : IG) (tg : TG) : Prop := ∀ (W : Wd) (s : S) (σ : L2.St) (H : Hp) (v : V) (d : D) (s' : S) (Q : L2.St → Hp → Prop), Abs K W s σ H → RelW K W s H v d → g d s = some s' →
  (∀ σ', Abs K W s' σ' H → Stp W s H W s' H → Q σ' H) → tg v σ H Q
theorem gok_v {i : Nat} : GOk X.K (gV i) (gName i) := fun W s σ H v d s' Q A r e q => by
  cases e
  exact q _ (A.set r).1 (A.set r).2
/-- several names -/
def gNames : List Nat → TGs
  | [] => gNil
  | i :: is => gCons (gName i) (gNames is)
theorem gok_vs {K : PySem.W.Frag} : ∀ (is : List Nat) (ds : List D) (W : Wd) (s : S) (σ : L2.St) (H : Hp) (vs : List V) (s' : S) (Q : L2.St → Hp → Prop), Abs K W s σ H → RelsW K W s H vs ds → gVs is ds s = some s' →
    (∀ σ', Abs K W s' σ' H → Stp W s H W s' H → Q σ' H) → gNames is vs σ H Q
  | [], [], W, s, σ, H, vs, s', Q, A, r, e, q => by
    cases e; cases r
    exact ⟨rfl, q σ A .refl⟩
  | [], d :: ds, W, s, σ, H, vs, s', Q, A, r, e, q => by cases e
  | i :: is, [], W, s, σ, H, vs, s', Q, A, r, e, q => by cases e
  | i :: is, d :: ds, W, s, σ, H, vs, s', Q, A, r, e, q => by
    cases r with
    | cons a r =>
      refine ⟨_, _, rfl, ?_⟩
      have st := (A.set (i := i) a).2
      exact gok_vs is ds W _ _ H _ s' Q (A.set a).1 (st.rels r) e fun σ' A' st' => q σ' A' (st.trans st')
theorem gok_t {is : List Nat} : GOk X.K (gT is) (gTup X.K is.length (gNames is)) := fun W s σ H v d s' Q A r e q => by
  cases r with
  | tup t z r =>
    refine ⟨_, _, rfl, t.sq, ?_, gok_vs is _ W s σ H _ s' Q A r e q⟩
    rw [r.length]
    exact (show ∀ (is : List Nat) (ds : List D) (s s' : S), gVs is ds s = some s' → ds.length = is.length from fun is => by
      induction is with
      | nil => intro ds s s' h; cases ds with | nil => rfl | cons _ _ => cases h
      | cons i is ih => intro ds s s' h; cases ds with | nil => cases h | cons d ds => simp [ih ds _ s' h]) is _ s s' e
  | _ => cases e
theorem s_asg {tg : Expr} {g : IG} {gt : TG} (h : ∀ te, PE X a te → PS X st (tAsg te gt)) (ha : PE X a (tE X.K Wx ρ fa)) (hg : GOk X.K g gt) : PS X st (tS X.K Wx ρ (sAsg fa g)) :=
  PSi (h _ ha) fun D σ H ⟨W, s, A, p⟩ => goS A p fun v d W1 s1 H1 r1 A1 _ p1 => by
    cases e : g d s1 with
    | none => rw [e] at p1; exact p1.elim
    | some s2 =>
      rw [e] at p1
      exact hg W1 s1 σ H1 v d s2 _ A1 r1 e fun σ' A' st' => p1 σ' W1 H1 A' st'
end
end B
end
section
set_option Elab.async false
set_option linter.all false
set_option maxRecDepth 100000
set_option maxHeartbeats 2000000
/-! t[::-1] of a tuple *-/
namespace HT
open PySem PySem.Spec PyProof.Rows L2
section
variable {prog : Program} {w : World} {A : Around} {E : Value → Shared → Prop} {s : Shared}
theorem places_rev (n : Nat) : Builtin.Slice.slicePlaces ((n : Int) - 1) (-1) (-1) = n := by
  unfold Builtin.Slice.slicePlaces
  have h1 : ¬ ((-1 : Int) > 0) := by omega
  simp only [h1, if_false]
  by_cases h : n = 0
  · subst h; simp
  · have h2 : ((n : Int) - 1) > -1 := by omega
    first
      | (simp only [h2, if_true]; omega)
      | (simp; omega)
theorem fm_congr {α β : Type} {f g : α → Option β} : ∀ l : List α, (∀ m ∈ l, f m = g m) → l.filterMap f = l.filterMap g
  | [], _ => rfl
  | a :: l, h => by
    rw [List.filterMap_cons, List.filterMap_cons, h a List.mem_cons_self, fm_congr l fun m hm => h m (List.mem_cons_of_mem _ hm)]
theorem pick_rev (xs : Array Value) : ((List.range xs.size).filterMap fun (m : Nat) => xs[(((xs.size : Int) - 1) + (m : Int) * (-1)).toNat]?).toArray = xs.toList.reverse.toArray := by
  have e : (List.range xs.size).filterMap (fun (m : Nat) => xs[(((xs.size : Int) - 1) + (m : Int) * (-1)).toNat]?) = ((List.range xs.size).map fun k => xs.size - 1 - k).filterMap fun m => xs[m]? := by
    rw [List.filterMap_map]
    refine fm_congr _ fun m hm => ?_
    have := List.mem_range.mp hm
    show xs[(((xs.size : Int) - 1) + (m : Int) * (-1)).toNat]? = xs[xs.size - 1 - m]?
    congr 1
    omega
  rw [e, PySem.W.krv_range, List.filterMap_reverse, PySem.W.krv_all]
theorem sliceApplied_rev {sl : Addr} {vs : Value} {n : Nat} {Q : Int × Int × Nat → Shared → Prop} (hs : s.heap.IsSliceOf sl .none .none vs) (ps : IsPart vs (some (-1)))
    (h : Q ((n : Int) - 1, -1, n) s) : wpAny (model prog w) A (Builtin.Slice.sliceApplied (.ref sl) (pure (n : Int))) Q E s := by
  obtain ⟨os, hos, hcs, hds⟩ := id hs
  unfold Builtin.Slice.sliceApplied Builtin.Slice.sliceFields
  refine wpAny_bind (wpAny_bind (wpAny_field hos hds (x := .none) rfl (wpAny_bind (wpAny_field hos hds (x := .none) rfl (wpAny_bind (wpAny_field hos hds (x := vs) rfl (wpAny_pure ?_)))))))
  refine wpAny_bind (slicePart_ ps ?_)
  show wpAny _ _ (if ((-1 : Int) == 0) = true then _ else _) _ _ s
  rw [if_neg (by decide)]
  refine wpAny_bind (slicePart_none (wpAny_bind (slicePart_none (wpAny_bind (wpAny_pure ?_)))))
  show wpAny _ _ (match Builtin.Slice.sliceAdjust none none (-1) (n : Int) with | (lo, hi) => pure (lo, (-1 : Int), Builtin.Slice.slicePlaces lo hi (-1))) _ _ s
  have e : Builtin.Slice.sliceAdjust none none (-1) (n : Int) = ((n : Int) - 1, -1) := by
    unfold Builtin.Slice.sliceAdjust
    simp
  rw [e]
  show wpAny _ _ (pure ((n : Int) - 1, (-1 : Int), Builtin.Slice.slicePlaces ((n : Int) - 1) (-1) (-1))) _ _ s
  rw [places_rev]
  exact wpAny_pure h
theorem getItem_tuple_rev {t sl : Addr} {items : Array Value} {vs : Value} {Q : Value → Shared → Prop} (ht : IsTup s.heap t items) (hs : s.heap.IsSliceOf sl .none .none vs) (ps : IsPart vs (some (-1)))
    (h : Q (.ref s.heap.objs.size) { s with heap := s.heap.push { cls := .type "tuple", data := .seq items.toList.reverse.toArray } })
    (hsz : items.size ≤ sizeLine) : wpAny (model prog w) A (getItem (.ref t) (.ref sl)) Q E s := by
  have htake : sizeOk (.seq items.toList.reverse.toArray) := by
    show items.toList.reverse.toArray.size ≤ sizeLine
    rw [List.size_toArray, List.length_reverse, Array.length_toList]
    exact hsz
  obtain ⟨os, hos, hcs, hds⟩ := id hs
  have hTs : s.TypeIs (.ref sl) "slice" := ⟨os, hos, hcs⟩
  unfold getItem
  try with_reducible refine wpAny_holding ?_
  first | refine wpAny_bind (wpAny_pure ?_) | skip
  refine wpAny_bind (wpAny_sequenceKey ht.typeIs (by decide) ?_)
  refine wpAny_bind (wpAny_callSpecial?_slot (name := Str.ofString "__getitem__") ht.typeIs PyProof.Rows.slot_tuple_getitem
    (wpAny_call_entry PyProof.Rows.slot_tuple_getitem ht.typeIs entry_tuple_getitem ?_ (args_tuple_getitem _ _)))
  show wpAny _ _ (Builtin.Tuple.tupleItemsOf (.ref t) >>= _) _ _ s
  refine wpAny_bind (tupleItemsOf_ ht ?_)
  refine wpAny_bind (wpAny_typeOf hTs ?_)
  rw [if_pos (by decide)]
  refine wpAny_bind (sliceApplied_rev (n := items.size) hs ps ?_)
  have hno : ¬ (((((items.size : Int) - 1)) == 0 && (-1 : Int) == 1 && items.size == items.size) = true) := by
    intro q
    rw [Bool.and_eq_true, Bool.and_eq_true] at q
    have q1 : (-1 : Int) = 1 := eq_of_beq q.1.2
    omega
  show wpAny _ _ (if ((((items.size : Int) - 1)) == 0 && (-1 : Int) == 1 && items.size == items.size) = true then _ else _) _ _ s
  rw [if_neg hno, pick_rev]
  first
    | exact wpAny_bind (m := Builtin.Tuple.tupleExact _) (wpAny_newObj_type (wpAny_pure ⟨_, rfl, wpAny_pure h⟩) htake)
    | exact wpAny_bind (m := Builtin.Tuple.tupleExact _) (wpAny_newObj_type (wpAny_bind (wpAny_pure (wpAny_pure ⟨_, rfl, wpAny_pure h⟩))) htake)
    | exact wpAny_bind (wpAny_bind (m := Builtin.Tuple.tupleExact _) (wpAny_newObj_type (wpAny_pure (wpAny_pure ⟨_, rfl, wpAny_pure h⟩)) htake))
    | exact wpAny_bind (wpAny_bind (m := Builtin.Tuple.tupleExact _) (wpAny_newObj_type (wpAny_pure ⟨_, rfl, wpAny_pure h⟩) htake))
end
end HT
namespace B
open PySem PySem.Spec PyProof.Rows L2
/-- x[::-1] of a list or a tuple -/
def tRevA (K : PySem.W.Frag) (te : TE) : TE := fun σ H Q => te σ H fun x H1 => ∃ a xs, x = .ref a ∧ ((SqL K H1 a xs ∧ ∀ p, H1 p = none → Q (.ref p) (upd H1 p (.lst xs.reverse))) ∨ (SqT K H1 a xs ∧ ∀ p, H1 p = none → Q (.ref p) (upd H1 p (.tup xs.reverse))))
theorem pe_revA {X : Cx} {e : Expr} {te : TE} {k : Nat} {p1 p2 p3 pos : Pos} (he : PE X e te) : PE X (.Subscript e (.Slice none none (some (.UnaryOp .USub (.Constant (.int 1) k p1) p2)) p3) pos) (tRevA X.K te) := by
  refine ⟨fun pins s σ H Q I h => ?_⟩
  refine Subscript_ (thn (he.run pins s σ H _ I h) fun v s1 ⟨x, H1, I1, r1, q1⟩ => ?_)
  obtain ⟨a, xs, ex, q⟩ := q1
  subst ex
  cases r1
  have hst : PO X (some (.UnaryOp .USub (.Constant (.int 1) k p1) p2)) (tPart (tUn (rU fun i => .int (-i)) (tC (.int 1)))) := po_some (pe_un un_neg pe_int)
  refine wpAny_Slice (thn (po_none.run pins s1 σ H1 (fun o H2 => o = none ∧ H2 = H1) I1 ⟨rfl, rfl⟩) fun vl s2 ⟨l, H2, I2, pl, el, e2⟩ => ?_)
  subst el e2
  refine thn (po_none.run pins s2 σ H2 (fun o H3 => o = none ∧ H3 = H2) I2 ⟨rfl, rfl⟩) fun vu s3 ⟨u, H3, I3, pu, eu, e3⟩ => ?_
  subst eu e3
  refine thn (hst.run pins s3 σ H3 (fun o H4 => o = some (-1) ∧ H4 = H3) I3 ⟨1, rfl, -1, rfl, rfl, rfl⟩) fun vs s4 ⟨o, H4, I4, ps, eo, e4⟩ => ?_
  subst eo e4
  have I5 : Inv X pins σ H4 { s4 with heap := s4.heap.push { cls := .type "slice", data := .fields #[vl, vu, vs] } } := I4.kept (t' := s4.toks) fun b ob q => Heap.get?_push_of_some _ q
  show wpAny (model X.prog X.w) X.A (subscriptTail e (.Slice none none (some (.UnaryOp .USub (.Constant (.int 1) k p1) p2)) p3) (.ref a) (.ref s4.heap.objs.size)) (EP X pins σ Q) X.xe { s4 with heap := s4.heap.push { cls := .type "slice", data := .fields #[vl, vu, vs] } }
  rcases q with ⟨hx, q⟩ | ⟨hx, q⟩
  · obtain ⟨its, r, ht, hz⟩ := I5.list hx
    have hlen := r.length
    refine tail_any (ops := [.ref a, .ref s4.heap.objs.size]) ht.isList.typeIs (PySem.slot_list_getitem.lookup) ?_ (by with_unfolding_all rfl)
    refine wpAny_getItem_list_slice ht.isList (Heap.IsSliceOf.new _ vl vu vs) pl pu ps (by decide) ?_ (by rw [List.size_toArray]; omega)
    rw [PySem.W.krv_pick]
    refine ⟨.ref _, _, I5.laid (t' := s4.toks) (o := .lst xs.reverse) (fun b ob q => Heap.get?_push_of_some _ q) (Nat.le_refl _) ?_, rfl, q _ (I5.hok.fresh (Nat.le_refl _))⟩
    exact ⟨by rw [List.length_reverse]; exact hz, _, 0, r.reverse, Heap.get?_push_size _ rfl⟩
  · obtain ⟨its, r, ht, hz⟩ := I5.tuple hx
    have hlen := r.length
    cases pl
    cases pu
    refine tail_any (ops := [.ref a, .ref s4.heap.objs.size]) ht.typeIs (PyProof.Rows.slot_tuple_getitem.lookup) ?_ (by with_unfolding_all rfl)
    refine HT.getItem_tuple_rev ht (Heap.IsSliceOf.new _ .none .none vs) ps ?_ (by rw [List.size_toArray]; omega)
    refine ⟨.ref _, _, I5.laid (t' := s4.toks) (o := .tup xs.reverse) (fun b ob q => Heap.get?_push_of_some _ q) (Nat.le_refl _) ?_, rfl, q _ (I5.hok.fresh (Nat.le_refl _))⟩
    exact ⟨by rw [List.length_reverse]; exact hz, _, r.reverse, _, Heap.get?_push_size _ rfl, rfl, _, rfl⟩
end B
end
section
set_option Elab.async false
set_option linter.all false
set_option maxRecDepth 100000
set_option maxHeartbeats 1000000
/-! sorted(..) of data that can be compared place by place -/
namespace B
open PySem PySem.Spec PyProof.Rows L2
def srtK (d : D) : List (Int ⊕ List Nat) := PySem.W.keyToks (pd d)
def sortL (l : List D) : List D := l.mergeSort (PySem.W.sortLe (PyProof.Rows.listOrd PyProof.Rows.itemOrd) false srtK)
def tupNE : D → Bool
  | .tup (_ :: _) => true
  | _ => false
def notNT : D → Bool
  | .non => false
  | .tup _ => false
  | _ => true
def sortOk (l : List D) : Bool := l.all (fun a => isData a && decide ((pd a).depth ≤ 32)) && ((l.all fun a => l.all fun b => PySem.W.alike (pd a) (pd b)) && (l.all tupNE || l.all notNT))
/-- the items of a list -/
def lstD (h : List Ob) : D → Option (List D)
  | .lst l => some l
  | .rdl l => some l
  | .ref n => (match h[n]? with
    | some (.lst l) => some l
    | _ => none)
  | _ => none
def sortC (h : List Ob) : List D → Option D
  | [x] => (lstD h x).bind fun l => if sortOk l then some (.lst (sortL l)) else none
  | _ => none
theorem rel_lst {K : PySem.W.Frag} {W : Wd} {s : S} {σ : L2.St} {H : Hp} {v : V} {d : D} {l : List D} (A : Abs K W s σ H) (r : RelW K W s H v d) (h : lstD s.h d = some l) :
    ∃ a vs, v = .ref a ∧ SqL K H a vs ∧ vs.length ≤ sizeLine ∧ RelsW K W s H vs l := by
  cases r with
  | lst m e z q => cases h; exact ⟨_, _, rfl, SqL.of e, z, q⟩
  | @ref k hk =>
    simp only [lstD] at h
    split at h
    · rename_i l' e
      cases h
      obtain ⟨vs, e1, z, q⟩ := A.hp k _ e
      exact ⟨_, _, rfl, SqL.of e1, z, q⟩
    · cases h
  | rdl t z q => cases h; exact ⟨_, _, rfl, t.sq, z, q⟩
  | _ => cases h
theorem pds_mem {l : List D} {p : PyData} : p ∈ pds l → ∃ d ∈ l, p = pd d := by
  induction l with
  | nil => intro h; cases h
  | cons a l ih =>
    intro h
    simp only [pds, List.mem_cons] at h
    rcases h with rfl | h
    · exact ⟨a, List.mem_cons_self, rfl⟩
    · obtain ⟨d, hd, e⟩ := ih h
      exact ⟨d, List.mem_cons_of_mem _ hd, e⟩
theorem mem_pds {l : List D} {d : D} (h : d ∈ l) : pd d ∈ pds l := by
  induction l with
  | nil => cases h
  | cons a l ih =>
    simp only [pds, List.mem_cons]
    rcases List.mem_cons.mp h with rfl | h
    · exact .inl rfl
    · exact .inr (ih h)
section
variable {X : Cx}
/-- the new list is laid -/
def rSort (K : PySem.W.Frag) : List V → Hp → VK → Prop := fun vs H Q => ∃ W s σ v d l, vs = [v] ∧ Abs K W s σ H ∧ RelW K W s H v d ∧ lstD s.h d = some l ∧ sortOk l = true ∧ ∀ p ws, H p = none → RelsW K W s H ws (sortL l) → ws.length ≤ sizeLine → Q (.ref p) (upd H p (.lst ws))
theorem c_sortR (hu : X.A.units + 64 < cLine) : CallR X (.builtin "sorted") (rSort X.K) := by
  intro pins s σ H xs us Q I r h
  obtain ⟨W, s1, σ1, v, d, l, rfl, A, q1, e1, hok, f⟩ := h
  · · 
      obtain ⟨a, vs, rfl, hq, z, q2⟩ := rel_lst A q1 e1
      simp only [sortOk, Bool.and_eq_true, Bool.or_eq_true, List.all_eq_true, decide_eq_true_eq] at hok
      obtain ⟨h1, h2, h3⟩ := hok
      rw [Vals.ref1 r]
      obtain ⟨its, rv, hl, hz⟩ := I.list hq
      have each : ∀ {vs : List V} {its : List Value} {l' : List D}, (∀ d ∈ l', d ∈ l) → RelsW X.K W s1 H vs l' → Vals vs its → PySem.W.EachIs (fun u d => d ∈ l ∧ (∃ v, RelV v u ∧ RelW X.K W s1 H v d) ∧ ∃ as, Reads s.heap u (pd d) as) its l' := by
        intro vs its l' hm rr rv
        induction rv generalizing l' with
        | nil => cases rr; exact .nil
        | cons ru _ ih =>
          cases rr with
          | cons ra rr =>
            have hd := hm _ List.mem_cons_self
            exact .cons ⟨hd, ⟨_, ru, ra⟩, Dp.reads I _ _ _ (ra.dp (h1 _ hd).1) ru⟩ (ih (fun d hd => hm d (List.mem_cons_of_mem _ hd)) rr)
      have E := each (fun d hd => hd) q2 rv
      have hal : PySem.W.AllAlike (pds l) := fun p hp p' hp' => by
        obtain ⟨d, hd, rfl⟩ := pds_mem hp
        obtain ⟨d', hd', rfl⟩ := pds_mem hp'
        exact h2 d hd d' hd'
      have hso : PySem.W.Sortable (pds l) := by
        rcases h3 with h3 | h3
        · refine .inl fun p hp => ?_
          obtain ⟨d, hd, rfl⟩ := pds_mem hp
          have := h3 d hd
          unfold tupNE at this
          split at this
          · exact ⟨_, _, rfl⟩
          · cases this
        · refine .inr fun p hp => ?_
          obtain ⟨d, hd, rfl⟩ := pds_mem hp
          have := h3 d hd
          have hd1 := (h1 d hd).1
          cases d <;> first | (cases this; done) | (cases hd1; done) | exact ⟨(fun z => by cases z), fun _ z => by cases z⟩
      have E2 : PySem.W.EachIs (fun u p => ∃ as, Reads s.heap u p as) its (pds l) := by
        have : ∀ {its : List Value} {l' : List D}, PySem.W.EachIs (fun u d => d ∈ l ∧ (∃ v, RelV v u ∧ RelW X.K W s1 H v d) ∧ ∃ as, Reads s.heap u (pd d) as) its l' → PySem.W.EachIs (fun u p => ∃ as, Reads s.heap u p as) its (pds l') := fun e => by
          induction e with
          | nil => exact .nil
          | cons h _ ih => exact .cons h.2.2 ih
        exact this E
      have keep : ∀ b o, s.heap.get? b = some o → (PySem.W.sortingHeap (PySem.W.copyHeap s.heap its) (s.heap.objs.size + 1) its).get? b = some o := fun b o e => PySem.W.sorting_copy_old e
      have E3 : PySem.W.EachIs (fun u p => ∃ as, Reads (PySem.W.sortingHeap (PySem.W.copyHeap s.heap its) (s.heap.objs.size + 1) its) u p as) its (pds l) := E2.mono fun u p ⟨as, r⟩ => ⟨as, Reads.keeps keep r⟩
      have hun : ∀ p, p ∈ pds l → X.A.in1.in1.units + p.depth < cLine := fun p hp => by
        obtain ⟨d, hd, rfl⟩ := pds_mem hp
        have := (h1 d hd).2
        show X.A.units + 1 + 1 + _ < cLine
        omega
      have S := PySem.W.SortsAt.data (prog := X.prog) (w := X.w) (A := X.A.in1.in1) (s := { s with heap := PySem.W.sortingHeap (PySem.W.copyHeap s.heap its) (s.heap.objs.size + 1) its }) E3 hal hso hun
      refine PySem.W.sorted_vals hl.isList S (by rw [← rv.length]; exact hz) ?_
      obtain ⟨ep, he'⟩ := PyProof.Rows.sortedAll_at s.heap its (PySem.W.sortVals (PySem.W.dataKind (PySem.W.sortingHeap (PySem.W.copyHeap s.heap its) (s.heap.objs.size + 1) its) (pds l)) false its its).toArray
      have O := PySem.W.sortVals_each (κ := PySem.W.dataKind (PySem.W.sortingHeap (PySem.W.copyHeap s.heap its) (s.heap.objs.size + 1) its) (pds l)) (rev := false) (ks := its) srtK E (E.mono fun u d ⟨hd, _, as, r⟩ => PySem.W.dataKind_some hal (mem_pds hd) (Reads.keeps keep r))
      have back : ∀ {out : List Value} {l' : List D}, PySem.W.EachIs (fun u d => d ∈ l ∧ (∃ v, RelV v u ∧ RelW X.K W s1 H v d) ∧ ∃ as, Reads s.heap u (pd d) as) out l' → ∃ ws, Vals ws out ∧ RelsW X.K W s1 H ws l' := fun e => by
        induction e with
        | nil => exact ⟨[], .nil, .nil⟩
        | cons h _ ih =>
          obtain ⟨_, ⟨v, r1, r2⟩, _⟩ := h
          obtain ⟨ws, r3, r4⟩ := ih
          exact ⟨v :: ws, .cons r1 r3, .cons r2 r4⟩
      obtain ⟨ws, k1, k2⟩ := back O
      have hlen : ws.length ≤ sizeLine := by
        rw [k2.length, List.length_mergeSort, ← q2.length]
        exact z
      exact ⟨.ref _, upd H (s.heap.objs.size + 1) (.lst ws), I.laid (t' := s.toks) (fun _ _ => PyProof.Rows.sortedAll_old) (Nat.le_succ _) ⟨hlen, _, ep, k1, he'⟩, rfl, f _ ws (I.hok.fresh (Nat.le_succ _)) k2 hlen⟩
theorem c_sorted (hu : X.A.units + 64 < cLine) : CallR X (.builtin "sorted") (rC X.K sortC) := by
  intro pins s σ H xs us Q I r h
  obtain ⟨W, s1, σ1, ds, d, A, q, e, f⟩ := h
  unfold sortC at e
  split at e
  · obtain ⟨l, e1, e2⟩ := Option.bind_eq_some_iff.mp e
    split at e2
    · rename_i hok
      cases e2
      obtain ⟨v, rfl, q1⟩ := rels1 q
      exact c_sortR hu pins s σ H _ us Q I r ⟨W, s1, σ1, v, _, l, rfl, A, q1, e1, hok, fun p ws hp k2 hz => f.lst A k2 hz p hp⟩
    · cases e2
  · cases e
end
end B
end
section
set_option Elab.async false
set_option linter.all false
set_option maxRecDepth 100000
set_option maxHeartbeats 1000000
namespace B
open PySem PySem.Spec PyProof.Rows L2
/-- an iterator that yields the items ds, as long as what stands still stands -/
def Src (K : PySem.W.Frag) : Wd → S → Hp → It → List D → Prop := fun W s H J ds => ds.length ≤ sizeLine ∧ ∀ W' s' σ' H', Abs K W' s' σ' H' → Fzn W s H W' s' H' → ∀ i : Nat, (ds.length ≤ i → J.stop i H') ∧
  ∀ d, ds[i]? = some d → J.go i H' ∧ ∀ x H'', J.yld i H' x H'' → Abs K W' s' σ' H'' ∧ Stp W' s' H' W' s' H'' ∧ RelW K W' s' H'' x d
abbrev tJ (K : PySem.W.Frag) (Wx : WX) (ρ : Fns) (f : IL) : TI := tG K Wx ρ (Src K) f
section
variable {K : PySem.W.Frag} {W : Wd} {s : S} {H : Hp}
theorem src_list {a : Addr} {ds : List D} (r : RelW K W s H (.ref a) (.lst ds)) : Src K W s H (Itl K a) ds := ⟨by cases r with | lst m e z q => rw [← q.length]; exact z, fun W' s' σ' H' A' st i => by
  have r' := st.rel r
  cases r' with
  | lst m e z q =>
    refine ⟨fun h => ⟨_, SqL.of e, by rw [q.length]; exact h⟩, fun d h => ?_⟩
    obtain ⟨v, h1, q1⟩ := q.get h
    refine ⟨⟨_, v, SqL.of e, h1⟩, fun x H'' y => ?_⟩
    obtain ⟨rfl, y⟩ := y
    have := y _ (SqL.of e)
    rw [h1] at this
    cases this
    exact ⟨A', .refl, q1⟩⟩
theorem src_tup {a : Addr} {ds : List D} (r : RelW K W s H (.ref a) (.tup ds)) : Src K W s H (Itt K a) ds := ⟨by cases r with | tup t z q => rw [← q.length]; exact z, fun W' s' σ' H' A' st i => by
  have r' := st.rel r
  cases r' with
  | tup t z q =>
    refine ⟨fun h => ⟨_, t.sq, by rw [q.length]; exact h⟩, fun d h => ?_⟩
    obtain ⟨v, h1, q1⟩ := q.get h
    refine ⟨⟨_, v, t.sq, h1⟩, fun x H'' y => ?_⟩
    obtain ⟨rfl, y⟩ := y
    have := y _ t.sq
    rw [h1] at this
    cases this
    exact ⟨A', .refl, q1⟩⟩
theorem src_str {l : List Nat} (hz : l.length ≤ sizeLine) : Src K W s H (Its ⟨l.toArray⟩) (l.map fun c => D.str [c]) := ⟨by simpa using hz, fun W' s' σ' H' A' st i => by
  refine ⟨fun h => by simpa [Its] using h, fun d h => ?_⟩
  rw [List.getElem?_map] at h
  obtain ⟨c, h1, rfl⟩ := Option.map_eq_some_iff.mp h
  refine ⟨by simpa [Its] using (List.getElem?_eq_some_iff.mp h1).1, fun x H'' y => ?_⟩
  obtain ⟨rfl, c', h2, rfl⟩ := y
  have h2 : l.toArray[i]? = some c' := h2
  rw [List.getElem?_toArray, h1] at h2
  cases h2
  exact ⟨A', .refl, .str [c] (by show 1 ≤ sizeLine; decide)⟩⟩
theorem src_range {lo : Int} {n : Nat} (hz : n ≤ sizeLine) : Src K W s H (Itr lo n) ((List.range n).map fun (k : Nat) => D.int (lo + (k : Int))) := ⟨by simpa using hz, fun W' s' σ' H' A' st i => by
  refine ⟨fun h => by simpa [Itr] using h, fun d h => ?_⟩
  rw [List.getElem?_map] at h
  obtain ⟨c, h1, rfl⟩ := Option.map_eq_some_iff.mp h
  have hi : i < n := by simpa using (List.getElem?_eq_some_iff.mp h1).1
  have hc : c = i := by
    rw [List.getElem?_range hi] at h1
    cases h1; rfl
  subst hc
  refine ⟨hi, fun x H'' y => ?_⟩
  obtain ⟨rfl, rfl⟩ := y
  exact ⟨A', .refl, .int _⟩⟩
/-- a pair laid -/
theorem laid_pair {W' : Wd} {s' : S} {σ' : L2.St} {H' : Hp} {T : Addr} {x y : V} {d e : D} (A : Abs K W' s' σ' H') (hT : H' T = none) (r1 : RelW K W' s' H' x d) (r2 : RelW K W' s' H' y e) :
    Abs K W' s' σ' (upd H' T (.tup [x, y])) ∧ Stp W' s' H' W' s' (upd H' T (.tup [x, y])) ∧ RelW K W' s' (upd H' T (.tup [x, y])) (.ref T) (.tup [d, e]) :=
  ⟨A.laid hT, .laid hT, .tup (.inl ⟨A.fresh hT, upd_same⟩) (by show 2 ≤ sizeLine; decide) (.cons ((Stp.laid hT).rel r1) (.cons ((Stp.laid hT).rel r2) .nil))⟩
theorem zip_get {α β : Type} {l : List α} {r : List β} {i : Nat} {p : α × β} (h : (l.zip r)[i]? = some p) : l[i]? = some p.1 ∧ r[i]? = some p.2 := by
  rw [List.getElem?_zip_eq_some] at h
  exact h
theorem src_zipL {a b : Addr} {ds es : List D} (r : RelW K W s H (.ref a) (.lst ds)) (q : RelW K W s H (.ref b) (.lst es)) : Src K W s H (Itz K a b) ((ds.zip es).map pairD) := ⟨by cases r with | lst m e z q => rw [List.length_map, List.length_zip]; have := q.length; omega, fun W' s' σ' H' A' st i => by
  have r' := st.rel r
  have q' := st.rel q
  cases r' with
  | lst m e z r1 =>
    cases q' with
    | lst m2 e2 z2 r2 =>
      have l1 := r1.length
      have l2 := r2.length
      refine ⟨fun h => ⟨_, _, SqL.of e, SqL.of e2, ?_⟩, fun d h => ?_⟩
      · simp only [List.length_map, List.length_zip] at h
        omega
      · rw [List.getElem?_map] at h
        obtain ⟨p, h1, rfl⟩ := Option.map_eq_some_iff.mp h
        obtain ⟨h2, h3⟩ := zip_get h1
        obtain ⟨v, e3, t1⟩ := r1.get h2
        obtain ⟨w, e4, t2⟩ := r2.get h3
        refine ⟨⟨_, _, v, w, SqL.of e, SqL.of e2, e3, e4⟩, fun x H'' y => ?_⟩
        obtain ⟨T, x1, y1, rfl, hT, rfl, y2, y3⟩ := y
        have g1 := y2 _ (SqL.of e)
        have g2 := y3 _ (SqL.of e2)
        rw [e3] at g1
        rw [e4] at g2
        cases g1
        cases g2
        exact laid_pair A' hT t1 t2⟩
theorem src_zipT {a b : Addr} {ds es : List D} (r : RelW K W s H (.ref a) (.tup ds)) (q : RelW K W s H (.ref b) (.tup es)) : Src K W s H (RZ.ItzT K a b) ((ds.zip es).map pairD) := ⟨by cases r with | tup e z q => rw [List.length_map, List.length_zip]; have := q.length; omega, fun W' s' σ' H' A' st i => by
  have r' := st.rel r
  have q' := st.rel q
  cases r' with
  | tup e z r1 =>
    cases q' with
    | tup e2 z2 r2 =>
      have l1 := r1.length
      have l2 := r2.length
      refine ⟨fun h => ⟨_, _, e.sq, e2.sq, ?_⟩, fun d h => ?_⟩
      · simp only [List.length_map, List.length_zip] at h
        omega
      · rw [List.getElem?_map] at h
        obtain ⟨p, h1, rfl⟩ := Option.map_eq_some_iff.mp h
        obtain ⟨h2, h3⟩ := zip_get h1
        obtain ⟨v, e3, t1⟩ := r1.get h2
        obtain ⟨w, e4, t2⟩ := r2.get h3
        refine ⟨⟨_, _, v, w, e.sq, e2.sq, e3, e4⟩, fun x H'' y => ?_⟩
        obtain ⟨T, x1, y1, rfl, hT, rfl, y2, y3⟩ := y
        have g1 := y2 _ e.sq
        have g2 := y3 _ e2.sq
        rw [e3] at g1
        rw [e4] at g2
        cases g1
        cases g2
        exact laid_pair A' hT t1 t2⟩
theorem src_enum {a : Addr} {ds : List D} (r : RelW K W s H (.ref a) (.lst ds)) : Src K W s H (Ite K a) (ds.zipIdx.map numD) := ⟨by cases r with | lst m e z q => rw [List.length_map, List.length_zipIdx]; have := q.length; omega, fun W' s' σ' H' A' st i => by
  have r' := st.rel r
  cases r' with
  | lst m e z r1 =>
    have l1 := r1.length
    refine ⟨fun h => ⟨_, SqL.of e, ?_⟩, fun d h => ?_⟩
    · simp only [List.length_map, List.length_zipIdx] at h
      omega
    · rw [List.getElem?_map] at h
      obtain ⟨p, h1, rfl⟩ := Option.map_eq_some_iff.mp h
      rw [List.getElem?_zipIdx] at h1
      obtain ⟨q, h2, rfl⟩ := Option.map_eq_some_iff.mp h1
      obtain ⟨v, e3, t1⟩ := r1.get h2
      refine ⟨⟨_, v, SqL.of e, e3⟩, fun x H'' y => ?_⟩
      obtain ⟨T, x1, rfl, hT, rfl, y2⟩ := y
      have g1 := y2 _ (SqL.of e)
      rw [e3] at g1
      cases g1
      have := laid_pair (d := .int (i : Int)) A' hT (.int _) t1
      simpa [numD] using this⟩
end
section
variable {X : Cx} {Wx : WX} {ρ : Fns} {tg a b c e : Expr} {es : List Expr} {fa fb fc : I} {fl : IL} {pos : Pos}
theorem PIi {w w' : TI} (h : PI X tg e w) (i : ∀ σ H R, w' σ H R → w σ H R) : PI X tg e w' := ⟨fun pins s σ H R I q => h.run pins s σ H R I (i σ H R q)⟩
theorem PIor {w w' : TI} (h : PI X tg e w) (h' : PI X tg e w') : PI X tg e (fun σ H R => w σ H R ∨ w' σ H R) := ⟨fun pins s σ H R I q => q.elim (h.run pins s σ H R I) (h'.run pins s σ H R I)⟩
theorem w_seq (ha : PE X a (tE X.K Wx ρ fa)) : PI X tg a (tJ X.K Wx ρ (wSeq fa)) :=
  PIi (PIor (PIor (pi_list ha) (pi_tup ha)) (pi_str ha)) fun σ H Rk ⟨W, s, A, p⟩ => by
    have p0 := p
    simp only [wSeq] at p
    cases h : fa ρ s with
    | ok d s1 =>
      rw [h] at p
      cases d with
      | lst l =>
        refine .inl (.inl ⟨W, s, A, ?_⟩)
        rw [h]
        intro v W1 H1 A1 st r1
        have r2 := r1
        cases r1 with
        | lst m e z q => exact ⟨_, rfl, ⟨_, SqL.of e⟩, p _ W1 H1 A1 st (src_list r2)⟩
      | tup l =>
        refine .inl (.inr ⟨W, s, A, ?_⟩)
        rw [h]
        intro v W1 H1 A1 st r1
        have r2 := r1
        cases r1 with
        | tup t z q => exact ⟨_, rfl, ⟨_, t.sq⟩, p _ W1 H1 A1 st (src_tup r2)⟩
      | str l =>
        refine .inr ⟨W, s, A, ?_⟩
        rw [h]
        intro v W1 H1 A1 st r1
        cases r1 with
        | str _ z => exact ⟨_, rfl, p _ W1 H1 A1 st (src_str z)⟩
      | _ => exact p.elim
    | ex x s1 =>
      rw [h] at p
      refine .inl (.inl ⟨W, s, A, ?_⟩)
      rw [h]
      exact p
    | bad => rw [h] at p; exact p.elim
theorem w_range1 {p : Pos} (hg : Gl X "range") (hm : X.mg "range" = none) (ha : PA X [a] (tA X.K Wx ρ fl)) (hs : starEach [a] X.env = [(false, eval a X.env)]) (hl : ∀ s ds s', fl ρ s = .ok ds s' → ds.length = 1) : PI X tg (.Call (.Name "range" p) [a] [] pos) (tJ X.K Wx ρ (wRange fl)) :=
  PIi (pi_range1 hg hm ha hs) fun σ H Rk ⟨W, s, A, p⟩ => by
    refine ⟨W, s, A, ?_⟩
    simp only [wRange] at p
    cases h : fl ρ s with
    | ok ds s1 =>
      rw [h] at p
      have h1 := hl s ds s1 h
      intro vs W1 H1 A1 st r1
      match ds, h1, p, r1 with
      | [d], _, p, r1 =>
        obtain ⟨v, rfl, q1⟩ := rels1 r1
        cases q1 with
        | int n =>
          simp only [R.bind] at p
          split at p
          · rename_i hz
            have := p (Itr 0 n.toNat) W1 H1 A1 st (by
              have := src_range (K := X.K) (W := W1) (s := s1) (H := H1) (lo := 0) (n := n.toNat) (by omega)
              simpa using this)
            exact ⟨n, rfl, hz.1, Int.lt_of_le_of_lt hz.2 (by decide), this⟩
          · exact p.elim
        | _ => exact p.elim
    | ex x s1 => rw [h] at p; exact p
    | bad => rw [h] at p; exact p
theorem w_range2 {p : Pos} (hg : Gl X "range") (hm : X.mg "range" = none) (ha : PA X [a, b] (tA X.K Wx ρ fl)) (hs : starEach [a, b] X.env = [(false, eval a X.env), (false, eval b X.env)]) (hs2 : starEach [b] X.env = [(false, eval b X.env)]) (hl : ∀ s ds s', fl ρ s = .ok ds s' → ds.length = 2) :
    PI X tg (.Call (.Name "range" p) [a, b] [] pos) (tJ X.K Wx ρ (wRange fl)) :=
  PIi (pi_range2 hg hm ha hs hs2) fun σ H Rk ⟨W, s, A, p⟩ => by
    refine ⟨W, s, A, ?_⟩
    simp only [wRange] at p
    cases h : fl ρ s with
    | ok ds s1 =>
      rw [h] at p
      have h1 := hl s ds s1 h
      intro vs W1 H1 A1 st r1
      match ds, h1, p, r1 with
      | [d, d'], _, p, r1 =>
        obtain ⟨v, v', rfl, q1, r2⟩ := rels2 r1
        cases q1 with
        | int n =>
          cases r2 with
          | int m =>
            simp only [R.bind] at p
            split at p
            · rename_i hz
              exact ⟨n, m, rfl, hz.1, p (Itr n (m - n).toNat) W1 H1 A1 st (src_range (by omega))⟩
            · exact p.elim
          | _ => exact p.elim
        | _ => exact p.elim
    | ex x s1 => rw [h] at p; exact p
    | bad => rw [h] at p; exact p
theorem w_zip {p tpos : Pos} {elts : List Expr} {kk : Nat} (hg : Gl X "zip") (hm : X.mg "zip" = none) (ha : PA X [a, b] (tA X.K Wx ρ fl)) (hs : starEach [a, b] X.env = (false, eval a X.env) :: starEach [b] X.env) (hpl : (backTo pos (starEach [b] X.env)).any (·.1) = false) (hl : ∀ s ds s', fl ρ s = .ok ds s' → ds.length = 2) :
    PI X (.Tuple elts kk tpos) (.Call (.Name "zip" p) [a, b] [] pos) (tJ X.K Wx ρ (wZip fl)) :=
  PIi (RZ.pi_zipA hg hm ha hs hpl) fun σ H Rk ⟨W, s, A, p⟩ => by
    refine ⟨W, s, A, ?_⟩
    simp only [wZip] at p
    cases h : fl ρ s with
    | ok ds s1 =>
      rw [h] at p
      have h1 := hl s ds s1 h
      intro vs W1 H1 A1 st r1
      match ds, h1, p, r1 with
      | [d, d'], _, p, r1 =>
        obtain ⟨v, v', rfl, q1, r2⟩ := rels2 r1
        have r1' := q1
        have r2' := r2
        cases q1 with
        | lst m e z q =>
          cases r2 with
          | lst m2 e2 z2 q2 => exact ⟨_, _, _, _, rfl, .inl ⟨SqL.of e, SqL.of e2, p _ W1 H1 A1 st (src_zipL r1' r2')⟩⟩
          | _ => exact p.elim
        | tup e z q =>
          cases r2 with
          | tup e2 z2 q2 => exact ⟨_, _, _, _, rfl, .inr ⟨e.sq, e2.sq, p _ W1 H1 A1 st (src_zipT r1' r2')⟩⟩
          | _ => exact p.elim
        | _ => exact p.elim
    | ex x s1 => rw [h] at p; exact p
    | bad => rw [h] at p; exact p
theorem w_enum {p tpos : Pos} {elts : List Expr} {kk : Nat} (hg : Gl X "enumerate") (hm : X.mg "enumerate" = none) (ha : PA X [a] (tA X.K Wx ρ fl)) (hs : starEach [a] X.env = [(false, eval a X.env)]) (hl : ∀ s ds s', fl ρ s = .ok ds s' → ds.length = 1) :
    PI X (.Tuple elts kk tpos) (.Call (.Name "enumerate" p) [a] [] pos) (tJ X.K Wx ρ (wEnum fl)) :=
  PIi (pi_enum hg hm ha hs) fun σ H Rk ⟨W, s, A, p⟩ => by
    refine ⟨W, s, A, ?_⟩
    simp only [wEnum] at p
    cases h : fl ρ s with
    | ok ds s1 =>
      rw [h] at p
      have h1 := hl s ds s1 h
      intro vs W1 H1 A1 st r1
      match ds, h1, p, r1 with
      | [d], _, p, r1 =>
        obtain ⟨v, rfl, q1⟩ := rels1 r1
        have r1' := q1
        cases q1 with
        | lst m e z q => exact ⟨_, _, rfl, SqL.of e, p _ W1 H1 A1 st (src_enum r1')⟩
        | _ => exact p.elim
    | ex x s1 => rw [h] at p; exact p
    | bad => rw [h] at p; exact p
/-! ### for -/
theorem s_for {iter : Expr} {body : List Stmt} {fw : IL} {g : IG} {gt : TG} {fb : IS} (hp : PassesOwn (model X.prog X.w) X.A X.env X.xe) (hc : X.calm = true) (hi : PI X tg iter (tJ X.K Wx ρ fw)) (hg : PG X tg gt) (gk : GOk X.K g gt) (hb : PSs X body (tS X.K Wx ρ fb))
    (hs : ∀ x, foldedSetIterable iter X.env x = pure x) : PS X (.For tg iter body [] pos) (tS X.K Wx ρ (sFor fw g fb)) :=
  PSi (ps_for hp hc hi hg hb hs) fun D σ H ⟨W, s, A, p⟩ => goS A p fun J ds W1 s1 H1 src A1 st1 p1 => by
    refine ⟨fun i m σ' H' => ∃ W' s', m = ds.length - i ∧ i ≤ ds.length ∧ Abs X.K W' s' σ' H' ∧ Stp W1 s1 H1 W' s' H' ∧ PostS X.K W' s' H' Wx D (forL g fb ρ (ds.drop i) s'), ⟨ds.length, W1, s1, rfl, Nat.zero_le _, A1, .refl, by simpa using p1⟩, ?_⟩
    rintro i m σ' H' ⟨W', s', rfl, hi, A', st', p'⟩
    by_cases hlt : i < ds.length
    · refine .inr ?_
      have hd : ds[i]? = some ds[i] := by simp [hlt]
      obtain ⟨hgo, hy⟩ := (src.2 W' s' σ' H' A' st'.fzn i).2 _ hd
      refine ⟨hgo, fun σ2 H2 => ∃ W2 s2, i + 1 ≤ ds.length ∧ Abs X.K W2 s2 σ2 H2 ∧ Stp W1 s1 H1 W2 s2 H2 ∧ PostS X.K W2 s2 H2 Wx D (forL g fb ρ (ds.drop (i + 1)) s2), fun σ2 H2 ⟨W2, s2, h1, h2, h3, h4⟩ => ⟨ds.length - (i + 1), by omega, W2, s2, rfl, h1, h2, h3, h4⟩, fun x H'' y => ?_⟩
      obtain ⟨A2, st2, r2⟩ := hy x H'' y
      rw [List.drop_eq_getElem_cons hlt] at p'
      simp only [forL] at p'
      cases eg : g ds[i] s' with
      | none => rw [eg] at p'; exact p'.elim
      | some s2 =>
        rw [eg] at p'
        refine gk W' s' σ' H'' x _ s2 _ A2 r2 eg fun σ3 A3 st3 => ⟨W', s2, A3, ?_⟩
        have st4 : Stp W1 s1 H1 W' s2 H'' := (st'.trans st2).trans st3
        have p'' : PostS X.K W' s2 H'' Wx D ((fb ρ s2).bind fun f s2 => match f with
          | .nx => forL g fb ρ (ds.drop (i + 1)) s2
          | .ct => forL g fb ρ (ds.drop (i + 1)) s2
          | .bk => .ok .nx s2
          | .rt d => .ok (.rt d) s2) := PostS.later p' (st2.trans st3)
        cases eb : fb ρ s2 with
        | ok f s3 =>
          rw [eb] at p''
          cases f with
          | nx => exact fun σ5 W5 H5 A5 st5 => ⟨W5, s3, hlt, A5, st4.trans st5, PostS.later p'' st5⟩
          | ct => exact fun σ5 W5 H5 A5 st5 => ⟨W5, s3, hlt, A5, st4.trans st5, PostS.later p'' st5⟩
          | bk => exact p''
          | rt d => exact p''
        | ex x s3 => rw [eb] at p''; exact p''
        | bad => rw [eb] at p''; exact p''
    · have e : i = ds.length := by omega
      subst e
      refine .inl ⟨(src.2 W' s' σ' H' A' st'.fzn _).1 (Nat.le_refl _), ?_⟩
      rw [List.drop_length] at p'
      exact p' σ' W' H' A' .refl
end
end B
end
section
set_option Elab.async false
set_option linter.all false
set_option maxRecDepth 100000
set_option maxHeartbeats 1000000
namespace B
open PySem PySem.Spec PyProof.Rows L2
/-! ### slots wiped and put back -/
theorem wipeS_len (g : List Sl) : ∀ vs : List Nat, (wipeS g vs).length = g.length
  | [] => rfl
  | v :: vs => by rw [wipeS, List.length_set, wipeS_len g vs]
theorem wipeS_get {g : List Sl} {i : Nat} {x : Sl} : ∀ {vs : List Nat}, (wipeS g vs)[i]? = some x → (i ∈ vs ∧ x = .no) ∨ (i ∉ vs ∧ g[i]? = some x)
  | [], h => .inr ⟨by simp, h⟩
  | v :: vs, h => by
    rw [wipeS] at h
    rcases getElem?_set_some h with ⟨rfl, rfl⟩ | ⟨hne, h⟩
    · exact .inl ⟨by simp, rfl⟩
    · rcases wipeS_get h with ⟨h1, h2⟩ | ⟨h1, h2⟩
      · exact .inl ⟨by simp [h1], h2⟩
      · exact .inr ⟨by simp [h1, hne], h2⟩
theorem wipe_at {σ : L2.St} {i : Nat} : ∀ {vs : List Nat}, i ∉ vs → (wipe σ vs)[i]? = σ[i]?
  | [], _ => rfl
  | v :: vs, h => by
    simp only [List.mem_cons, not_or] at h
    rw [wipe, List.getElem?_set_ne (Ne.symm h.1), wipe_at h.2]
theorem backS_len (g' g : List Sl) : ∀ vs : List Nat, (backS g' g vs).length = g'.length
  | [] => rfl
  | v :: vs => by rw [backS, List.length_set, backS_len g' g vs]
theorem backS_get {g' g : List Sl} {i : Nat} {x : Sl} : ∀ {vs : List Nat}, (backS g' g vs)[i]? = some x → (i ∈ vs ∧ (x = .no ∨ ∃ d, x = .val d ∧ g[i]? = some (.val d))) ∨ (i ∉ vs ∧ g'[i]? = some x)
  | [], h => .inr ⟨by simp, h⟩
  | v :: vs, h => by
    rw [backS] at h
    rcases getElem?_set_some h with ⟨rfl, rfl⟩ | ⟨hne, h⟩
    · refine .inl ⟨by simp, ?_⟩
      split
      · rename_i d e
        exact .inr ⟨d, rfl, e⟩
      · exact .inl rfl
    · rcases backS_get h with ⟨h1, h2⟩ | ⟨h1, h2⟩
      · exact .inl ⟨by simp [h1], h2⟩
      · exact .inr ⟨by simp [h1, hne], h2⟩
section
variable {K : PySem.W.Frag} {W W' : Wd} {s s' : S} {σ : L2.St} {H H' : Hp} {vs : List Nat}
/-- the same with fewer slots -/
theorem Abs.wipe (A : Abs K W s σ H) : Abs K W ⟨wipeS s.g vs, s.h⟩ (L2.wipe σ vs) H ∧ Stp W s H W ⟨wipeS s.g vs, s.h⟩ H := by
  have back : ∀ (j : Nat) (d' : D), (wipeS s.g vs)[j]? = some (.own d') → j ∉ vs ∧ s.g[j]? = some (.own d') := fun j d' h => by
    rcases wipeS_get h with ⟨_, z⟩ | z
    · cases z
    · exact z
  have sub : ∀ a, MW W ⟨wipeS s.g vs, s.h⟩ a → MW W s a := fun a m => by
    rcases m with m | m | ⟨j, d', h, z⟩
    · exact .inl m
    · exact .inr (.inl m)
    · exact .inr (.inr ⟨j, d', (back j d' h).2, z⟩)
  have st : Stp W s H W ⟨wipeS s.g vs, s.h⟩ H := ⟨rfl, fun _ _ => rfl, Nat.le_refl _, fun a o h m => ⟨h, fun m' => m (sub a m')⟩, fun _ _ _ h => h⟩
  refine ⟨⟨?_, fun j d' h => ?_, fun j d' h => ?_, fun k o h => (A.hp k o h).stp st rfl, A.inj, fun j k d1 d2 h1 h2 => A.injL j k d1 d2 (back _ _ h1).2 (back _ _ h2).2, fun k j d' hk h => A.sep k j d' hk (back _ _ h).2, A.pI, fun j d' h => A.pL j d' (back _ _ h).2, A.pS⟩, st⟩
  · show (wipeS s.g vs).length = _
    rw [wipeS_len, wipe_length]
    exact A.len
  · rcases wipeS_get h with ⟨_, z⟩ | ⟨hj, h⟩
    · cases z
    · obtain ⟨v, h1, r⟩ := A.val j d' h
      exact ⟨v, by rw [wipe_at hj]; exact h1, st.rel r⟩
  · obtain ⟨hj, h⟩ := back _ _ h
    obtain ⟨h1, r⟩ := A.own j d' h
    exact ⟨by rw [wipe_at hj]; exact h1, r.stp st rfl⟩
/-- something private is written -/
theorem Abs.poke {a : Addr} {o : HO} (A : Abs K W s σ H) (hP : W.P a) : Abs K W s σ (upd H a o) := by
  have st : ∀ b u, H b = some u → ¬ MW W s b → upd H a o b = some u ∧ ¬ MW W s b := fun b u e m => ⟨by rw [upd_ne (show b ≠ a from fun z => m (.inl (by rw [z]; exact hP)))]; exact e, m⟩
  have ne1 : ∀ k, k < s.h.length → W.ia k ≠ a := fun k hk z => A.pI k hk (z ▸ hP)
  have ne2 : ∀ (i : Nat) (d : D), s.g[i]? = some (.own d) → W.la i ≠ a := fun i d e z => A.pL i d e (z ▸ hP)
  have rl : ∀ {v : V} {d : D}, RelW K W s H v d → RelW K W s (upd H a o) v d := fun r => r.mono st (Nat.le_refl _) fun _ _ => rfl
  have rls : ∀ {v : List V} {d : List D}, RelsW K W s H v d → RelsW K W s (upd H a o) v d := fun r => r.mono st (Nat.le_refl _) fun _ _ => rfl
  refine ⟨A.len, fun i d e => ?_, fun i d e => ?_, fun k o' e => ?_, A.inj, A.injL, A.sep, A.pI, A.pL, fun b m => ?_⟩
  · obtain ⟨v, h1, r⟩ := A.val i d e
    exact ⟨v, h1, rl r⟩
  · obtain ⟨h1, r⟩ := A.own i d e
    refine ⟨h1, ?_⟩
    cases d with
    | lst ds => obtain ⟨vs, h, z, q⟩ := r; exact ⟨vs, by rw [upd_ne (ne2 i _ e)]; exact h, z, rls q⟩
    | _ => exact r.elim
  · have hk := (List.getElem?_eq_some_iff.mp e).1
    have := A.hp k o' e
    cases o' with
    | lst ds => obtain ⟨vs, h, z, q⟩ := this; exact ⟨vs, by rw [upd_ne (ne1 k hk)]; exact h, z, rls q⟩
    | ins c ns ds => obtain ⟨dx, vs, h, z, q⟩ := this; exact ⟨dx, vs, by rw [upd_ne (ne1 k hk)]; exact h, z, rls q⟩
  · by_cases hb : b = a
    · subst hb; exact ⟨o, upd_same⟩
    · obtain ⟨u, e⟩ := A.pS b m
      exact ⟨u, by rw [upd_ne hb]; exact e⟩
theorem RelsW.poke {a : Addr} {o : HO} (hP : W.P a) {v : List V} {d : List D} (r : RelsW K W s H v d) : RelsW K W s (upd H a o) v d := r.mono (fun b u e m => ⟨by rw [upd_ne (show b ≠ a from fun z => m (.inl (by rw [z]; exact hP)))]; exact e, m⟩) (Nat.le_refl _) fun _ _ => rfl
theorem RelW.poke {a : Addr} {o : HO} (hP : W.P a) {v : V} {d : D} (r : RelW K W s H v d) : RelW K W s (upd H a o) v d := r.mono (fun b u e m => ⟨by rw [upd_ne (show b ≠ a from fun z => m (.inl (by rw [z]; exact hP)))]; exact e, m⟩) (Nat.le_refl _) fun _ _ => rfl
/-- a private thing at L more -/
def Wd.priv (W : Wd) (L : Addr) : Wd := ⟨W.ia, W.la, fun a => W.P a ∨ a = L⟩
def Wd.unpriv (W : Wd) (P : MS) : Wd := ⟨W.ia, W.la, P⟩
theorem Abs.priv {L : Addr} {o : HO} (A : Abs K W s σ H) (hL : H L = none) : Abs K (W.priv L) s σ (upd H L o) := by
  have A1 := A.laid (o := o) hL
  have nM := A.fresh hL
  have sub : ∀ a, MW (W.priv L) s a → MW W s a ∨ a = L := fun a m => by
    rcases m with (m | m) | m | m
    · exact .inl (.inl m)
    · exact .inr m
    · exact .inl (.inr (.inl m))
    · exact .inl (.inr (.inr m))
  have rl : ∀ {v : V} {d : D}, RelW K W s H v d → RelW K (W.priv L) s (upd H L o) v d := fun r => r.mono (fun b u e m => ⟨by rw [upd_ne (ne_of_none e hL)]; exact e, fun z => (sub b z).elim m (ne_of_none e hL)⟩) (Nat.le_refl _) fun _ _ => rfl
  have rls : ∀ {v : List V} {d : List D}, RelsW K W s H v d → RelsW K (W.priv L) s (upd H L o) v d := fun r => r.mono (fun b u e m => ⟨by rw [upd_ne (ne_of_none e hL)]; exact e, fun z => (sub b z).elim m (ne_of_none e hL)⟩) (Nat.le_refl _) fun _ _ => rfl
  have neL : ∀ a, MW W s a → a ≠ L := fun a m z => nM (z ▸ m)
  refine ⟨A.len, fun i d e => ?_, fun i d e => ?_, fun k o' e => ?_, A.inj, A.injL, A.sep, fun k hk m => ?_, fun i d e m => ?_, fun b m => ?_⟩
  · obtain ⟨v, h1, r⟩ := A.val i d e
    exact ⟨v, h1, rl r⟩
  · obtain ⟨h1, r⟩ := A.own i d e
    refine ⟨h1, ?_⟩
    cases d with
    | lst ds => obtain ⟨vs, h, z, q⟩ := r; exact ⟨vs, by show upd H L o (W.la i) = _; rw [upd_ne (neL _ (.inr (.inr ⟨i, _, e, rfl⟩)))]; exact h, z, rls q⟩
    | _ => exact r.elim
  · have hk := (List.getElem?_eq_some_iff.mp e).1
    have ne := neL _ (.inr (.inl ⟨k, hk, rfl⟩))
    have := A.hp k o' e
    cases o' with
    | lst ds => obtain ⟨vs, h, z, q⟩ := this; exact ⟨vs, by show upd H L o (W.ia k) = _; rw [upd_ne ne]; exact h, z, rls q⟩
    | ins c ns ds => obtain ⟨dx, vs, h, z, q⟩ := this; exact ⟨dx, vs, by show upd H L o (W.ia k) = _; rw [upd_ne ne]; exact h, z, rls q⟩
  · rcases m with m | m
    · exact A.pI k hk m
    · exact neL _ (.inr (.inl ⟨k, hk, rfl⟩)) m
  · rcases m with m | m
    · exact A.pL i d e m
    · exact neL _ (.inr (.inr ⟨i, d, e, rfl⟩)) m
  · rcases m with m | m
    · obtain ⟨u, e⟩ := A.pS b m
      exact ⟨u, by rw [upd_ne (neL b (.inl m))]; exact e⟩
    · subst m; exact ⟨o, upd_same⟩
end
/-! ### targets of a block -/
theorem wipe_eq {σ σ2 : L2.St} {vs : List Nat} (hl : σ2.length = σ.length) (h : ∀ j, j ∉ vs → σ2[j]? = σ[j]?) : wipe σ2 vs = wipe σ vs := by
  refine List.ext_getElem? fun j => ?_
  by_cases hj : j ∈ vs
  · have key : ∀ (τ : L2.St) (vs : List Nat), j ∈ vs → (wipe τ vs)[j]? = if j < τ.length then some none else none := fun τ vs hj => by
      induction vs with
      | nil => simp at hj
      | cons v vs ih =>
        rw [wipe]
        by_cases hv : v = j
        · subst hv
          by_cases hl : v < τ.length
          · rw [List.getElem?_set_self (by rw [wipe_length]; exact hl), if_pos hl]
          · rw [if_neg hl, List.getElem?_eq_none (by rw [List.length_set, wipe_length]; omega)]
        · rw [List.getElem?_set_ne hv]
          exact ih (by simpa [Ne.symm hv] using hj)
    rw [key _ _ hj, key _ _ hj, hl]
  · rw [wipe_at hj, wipe_at hj, h j hj]
/-- a target that stores into vs alone -/
def GW (gt : TG) (vs : List Nat) : Prop := ∀ x (σ : L2.St) H (Q Q' : L2.St → Hp → Prop), (∀ σ2 H2, σ2.length = σ.length → (∀ j : Nat, j ∉ vs → σ2[j]? = σ[j]?) → Q σ2 H2 → Q' σ2 H2) → gt x σ H Q → gt x σ H Q'
theorem gw_v {i : Nat} {vs : List Nat} (h : i ∈ vs) : GW (gName i) vs := fun x σ H Q Q' m q => m _ _ (by simp) (fun j hj => List.getElem?_set_ne fun z => hj (by rw [← z]; exact h)) q
theorem gw_vs {vs : List Nat} : ∀ {is : List Nat}, (∀ i ∈ is, i ∈ vs) → ∀ xs (σ : L2.St) H (Q Q' : L2.St → Hp → Prop), (∀ σ2 H2, σ2.length = σ.length → (∀ j : Nat, j ∉ vs → σ2[j]? = σ[j]?) → Q σ2 H2 → Q' σ2 H2) → gNames is xs σ H Q → gNames is xs σ H Q'
  | [], h, xs, σ, H, Q, Q', m, ⟨e, q⟩ => ⟨e, m _ _ rfl (fun _ _ => rfl) q⟩
  | i :: is, h, xs, σ, H, Q, Q', m, ⟨v, r, e, q⟩ => ⟨v, r, e, gw_vs (fun j hj => h j (List.mem_cons_of_mem _ hj)) r (σ.set i (some v)) H Q Q' (fun σ2 H2 h1 h2 => m σ2 H2 (by simpa using h1) fun j hj => by
      rw [h2 j hj, List.getElem?_set_ne fun z => hj (by rw [← z]; exact h i List.mem_cons_self)]) q⟩
theorem gw_t {K : PySem.W.Frag} {vs is : List Nat} {n : Nat} (h : ∀ i ∈ is, i ∈ vs) : GW (gTup K n (gNames is)) vs := fun x σ H Q Q' m ⟨a, xs, e, hq, hl, q⟩ => ⟨a, xs, e, hq, hl, gw_vs h xs σ H Q Q' m q⟩
section
variable {X : Cx} {Wx : WX} {ρ : Fns} {tg a b c e elt iter : Expr} {ifs : List Expr} {es : List Expr} {fa fb fc : I} {fl : IL} {pos : Pos}
/-- the comprehension's loop -/
theorem comp_go {K : PySem.W.Frag} {g : IG} {gt : TG} {tt : IT} {fe : I} {vs : List Nat} {σ : L2.St} {H1 : Hp} {W1 : Wd} {s1 : S} {J : It} {ds ys : List D} {sE : S} {L : Addr} {Qd : Hp → Prop}
    (A1 : Abs K W1 s1 σ H1) (src : Src K W1 s1 H1 J ds) (gk : GOk K g gt) (hw : GW gt vs)
    (hL : H1 L = none) (hc : compL g tt fe vs ρ ds ⟨wipeS s1.g vs, s1.h⟩ = some (ys, sE))
    (hQ : ∀ W' H', Abs K W' ⟨backS sE.g s1.g vs, sE.h⟩ σ H' → Stp W1 s1 H1 W' ⟨backS sE.g s1.g vs, sE.h⟩ H' → RelW K W' ⟨backS sE.g s1.g vs, sE.h⟩ H' (.ref L) (.lst ys) → Qd H') :
    ∃ Wn : Nat → Nat → Hp → Prop, (∃ m, Wn 0 m (upd H1 L (.lst []))) ∧ ∀ i m H, Wn i m H → (J.stop i H ∧ Qd H) ∨ (J.go i H ∧ ∃ Nx : Hp → Prop, (∀ H', Nx H' → ∃ m', m' < m ∧ Wn (i + 1) m' H') ∧ ∀ x H', J.yld i H x H' → gt x (wipe σ vs) H' fun σ2 H2 => wipe σ2 vs = wipe σ vs ∧
      tT K (fun _ _ _ _ => False) ρ tt σ2 H2 fun b H3 => if b = true then tE K (fun _ _ _ _ => False) ρ fe σ2 H3 fun y H4 => ∃ acc, H4 L = some (.lst acc) ∧ acc.length < sizeLine ∧ Nx (upd H4 L (.lst (acc ++ [y]))) else Nx H3) := by
  have nP : ¬ W1.P L := fun m => A1.fresh hL (.inl m)
  have hds := src.1
  let Wn : Nat → Nat → Hp → Prop := fun i m H => ∃ W' s' acc yd yr, m = ds.length - i ∧ i ≤ ds.length ∧ W'.P = (fun a => W1.P a ∨ a = L) ∧ Abs K W' s' (wipe σ vs) H ∧ Fzn W1 s1 H1 W' s' H ∧ (∀ a o, W1.P a → H1 a = some o → H a = some o) ∧ H L = some (.lst acc) ∧ RelsW K W' s' H acc yd ∧ acc.length ≤ i ∧
    compL g tt fe vs ρ (ds.drop i) s' = some (yr, sE) ∧ ys = yd ++ yr
  refine ⟨Wn, ⟨ds.length, W1.priv L, ⟨wipeS s1.g vs, s1.h⟩, [], [], ys, rfl, Nat.zero_le _, rfl, (A1.wipe (vs := vs)).1.priv hL, ?_, fun a o _ e => by rw [upd_ne (ne_of_none e hL)]; exact e, upd_same, .nil, Nat.le_refl _, by simpa using hc, rfl⟩, ?_⟩
  · have st := (A1.wipe (vs := vs)).2
    refine ⟨st.ia, st.hl, fun a o e m => ⟨by rw [upd_ne (ne_of_none e hL)]; exact e, ?_⟩⟩
    have h2 := (st.fz a o e m).2
    rintro ((m' | m') | m')
    · exact h2 (.inl m')
    · exact ne_of_none e hL m'
    · exact h2 (.inr m')
  rintro i m H ⟨W', s', acc, yd, yr, rfl, hi, hP, A', fz', pr', hacc, ra, hal, hcl, hys⟩
  have PL : W'.P L := by rw [hP]; exact .inr rfl
  by_cases hlt : i < ds.length
  · refine .inr ?_
    have hd : ds[i]? = some ds[i] := by simp [hlt]
    obtain ⟨hgo, hy⟩ := (src.2 W' s' (wipe σ vs) H A' fz' i).2 _ hd
    refine ⟨hgo, Wn (i + 1) (ds.length - (i + 1)), fun H' h => ⟨ds.length - (i + 1), by omega, h⟩, fun x H'' y => ?_⟩
    obtain ⟨A2, st2, r2⟩ := hy x H'' y
    rw [List.drop_eq_getElem_cons hlt] at hcl
    simp only [compL] at hcl
    cases eg : g ds[i] s' with
    | none => rw [eg] at hcl; cases hcl
    | some s2 =>
      rw [eg] at hcl
      simp only at hcl
      -- what is carried over a step
      have carry : ∀ {W3 : Wd} {s3 : S} {H3 : Hp}, Stp W' s' H W3 s3 H3 → Fzn W1 s1 H1 W3 s3 H3 ∧ (∀ a o, W1.P a → H1 a = some o → H3 a = some o) ∧ H3 L = some (.lst acc) ∧ RelsW K W3 s3 H3 acc yd ∧ W3.P = (fun a => W1.P a ∨ a = L) := fun {W3 s3 H3} st =>
        ⟨fz'.trans st.fzn, fun a o p e => st.pr a o (by rw [hP]; exact .inl p) (pr' a o p e), st.pr L _ PL hacc, st.rels ra, st.P.trans hP⟩
      refine hw x (wipe σ vs) H'' _ _ (fun σ2 H2 l1 l2 q => ?_) (gk W' s' (wipe σ vs) H'' x _ s2 (fun σ2 H2 => Abs K W' s2 σ2 H2 ∧ Stp W' s' H W' s2 H2) A2 r2 eg fun σ3 A3 st3 => ⟨A3, st2.trans st3⟩)
      obtain ⟨A3, st3⟩ := q
      have ew : wipe σ2 vs = wipe σ vs := wipe_eq (by rw [l1, wipe_length]) fun j hj => by rw [l2 j hj, wipe_at hj]
      refine ⟨ew, W', s2, A3, ?_⟩
      -- the next turn's word
      have next : ∀ {W4 : Wd} {s4 : S} {H4 : Hp} {ac : List V} {yd' yr' : List D}, Stp W' s' H W4 s4 H4 → Abs K W4 s4 σ2 H4 → RelsW K W4 s4 H4 ac yd' → ac.length ≤ i + 1 → compL g tt fe vs ρ (ds.drop (i + 1)) ⟨wipeS s4.g vs, s4.h⟩ = some (yr', sE) → ys = yd' ++ yr' →
          Wn (i + 1) (ds.length - (i + 1)) (upd H4 L (.lst ac)) := fun {W4 s4 H4 ac yd' yr'} st A4 rr hl hcl hys => by
        obtain ⟨c1, c2, c3, c4, c5⟩ := carry st
        have PL4 : W4.P L := by rw [c5]; exact .inr rfl
        have w4 := A4.wipe (vs := vs)
        rw [ew] at w4
        refine ⟨W4, ⟨wipeS s4.g vs, s4.h⟩, ac, yd', yr', rfl, hlt, c5, w4.1.poke PL4, ?_, fun a o p e => by rw [upd_ne (ne_of_none e hL)]; exact c2 a o p e, upd_same, (w4.2.rels rr).poke PL4, hl, hcl, hys⟩
        have c6 := c1.trans w4.2.fzn
        exact ⟨c6.ia, c6.hl, fun a o e m => ⟨by rw [upd_ne (ne_of_none e hL)]; exact (c6.fz a o e m).1, (c6.fz a o e m).2⟩⟩
      cases ett : tt ρ s2 with
      | bad => rw [ett] at hcl; cases hcl
      | ex x s3 => rw [ett] at hcl; cases hcl
      | ok b s3 =>
        rw [ett] at hcl
        cases b with
        | true =>
          simp only at hcl
          cases efe : fe ρ s3 with
          | bad => rw [efe] at hcl; cases hcl
          | ex x s4 => rw [efe] at hcl; cases hcl
          | ok y s4 =>
            rw [efe] at hcl
            simp only at hcl
            cases ecl : compL g tt fe vs ρ (ds.drop (i + 1)) ⟨wipeS s4.g vs, s4.h⟩ with
            | none => rw [ecl] at hcl; cases hcl
            | some q =>
              obtain ⟨ys', s5⟩ := q
              rw [ecl] at hcl
              simp only [Option.some.injEq, Prod.mk.injEq] at hcl
              obtain ⟨rfl, rfl⟩ := hcl
              intro b W3 H3 A3' st3' hb
              cases hb
              rw [if_pos rfl]
              refine ⟨W3, s3, A3', ?_⟩
              rw [efe]
              intro v W4 H4 A4 st4 r4
              have st := (st3.trans st3').trans st4
              obtain ⟨c1, c2, c3, c4, c5⟩ := carry st
              refine ⟨acc, c3, by omega, next st A4 (c4.append (.cons r4 .nil)) (by rw [List.length_append]; simp; omega) ecl (by rw [hys]; simp)⟩
        | false =>
          simp only at hcl
          intro b W3 H3 A3' st3' hb
          cases hb
          rw [if_neg Bool.false_ne_true]
          have st := st3.trans st3'
          obtain ⟨c1, c2, c3, c4, c5⟩ := carry st
          have := next st A3' c4 (by omega) hcl hys
          have eq : upd H3 L (.lst acc) = H3 := by
            funext z
            by_cases hz : z = L
            · subst hz; rw [upd_same, c3]
            · rw [upd_ne hz]
          rw [eq] at this
          exact this
  · have ei : i = ds.length := by omega
    subst ei
    refine .inl ⟨(src.2 W' s' (wipe σ vs) H A' fz' _).1 (Nat.le_refl _), ?_⟩
    rw [List.drop_length] at hcl
    simp only [compL] at hcl
    cases hcl
    rw [List.append_nil] at hys
    subst hys
    have ownB : ∀ (j : Nat) (d' : D), (backS sE.g s1.g vs)[j]? = some (.own d') → j ∉ vs ∧ sE.g[j]? = some (.own d') := fun j d' h => by
      rcases backS_get h with ⟨_, z | ⟨_, z, _⟩⟩ | z
      · cases z
      · cases z
      · exact z
    have sub : ∀ a, MW ⟨W'.ia, W'.la, W1.P⟩ ⟨backS sE.g s1.g vs, sE.h⟩ a → MW W' sE a := fun a m => by
      rcases m with m | m | ⟨j, d', h, z⟩
      · exact .inl (by rw [hP]; exact .inl m)
      · exact .inr (.inl m)
      · exact .inr (.inr ⟨j, d', (ownB j d' h).2, z⟩)
    have fzB : Fzn W1 s1 H1 ⟨W'.ia, W'.la, W1.P⟩ ⟨backS sE.g s1.g vs, sE.h⟩ H := ⟨fz'.ia, fz'.hl, fun a o e m => ⟨(fz'.fz a o e m).1, fun z => (fz'.fz a o e m).2 (sub a z)⟩⟩
    refine hQ ⟨W'.ia, W'.la, W1.P⟩ H ⟨?_, fun j d h => ?_, fun j d h => ?_, fun k o h => ?_, A'.inj, fun j k d1 d2 h1 h2 => A'.injL j k d1 d2 (ownB _ _ h1).2 (ownB _ _ h2).2, fun k j d' hk h => A'.sep k j d' hk (ownB _ _ h).2, fun k hk m => A'.pI k hk (by rw [hP]; exact .inl m), fun j d' h m => A'.pL j d' (ownB _ _ h).2 (by rw [hP]; exact .inl m), fun a m => A'.pS a (by rw [hP]; exact .inl m)⟩
      ⟨rfl, fzB.ia, fzB.hl, fzB.fz, pr'⟩ (.lst ?_ hacc (by omega) (ra.cong sub))
    · show (backS sE.g s1.g vs).length = _
      rw [backS_len, A'.len, wipe_length]
    · rcases backS_get h with ⟨_, z | ⟨d', z, e⟩⟩ | ⟨hj, e⟩
      · cases z
      · cases z
        obtain ⟨v, h1, r⟩ := A1.val j _ e
        exact ⟨v, h1, fzB.rel r⟩
      · obtain ⟨v, h1, r⟩ := A'.val j d e
        exact ⟨v, by rw [← wipe_at hj]; exact h1, r.cong sub⟩
    · obtain ⟨hj, e⟩ := ownB _ _ h
      obtain ⟨h1, r⟩ := A'.own j d e
      refine ⟨by rw [← wipe_at hj]; exact h1, ?_⟩
      cases d with
      | lst ds => obtain ⟨vs, h, z, q⟩ := r; exact ⟨vs, h, z, q.cong sub⟩
      | _ => exact r.elim
    · have := A'.hp k o h
      cases o with
      | lst ds => obtain ⟨vs, h, z, q⟩ := this; exact ⟨vs, h, z, q.cong sub⟩
      | ins c ns ds => obtain ⟨dx, vs, h, z, q⟩ := this; exact ⟨dx, vs, h, z, q.cong sub⟩
    · rintro (m | ⟨k, hk, z⟩ | ⟨j, d, h, z⟩)
      · exact nP m
      · exact A'.pI k hk (by rw [show W'.ia k = L from z]; exact PL)
      · exact A'.pL j d (ownB _ _ h).2 (by rw [show W'.la j = L from z]; exact PL)
theorem comp_imp {K : PySem.W.Frag} {fw : IL} {g : IG} {gt : TG} {tt : IT} {fe : I} {vs : List Nat} (gk : GOk K g gt) (hw : GW gt vs) {σ : L2.St} {H : Hp} {Q : VK} (h : tE K Wx ρ (iComp fw g tt fe vs) σ H Q) : tLc (tJ K Wx ρ fw) gt (tT K (fun _ _ _ _ => False) ρ tt) (tE K (fun _ _ _ _ => False) ρ fe) vs σ H Q := by
  obtain ⟨W, s, A, p⟩ := h
  refine go A p fun J ds W1 s1 H1 src A1 st1 p1 L hL => ?_
  cases ec : compL g tt fe vs ρ ds ⟨wipeS s1.g vs, s1.h⟩ with
  | none => rw [ec] at p1; exact p1.elim
  | some q =>
    obtain ⟨ys, sE⟩ := q
    rw [ec] at p1
    exact comp_go A1 src gk hw hL ec fun W' H' A' st' r' => p1 _ W' H' A' st' r'
/-- an assignment's reading from its word -/
theorem asg_imp {K : PySem.W.Frag} {g : IG} {gt : TG} (gk : GOk K g gt) {D : Ends} {σ : L2.St} {H : Hp} (h : tS K Wx ρ (sAsg fa g) D σ H) : tE K Wx ρ fa σ H fun x H1 => gt x σ H1 D.nx := by
  obtain ⟨W, s, A, p⟩ := h
  refine goS A p fun v d W1 s1 H1 r1 A1 _ p1 => ?_
  cases e : g d s1 with
  | none => rw [e] at p1; exact p1.elim
  | some s2 =>
    rw [e] at p1
    exact gk W1 s1 σ H1 v d s2 _ A1 r1 e fun σ' A' st' => p1 σ' W1 H1 A' st'
end
end B
end
section
set_option Elab.async false
set_option linter.all false
set_option maxRecDepth 100000
set_option maxHeartbeats 2000000
/-! comprehensions of several clauses: a clause's loop with what is done in its turn left open -/
namespace B
open PySem PySem.Spec PyProof.Rows L2
def turnG (e : Expr) (k : Nat) (target iter : Expr) (ifs : List Expr) (it acc : Value) (env : Env) (rest : Sem PySem.Fin) : Sem PySem.Fin := do
  standAt iter.pos
  match ← pyNext it with
  | none => pure (.done .next)
  | some v =>
    letOwnedTupleGo target it v
    assign target env v
    let mut ok := true
    for c in ifs do
      if ok then ok ← isTrue c env (eval c env)
    if ok then rest else again (.compLoop e k it acc env)
/-- the next clause is begun -/
def nextG (e : Expr) (k : Nat) (i1 : Expr) (it acc : Value) (env : Env) : Sem PySem.Fin := do
  let x ← eval i1 env
  standAt i1.pos
  let x ← foldedSetIterable i1 env x
  let _ ← runOwn (.compStart e (k + 1) (← holding [x] (pyIter x)) acc env) env
  again (.compLoop e k it acc env)
/-- the item is added to the list -/
def lastG (e : Expr) (k : Nat) (elt : Expr) (it acc : Value) (env : Env) : Sem PySem.Fin := do
  (do let _ ← call (.builtin "list.append") [acc, ← eval elt env])
  again (.compLoop e k it acc env)
theorem turn30 (elt t0 i0 t1 i1 t2 i2 : Expr) (f0 f1 f2 : List Expr) (scope : Scope) (pos : Pos) (it acc : Value) (env : Env) :
    compTurn (.ListComp elt [⟨t0, i0, f0, 0⟩, ⟨t1, i1, f1, 0⟩, ⟨t2, i2, f2, 0⟩] scope pos) 0 it acc env = turnG (.ListComp elt [⟨t0, i0, f0, 0⟩, ⟨t1, i1, f1, 0⟩, ⟨t2, i2, f2, 0⟩] scope pos) 0 t0 i0 f0 it acc env (nextG (.ListComp elt [⟨t0, i0, f0, 0⟩, ⟨t1, i1, f1, 0⟩, ⟨t2, i2, f2, 0⟩] scope pos) 0 i1 it acc env) := by rfl
theorem turn31 (elt t0 i0 t1 i1 t2 i2 : Expr) (f0 f1 f2 : List Expr) (scope : Scope) (pos : Pos) (it acc : Value) (env : Env) :
    compTurn (.ListComp elt [⟨t0, i0, f0, 0⟩, ⟨t1, i1, f1, 0⟩, ⟨t2, i2, f2, 0⟩] scope pos) 1 it acc env = turnG (.ListComp elt [⟨t0, i0, f0, 0⟩, ⟨t1, i1, f1, 0⟩, ⟨t2, i2, f2, 0⟩] scope pos) 1 t1 i1 f1 it acc env (nextG (.ListComp elt [⟨t0, i0, f0, 0⟩, ⟨t1, i1, f1, 0⟩, ⟨t2, i2, f2, 0⟩] scope pos) 1 i2 it acc env) := by rfl
theorem turn32 (elt t0 i0 t1 i1 t2 i2 : Expr) (f0 f1 f2 : List Expr) (scope : Scope) (pos : Pos) (it acc : Value) (env : Env) :
    compTurn (.ListComp elt [⟨t0, i0, f0, 0⟩, ⟨t1, i1, f1, 0⟩, ⟨t2, i2, f2, 0⟩] scope pos) 2 it acc env = turnG (.ListComp elt [⟨t0, i0, f0, 0⟩, ⟨t1, i1, f1, 0⟩, ⟨t2, i2, f2, 0⟩] scope pos) 2 t2 i2 f2 it acc env (lastG (.ListComp elt [⟨t0, i0, f0, 0⟩, ⟨t1, i1, f1, 0⟩, ⟨t2, i2, f2, 0⟩] scope pos) 2 elt it acc env) := by rfl
theorem turn20 (elt t0 i0 t1 i1 : Expr) (f0 f1 : List Expr) (scope : Scope) (pos : Pos) (it acc : Value) (env : Env) :
    compTurn (.ListComp elt [⟨t0, i0, f0, 0⟩, ⟨t1, i1, f1, 0⟩] scope pos) 0 it acc env = turnG (.ListComp elt [⟨t0, i0, f0, 0⟩, ⟨t1, i1, f1, 0⟩] scope pos) 0 t0 i0 f0 it acc env (nextG (.ListComp elt [⟨t0, i0, f0, 0⟩, ⟨t1, i1, f1, 0⟩] scope pos) 0 i1 it acc env) := by rfl
theorem turn21 (elt t0 i0 t1 i1 : Expr) (f0 f1 : List Expr) (scope : Scope) (pos : Pos) (it acc : Value) (env : Env) :
    compTurn (.ListComp elt [⟨t0, i0, f0, 0⟩, ⟨t1, i1, f1, 0⟩] scope pos) 1 it acc env = turnG (.ListComp elt [⟨t0, i0, f0, 0⟩, ⟨t1, i1, f1, 0⟩] scope pos) 1 t1 i1 f1 it acc env (lastG (.ListComp elt [⟨t0, i0, f0, 0⟩, ⟨t1, i1, f1, 0⟩] scope pos) 1 elt it acc env) := by rfl
section
variable {prog : Program} {w : World} {A : Around} {R : Result → Shared → Prop} {s : Shared} {elt t0 i0 : Expr} {gens : List Comprehension} {f0 : List Expr} {scope : Scope} {pos : Pos} {it acc : Value} {env : Env} {k : Nat} {rest : Sem PySem.Fin}
theorem compLoopG (ht : compTurn (.ListComp elt gens scope pos) k it acc env = turnG (.ListComp elt gens scope pos) k t0 i0 f0 it acc env rest) (I : Nat → Shared → Prop)
    (turn : ∀ n s, I n s → wpAny (model prog w) A (pyNext it) (fun r s₁ => match r with
      | none => R (.ok .next) s₁
      | some v => wpAny (model prog w) A (letOwnedTupleGo t0 it v) (fun _ s₁' => wpAny (model prog w) A (assign t0 env v) (fun _ s₂ =>
          wpAny (model prog w) A (forIn f0 true fun c r => if r = true then do let ok ← isTrue c env (eval c env); pure (ForInStep.yield ok) else pure (ForInStep.yield r)) (fun ok s₃ =>
            if ok = true then wpAny (model prog w) A rest (fun fin s₅ => fin = .again (.compLoop (.ListComp elt gens scope pos) k it acc env) ∧ ∃ m, m < n ∧ I m s₅) (notedBy (model prog w) A env fun e s' => R (.error e) s') s₃
            else ∃ m, m < n ∧ I m s₃) (notedBy (model prog w) A env fun e s' => R (.error e) s') s₂) (notedBy (model prog w) A env fun e s' => R (.error e) s') s₁') (notedBy (model prog w) A env fun e s' => R (.error e) s') s₁) (notedBy (model prog w) A env fun e s' => R (.error e) s') s)
    (n : Nat) (h : I n s) :
    codeAny (model prog w) A (.compLoop (.ListComp elt gens scope pos) k it acc env) R s := by
  refine codeAny_loop rfl I (fun n s hI => ?_) n h
  show wpAny _ A ((compTurn (.ListComp elt gens scope pos) k it acc env).onRaise (fun x => do noteFrame x env; theTreesLotGoes x)) _ _ s
  refine wpAny_noted ?_
  rw [ht]
  unfold turnG
  refine wpAny_bind (wpAny_standAt (wpAny_bind (wpAny_mono (turn n s hI) (fun r s₁ h₁ => ?_) fun _ _ h' => h')))
  cases r with
  | none => exact wpAny_pure h₁
  | some v =>
    refine wpAny_bind (wpAny_mono h₁ (fun _ s₁' h₁' => ?_) fun _ _ h' => h')
    refine wpAny_bind (wpAny_mono h₁' (fun _ s₂ h₂ => wpAny_bind (wpAny_mono h₂ (fun ok s₃ h₃ => ?_) fun _ _ h' => h')) fun _ _ h' => h')
    cases ok with
    | false => exact wpAny_pure ⟨rfl, h₃⟩
    | true => exact wpAny_mono h₃ (fun fin s₅ ⟨e, h₅⟩ => by subst e; exact ⟨rfl, h₅⟩) fun _ _ h' => h'
end

section
variable {prog : Program} {w : World} {A : Around} {R : Result → Shared → Prop} {s : Shared} {elt t0 i0 : Expr} {gens : List Comprehension} {f0 : List Expr} {scope : Scope} {pos : Pos} {it acc : Value} {env : Env} {k : Nat}
theorem compStartG (hk : gens[k]? = some ⟨t0, i0, f0, 0⟩) (h0 : codeAny (model prog w) A (.compLoop (.ListComp elt gens scope pos) k it acc env) R s)
    (h : wpAny (model prog w) A (pyIter it) (fun it' s' => codeAny (model prog w) A (.compLoop (.ListComp elt gens scope pos) k it' acc env) R s')
      (notedBy (model prog w) A env fun x s' => R (.error x) s') s) :
    codeAny (model prog w) A (.compStart (.ListComp elt gens scope pos) k it acc env) R s := by
  refine codeAny_of_tree ?_
  show wpAny _ _ ((compStart (.ListComp elt gens scope pos) k it acc env).onRaise (fun x => do noteFrame x env; standAt theWindowsPlace)) _ _ s
  refine wpAny_notedAt ?_
  unfold compStart
  have hc : (clausesOf (.ListComp elt gens scope pos))[k]? = some ⟨t0, i0, f0, 0⟩ := hk
  rw [hc]
  show wpAny _ _ (ask >>= _) _ _ s
  refine wpAny_bind (wpAny_askSetting (wpAny_ite ?_))
  split
  · first
      | exact wpAny_bind (wpAny_pure (wpAny_pure (And.intro rfl h0)))
      | exact wpAny_pure (And.intro rfl h0)
  · first
      | exact wpAny_bind (wpAny_rule (wpAny_bind (wpAny_standAt (wpAny_bind (wpAny_mono h (fun it' s' h' => wpAny_pure (And.intro rfl h')) fun _ _ x => x)))))
      | (refine wpAny_bind (wpAny_rule ?_); show wpAny _ _ (standAt i0.pos >>= _) _ _ s; exact wpAny_bind (wpAny_standAt (wpAny_bind (wpAny_mono h (fun it' s' h' => wpAny_pure (And.intro rfl h')) fun _ _ x => x))))
end
/-- what is done in a turn: the list at D grows, Nx is reached -/
abbrev TB := L2.St → Hp → Addr → (Hp → Prop) → Prop
def tElt (te : TE) : TB := fun σ H D Nx => te σ H fun y H4 => ∃ acc, H4 D = some (.lst acc) ∧ acc.length < sizeLine ∧ Nx (upd H4 D (.lst (acc ++ [y])))
def tFor (wi : TI) (g : TG) (tt : TT) (tb : TB) (vs : List Nat) : TB := fun σ2 H3 D Nx => wi σ2 H3 fun J1 H4 => ∃ W1 : Nat → Nat → Hp → Prop, (∃ m, W1 0 m H4) ∧ ∀ j k H, W1 j k H →
  (J1.stop j H ∧ Nx H) ∨ (J1.go j H ∧ ∃ Nx1 : Hp → Prop, (∀ H', Nx1 H' → ∃ k', k' < k ∧ W1 (j + 1) k' H') ∧ ∀ x H', J1.yld j H x H' → g x (L2.wipe σ2 vs) H' fun σ3 H5 => L2.wipe σ3 vs = L2.wipe σ2 vs ∧ tt σ3 H5 fun b H6 =>
    if b = true then tb σ3 H6 D Nx1 else Nx1 H6)
/-- the turn's rest at clause k does what tb says; vs: names that it may store into -/
structure PB (X : Cx) (LC : Expr) (k : Nat) (D : Addr) (rest : Value → Sem PySem.Fin) (tb : TB) (vs : List Nat) : Prop where
  run : ∀ (it : Value) (pins : List (Addr × Obj)) (s : Shared) (σ : L2.St) (H : Hp) (Nx : Hp → Prop), Inv X pins σ H s → tb σ H D Nx →
    wpAny (model X.prog X.w) X.A (rest it) (fun fin s' => fin = .again (.compLoop LC k it (.ref D) X.env) ∧ ∃ σ' H', Inv X pins σ' H' s' ∧ σ'.length = σ.length ∧ (∀ (j : Nat) v, (L2.wipe σ vs)[j]? = some (some v) → σ'[j]? = some (some v)) ∧ Nx H') (fun _ _ => False) s
section
variable {X : Cx} {elt t1 i1 : Expr} {f1 : List Expr} {gens : List Comprehension} {scope : Scope} {pos : Pos} {k : Nat} {D : Addr}
theorem pb_last {te : TE} {vs : List Nat} (he : PE X elt te) (hx : ∀ e s, X.xe e s → False) : PB X (.ListComp elt gens scope pos) k D (fun it => lastG (.ListComp elt gens scope pos) k elt it (.ref D) X.env) (tElt te) vs := by
  refine ⟨fun it pins s σ H Nx I h => ?_⟩
  unfold lastG
  refine wpAny_bind (wpAny_bind (wpAny_mono (he.run pins s σ H _ I h) (fun z s1 ⟨yv, H1, I1, r1, acc, hD, hz, nx⟩ => ?_) fun e s' q => hx e s' q))
  refine wpAny_bind (app_ok I1 hD hz r1 fun s2 I2 => ?_)
  refine wpAny_pure ?_
  exact wpAny_pure ⟨rfl, σ, _, I2, rfl, fun j v e => (wipe_some e).1, nx⟩
theorem pb_next {wi : TI} {g : TG} {tt : TT} {tb : TB} {vs1 vs2 vs : List Nat} {rest1 : Value → Sem PySem.Fin} (hc : X.calm = true) (hx : ∀ e s, X.xe e s → False) (hk : gens[k + 1]? = some ⟨t1, i1, f1, 0⟩) (hi : PI X t1 i1 wi) (hg : PG X t1 g) (ht : PTs X f1 tt) (hs : ∀ x, foldedSetIterable i1 X.env x = pure x)
    (hturn : ∀ it acc env, compTurn (.ListComp elt gens scope pos) (k + 1) it acc env = turnG (.ListComp elt gens scope pos) (k + 1) t1 i1 f1 it acc env (rest1 it) ∨ (acc ≠ .ref D ∨ env ≠ X.env)) (hb : PB X (.ListComp elt gens scope pos) (k + 1) D rest1 tb vs2) (hv1 : ∀ i ∈ vs1, i ∈ vs) (hv2 : ∀ i ∈ vs2, i ∈ vs1) :
    PB X (.ListComp elt gens scope pos) k D (fun it => nextG (.ListComp elt gens scope pos) k i1 it (.ref D) X.env) (tFor wi g tt tb vs1) vs := by
  refine ⟨fun it pins s σ H Nx I h => ?_⟩
  unfold nextG
  refine wpAny_bind (wpAny_mono (hi.run pins s σ H _ I h) (fun xv s1 hx1 => ?_) fun e s' q => hx e s' q)
  refine wpAny_bind (wpAny_standAt (wpAny_bind (wpAny_of_eq (hs xv) (wpAny_bind (wpAny_holding (wpAny_mono hx1 (fun itv s2 h2 => ?_) fun e s' q => hx e s' q))))))
  obtain ⟨it1, fp1, tn1, J1, H2, e1, I2, T1, st2, f2, W1, ⟨m1, w1⟩, turn1⟩ := h2
  subst e1
  refine wpAny_bind (wpAny_runOwn ?_)
  rw [Around.mark_none]
  have stat1 : ∀ {H' : Hp}, (∀ b ∈ fp1, H' b = none) → ∀ b ∈ fp1, FpOk X pins H' b := fun hn b hb => ⟨hn b hb, (f2 b hb).2⟩
  have ht1 : compTurn (.ListComp elt gens scope pos) (k + 1) (.ref it1) (.ref D) X.env = turnG (.ListComp elt gens scope pos) (k + 1) t1 i1 f1 (.ref it1) (.ref D) X.env (rest1 (.ref it1)) := by
    rcases hturn (.ref it1) (.ref D) X.env with z | z | z
    · exact z
    · exact absurd rfl z
    · exact absurd rfl z
  have loop1 : codeAny (model X.prog X.w) X.A (.compLoop (.ListComp elt gens scope pos) (k + 1) (.ref it1) (.ref D) X.env)
      (fun r s' => match r with
        | .ok _ => ∃ σ' H', Inv X pins σ' H' s' ∧ σ'.length = σ.length ∧ (∀ (j : Nat) v, (L2.wipe σ vs)[j]? = some (some v) → σ'[j]? = some (some v)) ∧ Nx H'
        | .error _ => False) s2 := by
    refine compLoopG ht1 (fun n s' => ∃ j H', Inv X pins (L2.wipe σ vs1) H' s' ∧ tn1 j s'.heap ∧ (∀ b ∈ fp1, H' b = none) ∧ W1 j n H') ?_ m1 ⟨0, H2, I2.weak (wipe_length _ _) (fun j v e => (wipe_some e).1), st2, fun b hb => (f2 b hb).1, w1⟩
    rintro n s3 ⟨j, H3, I3, st3, n3, w3⟩
    rcases turn1 j n H3 w3 with ⟨stop1, nx1⟩ | ⟨go1, Nx1, hNx1, step1⟩
    · refine thnF (T1.done X rfl rfl rfl hc j pins s3 (L2.wipe σ vs1) H3 (fun _ _ => False) I3 (stat1 n3) st3 stop1) fun r s4 ⟨hr, I4⟩ => ?_
      subst hr
      exact ⟨L2.wipe σ vs1, H3, I4, wipe_length _ _, fun j v e => by
        obtain ⟨e1, e2⟩ := wipe_some e
        rw [wipe_out fun z => e2 (hv1 j z)]
        exact e1, nx1⟩
    · refine thnF (T1.item X rfl rfl rfl hc j pins s3 (L2.wipe σ vs1) H3 (fun _ _ => False) I3 (stat1 n3) st3 go1) fun r s4 ⟨u1, hr, h4⟩ => ?_
      subst hr
      refine thnF h4 fun _ s5 ⟨x1, H5, I5, r5, y5, st5, n5⟩ => ?_
      have I5' := I5.pinned (stat1 n5) (T1.obj _ _ st5)
      refine wpAny_mono (hg.run _ s5 (L2.wipe σ vs1) H5 x1 u1 _ I5' r5 (step1 x1 H5 y5)) (fun _ s6 ⟨σ6, H6, I6, hw6, q6⟩ => ?_) fun e s' q => (hx e s' q).elim
      refine wpAny_mono (ht.run _ s6 σ6 H6 _ I6 q6) (fun b1 s7 ⟨H7, I7, q7⟩ => ?_) fun e s' q => (hx e s' q).elim
      have fin1 : ∀ {σ9 : L2.St} {s' : Shared} {H' : Hp}, Inv X (pins ++ pinsAt fp1 s5.heap) σ9 H' s' → (L2.wipe σ vs1).length = σ9.length → (∀ (j : Nat) v, (L2.wipe σ vs1)[j]? = some (some v) → σ9[j]? = some (some v)) → Nx1 H' → ∃ m, m < n ∧ ∃ j H', Inv X pins (L2.wipe σ vs1) H' s' ∧ tn1 j s'.heap ∧ (∀ b ∈ fp1, H' b = none) ∧ W1 j m H' := fun {σ9 s' H'} I' hl hk nx => by
        obtain ⟨m', hm, w'⟩ := hNx1 H' nx
        have pin' : ∀ b ∈ fp1, ∀ o, s5.heap.get? b = some o → s'.heap.get? b = some o ∧ H' b = none := fun b hb o e =>
          let z := I'.pin (b, o) (List.mem_append_right _ (List.mem_append_right _ (mem_pinsAt hb e)))
          ⟨z.1, z.2.1⟩
        refine ⟨m', hm, j + 1, H', I'.unpinned.weak hl hk, T1.keep _ _ _ st5 fun b hb o e => (pin' b hb o e).1, fun b hb => ?_, w'⟩
        obtain ⟨o, e, _⟩ := T1.obj _ _ st5 b hb
        exact (pin' b hb o e).2
      have hl6 : (L2.wipe σ vs1).length = σ6.length := by rw [← hw6, wipe_length]
      have hk6 : ∀ (j : Nat) v, (L2.wipe σ vs1)[j]? = some (some v) → σ6[j]? = some (some v) := fun j v e => by
        rw [← hw6] at e
        exact (wipe_some e).1
      cases b1 with
      | false =>
        simp only [Bool.false_eq_true, if_false] at q7 ⊢
        exact fin1 I7 hl6 hk6 q7
      | true =>
        simp only [if_true] at q7 ⊢
        refine thnF (hb.run (.ref it1) _ s7 σ6 H7 _ I7 q7) fun fin s8 ⟨hf, σ8, H8, I8, l8, k8, nx8⟩ => ⟨hf, ?_⟩
        exact fin1 I8 (hl6.trans l8.symm) (fun j v e => k8 j v (by
          have e' := e
          rw [← hw6] at e'
          obtain ⟨e1, e2⟩ := wipe_some e'
          rw [wipe_out fun z => e2 (hv2 j z)]
          exact e1)) nx8
  refine codeAny_mono (compStartG hk loop1 (T1.self X.A 0 _ _ _ st2 loop1)) fun r s' hr => ?_
  cases r with
  | ok f =>
    first
      | exact wpAny_pure ⟨rfl, hr⟩
      | exact wpAny_bind (wpAny_pure (wpAny_pure ⟨rfl, hr⟩))
  | error e => exact hr.elim
end

section
variable {X : Cx}
def tLcB (wi : TI) (g : TG) (tt : TT) (tb : TB) (vs : List Nat) : TE := fun σ H Q => wi σ H fun J H1 => ∀ D, H1 D = none → ∃ W : Nat → Nat → Hp → Prop, (∃ m, W 0 m (upd H1 D (.lst []))) ∧ ∀ i m H, W i m H →
  (J.stop i H ∧ Q (.ref D) H) ∨ (J.go i H ∧ ∃ Nx : Hp → Prop, (∀ H', Nx H' → ∃ m', m' < m ∧ W (i + 1) m' H') ∧ ∀ x H', J.yld i H x H' → g x (L2.wipe σ vs) H' fun σ2 H2 => L2.wipe σ2 vs = L2.wipe σ vs ∧ tt σ2 H2 fun b H3 =>
    if b = true then tb σ2 H3 D Nx else Nx H3)
theorem lcB_core {pins : List (Addr × Obj)} {s : Shared} {σ : L2.St} {H : Hp} {Q : VK} {elt tg iter : Expr} {ifs : List Expr} {gs : List Comprehension} {scope : Scope} {own : List (Str × Nat)} {pos pos' : Pos} {wi : TI} {g : TG} {tt : TT} {tb : TB} {vs2 : List Nat} {rest : Addr → Env → Value → Sem PySem.Fin} {use : Option (Value → Sem Unit)} {Qf : Value → Shared → Prop}
    (hc : X.calm = true) (hN : X.N.Nodup) (I : Inv X pins σ H s) (hi : PI X tg iter wi) (ok : BlkOk X.N X.env.scope scope own)
    (hg : ∀ (s : Shared) (H : Hp) (C : Addr) (cl : List (Str × Addr)) (fp : List Addr), PG (X.blk s H scope (compEnvC scope cl C X.env) fp) tg g) (ht : ∀ (s : Shared) (H : Hp) (C : Addr) (cl : List (Str × Addr)) (fp : List Addr), PTs (X.blk s H scope (compEnvC scope cl C X.env) fp) ifs tt)
    (hturn : ∀ D env it, compTurn (.ListComp elt (⟨tg, iter, ifs, 0⟩ :: gs) scope pos) 0 it (.ref D) env = turnG (.ListComp elt (⟨tg, iter, ifs, 0⟩ :: gs) scope pos) 0 tg iter ifs it (.ref D) env (rest D env it))
    (hb : ∀ (s : Shared) (H : Hp) (C : Addr) (cl : List (Str × Addr)) (fp : List Addr) (D : Addr), PB (X.blk s H scope (compEnvC scope cl C X.env) fp) (.ListComp elt (⟨tg, iter, ifs, 0⟩ :: gs) scope pos) 0 D (rest D (compEnvC scope cl C X.env)) tb vs2) (hv2 : ∀ i ∈ vs2, i ∈ own.map (·.2)) (hs : ∀ x, foldedSetIterable iter X.env x = pure x)
    (h : tLcB wi g tt tb (own.map (·.2)) σ H Q)
    (hRR : ∀ D C s' m H', Inv X pins σ H' s' → Q (.ref D) H' → s'.heap.Ns C m → FpOk X pins H' C → compPost (model X.prog X.w) X.A X.xe use Qf (.ref D) C (.ok .next) s') :
    wpAny (model X.prog X.w) X.A (comprehension (.ListComp elt (⟨tg, iter, ifs, 0⟩ :: gs) scope pos) scope X.env pos' (newList []) false (eval iter X.env) use) Qf X.xe s := by
  have hfree : ∀ y ∈ scope.names, y.2 = .free → ∃ c, X.env.cells.lookup y.1 = some c := fun y hy e => by
    rcases ok.free y hy e with k | k
    · exact I.ok.has _ (.inl k)
    · exact I.ok.has _ (.inr k)
  refine wpAny_comprehension_free (use := use) rfl hs (closure_ok hfree) ok.kind (fun y hy e => by rw [ok.uniq y hy, e])
    (thn (hi.run pins s σ H _ I h) fun xv s1 hx => thn hx fun itv s2 h2 => ?_)
  obtain ⟨it, fp, tn, J, H2, e, I2, T, st2, f2, q⟩ := h2
  subst e
  refine wpAny_newObj_type (newEnv_comp ?_) (by show 0 ≤ sizeLine; decide)
  generalize hD : s2.heap.objs.size = D
  have hDn : H2 D = none := I2.hok.fresh (Nat.le_of_eq hD)
  obtain ⟨W, ⟨m0, w0⟩, turn⟩ := q D hDn
  generalize hs3 : ({ s2 with heap := s2.heap.push { cls := .type "list", data := .seq ([] : List Value).toArray } } : Shared) = s3
  have I3 : Inv X pins σ (upd H2 D (.lst [])) s3 := by
    rw [← hs3]
    refine I2.laid (t' := s2.toks) (fun b o e => Heap.get?_push_of_some _ e) (Nat.le_of_eq hD) ⟨Nat.zero_le _, [], 0, .nil, ?_⟩
    rw [← hD]
    exact Heap.get?_push_size _ rfl
  have h3 : s3.heap = s2.heap.push { cls := .type "list", data := .seq ([] : List Value).toArray } := by rw [← hs3]
  have sz : ∀ b ∈ fp, b < s2.heap.objs.size := fun b hb => by
    obtain ⟨o, e, _⟩ := T.obj _ _ st2 b hb
    exact Heap.lt_size e
  have f3 : ∀ b ∈ fp, FpOk X pins (upd H2 D (.lst [])) b ∧ b < s3.heap.objs.size := fun b hb => by
    have hlt := sz b hb
    refine ⟨⟨?_, (f2 b hb).2⟩, by rw [h3, Heap.size_push]; exact Nat.lt_succ_of_lt hlt⟩
    rw [upd_ne (by rw [← hD]; exact Nat.ne_of_lt hlt)]
    exact (f2 b hb).1
  have st3 : tn 0 s3.heap := T.keep _ _ _ st2 fun b _ o e => by rw [h3]; exact Heap.get?_push_of_some _ e
  have I4 := block_start I3 ok hN f3
  have pg := hg s3 (upd H2 D (.lst [])) s3.heap.objs.size (cellsFrom (s3.heap.objs.size + 1) scope.names (cloFrom X.env.cells scope.names [])) fp
  have pt := ht s3 (upd H2 D (.lst [])) s3.heap.objs.size (cellsFrom (s3.heap.objs.size + 1) scope.names (cloFrom X.env.cells scope.names [])) fp
  have pb := hb s3 (upd H2 D (.lst [])) s3.heap.objs.size (cellsFrom (s3.heap.objs.size + 1) scope.names (cloFrom X.env.cells scope.names [])) fp D
  show codeAny _ _ (.compStart (.ListComp elt (⟨tg, iter, ifs, 0⟩ :: gs) scope pos) 0 (.ref it) (.ref D) (compEnvC scope (cellsFrom (s3.heap.objs.size + 1) scope.names (cloFrom X.env.cells scope.names [])) s3.heap.objs.size X.env)) (compPost (model X.prog X.w) X.A X.xe use Qf (.ref D) s3.heap.objs.size) { s3 with heap := pushCells (s3.heap.push { cls := .type "dict", data := .dict #[] }) scope.names }
  have nfp : ∀ b ∈ fp, (upd H2 D (.lst [])) b = none := fun b hb => (f3 b hb).1.1
  generalize hce : compEnvC scope (cellsFrom (s3.heap.objs.size + 1) scope.names (cloFrom X.env.cells scope.names [])) s3.heap.objs.size X.env = ce at I4 pg pt pb ⊢
  have cL : ce.locals = s3.heap.objs.size := by subst hce; rfl
  generalize hH3 : upd H2 D (.lst []) = H3 at I3 I4 pg pt pb w0 nfp f3
  generalize hs4 : ({ s3 with heap := pushCells (s3.heap.push { cls := .type "dict", data := .dict #[] }) scope.names } : Shared) = s4 at I4 ⊢
  have st4 : tn 0 s4.heap := T.keep _ _ _ st3 fun b _ o e => by rw [← hs4]; exact pushCells_keeps _ _ _ _ (Heap.get?_push_of_some _ e)
  have stat : ∀ {σ' : L2.St} {H' : Hp} {s' : Shared}, Inv (X.blk s3 H3 scope ce fp) [] σ' H' s' → (∀ b ∈ fp, H' b = none) → ∀ b ∈ fp, FpOk (X.blk s3 H3 scope ce fp) [] H' b := fun {σ' H' s'} I' hn b hb =>
    ⟨hn b hb, (I'.ok.exf b hb).1, I'.ok.exfs b hb, .inl hb, fun x c e => (I'.ok.exf b hb).2 x c e, fun p hp => absurd (show p ∈ ([] : List (Addr × Obj)) ++ [] from hp) (by simp)⟩
  have loop : codeAny (model X.prog X.w) X.A (.compLoop (.ListComp elt (⟨tg, iter, ifs, 0⟩ :: gs) scope pos) 0 (.ref it) (.ref D) ce) (compPost (model X.prog X.w) X.A X.xe use Qf (.ref D) s3.heap.objs.size) s4 := by
    refine compLoopG (hturn D ce (.ref it)) (fun n s' => ∃ i H', Inv (X.blk s3 H3 scope ce fp) [] (L2.wipe σ (own.map (·.2))) H' s' ∧ tn i s'.heap ∧ (∀ b ∈ fp, H' b = none) ∧ W i n H') ?_ m0 ⟨0, H3, I4, st4, nfp, w0⟩
    rintro n s5 ⟨i, H5, I5, st5, n5, w5⟩
    rcases turn i n H5 w5 with ⟨stop, qq⟩ | ⟨go, Nx, hNx, step⟩
    · have td := T.done (X.blk s3 H3 scope ce fp) rfl rfl rfl hc i [] s5 _ H5 (fun _ _ => False) I5 (stat I5 n5) st5 stop
      refine thnF td fun r s6 ⟨hr, I6⟩ => ?_
      subst hr
      have I7 : Inv X pins σ H5 s6 := I3.call' (ch := fp) I6.os I6.base I6.hok I6.bare fun b hb => ⟨(f3 b hb).1.2.2.2.1, (f3 b hb).1.2.1, (f3 b hb).1.2.2.2.2.1, (f3 b hb).1.2.2.2.2.2⟩
      have nC : H5 s3.heap.objs.size = none := by
        have z : H5 ce.locals = none := I6.free
        rw [cL] at z
        exact z
      obtain ⟨m, hn, _⟩ := I6.loc
      have hn : s6.heap.Ns ce.locals m := hn
      rw [cL] at hn
      exact hRR D s3.heap.objs.size s6 m H5 I7 qq hn (I3.fpOk (Nat.le_refl _) nC)
    · have ti := T.item (X.blk s3 H3 scope ce fp) rfl rfl rfl hc i [] s5 _ H5 (fun _ _ => False) I5 (stat I5 n5) st5 go
      refine thnF ti fun r s6 ⟨u, hr, h6⟩ => ?_
      subst hr
      refine thnF h6 fun _ s7 ⟨x, H7, I7, r7, y7, st7, n7⟩ => ?_
      have I7' := I7.pinned (stat I7 n7) (T.obj _ _ st7)
      refine thnF (pg.run _ s7 _ H7 x u _ I7' r7 (step x H7 y7)) fun _ s8 ⟨σ8, H8, I8, hw8, q8⟩ => ?_
      refine thnF (pt.run _ s8 σ8 H8 _ I8 q8) fun b s9 ⟨H9, I9, q9⟩ => ?_
      have fin : ∀ {σ9 : L2.St} {s' : Shared} {H' : Hp}, Inv (X.blk s3 H3 scope ce fp) ([] ++ pinsAt fp s7.heap) σ9 H' s' → (L2.wipe σ (own.map (·.2))).length = σ9.length → (∀ (j : Nat) v, (L2.wipe σ (own.map (·.2)))[j]? = some (some v) → σ9[j]? = some (some v)) → Nx H' →
          ∃ m, m < n ∧ ∃ i H', Inv (X.blk s3 H3 scope ce fp) [] (L2.wipe σ (own.map (·.2))) H' s' ∧ tn i s'.heap ∧ (∀ b ∈ fp, H' b = none) ∧ W i m H' := fun {σ9 s' H'} I' hl hk nx => by
        obtain ⟨m', hm, w'⟩ := hNx H' nx
        have pin' : ∀ b ∈ fp, ∀ o, s7.heap.get? b = some o → s'.heap.get? b = some o ∧ H' b = none := fun b hb o e =>
          let z := I'.pin (b, o) (List.mem_append_right _ (List.mem_append_right _ (mem_pinsAt hb e)))
          ⟨z.1, z.2.1⟩
        refine ⟨m', hm, i + 1, H', (I'.unpinned (pins := [])).weak hl hk, T.keep _ _ _ st7 fun b hb o e => (pin' b hb o e).1, fun b hb => ?_, w'⟩
        obtain ⟨o, e, _⟩ := T.obj _ _ st7 b hb
        exact (pin' b hb o e).2
      have hl8 : (L2.wipe σ (own.map (·.2))).length = σ8.length := by rw [← hw8, wipe_length]
      have hk8 : ∀ (j : Nat) v, (L2.wipe σ (own.map (·.2)))[j]? = some (some v) → σ8[j]? = some (some v) := fun j v e => by
        rw [← hw8] at e
        exact (wipe_some e).1
      cases b with
      | false =>
        simp only [Bool.false_eq_true, if_false] at q9 ⊢
        exact fin I9 hl8 hk8 q9
      | true =>
        simp only [if_true] at q9 ⊢
        refine thnF (pb.run (.ref it) _ s9 σ8 H9 _ I9 q9) fun fi s10 ⟨hf, σ10, H10, I10, l10, k10, nx10⟩ => ⟨hf, ?_⟩
        exact fin I10 (hl8.trans l10.symm) (fun j v e => k10 j v (by
          have e' := e
          rw [← hw8] at e'
          obtain ⟨e1, e2⟩ := wipe_some e'
          rw [wipe_out fun z => e2 (hv2 j z)]
          exact e1)) nx10
  exact codeAny_compStart_list loop (T.self X.A 0 _ _ _ st4 loop)
theorem pe_lcB {elt tg iter : Expr} {ifs : List Expr} {gs : List Comprehension} {scope : Scope} {own : List (Str × Nat)} {pos : Pos} {wi : TI} {g : TG} {tt : TT} {tb : TB} {vs2 : List Nat} {rest : Addr → Env → Value → Sem PySem.Fin} (hc : X.calm = true) (hN : X.N.Nodup) (hi : PI X tg iter wi) (ok : BlkOk X.N X.env.scope scope own)
    (hg : ∀ (s : Shared) (H : Hp) (C : Addr) (cl : List (Str × Addr)) (fp : List Addr), PG (X.blk s H scope (compEnvC scope cl C X.env) fp) tg g) (ht : ∀ (s : Shared) (H : Hp) (C : Addr) (cl : List (Str × Addr)) (fp : List Addr), PTs (X.blk s H scope (compEnvC scope cl C X.env) fp) ifs tt)
    (hturn : ∀ D env it, compTurn (.ListComp elt (⟨tg, iter, ifs, 0⟩ :: gs) scope pos) 0 it (.ref D) env = turnG (.ListComp elt (⟨tg, iter, ifs, 0⟩ :: gs) scope pos) 0 tg iter ifs it (.ref D) env (rest D env it))
    (hb : ∀ (s : Shared) (H : Hp) (C : Addr) (cl : List (Str × Addr)) (fp : List Addr) (D : Addr), PB (X.blk s H scope (compEnvC scope cl C X.env) fp) (.ListComp elt (⟨tg, iter, ifs, 0⟩ :: gs) scope pos) 0 D (rest D (compEnvC scope cl C X.env)) tb vs2) (hv2 : ∀ i ∈ vs2, i ∈ own.map (·.2)) (hs : ∀ x, foldedSetIterable iter X.env x = pure x) :
    PE X (.ListComp elt (⟨tg, iter, ifs, 0⟩ :: gs) scope pos) (tLcB wi g tt tb (own.map (·.2))) := by
  refine ⟨fun pins s σ H Q I h => ?_⟩
  rw [eval_ListComp]
  refine lcB_core hc hN I hi ok hg ht hturn hb hv2 hs h fun D C s' m H' I' q hn f => ⟨m, hn, fun h'' sb => ?_⟩
  obtain ⟨f0, f1, f2, f3, f4, f5⟩ := f
  exact ⟨.ref D, H', I'.turned (t' := s'.toks) (fun b o hb e => (sb.2 b hb).trans e) f0 f1 f3 f4 f5, rfl, q⟩
end
end B
end
section
set_option Elab.async false
set_option linter.all false
set_option maxRecDepth 100000
set_option maxHeartbeats 2000000
/-! comprehensions of several clauses: their words -/
namespace B
open PySem PySem.Spec PyProof.Rows L2
/-- what is done in a turn: the items that it makes *-/
abbrev IB := Fns → S → Option (List D × S)
def bElt (e : I) : IB := fun ρ s => match e ρ s with
  | .ok y s' => some ([y], s')
  | _ => none
def loopB (g : IG) (t : IT) (b : IB) (vs : List Nat) (ρ : Fns) : List D → S → Option (List D × S)
  | [], s => some ([], s)
  | d :: ds, s => match g d s with
    | none => none
    | some s1 => match t ρ s1 with
      | .ok true s2 => (match b ρ s2 with
        | some (ys, s3) => (match loopB g t b vs ρ ds ⟨wipeS s3.g vs, s3.h⟩ with
          | some (zs, s4) => some (ys ++ zs, s4)
          | none => none)
        | none => none)
      | .ok false s2 => loopB g t b vs ρ ds ⟨wipeS s2.g vs, s2.h⟩
      | _ => none
def bFor (w : IL) (g : IG) (t : IT) (b : IB) (vs : List Nat) : IB := fun ρ s => match w ρ s with
  | .ok ds s1 => loopB g t b vs ρ ds ⟨wipeS s1.g vs, s1.h⟩
  | _ => none
def iCompB (w : IL) (g : IG) (t : IT) (b : IB) (vs : List Nat) : I := fun ρ s => (w ρ s).bind fun ds s => match loopB g t b vs ρ ds ⟨wipeS s.g vs, s.h⟩ with
  | some (ys, s') => if ys.length ≤ sizeLine then .ok (.lst ys) ⟨backS s'.g s.g vs, s'.h⟩ else .bad
  | none => .bad
/-- a step at which the private thing at D may change -/
structure StD (D : Addr) (W : Wd) (s : S) (H : Hp) (W' : Wd) (s' : S) (H' : Hp) : Prop where
  P : W'.P = W.P
  ia : ∀ k, k < s.h.length → W'.ia k = W.ia k
  hl : s.h.length ≤ s'.h.length
  fz : ∀ a o, H a = some o → ¬ MW W s a → H' a = some o ∧ ¬ MW W' s' a
  pr : ∀ a o, W.P a → a ≠ D → H a = some o → H' a = some o
section
variable {K : PySem.W.Frag} {D : Addr} {W W1 W' : Wd} {s s1 s' : S} {σ : L2.St} {H H1 H' : Hp}
theorem Stp.stD (a : Stp W s H W' s' H') : StD D W s H W' s' H' := ⟨a.P, a.ia, a.hl, a.fz, fun x o p _ e => a.pr x o p e⟩
theorem StD.fzn (a : StD D W s H W' s' H') : Fzn W s H W' s' H' := ⟨a.ia, a.hl, a.fz⟩
theorem StD.trans (a : StD D W s H W1 s1 H1) (b : StD D W1 s1 H1 W' s' H') : StD D W s H W' s' H' where
  P := b.P.trans a.P
  ia := fun k h => (b.ia k (Nat.lt_of_lt_of_le h a.hl)).trans (a.ia k h)
  hl := Nat.le_trans a.hl b.hl
  fz := fun x o e m => b.fz x o (a.fz x o e m).1 (a.fz x o e m).2
  pr := fun x o p n e => b.pr x o (by rw [a.P]; exact p) n (a.pr x o p n e)
theorem StD.refl : StD D W s H W s H := Stp.refl.stD
theorem StD.poke {o : HO} (hP : W.P D) : StD D W s H W s (upd H D o) :=
  ⟨rfl, fun _ _ => rfl, Nat.le_refl _, fun a u e m => ⟨by rw [upd_ne (show a ≠ D from fun z => m (.inl (by rw [z]; exact hP)))]; exact e, m⟩, fun a u _ n e => by rw [upd_ne n]; exact e⟩
end
/-- the reading of a turn's word: ad has been made so far; vs is wiped behind it -/
def tB (K : PySem.W.Frag) (ρ : Fns) (b : IB) (vs : List Nat) : TB := fun σ H D Nx => ∃ W s acc ad ys s', Abs K W s σ H ∧ W.P D ∧ H D = some (.lst acc) ∧ RelsW K W s H acc ad ∧ b ρ s = some (ys, s') ∧ acc.length + ys.length ≤ sizeLine ∧
  ∀ W' H' acc', Abs K W' ⟨wipeS s'.g vs, s'.h⟩ (wipe σ vs) H' → StD D W s H W' ⟨wipeS s'.g vs, s'.h⟩ H' → H' D = some (.lst acc') → RelsW K W' ⟨wipeS s'.g vs, s'.h⟩ H' acc' (ad ++ ys) → Nx H'
abbrev WF : WX := fun _ _ _ _ => False
section
variable {ρ : Fns}
theorem tb_elt {K : PySem.W.Frag} {fe : I} {vs : List Nat} {σ : L2.St} {H : Hp} {D : Addr} {Nx : Hp → Prop} (h : tB K ρ (bElt fe) vs σ H D Nx) : tElt (tE K WF ρ fe) σ H D Nx := by
  obtain ⟨W, s, acc, ad, ys, s', A, hP, hacc, ra, e, hz, k⟩ := h
  unfold bElt at e
  refine ⟨W, s, A, ?_⟩
  cases ef : fe ρ s with
  | bad => rw [ef] at e; cases e
  | ex x s1 => rw [ef] at e; cases e
  | ok y s1 =>
    rw [ef] at e
    cases e
    intro v W4 H4 A4 st4 r4
    have PD : W4.P D := by rw [st4.P]; exact hP
    have w4 := A4.wipe (vs := vs)
    refine ⟨acc, st4.pr D _ hP hacc, by simp at hz; omega, k W4 _ (acc ++ [v]) (w4.1.poke PD) ((st4.stD.trans w4.2.stD).trans (.poke PD)) upd_same ?_⟩
    exact RelsW.poke PD ((w4.2.rels (st4.rels ra)).append (.cons (w4.2.rel r4) .nil))
/-- a clause's loop -/
theorem loop_go {K : PySem.W.Frag} {g : IG} {gt : TG} {tt : IT} {b : IB} {vs : List Nat} {σ : L2.St} {HS H1 : Hp} {WS W1 : Wd} {sS s1 : S} {J : It} {ds ys ad0 : List D} {acc0 : List V} {sE : S} {D : Addr} {Qd : Hp → Prop}
    (src : Src K WS sS HS J ds) (f0 : Fzn WS sS HS W1 s1 H1) (A1 : Abs K W1 s1 (wipe σ vs) H1) (hP : W1.P D) (hacc : H1 D = some (.lst acc0)) (ra : RelsW K W1 s1 H1 acc0 ad0) (gk : GOk K g gt) (hw : GW gt vs)
    (hc : loopB g tt b vs ρ ds s1 = some (ys, sE)) (hz : acc0.length + ys.length ≤ sizeLine)
    (hQ : ∀ W' H' acc', Abs K W' sE (wipe σ vs) H' → StD D W1 s1 H1 W' sE H' → H' D = some (.lst acc') → RelsW K W' sE H' acc' (ad0 ++ ys) → Qd H') :
    ∃ Wn : Nat → Nat → Hp → Prop, (∃ m, Wn 0 m H1) ∧ ∀ i m H, Wn i m H → (J.stop i H ∧ Qd H) ∨ (J.go i H ∧ ∃ Nx : Hp → Prop, (∀ H', Nx H' → ∃ m', m' < m ∧ Wn (i + 1) m' H') ∧ ∀ x H', J.yld i H x H' → gt x (wipe σ vs) H' fun σ2 H2 => wipe σ2 vs = wipe σ vs ∧
      tT K WF ρ tt σ2 H2 fun bb H3 => if bb = true then tB K ρ b vs σ2 H3 D Nx else Nx H3) := by
  let Wn : Nat → Nat → Hp → Prop := fun i m H => ∃ W' s' acc yd yr, m = ds.length - i ∧ i ≤ ds.length ∧ Abs K W' s' (wipe σ vs) H ∧ StD D W1 s1 H1 W' s' H ∧ H D = some (.lst acc) ∧ RelsW K W' s' H acc (ad0 ++ yd) ∧ loopB g tt b vs ρ (ds.drop i) s' = some (yr, sE) ∧ ys = yd ++ yr ∧ acc.length + yr.length ≤ sizeLine
  refine ⟨Wn, ⟨ds.length, W1, s1, acc0, [], ys, rfl, Nat.zero_le _, A1, .refl, hacc, by simpa using ra, by simpa using hc, rfl, hz⟩, ?_⟩
  rintro i m H ⟨W', s', acc, yd, yr, rfl, hi, A', st', ha', ra', hcl, hys, hzz⟩
  have PD : W'.P D := by rw [st'.P]; exact hP
  by_cases hlt : i < ds.length
  · refine .inr ?_
    have hd : ds[i]? = some ds[i] := by simp [hlt]
    obtain ⟨hgo, hy⟩ := (src.2 W' s' (wipe σ vs) H A' (f0.trans st'.fzn) i).2 _ hd
    refine ⟨hgo, Wn (i + 1) (ds.length - (i + 1)), fun H' h => ⟨ds.length - (i + 1), by omega, h⟩, fun x H'' y => ?_⟩
    obtain ⟨A2, st2, r2⟩ := hy x H'' y
    rw [List.drop_eq_getElem_cons hlt] at hcl
    simp only [loopB] at hcl
    cases eg : g ds[i] s' with
    | none => rw [eg] at hcl; cases hcl
    | some s2 =>
      rw [eg] at hcl
      simp only at hcl
      refine hw x (wipe σ vs) H'' _ _ (fun σ2 H2 l1 l2 q => ?_) (gk W' s' (wipe σ vs) H'' x _ s2 (fun σ2 H2 => Abs K W' s2 σ2 H2 ∧ Stp W' s' H W' s2 H2) A2 r2 eg fun σ3 A3 st3 => ⟨A3, st2.trans st3⟩)
      obtain ⟨A3, st3⟩ := q
      have ew : wipe σ2 vs = wipe σ vs := wipe_eq (by rw [l1, wipe_length]) fun j hj => by rw [l2 j hj, wipe_at hj]
      refine ⟨ew, W', s2, A3, ?_⟩
      cases ett : tt ρ s2 with
      | bad => rw [ett] at hcl; cases hcl
      | ex x s3 => rw [ett] at hcl; cases hcl
      | ok bb s3 =>
        rw [ett] at hcl
        intro b1 W3 H3 A3' st3' hb
        cases hb
        have stt := st3.trans st3'
        have hD3 : H3 D = some (.lst acc) := stt.pr D _ PD ha'
        have PD3 : W3.P D := by rw [stt.P]; exact PD
        have r3 := stt.rels ra'
        cases bb with
        | true =>
          simp only at hcl
          rw [if_pos rfl]
          cases eb : b ρ s3 with
          | none => rw [eb] at hcl; cases hcl
          | some q =>
            obtain ⟨y1, s4⟩ := q
            rw [eb] at hcl
            simp only at hcl
            cases el : loopB g tt b vs ρ (ds.drop (i + 1)) ⟨wipeS s4.g vs, s4.h⟩ with
            | none => rw [el] at hcl; cases hcl
            | some q =>
              obtain ⟨yr', s5⟩ := q
              rw [el] at hcl
              simp only [Option.some.injEq, Prod.mk.injEq] at hcl
              obtain ⟨rfl, rfl⟩ := hcl
              rw [List.length_append] at hzz
              refine ⟨W3, s3, acc, ad0 ++ yd, y1, s4, A3', PD3, hD3, r3, eb, by omega, fun W5 H5 acc5 A5 st5 hacc5 r5 => ?_⟩
              rw [ew] at A5
              have l5 := r5.length
              have l3 := r3.length
              rw [List.length_append] at l5
              exact ⟨W5, _, acc5, yd ++ y1, yr', rfl, hlt, A5, (st'.trans stt.stD).trans st5, hacc5, by rw [← List.append_assoc]; exact r5, el, by rw [hys]; simp, by omega⟩
        | false =>
          simp only at hcl
          rw [if_neg Bool.false_ne_true]
          have w3 := A3'.wipe (vs := vs)
          rw [ew] at w3
          exact ⟨W3, _, acc, yd, yr, rfl, hlt, w3.1, (st'.trans stt.stD).trans w3.2.stD, hD3, w3.2.rels r3, hcl, hys, hzz⟩
  · have ei : i = ds.length := by omega
    subst ei
    refine .inl ⟨(src.2 W' s' (wipe σ vs) H A' (f0.trans st'.fzn) _).1 (Nat.le_refl _), ?_⟩
    rw [List.drop_length] at hcl
    simp only [loopB] at hcl
    cases hcl
    rw [List.append_nil] at hys
    subst hys
    exact hQ W' H acc A' st' ha' ra'
theorem wipe_wipe {σ : L2.St} {vs1 vs : List Nat} (h : ∀ i ∈ vs1, i ∈ vs) : wipe (wipe σ vs1) vs = wipe σ vs := wipe_eq (wipe_length _ _) fun j hj => wipe_at fun z => hj (h j z)
theorem tb_for {K : PySem.W.Frag} {fw : IL} {g : IG} {gt : TG} {tt : IT} {b : IB} {vs1 vs : List Nat} {σ : L2.St} {H : Hp} {D : Addr} {Nx : Hp → Prop} (gk : GOk K g gt) (hw : GW gt vs1) (hv : ∀ i ∈ vs1, i ∈ vs) (h : tB K ρ (bFor fw g tt b vs1) vs σ H D Nx) :
    tFor (tJ K WF ρ fw) gt (tT K WF ρ tt) (tB K ρ b vs1) vs1 σ H D Nx := by
  obtain ⟨W, s, acc, ad, ys, s', A, hP, hacc, ra, e, hz, k⟩ := h
  unfold bFor at e
  refine ⟨W, s, A, ?_⟩
  cases ew : fw ρ s with
  | bad => rw [ew] at e; cases e
  | ex x s1 => rw [ew] at e; cases e
  | ok ds s1 =>
    rw [ew] at e
    intro J W1 H1 A1 st1 src
    have PD : W1.P D := by rw [st1.P]; exact hP
    have w1 := A1.wipe (vs := vs1)
    refine loop_go (WS := W1) (sS := s1) (HS := H1) src w1.2.fzn w1.1 PD (st1.pr D _ hP hacc) (w1.2.rels (st1.rels ra)) gk hw e hz fun W' H' acc' A' st' ha' ra' => ?_
    have w2 := A'.wipe (vs := vs)
    rw [wipe_wipe hv] at w2
    exact k W' H' acc' w2.1 (((st1.stD.trans w1.2.stD).trans st').trans w2.2.stD) ha' (w2.2.rels ra')
theorem compB_imp {K : PySem.W.Frag} {Wx : WX} {fw : IL} {g : IG} {gt : TG} {tt : IT} {b : IB} {vs : List Nat} (gk : GOk K g gt) (hw : GW gt vs) {σ : L2.St} {H : Hp} {Q : VK} (h : tE K Wx ρ (iCompB fw g tt b vs) σ H Q) : tLcB (tJ K Wx ρ fw) gt (tT K WF ρ tt) (tB K ρ b vs) vs σ H Q := by
  obtain ⟨W, s, A, p⟩ := h
  refine go A p fun J ds W1 s1 H1 src A1 st1 p1 L hL => ?_
  cases ec : loopB g tt b vs ρ ds ⟨wipeS s1.g vs, s1.h⟩ with
  | none => rw [ec] at p1; exact p1.elim
  | some q =>
    obtain ⟨ys, sE⟩ := q
    rw [ec] at p1
    simp only at p1
    by_cases hz : ys.length ≤ sizeLine
    · rw [if_pos hz] at p1
      have nP : ¬ W1.P L := fun m => A1.fresh hL (.inl m)
      have w1 := A1.wipe (vs := vs)
      have f0 : Fzn W1 s1 H1 (W1.priv L) ⟨wipeS s1.g vs, s1.h⟩ (upd H1 L (.lst [])) := by
        refine ⟨w1.2.ia, w1.2.hl, fun a o e m => ⟨by rw [upd_ne (ne_of_none e hL)]; exact e, ?_⟩⟩
        have h2 := (w1.2.fz a o e m).2
        rintro ((m' | m') | m')
        · exact h2 (.inl m')
        · exact ne_of_none e hL m'
        · exact h2 (.inr m')
      refine loop_go (acc0 := []) (ad0 := []) src f0 (w1.1.priv hL) (.inr rfl) upd_same .nil gk hw ec (by simpa using hz) fun W' H acc A' st' hacc ra => ?_
      rw [List.nil_append] at ra
      have hP : W'.P = (fun a => W1.P a ∨ a = L) := st'.P
      have PL : W'.P L := by rw [hP]; exact .inr rfl
      have fz' := f0.trans st'.fzn
      have pr' : ∀ a o, W1.P a → H1 a = some o → H a = some o := fun a o pa e => st'.pr a o (.inl pa) (ne_of_none e hL) (by rw [upd_ne (ne_of_none e hL)]; exact e)
      have ownB : ∀ (j : Nat) (d' : D), (backS sE.g s1.g vs)[j]? = some (.own d') → j ∉ vs ∧ sE.g[j]? = some (.own d') := fun j d' h => by
        rcases backS_get h with ⟨_, z | ⟨_, z, _⟩⟩ | z
        · cases z
        · cases z
        · exact z
      have sub : ∀ a, MW ⟨W'.ia, W'.la, W1.P⟩ ⟨backS sE.g s1.g vs, sE.h⟩ a → MW W' sE a := fun a m => by
        rcases m with m | m | ⟨j, d', h, z⟩
        · exact .inl (by rw [hP]; exact .inl m)
        · exact .inr (.inl m)
        · exact .inr (.inr ⟨j, d', (ownB j d' h).2, z⟩)
      have fzB : Fzn W1 s1 H1 ⟨W'.ia, W'.la, W1.P⟩ ⟨backS sE.g s1.g vs, sE.h⟩ H := ⟨fz'.ia, fz'.hl, fun a o e m => ⟨(fz'.fz a o e m).1, fun z => (fz'.fz a o e m).2 (sub a z)⟩⟩
      have hal : acc.length ≤ sizeLine := by rw [ra.length]; exact hz
      refine p1 _ ⟨W'.ia, W'.la, W1.P⟩ H ⟨?_, fun j d h => ?_, fun j d h => ?_, fun k o h => ?_, A'.inj, fun j k d1 d2 h1 h2 => A'.injL j k d1 d2 (ownB _ _ h1).2 (ownB _ _ h2).2, fun k j d' hk h => A'.sep k j d' hk (ownB _ _ h).2, fun k hk m => A'.pI k hk (by rw [hP]; exact .inl m), fun j d' h m => A'.pL j d' (ownB _ _ h).2 (by rw [hP]; exact .inl m), fun a m => A'.pS a (by rw [hP]; exact .inl m)⟩
        ⟨rfl, fzB.ia, fzB.hl, fzB.fz, pr'⟩ (.lst ?_ hacc hal (ra.cong sub))
      · show (backS sE.g s1.g vs).length = _
        rw [backS_len, A'.len, wipe_length]
      · rcases backS_get h with ⟨_, z | ⟨d', z, e⟩⟩ | ⟨hj, e⟩
        · cases z
        · cases z
          obtain ⟨v, h1, r⟩ := A1.val j _ e
          exact ⟨v, h1, fzB.rel r⟩
        · obtain ⟨v, h1, r⟩ := A'.val j d e
          exact ⟨v, by rw [← wipe_at hj]; exact h1, r.cong sub⟩
      · obtain ⟨hj, e⟩ := ownB _ _ h
        obtain ⟨h1, r⟩ := A'.own j d e
        refine ⟨by rw [← wipe_at hj]; exact h1, ?_⟩
        cases d with
        | lst ds => obtain ⟨vs, h, z, q⟩ := r; exact ⟨vs, h, z, q.cong sub⟩
        | _ => exact r.elim
      · have := A'.hp k o h
        cases o with
        | lst ds => obtain ⟨vs, h, z, q⟩ := this; exact ⟨vs, h, z, q.cong sub⟩
        | ins c ns ds => obtain ⟨dx, vs, h, z, q⟩ := this; exact ⟨dx, vs, h, z, q.cong sub⟩
      · rintro (m | ⟨k, hk, z⟩ | ⟨j, d, h, z⟩)
        · exact nP m
        · exact A'.pI k hk (by rw [show W'.ia k = L from z]; exact PL)
        · exact A'.pL j d (ownB _ _ h).2 (by rw [show W'.la j = L from z]; exact PL)
    · rw [if_neg hz] at p1
      exact p1.elim
end
theorem PBi {X : Cx} {LC : Expr} {k : Nat} {D : Addr} {rest : Value → Sem PySem.Fin} {tb tb' : TB} {vs : List Nat} (h : PB X LC k D rest tb vs) (i : ∀ σ H D Nx, tb' σ H D Nx → tb σ H D Nx) : PB X LC k D rest tb' vs :=
  ⟨fun it pins s σ H Nx I q => h.run it pins s σ H Nx I (i σ H D Nx q)⟩
end B
end
section
set_option Elab.async false
set_option linter.all false
set_option maxRecDepth 100000
set_option maxHeartbeats 1000000
namespace B
open PySem PySem.Spec PyProof.Rows L2
section
variable {K : PySem.W.Frag} {W W' : Wd} {s s' : S} {σ : L2.St} {H H' : Hp}
/-- a new mutable thing -/
theorem Abs.allocG {p : Addr} {o : Ob} {u : HO} (A : Abs K W s σ H) (hp : H p = none) (hob : ∀ W' s' H' a, Stp W s H W' s' H' → H' a = some u → ObR K W' s' H' a o) :
    ∃ W', Abs K W' ⟨s.g, s.h ++ [o]⟩ σ (upd H p u) ∧ Stp W s H W' ⟨s.g, s.h ++ [o]⟩ (upd H p u) ∧ RelW K W' ⟨s.g, s.h ++ [o]⟩ (upd H p u) (.ref p) (.ref s.h.length) := by
  let W' : Wd := ⟨fun k => if k = s.h.length then p else W.ia k, W.la, W.P⟩
  have old : ∀ k, k < s.h.length → W'.ia k = W.ia k := fun k hk => if_neg (by omega)
  have new : W'.ia s.h.length = p := if_pos rfl
  have hlen : (s.h ++ [o]).length = s.h.length + 1 := by simp
  have sub : ∀ a, MW W' ⟨s.g, s.h ++ [o]⟩ a → MW W s a ∨ a = p := fun a m => by
    rcases m with m | ⟨k, hk, z⟩ | m
    · exact .inl (.inl m)
    · have hk : k < (s.h ++ [o]).length := hk
      rw [hlen] at hk
      by_cases e : k = s.h.length
      · subst e; rw [new] at z; exact .inr z.symm
      · rw [old k (by omega)] at z; exact .inl (.inr (.inl ⟨k, by omega, z⟩))
    · exact .inl (.inr (.inr m))
  have neP : ∀ a, MW W s a → a ≠ p := fun a m z => A.fresh hp (by rw [← z]; exact m)
  have st : Stp W s H W' ⟨s.g, s.h ++ [o]⟩ (upd H p u) := ⟨rfl, old, by show s.h.length ≤ (s.h ++ [o]).length; omega, fun a o' e m => ⟨by rw [upd_ne (ne_of_none e hp)]; exact e, fun z => (sub a z).elim m (ne_of_none e hp)⟩, fun a o' _ e => by rw [upd_ne (ne_of_none e hp)]; exact e⟩
  refine ⟨W', ⟨A.len, fun i d e => ?_, fun i d e => ?_, fun k o' e => ?_, fun k j hk hj z => ?_, A.injL, fun k i d hk e z => ?_, fun k hk m => ?_, A.pL, fun a m => ?_⟩, st, ?_⟩
  · obtain ⟨v, h1, q⟩ := A.val i d e
    exact ⟨v, h1, st.rel q⟩
  · obtain ⟨h1, q⟩ := A.own i d e
    exact ⟨h1, q.stp st (upd_ne (neP _ (.inr (.inr ⟨i, d, e, rfl⟩))))⟩
  · have hk := (List.getElem?_eq_some_iff.mp e).1
    have hk : k < (s.h ++ [o]).length := hk
    rw [hlen] at hk
    have e : (s.h ++ [o])[k]? = some o' := e
    by_cases ek : k = s.h.length
    · subst ek
      rw [List.getElem?_append_right (Nat.le_refl _)] at e
      simp at e
      subst e
      exact hob _ _ _ _ st (by rw [new]; exact upd_same)
    · rw [List.getElem?_append_left (by omega)] at e
      have := (A.hp k o' e).stp st (upd_ne (neP _ (.inr (.inl ⟨k, by omega, rfl⟩))))
      rw [← old k (by omega)] at this
      exact this
  · have hk : k < (s.h ++ [o]).length := hk
    have hj : j < (s.h ++ [o]).length := hj
    rw [hlen] at hk hj
    by_cases ek : k = s.h.length
    · by_cases ej : j = s.h.length
      · omega
      · exfalso
        rw [ek, new, old j (by omega)] at z
        exact neP _ (.inr (.inl ⟨j, by omega, rfl⟩)) z.symm
    · by_cases ej : j = s.h.length
      · exfalso
        rw [ej, new, old k (by omega)] at z
        exact neP _ (.inr (.inl ⟨k, by omega, rfl⟩)) z
      · rw [old k (by omega), old j (by omega)] at z
        exact A.inj k j (by omega) (by omega) z
  · have hk : k < (s.h ++ [o]).length := hk
    rw [hlen] at hk
    by_cases ek : k = s.h.length
    · rw [ek, new] at z
      exact neP _ (.inr (.inr ⟨i, d, e, rfl⟩)) z.symm
    · rw [old k (by omega)] at z
      exact A.sep k i d (by omega) e z
  · have hk : k < (s.h ++ [o]).length := hk
    rw [hlen] at hk
    by_cases ek : k = s.h.length
    · rw [ek, new] at m
      exact neP _ (.inl m) rfl
    · rw [old k (by omega)] at m
      exact A.pI k (by omega) m
  · obtain ⟨u', e⟩ := A.pS a m
    exact ⟨u', by rw [upd_ne (neP a (.inl m))]; exact e⟩
  · have := Rel.ref (K := K) (ia := W'.ia) (n := (s.h ++ [o]).length) (M := MW W' ⟨s.g, s.h ++ [o]⟩) (H := upd H p u) (k := s.h.length) (by rw [hlen]; omega)
    rw [new] at this
    exact this
/-- a new mutable list -/
theorem Abs.alloc {p : Addr} {ds : List D} {vs : List V} (A : Abs K W s σ H) (hp : H p = none) (r : RelsW K W s H vs ds) (hz : vs.length ≤ sizeLine) :
    ∃ W', Abs K W' ⟨s.g, s.h ++ [.lst ds]⟩ σ (upd H p (.lst vs)) ∧ Stp W s H W' ⟨s.g, s.h ++ [.lst ds]⟩ (upd H p (.lst vs)) ∧ RelW K W' ⟨s.g, s.h ++ [.lst ds]⟩ (upd H p (.lst vs)) (.ref p) (.ref s.h.length) :=
  A.allocG hp fun W' s' H' a st e => ⟨vs, e, hz, st.rels r⟩
/-- a mutable thing is written -/
theorem Abs.writeG {k : Nat} {o1 o : Ob} {u : HO} (A : Abs K W s σ H) (e : s.h[k]? = some o1) (hob : ∀ s' H' a, Stp W s H W s' H' → H' a = some u → ObR K W s' H' a o) :
    Abs K W ⟨s.g, s.h.set k o⟩ σ (upd H (W.ia k) u) ∧ Stp W s H W ⟨s.g, s.h.set k o⟩ (upd H (W.ia k) u) := by
  have hk := (List.getElem?_eq_some_iff.mp e).1
  have hM : ∀ a, MW W ⟨s.g, s.h.set k o⟩ a ↔ MW W s a := fun a => by simp [MW]
  have mk : MW W s (W.ia k) := .inr (.inl ⟨k, hk, rfl⟩)
  have st : Stp W s H W ⟨s.g, s.h.set k o⟩ (upd H (W.ia k) u) := ⟨rfl, fun _ _ => rfl, by simp, fun a o' h m => ⟨by rw [upd_ne (show a ≠ W.ia k from fun z => m (by rw [z]; exact mk))]; exact h, fun z => m ((hM a).mp z)⟩, fun a o' p h => by rw [upd_ne (show a ≠ W.ia k from fun z => A.pI k hk (by rw [← z]; exact p))]; exact h⟩
  refine ⟨⟨A.len, fun i d h => ?_, fun i d h => ?_, fun j o' h => ?_, fun i j hi hj => A.inj i j (by simpa using hi) (by simpa using hj), A.injL, fun j i d hj => A.sep j i d (by simpa using hj), fun j hj => A.pI j (by simpa using hj), A.pL, fun a m => ?_⟩, st⟩
  · obtain ⟨v, h1, q⟩ := A.val i d h
    exact ⟨v, h1, st.rel q⟩
  · obtain ⟨h1, q⟩ := A.own i d h
    exact ⟨h1, q.stp st (upd_ne fun z => A.sep k i d hk h z.symm)⟩
  · rcases getElem?_set_some h with ⟨rfl, rfl⟩ | ⟨hne, h⟩
    · exact hob _ _ _ st upd_same
    · exact (A.hp j o' h).stp st (upd_ne fun z => hne (A.inj j k (List.getElem?_eq_some_iff.mp h).1 hk z))
  · by_cases ha : a = W.ia k
    · exact ⟨_, by rw [ha]; exact upd_same⟩
    · obtain ⟨u', h⟩ := A.pS a m
      exact ⟨u', by rw [upd_ne ha]; exact h⟩
/-- a mutable list is written -/
theorem Abs.write {k : Nat} {ds es : List D} {vs : List V} (A : Abs K W s σ H) (e : s.h[k]? = some (.lst ds)) (r : RelsW K W s H vs es) (hz : vs.length ≤ sizeLine) :
    Abs K W ⟨s.g, s.h.set k (.lst es)⟩ σ (upd H (W.ia k) (.lst vs)) ∧ Stp W s H W ⟨s.g, s.h.set k (.lst es)⟩ (upd H (W.ia k) (.lst vs)) :=
  A.writeG e fun s' H' a st e => ⟨vs, e, hz, st.rels r⟩
end
section
variable {X : Cx} {Wx : WX} {ρ : Fns} {st : Stmt} {sts : List Stmt} {a b c e : Expr} {es : List Expr} {fa fb fc : I} {fl : IL} {pos : Pos}
theorem p_lstH (h : PA X es (tA X.K Wx ρ fl)) : PE X (.List es pos) (tE X.K Wx ρ (iLstH fl)) :=
  PEi (pe_lst h) fun σ H Q ⟨W, s, A, p⟩ => go A p fun x d1 W1 s1 H1 r1 A1 _ p1 => by
    split at p1
    · rename_i hz
      rw [← r1.length] at hz
      refine ⟨hz, fun q hq => ?_⟩
      obtain ⟨W2, A2, st2, r2⟩ := A1.alloc hq r1 hz
      exact p1 _ W2 _ A2 st2 r2
    · exact p1.elim
theorem post_nest {α : Type} {K : PySem.W.Frag} {σ : L2.St} {W : Wd} {s : S} {H : Hp} {E : XK} {Q : VK} {f : I} {k : List D → S → R D} (h : Post K σ (RelW K) W s H E Q ((aCons f aNil ρ s).bind k)) : Post K σ (RelW K) W s H E Q ((f ρ s).bind fun x s => k [x] s) := by
  simp only [aCons, aNil] at h
  cases e : f ρ s with
  | bad => rw [e] at h; exact h
  | ex x s1 => rw [e] at h; exact h
  | ok d s1 => rw [e] at h; exact h
theorem p_join {apos : Pos} (ha : PE X a (tE X.K Wx ρ fa)) (hb : PE X b (tE X.K Wx ρ fb)) (hs : starEach [b] X.env = [(false, eval b X.env)]) (hbase : attributeBase a "join" X.env (eval a X.env) = eval a X.env) (hline : (apos.endLine == pos.line) = true) :
    PE X (.Call (.Attribute a "join" apos) [b] [] pos) (tE X.K Wx ρ (iMt .join fa (aCons fb aNil))) :=
  PEi (pe_m1 PySem.F.slot_str_join PySem.F.type_str_join m_join ha hb hs hbase hline) fun σ H Q ⟨W, s, A, p⟩ => go A p fun x d1 W1 s1 H1 r1 A1 _ p1 => by
    cases r1 with
    | str l z =>
      refine ⟨⟨_, rfl⟩, go A1 (post_nest (α := Unit) p1) fun y d2 W2 s2 H2 r2 A2 st2 p2 => ?_⟩
      obtain ⟨d, e, f⟩ := post_lift p2
      exact ⟨W2, s2, σ, _, _, d, A2, .str l z, .cons r2 .nil, e, f⟩
    | _ => exact p1.elim
theorem s_par {i j : Nat} {x y : Str} {px py pt : Pos} {kt k2 : Nat} {pt2 : Pos} (hc : X.calm = true) (hN : X.N.Nodup) (hi : X.N[i]? = some x) (hj : X.N[j]? = some y) (hij : i ≠ j)
    (hx : X.env.scope.names.lookup x = some .local) (hy : X.env.scope.names.lookup y = some .local) (ha : PA X [a, b] (tA X.K Wx ρ (aCons fa (aCons fb aNil))))
    (hw : swappedStores [.Tuple [.Name x px, .Name y py] kt pt] (.Tuple [a, b] k2 pt2) X.env = pure (some [x, y])) (hs : swapsWithSole [.Tuple [.Name x px, .Name y py] kt pt] (.Tuple [a, b] k2 pt2) pos.line X.env = pure false) :
    PS X (.Assign [.Tuple [.Name x px, .Name y py] kt pt] (.Tuple [a, b] k2 pt2) pos) (tS X.K Wx ρ (sPar i j fa fb)) :=
  PSi (ps_par hc hN hi hj hij hx hy ha hw hs) fun D σ H ⟨W, s, A, p⟩ => by
    have p2 : PostS X.K W s H Wx D ((aCons fa (aCons fb aNil) ρ s).bind fun xs s => match xs with
      | [x, y] => .ok .nx ⟨(s.g.set i (.val x)).set j (.val y), s.h⟩
      | _ => .bad) := by
      simp only [sPar] at p
      simp only [aCons, aNil]
      cases e1 : fa ρ s with
      | bad => rw [e1] at p; exact p
      | ex z s1 => rw [e1] at p; exact p
      | ok d s1 =>
        rw [e1] at p
        simp only [bind_ok] at p ⊢
        cases e2 : fb ρ s1 with
        | bad => rw [e2] at p; exact p
        | ex z s1 => rw [e2] at p; exact p
        | ok d2 s2 => rw [e2] at p; exact p
    refine goS (Rl := RelsW X.K) A p2 fun vs ds W1 s1 H1 r1 A1 st1 p1 => ?_
    match ds, p1, r1 with
    | [d1, d2], p1, r1 =>
      obtain ⟨v, w, rfl, q1, q2⟩ := rels2 r1
      refine ⟨v, w, rfl, ?_⟩
      have B1 := A1.set (i := i) q1
      have B2 := B1.1.set (i := j) (B1.2.rel q2)
      exact p1 _ W1 H1 B2.1 (B1.2.trans B2.2)
    | [], p1, r1 => exact p1.elim
    | [_], p1, r1 => exact p1.elim
    | _ :: _ :: _ :: _, p1, r1 => exact p1.elim
theorem s_set {fo fi fv : I} (h : PS X st (tAsg (tE X.K Wx ρ fv) (gSub (tE X.K Wx ρ fo) (tE X.K Wx ρ fi) rSetL))) : PS X st (tS X.K Wx ρ (sSet fo fi fv)) :=
  PSi h fun D σ H ⟨W, s, A, p⟩ => goS A p fun x d1 W1 s1 H1 r1 A1 _ p1 => goS A1 p1 fun y d2 W2 s2 H2 r2 A2 st2 p2 => goS A2 p2 fun z d3 W3 s3 H3 r3 A3 st3 p3 => by
    have r2 := st3.rel r2
    have r1 := (st2.trans st3).rel r1
    cases r2 with
    | ref hk =>
      rename_i k
      cases r3 with
      | int n =>
        simp only at p3
        cases e : s3.h[k]? with
        | none => rw [e] at p3; exact p3.elim
        | some ob =>
          rw [e] at p3
          cases ob with
          | lst l =>
            simp only at p3
            cases ei : L2.ixN l.length n with
            | none => rw [ei] at p3; exact p3.elim
            | some j =>
              rw [ei] at p3
              obtain ⟨vs, h1, hz, q⟩ := A3.hp k _ e
              have hl := q.length
              refine ⟨_, _, _, j, rfl, rfl, h1, by rw [hl]; exact ei, ?_⟩
              have B := A3.write e (q.set r1 j) (by rw [List.length_set]; exact hz)
              exact p3 σ W3 _ B.1 B.2
          | ins _ _ _ => exact p3.elim
      | _ => exact p3.elim
    | _ => exact p3.elim
/-! ### a def -/
theorem start_abs {N : List Str} {W : Wd} {h : List Ob} {H : Hp} {vs : List V} {ds : List D} (A : Abs X.K W ⟨[], h⟩ [] H) (r : RelsW X.K W ⟨[], h⟩ H vs ds) (hn : vs.length ≤ N.length) :
    Abs X.K W ⟨ds.map .val ++ List.replicate (N.length - ds.length) .no, h⟩ (start N vs) H ∧ Stp W ⟨[], h⟩ H W ⟨ds.map .val ++ List.replicate (N.length - ds.length) .no, h⟩ H := by
  have hl := r.length
  have cases_ : ∀ (i : Nat) (x : Sl), (ds.map Sl.val ++ List.replicate (N.length - ds.length) Sl.no)[i]? = some x → (∃ d, ds[i]? = some d ∧ x = .val d) ∨ x = .no := fun i x e => by
    by_cases hi : i < ds.length
    · rw [List.getElem?_append_left (by simpa using hi), List.getElem?_map] at e
      obtain ⟨d, h1, h2⟩ := Option.map_eq_some_iff.mp e
      exact .inl ⟨d, h1, h2.symm⟩
    · rw [List.getElem?_append_right (by simpa using hi), List.getElem?_replicate] at e
      split at e
      · cases e; exact .inr rfl
      · cases e
  have noown : ∀ (i : Nat) (d : D), (ds.map Sl.val ++ List.replicate (N.length - ds.length) Sl.no)[i]? = some (.own d) → False := fun i d e => by
    rcases cases_ i _ e with ⟨d', _, z⟩ | z <;> cases z
  have sub : ∀ a, MW W ⟨ds.map .val ++ List.replicate (N.length - ds.length) .no, h⟩ a → MW W ⟨[], h⟩ a := fun a m => by
    rcases m with m | m | ⟨i, d, e, _⟩
    · exact .inl m
    · exact .inr (.inl m)
    · exact (noown i d e).elim
  have st : Stp W ⟨[], h⟩ H W ⟨ds.map .val ++ List.replicate (N.length - ds.length) .no, h⟩ H := ⟨rfl, fun _ _ => rfl, Nat.le_refl _, fun a o e m => ⟨e, fun z => m (sub a z)⟩, fun _ _ _ e => e⟩
  refine ⟨⟨?_, fun i d e => ?_, fun i d e => (noown i d e).elim, fun k o e => (A.hp k o e).stp st rfl, A.inj, fun i j d e h => (noown i d h).elim, fun k i d _ h => (noown i d h).elim, A.pI, fun i d e => (noown i d e).elim, A.pS⟩, st⟩
  · simp only [L2.start, List.length_append, List.length_map, List.length_replicate]
    omega
  · rcases cases_ i _ e with ⟨d', e1, z⟩ | z
    · cases z
      obtain ⟨v, e2, q⟩ := r.get e1
      refine ⟨v, ?_, st.rel q⟩
      unfold L2.start
      have hi := (List.getElem?_eq_some_iff.mp e2).1
      rw [List.getElem?_append_left (by simpa using hi), List.getElem?_map, e2]
      rfl
    · cases z
/-- dropping the slots at a def's end -/
theorem Abs.drop {K : PySem.W.Frag} {W : Wd} {s : S} {σ : L2.St} {H : Hp} (A : Abs K W s σ H) : Abs K W ⟨[], s.h⟩ [] H ∧ Stp W s H W ⟨[], s.h⟩ H := by
  have sub : ∀ a, MW W ⟨[], s.h⟩ a → MW W s a := fun a m => by
    rcases m with m | m | ⟨i, d, e, _⟩
    · exact .inl m
    · exact .inr (.inl m)
    · simp at e
  have st : Stp W s H W ⟨[], s.h⟩ H := ⟨rfl, fun _ _ => rfl, Nat.le_refl _, fun a o e m => ⟨e, fun z => m (sub a z)⟩, fun _ _ _ e => e⟩
  exact ⟨⟨rfl, fun i d e => by simp at e, fun i d e => by simp at e, fun k o e => (A.hp k o e).stp st rfl, A.inj, fun i j d e h => by simp at h, fun k i d _ h => by simp at h, A.pI, fun i d e => by simp at e, A.pS⟩, st⟩
/-- a def keeps what its body's word says -/
theorem fn_ok {P : Program} {w : World} {K : PySem.W.Frag} {mg : Str → Option Value} {base : Heap} {x qual : Str} {params : Arguments} {body : List Stmt} {scope : Scope} {dvs : List V} {kws : List (Str × V)} {f : Addr} {fd : FuncData} {N ps : List Str} {k : Nat} {ρ : Fns} {fb : IS}
    (F : FunD K x qual params body scope dvs kws f fd) (Sc : FnScope N ps scope)
    (hbody : ∀ (cdv : Value) (A : Around) (outer : List Env) (s : Shared) (H : Hp) (E : XK), Room k (A.deeper (envOfC qual scope s.heap.objs.size f cdv)) →
      PSs (cxOf (L2.CX P w) P w K mg base N qual scope f cdv A outer s H E) body (tS K (fun c d _ H' => E c d H') ρ fb)) : FnOk P w K mg base (L2.CX P w) (k + 1) f fd ps (spI K ps.length (runD N.length fb ρ)) := by
  have hpl : ps.length ≤ N.length := by have := congrArg List.length Sc.pre; rw [List.length_take] at this; omega
  refine F.ok Sc (fun vs H Q E h => ?_) (fun cdv A outer s H vs Q E hr h => ⟨_, hbody cdv A outer s H E hr, ?_⟩)
  · obtain ⟨_, _, _, _, _, h, _⟩ := h
    exact h
  · obtain ⟨W, hh, ds, A0, r, hl, p⟩ := h
    obtain ⟨A1, st1⟩ := start_abs (X := cxOf (L2.CX P w) P w K mg base N qual scope f cdv A outer s H E) (N := N) A0 r (by omega)
    refine ⟨W, _, A1, ?_⟩
    unfold runD at p
    cases e : fb ρ ⟨ds.map .val ++ List.replicate (N.length - ds.length) .no, hh⟩ with
    | bad => rw [e] at p; exact p
    | ex x s1 =>
      rw [e] at p
      intro c dd σ' W' H' A' st' q
      obtain ⟨A2, st2⟩ := A'.drop
      exact p c dd W' H' A2 ((st1.trans st').trans st2) q.ofCall
    | ok fl s1 =>
      rw [e] at p
      cases fl with
      | nx =>
        intro σ' W' H' A' st'
        obtain ⟨A2, st2⟩ := A'.drop
        exact p .non W' H' A2 ((st1.trans st').trans st2) .non
      | rt d =>
        intro v σ' W' H' A' st' q
        obtain ⟨A2, st2⟩ := A'.drop
        exact p v W' H' A2 ((st1.trans st').trans st2) (st2.rel q)
      | bk => exact p.elim
      | ct => exact p.elim
end
end B
end
section
set_option Elab.async false
set_option linter.all false
set_option maxRecDepth 100000
set_option maxHeartbeats 1000000
namespace B
open PySem PySem.Spec PyProof.Rows L2
/-! ### attributes -/
section
variable {K : PySem.W.Frag} {ia : Nat → Addr} {n : Nat} {M : MS} {H : Hp}
theorem look_some {f : Str} {d : D} : ∀ {ns : List Str} {vs : List V} {ds : List D}, ns.length = vs.length → Rels K ia n M H vs ds → lookD f ns ds = some d → ∃ v, (ns.zip vs).lookup f = some v ∧ Rel K ia n M H v d
  | [], _, _, _, _, h => by simp [lookD] at h
  | x :: ns, [], _, l, _, _ => by simp at l
  | x :: ns, v :: vs, _, l, .cons a r, h => by
    rw [lookD] at h
    rw [List.zip_cons_cons, List.lookup_cons]
    split at h
    · rename_i e
      cases h
      subst e
      exact ⟨v, by simp, a⟩
    · rename_i e
      have : (f == x) = false := by simpa using fun z => e z.symm
      rw [this]
      exact look_some (by simpa using l) r h
theorem look_none {f : Str} : ∀ {ns : List Str} {vs : List V} {ds : List D}, ns.length = vs.length → Rels K ia n M H vs ds → lookD f ns ds = none → (ns.zip vs).lookup f = none
  | [], _, _, _, _, h => by simp
  | x :: ns, [], _, l, _, _ => by simp at l
  | x :: ns, v :: vs, _, l, .cons a r, h => by
    rw [lookD] at h
    rw [List.zip_cons_cons, List.lookup_cons]
    split at h
    · cases h
    · rename_i e
      have : (f == x) = false := by simpa using fun z => e z.symm
      rw [this]
      exact look_none (by simpa using l) r h
def putV (f : Str) (y : V) : List Str → List V → List V
  | n :: ns, v :: vs => if n = f then y :: vs else v :: putV f y ns vs
  | _, _ => [y]
theorem put_zip {f : Str} {y : V} : ∀ {ns : List Str} {vs : List V}, ns.length = vs.length → putF f y (ns.zip vs) = (putN f ns).zip (putV f y ns vs) ∧ (putN f ns).length = (putV f y ns vs).length
  | [], [], _ => ⟨rfl, rfl⟩
  | [], _ :: _, l => by simp at l
  | x :: ns, [], l => by simp at l
  | x :: ns, v :: vs, l => by
    have ih := put_zip (f := f) (y := y) (ns := ns) (vs := vs) (by simpa using l)
    rw [List.zip_cons_cons, putF, putN, putV]
    split
    · exact ⟨rfl, by simpa using l⟩
    · rw [ih.1]
      exact ⟨rfl, by simpa using ih.2⟩
theorem put_rels {f : Str} {y : V} {d : D} (q : Rel K ia n M H y d) : ∀ {ns : List Str} {vs : List V} {ds : List D}, ns.length = vs.length → Rels K ia n M H vs ds → Rels K ia n M H (putV f y ns vs) (putD f d ns ds)
  | [], _, _, _, _ => by
    rw [putV, putD]
    · exact .cons q .nil
    · intro a b c d h; cases h
    · intro a b c d h; cases h
  | x :: ns, [], _, l, _ => by simp at l
  | x :: ns, v :: vs, _, l, .cons a r => by
    rw [putV, putD]
    split
    · exact .cons q r
    · exact .cons a (put_rels q (by simpa using l) r)
end
/-- an instance as it stands -/
theorem rel_ins {K : PySem.W.Frag} {W : Wd} {s : S} {σ : L2.St} {H : Hp} {v : V} {d : D} {c : Str} {ns : List Str} {ds : List D} (A : Abs K W s σ H) (r : RelW K W s H v d) (h : insOf s.h d = some (c, ns, ds)) :
    ∃ a dx vs, v = .ref a ∧ H a = some (.ins (He.ga K c) dx (ns.zip vs)) ∧ ns.length = vs.length ∧ RelsW K W s H vs ds := by
  cases r with
  | ins m e z q => cases h; exact ⟨_, _, _, rfl, e, z, q⟩
  | @ref k hk =>
    simp only [insOf] at h
    split at h
    · rename_i e
      cases h
      obtain ⟨dx, vs, h1, z, q⟩ := A.hp k _ e
      exact ⟨_, dx, vs, rfl, h1, z, q⟩
    · cases h
  | _ => cases h
/-- how the class at C has the attribute f -/
def AhOk (X : Cx) (ρ : Fns) (C : Addr) (f : Str) : Ah → Prop
  | .fld => Cls X.K C ∧ NoAttr X.K C f
  | .prop key => Cls X.K C ∧ ∃ p g fd ps k, PropOf X.K C f p g ∧ FnOk X.prog X.w X.K X.mg X.base (L2.CX X.prog X.w) k g fd ps (spI X.K ps.length (ρ key)) ∧ Room (k + 1) X.A ∧ Binds X.K fd ps [] ∧ ps.length = 1
theorem cx_none {P : Program} {w : World} {o : List Env} {H : Hp} {s : Shared} {e : Value} {s' : Shared} (h : L2.CX P w o H s (fun _ _ _ => False) e s') : False := by
  obtain ⟨_, _, _, _, _, _, _, _, _, _, _, _, z⟩ := h
  exact z
section
variable {X : Cx} {Wx : WX} {ρ : Fns} {st : Stmt} {sts : List Stmt} {a b c e o : Expr} {es : List Expr} {fa fb fc fo fv : I} {fl fk : IL} {pos : Pos} {f : Str}
theorem p_at {tb : List (Str × Ah)} (ha : PE X a (tE X.K Wx ρ fa)) (hab : attributeBase a f X.env (eval a X.env) = eval a X.env) (ht : ∀ c k, tb.lookup c = some k → AhOk X ρ (He.ga X.K c) f k) : PE X (.Attribute a f pos) (tE X.K Wx ρ (iAt tb fa f)) := by
  refine ⟨fun pins s σ H Q I h => ?_⟩
  obtain ⟨W, s0, A, h⟩ := h
  have h1 : tE X.K Wx ρ fa σ H fun v H1 => ∃ d W1 s1, RelW X.K W1 s1 H1 v d ∧ Abs X.K W1 s1 σ H1 ∧ Post X.K σ (RelW X.K) W1 s1 H1 (fun c d H' => Wx c d σ H') Q (match insOf s1.h d with
    | some (c, ns, ds) => (match tb.lookup c with
      | some .fld => lift (lookD f ns ds) s1
      | some (.prop key) => (match ρ key [d] s1.h with
        | .ok d h => .ok d ⟨s1.g, h⟩
        | _ => .bad)
      | none => .bad)
    | none => .bad) := go A h fun v d W1 s1 H1 r A1 _ p => ⟨d, W1, s1, r, A1, p⟩
  refine attr_of hab (thn (ha.run pins s σ H _ I h1) fun u s1 ⟨x, H1, I1, rx, d, W1, t1, r, A1, p⟩ => ?_)
  cases ei : insOf t1.h d with
  | none => rw [ei] at p; exact p.elim
  | some q =>
    obtain ⟨c, ns, ds⟩ := q
    rw [ei] at p
    simp only at p
    obtain ⟨aa, dx, vs, rfl, e1, l1, q1⟩ := rel_ins A1 r ei
    cases rx
    cases et : tb.lookup c with
    | none => rw [et] at p; exact p.elim
    | some k =>
      rw [et] at p
      have hk := ht c k et
      cases k with
      | fld =>
        simp only at p
        obtain ⟨c1, n1⟩ := hk
        cases el : lookD f ns ds with
        | none => rw [el] at p; exact p.elim
        | some y =>
          rw [el] at p
          obtain ⟨v, e2, r2⟩ := look_some l1 q1 el
          exact getattr_ok I1 e1 c1 n1 e2 fun u' s2 I2 ru => ⟨v, H1, I2, ru, p v W1 H1 A1 .refl r2⟩
      | prop key =>
        simp only at p
        obtain ⟨c1, pp, g, fd, ps, kk, hp, F, hr, hb, hps⟩ := hk
        have sp : spI X.K ps.length (ρ key) [.ref aa] H1 Q fun _ _ _ => False := by
          refine ⟨W1.call t1, t1.h, [d], A1.toCall, .cons (r.cong fun a m => mw_call.mp m) .nil, hps.symm, ?_⟩
          cases ef : ρ key [d] t1.h with
          | ok y h' =>
            rw [ef] at p
            exact post_call (r := .ok y h') A1 p
          | ex y h' => rw [ef] at p; exact p.elim
          | bad => rw [ef] at p; exact p.elim
        exact getprop_ok (dvs := []) (ds := []) I1 e1 c1 hp F hr hb .nil (fun pins σ H s e s' _ z => (cx_none z).elim) sp
/-- o.f = e -/
theorem s_att {tb : List Str} {pos' : Pos} (ha : PE X o (tE X.K Wx ρ fo)) (hv : PE X e (tE X.K Wx ρ fv)) (ht : ∀ c ∈ tb, Cls X.K (He.ga X.K c) ∧ NoAttr X.K (He.ga X.K c) f) (hs : swapsWith e (some (.Attribute o f pos')) pos.line X.env = pure false) :
    PS X (.Assign [.Attribute o f pos'] e pos) (tS X.K Wx ρ (sAtt tb fo f fv)) :=
  PSi (ps_fld ha hv hs) fun D σ H ⟨W, s, A, p⟩ => goS A p fun x d1 W1 s1 H1 r1 A1 _ p1 => goS A1 p1 fun y d2 W2 s2 H2 r2 A2 st2 p2 => by
    have r1 := st2.rel r1
    cases r2 with
    | @ref k hk =>
      simp only at p2
      cases e : s2.h[k]? with
      | none => rw [e] at p2; exact p2.elim
      | some ob =>
        rw [e] at p2
        cases ob with
        | lst l => exact p2.elim
        | ins c ns ds =>
          simp only at p2
          split at p2
          · rename_i hc
            simp only [Bool.and_eq_true, decide_eq_true_eq] at hc
            obtain ⟨dx, vs, h1, z, q⟩ := A2.hp k _ e
            obtain ⟨c1, n1⟩ := ht c hc.1
            refine ⟨_, _, dx, _, rfl, h1, c1, n1, by rw [List.length_zip, ← z, Nat.min_self]; exact hc.2, ?_⟩
            have pz := put_zip (f := f) (y := x) z
            have B := A2.writeG (o := .ins c (putN f ns) (putD f d1 ns ds)) (u := .ins (He.ga X.K c) dx (putF f x (ns.zip vs))) e fun s' H' a st e' => ⟨dx, putV f x ns vs, by rw [e', pz.1], pz.2, put_rels (st.rel r1) z (st.rels q)⟩
            exact p2 σ W2 _ B.1 B.2
          · exact p2.elim
    | _ => exact p2.elim
end
end B
end
section
set_option Elab.async false
set_option linter.all false
set_option maxRecDepth 100000
set_option maxHeartbeats 1000000
namespace B
open PySem PySem.Spec PyProof.Rows L2
section
variable {X : Cx} {Wx : WX} {ρ : Fns} {st : Stmt} {sts : List Stmt} {a b c e o : Expr} {es : List Expr} {kws : List Keyword} {fa fb fc fo fv : I} {fl fk : IL} {pos apos : Pos} {f : Str}
/-- what the arguments give, positional ones and keywords -/
theorem args_h {σ : L2.St} {H : Hp} {Q : VK} {n m : Nat} {W : Wd} {s0 : S} {k : List D → List D → S → R D} (A : Abs X.K W s0 σ H) (h : Post X.K σ (RelW X.K) W s0 H (fun c d H' => Wx c d σ H') Q ((fl ρ s0).bind fun xs s => (fk ρ s).bind fun ys s => k xs ys s))
    (hl : ∀ s ds s', fl ρ s = .ok ds s' → ds.length = n) (hl2 : ∀ s ds s', fk ρ s = .ok ds s' → ds.length = m) :
    tA X.K Wx ρ fl σ H fun vs H1 => tA X.K Wx ρ fk σ H1 fun zs H2 => vs.length = n ∧ zs.length = m ∧ ∃ W2 s2 ds es, Abs X.K W2 s2 σ H2 ∧ RelsW X.K W2 s2 H2 vs ds ∧ RelsW X.K W2 s2 H2 zs es ∧ Stp W s0 H W2 s2 H2 ∧ Post X.K σ (RelW X.K) W2 s2 H2 (fun c d H' => Wx c d σ H') Q (k ds es s2) := by
  refine ⟨W, s0, A, ?_⟩
  cases e1 : fl ρ s0 with
  | bad => rw [e1] at h; exact h
  | ex x s1 => rw [e1] at h; exact h
  | ok ds s1 =>
    rw [e1] at h
    intro vs W1 H1 A1 st1 r1
    have h := Post.later h st1
    refine ⟨W1, s1, A1, ?_⟩
    simp only [R.bind] at h
    cases e2 : fk ρ s1 with
    | bad => rw [e2] at h; exact h
    | ex x s2 => rw [e2] at h; exact h
    | ok ds2 s2 =>
      rw [e2] at h
      intro zs W2 H2 A2 st2 r2
      have h := Post.later h st2
      exact ⟨by rw [r1.length]; exact hl _ _ _ e1, by rw [r2.length]; exact hl2 _ _ _ e2, W2, s2, _, _, A2, st2.rels r1, r2, st1.trans st2, h⟩
theorem run_args {pins : List (Addr × Obj)} {s : Shared} {σ : L2.St} {H : Hp} {Q : Value → Shared → Prop} {first : List Value} {f : Value} {ks : List Str} {R : List V → List V → Hp → Prop} (I : Inv X pins σ H s) (hk : PySem.W.keepIn X.K f = true)
    (ha : PA X es (tA X.K Wx ρ fl)) (hkw : PK X kws (tA X.K Wx ρ fk)) (he : (es = [] ∧ fl = aNil) ∨ ∃ e r, es = e :: r ∧ starEach (e :: r) X.env = (false, eval e X.env) :: starEach r X.env) (hpl : (backTo pos (starEach es X.env)).any (·.1) = false)
    (hall : (backToKw pos (keywordEach kws X.env)).all (·.1.isSome) = true) (hks : (backToKw pos (keywordEach kws X.env)).filterMap (·.1) = ks) (hkn : (backToKw pos (keywordEach kws X.env)).any (·.1.isNone) = false)
    (h1 : tA X.K Wx ρ fl σ H fun vs H1 => tA X.K Wx ρ fk σ H1 fun zs H2 => R vs zs H2)
    (fin : ∀ (us ws : List Value) (vs zs : List V) (s2 : Shared) (H2 : Hp), Inv X pins σ H2 s2 → Vals vs us → Vals zs ws → R vs zs H2 → wpAny (model X.prog X.w) X.A (call f (first ++ us) (ks.zip ws)) Q X.xe s2) :
    wpAny (model X.prog X.w) X.A (callWith pos f first (backTo pos (starEach es X.env)) (backToKw pos (keywordEach kws X.env))) Q X.xe s := by
  rcases he with ⟨rfl, rfl⟩ | ⟨e, r, rfl, hs⟩
  · refine PySem.W.callWith_KW0 (h₀ := X.base) I.ok.mod.kin hk hall ?_ (by rw [hpl, hkn]; rfl)
    obtain ⟨W0, s00, A0, p0⟩ := h1
    have q := p0 [] W0 H A0 .refl .nil
    refine thn (hkw.run pos pins s σ H _ I q) fun ws s2 ⟨zs, H2, I2, rz, q2⟩ => ⟨I2.kIn, ?_⟩
    rw [hks]
    exact fin [] ws [] zs s2 H2 I2 .nil rz q2
  · refine PySem.W.callWith_KW (h₀ := X.base) I.ok.mod.kin hk hall (thn (ha.run pos pins s σ H _ I h1) fun us s1 ⟨vs, H1, I1, r, q⟩ => ?_) (by rw [hpl, hkn]; rfl) hs
    refine thn (hkw.run pos pins s1 σ H1 _ I1 q) fun ws s2 ⟨zs, H2, I2, rz, q2⟩ => ⟨I2.kIn, ?_⟩
    rw [hks]
    exact fin us ws vs zs s2 H2 I2 r rz q2
/-- a method of the class at C -/
def MtOk (X : Cx) (ρ : Fns) (C : Addr) (m : Str) (n : Nat) (ks : List Str) (q : Str × List Ai) : Prop :=
  Cls X.K C ∧ ∃ g fd ps k, Meth X.K C m g ∧ FnOk X.prog X.w X.K X.mg X.base (L2.CX X.prog X.w) k g fd ps (spI X.K ps.length (ρ q.1)) ∧ Room k X.A ∧ CB X.K fd ps (n + 1) ks q.2
theorem p_meth {tb : List (Str × Str × List Ai)} {m : Str} {n : Nat} {ks : List Str} (ho : PE X o (tE X.K Wx ρ fo)) (hab : attributeBase o m X.env (eval o X.env) = eval o X.env) (hline : (apos.endLine == pos.line) = true)
    (hform : methodCallForm (es.length + kws.length) (backTo pos (starEach es X.env)) (backToKw pos (keywordEach kws X.env)) = true)
    (ht : ∀ c q, tb.lookup c = some q → MtOk X ρ (He.ga X.K c) m n ks q) (tk : Takes X Wx) (ha : PA X es (tA X.K Wx ρ fl)) (hkw : PK X kws (tA X.K Wx ρ fk)) (hl : ∀ s ds s', fl ρ s = .ok ds s' → ds.length = n) (hl2 : ∀ s ds s', fk ρ s = .ok ds s' → ds.length = ks.length)
    (he : (es = [] ∧ fl = aNil) ∨ ∃ e r, es = e :: r ∧ starEach (e :: r) X.env = (false, eval e X.env) :: starEach r X.env) (hpl : (backTo pos (starEach es X.env)).any (·.1) = false) (hall : (backToKw pos (keywordEach kws X.env)).all (·.1.isSome) = true) (hks : (backToKw pos (keywordEach kws X.env)).filterMap (·.1) = ks)
    (hkn : (backToKw pos (keywordEach kws X.env)).any (·.1.isNone) = false) : PE X (.Call (.Attribute o m apos) es kws pos) (tE X.K Wx ρ (iMeth tb fo m fl fk)) := by
  refine ⟨fun pins s σ H Q I h => ?_⟩
  obtain ⟨W, s0, A, h⟩ := h
  have h1 : tE X.K Wx ρ fo σ H fun v H1 => ∃ d W1 s1, RelW X.K W1 s1 H1 v d ∧ Abs X.K W1 s1 σ H1 ∧ Post X.K σ (RelW X.K) W1 s1 H1 (fun c d H' => Wx c d σ H') Q (match insOf s1.h d with
    | some (c, ns, ds) => (match tb.lookup c, lookD m ns ds with
      | some (key, pm), none => (fl ρ s1).bind fun xs s => (fk ρ s).bind fun ys s => match permD pm (d :: xs ++ ys) with
        | some zs => ofF s.g (ρ key zs s.h)
        | none => .bad
      | _, _ => .bad)
    | none => .bad) := go A h fun v d W1 s1 H1 r A1 _ p => ⟨d, W1, s1, r, A1, p⟩
  refine PySem.W.methodCall_KW (pl := plainOf o X.env) (thn (ho.run pins s σ H _ I h1) fun u s1 ⟨x, H1, I1, rx, d, W1, t1, r, A1, p⟩ => ?_) (by
    rw [arm_eval_Call, hab]
    have : ∀ ov, methodCall o m apos pos X.env ov (es.length + kws.length) (backTo pos (starEach es X.env)) (backToKw pos (keywordEach kws X.env)) = _ := fun ov => mcall_line hform hline
    simp only [this])
  cases ei : insOf t1.h d with
  | none => rw [ei] at p; exact p.elim
  | some q =>
    obtain ⟨c, ns, ds⟩ := q
    rw [ei] at p
    simp only at p
    obtain ⟨aa, dx, vs, rfl, e1, l1, q1⟩ := rel_ins A1 r ei
    cases rx
    cases et : tb.lookup c with
    | none => rw [et] at p; exact p.elim
    | some kq =>
      obtain ⟨key, pm⟩ := kq
      rw [et] at p
      cases el : lookD m ns ds with
      | some y => rw [el] at p; exact p.elim
      | none =>
        rw [el] at p
        simp only at p
        obtain ⟨c1, g, fd, ps, k, hm, F, hr, hb⟩ := ht c _ et
        refine getmeth_ok I1 e1 c1 hm (look_none l1 q1 el) ?_
        refine run_args (first := [.ref aa]) I1 hm.kp ha hkw he hpl hall hks hkn (args_h A1 p hl hl2) fun us ws vs zs s2 H2 I2 rv rz ⟨n1, n2, W2, t2, ds2, es2, A2, rd, re, st2, p2⟩ => ?_
        cases e3 : permD pm (d :: ds2 ++ es2) with
        | none => rw [e3] at p2; exact p2.elim
        | some fs =>
          rw [e3] at p2
          exact run_call (us := .ref aa :: us) (vs := .ref aa :: vs) F hr hb tk I2 (.cons rfl rv) rz (by rw [List.length_cons, n1]) n2 A2 (Rels.append (.cons (st2.rel r) rd) re) e3 p2
end
end B
end
section
set_option Elab.async false
set_option linter.all false
set_option maxRecDepth 100000
set_option maxHeartbeats 1000000
namespace B
open PySem PySem.Spec PyProof.Rows L2
/-! ### the same tree -/
mutual
theorem eqT_ok : ∀ {a b : D}, eqT a b = true → a = b
  | .non, b, h => by cases b <;> first | rfl | cases h
  | .bl x, b, h => by cases b <;> first | (rw [eqT] at h; rw [eq_of_beq h]) | cases h
  | .int x, b, h => by cases b <;> first | (rw [eqT] at h; rw [of_decide_eq_true h]) | cases h
  | .str x, b, h => by cases b <;> first | (rw [eqT] at h; rw [of_decide_eq_true h]) | cases h
  | .ref x, b, h => by cases b <;> first | (rw [eqT] at h; rw [of_decide_eq_true h]) | cases h
  | .ty x, b, h => by cases b <;> first | (rw [eqT] at h; rw [of_decide_eq_true h]) | cases h
  | .cls x, b, h => by cases b <;> first | (rw [eqT] at h; rw [of_decide_eq_true h]) | cases h
  | .tup x, b, h => by cases b <;> first | (rw [eqT] at h; rw [eqTs_ok h]) | cases h
  | .lst x, b, h => by cases b <;> first | (rw [eqT] at h; rw [eqTs_ok h]) | cases h
  | .rdl x, b, h => by cases b <;> first | (rw [eqT] at h; rw [eqTs_ok h]) | cases h
  | .ins x y z, b, h => by
    cases b <;> first | (cases h; done) | skip
    rw [eqT] at h
    simp only [Bool.and_eq_true, decide_eq_true_eq] at h
    rw [h.1, h.2.1, eqTs_ok h.2.2]
theorem eqTs_ok : ∀ {a b : List D}, eqTs a b = true → a = b
  | [], b, h => by cases b <;> first | rfl | cases h
  | x :: r, b, h => by
    cases b with
    | nil => cases h
    | cons y q =>
      rw [eqTs, Bool.and_eq_true] at h
      rw [eqT_ok h.1, eqTs_ok h.2]
end
mutual
theorem eqT_rfl : ∀ a : D, eqT a a = true
  | .non => rfl
  | .bl x => by rw [eqT]; exact beq_self_eq_true x
  | .int x => by rw [eqT]; exact decide_eq_true rfl
  | .str x => by rw [eqT]; exact decide_eq_true rfl
  | .ref x => by rw [eqT]; exact decide_eq_true rfl
  | .ty x => by rw [eqT]; exact decide_eq_true rfl
  | .cls x => by rw [eqT]; exact decide_eq_true rfl
  | .tup x => by rw [eqT]; exact eqTs_rfl x
  | .lst x => by rw [eqT]; exact eqTs_rfl x
  | .rdl x => by rw [eqT]; exact eqTs_rfl x
  | .ins x y z => by rw [eqT, eqTs_rfl z, decide_eq_true rfl, decide_eq_true rfl]; rfl
theorem eqTs_rfl : ∀ a : List D, eqTs a a = true
  | [] => rfl
  | x :: r => by rw [eqTs, eqT_rfl x, eqTs_rfl r]; rfl
end
theorem eqOb_ok {a b : Ob} (h : eqOb a b = true) : a = b := by
  cases a with
  | lst x => cases b with
    | lst y => rw [eqTs_ok (show eqTs x y = true from h)]
    | ins _ _ _ => cases h
  | ins x y z => cases b with
    | lst y => cases h
    | ins p q r =>
      rw [eqOb] at h
      simp only [Bool.and_eq_true, decide_eq_true_eq] at h
      rw [h.1, h.2.1, eqTs_ok h.2.2]
theorem eqOb_rfl (a : Ob) : eqOb a a = true := by
  cases a with
  | lst x => exact eqTs_rfl x
  | ins x y z => rw [eqOb, eqTs_rfl z, decide_eq_true rfl, decide_eq_true rfl]; rfl
theorem eqH_ok : ∀ {a b : List Ob}, eqH a b = true → a = b
  | [], b, h => by cases b <;> first | rfl | cases h
  | x :: r, b, h => by
    cases b with
    | nil => cases h
    | cons y q =>
      rw [eqH, Bool.and_eq_true] at h
      rw [eqOb_ok h.1, eqH_ok h.2]
theorem eqH_rfl : ∀ a : List Ob, eqH a a = true
  | [] => rfl
  | x :: r => by rw [eqH, eqOb_rfl x, eqH_rfl r]; rfl
/-! ### fewer mutable things -/
section
variable {K : PySem.W.Frag} {ia : Nat → Addr} {n k : Nat} {M M' : MS} {H : Hp}
mutual
theorem Rel.scp : ∀ {v : V} {d : D}, Rel K ia n M H v d → B.scp n d = true
  | _, _, .non => rfl
  | _, _, .bl b => rfl
  | _, _, .int i => rfl
  | _, _, .str l h => rfl
  | _, _, .tup t z r => by rw [B.scp]; exact Rels.scp r
  | _, _, .lst m e z r => by rw [B.scp]; exact Rels.scp r
  | _, _, .ref h => by rw [B.scp]; exact decide_eq_true h
  | _, _, .ty t => rfl
  | _, _, .rdl t z r => by rw [B.scp]; exact Rels.scp r
  | _, _, .ins m e z r => by rw [B.scp]; exact Rels.scp r
  | _, _, .cls c => rfl
theorem Rels.scp : ∀ {vs : List V} {ds : List D}, Rels K ia n M H vs ds → B.scps n ds = true
  | _, _, .nil => rfl
  | _, _, .cons a r => by rw [B.scps, Rel.scp a, Rels.scp r]; rfl
end
mutual
theorem Rel.shrink (hM : ∀ a, M' a → M a) : ∀ {v : V} {d : D}, Rel K ia n M H v d → B.scp k d = true → Rel K ia k M' H v d
  | _, _, .non, _ => .non
  | _, _, .bl b, _ => .bl b
  | _, _, .int i, _ => .int i
  | _, _, .str l h, _ => .str l h
  | _, _, .tup t z r, h => by
    rw [B.scp] at h
    refine .tup ?_ z (Rels.shrink hM r h)
    rcases t with ⟨m, e⟩ | t
    · exact .inl ⟨fun z => m (hM _ z), e⟩
    · exact .inr t
  | _, _, .lst m e z r, h => by
    rw [B.scp] at h
    exact .lst (fun z => m (hM _ z)) e z (Rels.shrink hM r h)
  | _, _, .ref _, h => by
    rw [B.scp] at h
    exact .ref (of_decide_eq_true h)
  | _, _, .ty t, _ => .ty t
  | _, _, .rdl t z r, h => by
    rw [B.scp] at h
    refine .rdl ?_ z (Rels.shrink hM r h)
    rcases t with ⟨m, e⟩ | t
    · exact .inl ⟨fun z => m (hM _ z), e⟩
    · exact .inr t
  | _, _, .ins m e z r, h => by
    rw [B.scp] at h
    exact .ins (fun z => m (hM _ z)) e z (Rels.shrink hM r h)
  | _, _, .cls c, _ => .cls c
theorem Rels.shrink (hM : ∀ a, M' a → M a) : ∀ {vs : List V} {ds : List D}, Rels K ia n M H vs ds → B.scps k ds = true → Rels K ia k M' H vs ds
  | _, _, .nil, _ => .nil
  | _, _, .cons a r, h => by
    rw [B.scps, Bool.and_eq_true] at h
    exact .cons (Rel.shrink hM a h.1) (Rels.shrink hM r h.2)
end
end
theorem Rel.refInv {K : PySem.W.Frag} {ia : Nat → Addr} {n : Nat} {M : MS} {H : Hp} {v : V} {d : D} (r : Rel K ia n M H v d) : ∀ a k, v = .ref a → d = .ref k → a = ia k := by
  cases r <;> intro a k e1 e2 <;> first | (cases e2; done) | skip
  cases e2
  cases e1
  rfl
/-- the last mutable thing stands still from now on -/
theorem Abs.freezeLast {K : PySem.W.Frag} {W W3 : Wd} {s : S} {h' : List Ob} {σ : L2.St} {H H3 : Hp} (A : Abs K W s σ H) (A3 : Abs K W3 ⟨s.g, h'⟩ σ H3) (st : Stp W s H W3 ⟨s.g, h'⟩ H3) (ht : h'.take s.h.length = s.h) (hl : h'.length = s.h.length + 1) {c : Str} {ns : List Str} {ds : List D} (he : h'[s.h.length]? = some (.ins c ns ds)) (hd : scps s.h.length ds = true) :
    Abs K W3 s σ H3 ∧ Stp W s H W3 s H3 ∧ RelW K W3 s H3 (.ref (W3.ia s.h.length)) (.ins c ns ds) := by
  have sub : ∀ a, MW W3 s a → MW W3 ⟨s.g, h'⟩ a := fun a m => by
    rcases m with m | ⟨k, hk, z⟩ | m
    · exact .inl m
    · exact .inr (.inl ⟨k, by show k < h'.length; omega, z⟩)
    · exact .inr (.inr m)
  have st' : Stp W s H W3 s H3 := ⟨st.P, st.ia, Nat.le_refl _, fun a o e m => ⟨(st.fz a o e m).1, fun z => (st.fz a o e m).2 (sub a z)⟩, st.pr⟩
  have get : ∀ (k : Nat) (o : Ob), s.h[k]? = some o → h'[k]? = some o := fun k o e => by
    have hk := (List.getElem?_eq_some_iff.mp e).1
    rw [← ht, List.getElem?_take] at e
    rw [if_pos hk] at e
    exact e
  refine ⟨⟨A.len, fun i d e => ?_, fun i d e => ?_, fun k o e => ?_, fun k j hk hj => A3.inj k j (by show k < h'.length; omega) (by show j < h'.length; omega), A3.injL, fun k i d hk => A3.sep k i d (by show k < h'.length; omega), fun k hk => A3.pI k (by show k < h'.length; omega), A3.pL, A3.pS⟩, st', ?_⟩
  · obtain ⟨v, h1, r⟩ := A.val i d e
    exact ⟨v, h1, st'.rel r⟩
  · obtain ⟨h1, r⟩ := A3.own i d e
    obtain ⟨_, r0⟩ := A.own i d e
    refine ⟨h1, ?_⟩
    cases d with
    | lst l =>
      obtain ⟨vs, e1, z, q⟩ := r
      obtain ⟨_, _, _, q0⟩ := r0
      exact ⟨vs, e1, z, q.shrink sub q0.scp⟩
    | _ => exact r.elim
  · have r := A3.hp k o (get k o e)
    have r0 := A.hp k o e
    cases o with
    | lst l =>
      obtain ⟨vs, e1, z, q⟩ := r
      obtain ⟨_, _, _, q0⟩ := r0
      exact ⟨vs, e1, z, q.shrink sub q0.scp⟩
    | ins c ns l =>
      obtain ⟨dx, vs, e1, z, q⟩ := r
      obtain ⟨_, _, _, _, q0⟩ := r0
      exact ⟨dx, vs, e1, z, q.shrink sub q0.scp⟩
  · obtain ⟨dx, vs, e1, z, q⟩ := A3.hp _ _ he
    refine .ins (fun m => ?_) e1 z (q.shrink sub hd)
    rcases m with m | ⟨k, hk, z⟩ | ⟨i, d, e, z⟩
    · exact A3.pI _ (by show s.h.length < h'.length; omega) m
    · exact absurd (A3.inj k s.h.length (by show k < h'.length; omega) (by show s.h.length < h'.length; omega) z) (by omega)
    · exact A3.sep s.h.length i d (by show s.h.length < h'.length; omega) e z.symm
/-- how a class is made -/
def MkOk (X : Cx) (ρ : Fns) (C : Addr) (n : Nat) (ks : List Str) (key : Str) (pm : List Ai) : Prop :=
  ∃ f fd ps k, Mk X.K C f ∧ FnOk X.prog X.w X.K X.mg X.base (L2.CX X.prog X.w) k f fd ps (spI X.K ps.length (ρ key)) ∧ Room (k + 1) X.A ∧ CB X.K fd ps (n + 1) ks pm
section
variable {X : Cx} {Wx : WX} {ρ : Fns} {st : Stmt} {sts : List Stmt} {a b c e o : Expr} {es : List Expr} {kws : List Keyword} {fa fb fc fo fv : I} {fl fk : IL} {pos apos : Pos} {f : Str}
theorem run_makeB {c key : Str} {fz : Bool} {n : Nat} {ks : List Str} {pm : List Ai} {pins : List (Addr × Obj)} {σ : L2.St} {H : Hp} {s : Shared} {Q : VK} {us ws : List Value} {vs zs : List V} (M : MkOk X ρ (He.ga X.K c) n ks key pm) (tk : Takes X Wx)
    (I : Inv X pins σ H s) (r : Vals vs us) (rz : Vals zs ws) (l1 : vs.length = n) (l2 : zs.length = ks.length) {W : Wd} {t : S} {ds es fs : List D} (A : Abs X.K W t σ H) (rd : RelsW X.K W t H vs ds) (re : RelsW X.K W t H zs es) (hp : permD pm (.ref t.h.length :: ds ++ es) = some fs)
    (p : Post X.K σ (RelW X.K) W t H (fun c d H' => Wx c d σ H') Q (made fz t.g t.h (ρ key fs (t.h ++ [.ins c [] []])))) :
    wpAny (model X.prog X.w) X.A (call (.ref (He.ga X.K c)) us (ks.zip ws)) (EP X pins σ Q) X.xe s := by
  obtain ⟨f, fd, ps, k, mk, F, hr, hb⟩ := M
  obtain ⟨x, hx⟩ : ∃ x, x = s.heap.objs.size + 1 := ⟨_, rfl⟩
  have hx0 : H (s.heap.objs.size + 1) = none := I.hok.fresh (Nat.le_succ _)
  have hd0 : H s.heap.objs.size = none := I.hok.fresh (Nat.le_refl _)
  have hne : s.heap.objs.size ≠ s.heap.objs.size + 1 := Nat.ne_of_lt (Nat.lt_succ_self _)
  have I2 := Inv.made (C := He.ga X.K c) I
  -- the new world
  have A0 := A.laid (p := s.heap.objs.size) (o := .own (s.heap.objs.size + 1)) hd0
  have st0 : Stp W t H W t (upd H s.heap.objs.size (.own (s.heap.objs.size + 1))) := .laid hd0
  obtain ⟨W1, A1, st1, r1⟩ := A0.allocG (p := s.heap.objs.size + 1) (o := .ins c [] []) (u := .ins (He.ga X.K c) s.heap.objs.size []) (by rw [upd_ne (fun z => hne z.symm)]; exact hx0) fun W' s' H' a st e => ⟨_, [], e, rfl, .nil⟩
  have st01 := st0.trans st1
  obtain ⟨ls, lv, bt, rl, hl, rr⟩ := hb _ (Value.ref (s.heap.objs.size + 1) :: us) ws (V.ref (s.heap.objs.size + 1) :: vs) zs I2.kIn (by rw [List.length_cons, ← r.length, l1]) (by rw [← rz.length]; exact l2) (.cons rfl r) rz
  have q1 : Post X.K σ (RelW X.K) W1 ⟨t.g, t.h ++ [.ins c [] []]⟩ (upd (upd H s.heap.objs.size (.own (s.heap.objs.size + 1))) (s.heap.objs.size + 1) (.ins (He.ga X.K c) s.heap.objs.size [])) (fun c d H' => Wx c d σ H') (fun v H2 => v = .non ∧ Q (.ref (s.heap.objs.size + 1)) H2) (ofF t.g (ρ key fs (t.h ++ [.ins c [] []]))) := by
    cases er : ρ key fs (t.h ++ [.ins c [] []]) with
    | bad => rw [er] at p; exact p
    | ex y h' =>
      rw [er] at p
      exact Post.later (r := .ex y ⟨t.g, h'⟩) p st01
    | ok d h' =>
      rw [er] at p
      intro v W3 H3 A3 st3 rv
      cases d <;> first | (exact p.elim; done) | skip
      cases rv
      refine ⟨rfl, ?_⟩
      cases fz with
      | false => exact p _ W3 H3 A3 (st01.trans st3) (st3.rel r1)
      | true =>
        simp only [made] at p
        split at p
        · rename_i hc
          simp only [Bool.and_eq_true, decide_eq_true_eq] at hc
          cases eh : h'[t.h.length]? with
          | none => rw [eh] at p; exact p.elim
          | some ob =>
            rw [eh] at p
            cases ob with
            | lst _ => exact p.elim
            | ins c' ns ds' =>
              simp only at p
              split at p
              · rename_i hs
                obtain ⟨A4, st4, r4⟩ := A.freezeLast A3 (st01.trans st3) (eqH_ok hc.1) hc.2 eh hs
                have ex : W3.ia t.h.length = s.heap.objs.size + 1 := ((st3.rel r1).refInv _ _ rfl rfl).symm
                rw [ex] at r4
                exact p _ W3 H3 A4 st4 r4
              · exact p.elim
        · exact p.elim
  have sp : spI X.K ps.length (ρ key) lv (upd (upd H s.heap.objs.size (.own (s.heap.objs.size + 1))) (s.heap.objs.size + 1) (.ins (He.ga X.K c) s.heap.objs.size [])) (fun v H2 => v = .non ∧ Q (.ref (s.heap.objs.size + 1)) H2) (fun c d H' => Wx c d σ H') :=
    ⟨W1.call _, _, fs, A1.toCall, (rr _ _ _ _ _ fs (Rels.append (.cons r1 (st01.rels rd)) (st01.rels re)) hp).cong fun a m => mw_call.mp m, hl, post_call A1 q1⟩
  refine wpAny_call (make_map (f := f) I.kIn mk.makes mk.init (beq_iff_eq.mp mk.fn) (codeAny_mono (F.run _ X.stack _ _ ⟨Value.ref (s.heap.objs.size + 1) :: us, ks.zip ws⟩ ls lv _ _ (hr.make _ us (ks.zip ws))
    (I2.env0.make _ us (ks.zip ws)) bt rl sp) fun r s' hq' => ?_))
  cases r with
  | error e => exact passAt tk σ pins _ _ e s' I2 hq'
  | ok fl =>
    cases fl with
    | ret u =>
      obtain ⟨v, H', I3, rv, ev, q3⟩ := I2.after hq'
      subst ev
      exact ⟨rv, ⟨V.ref (s.heap.objs.size + 1), H', I3, rfl, q3⟩⟩
    | next => exact False.elim hq'
    | brk => exact False.elim hq'
    | cont => exact False.elim hq'
theorem p_make {c key : Str} {fz : Bool} {n : Nat} {ks : List Str} {pm : List Ai} {p : Pos} (M : MkOk X ρ (He.ga X.K c) n ks key pm) (hkp : PySem.W.keepIn X.K (.ref (He.ga X.K c)) = true) (tk : Takes X Wx) (hg : Gl X c) (hm : X.mg c = some (.ref (He.ga X.K c))) (hdb : (c == ("__debug__" : Str)) = false)
    (ha : PA X es (tA X.K Wx ρ fl)) (hkw : PK X kws (tA X.K Wx ρ fk)) (hl : ∀ s ds s', fl ρ s = .ok ds s' → ds.length = n) (hl2 : ∀ s ds s', fk ρ s = .ok ds s' → ds.length = ks.length)
    (he : (es = [] ∧ fl = aNil) ∨ ∃ e r, es = e :: r ∧ starEach (e :: r) X.env = (false, eval e X.env) :: starEach r X.env) (hpl : (backTo pos (starEach es X.env)).any (·.1) = false) (hall : (backToKw pos (keywordEach kws X.env)).all (·.1.isSome) = true) (hks : (backToKw pos (keywordEach kws X.env)).filterMap (·.1) = ks)
    (hkn : (backToKw pos (keywordEach kws X.env)).any (·.1.isNone) = false) : PE X (.Call (.Name c p) es kws pos) (tE X.K Wx ρ (iMake c key pm fz fl fk)) := by
  refine ⟨fun pins s σ H Q I h => ?_⟩
  obtain ⟨W, s0, A, h⟩ := h
  refine wpAny_Call_Name_kw (ld_glob I hg hm ?_ hdb)
  refine run_args (first := []) I hkp ha hkw he hpl hall hks hkn (args_h A h hl hl2) fun us ws vs zs s2 H2 I2 rv rz ⟨n1, n2, W2, t2, ds2, es2, A2, rd, re, st2, p2⟩ => ?_
  cases e3 : permD pm (.ref t2.h.length :: ds2 ++ es2) with
  | none => rw [e3] at p2; exact p2.elim
  | some fs =>
    rw [e3] at p2
    exact run_makeB M tk I2 rv rz n1 n2 A2 rd re e3 p2
end
end B
end
section
set_option Elab.async false
set_option linter.all false
set_option maxRecDepth 100000
set_option maxHeartbeats 1000000
namespace B
open PySem PySem.Spec PyProof.Rows L2
/-! ### == and != by an own __eq__ -/
def rightOk (c : Str) (h : List Ob) (y : D) : Bool := match insOf h y with
  | some (c2, _, _) => decide (c2 = c)
  | none => (clsD y).isSome
/-- what an own == says -/
def eqOwn (tb : List (Str × Str)) (ne : Bool) (ρ : Fns) (x y : D) (s : S) : R D := match insOf s.h x with
  | some (c, _, _) => (match tb.lookup c with
    | some key => if rightOk c s.h y then (match ρ key [x, y] s.h with
      | .ok (.bl r) h' => .ok (.bl (ne ^^ r)) ⟨s.g, h'⟩
      | _ => .bad) else .bad
    | none => .bad)
  | none => lift ((cmpD (if ne then .NotEq else .Eq) x y).map .bl) s
def iEqO (tb : List (Str × Str)) (ne : Bool) (a b : I) : I := fun ρ s => (a ρ s).bind fun x s => (b ρ s).bind fun y s => eqOwn tb ne ρ x y s
def tEqO (tb : List (Str × Str)) (ne : Bool) (a b : I) : IT := fun ρ s => (a ρ s).bind fun x s => (b ρ s).bind fun y s => (eqOwn tb ne ρ x y s).bind fun z s => match z with
  | .bl r => .ok r s
  | _ => .bad
/-- the class at C has an own == -/
def EqOk (X : Cx) (ρ : Fns) (C : Addr) (key : Str) : Prop := ∃ f fd ps k, PySem.W.findIn X.K (.ref C) "__eq__" = some (some (.ref f)) ∧ PySem.W.isFn X.K (.ref f) = true ∧ FnOk X.prog X.w X.K X.mg X.base (L2.CX X.prog X.w) k f fd ps (spI X.K ps.length (ρ key)) ∧ Room (k + 1) X.A ∧ CB X.K fd ps 2 [] [.ix 0, .ix 1] ∧
  ∀ t ∈ ["NoneType", "bool", "int", "str", "tuple", "list"], PySem.W.subIn X.K (.type t) (.ref C) = some false
/-- .. and the built-in != over it -/
def NeOk (X : Cx) (C : Addr) : Prop := PySem.W.findIn X.K (.ref C) "__ne__" = some (some (.builtin "object.__ne__")) ∧ PySem.W.mroIn X.K C (.type "object") = some true
section
open PySem.W
variable {prog : Program} {w : World} {A : Around} {E : Value → Shared → Prop} {s : Shared} {K : Frag} {x C f L : Addr} {h₀ : Heap} {m : Str → Option Value} {ox : Obj} {od : Option Obj} {b tb : Value}
theorem ne_call {Q : Value → Shared → Prop} (hu : A.in1.units < cLine) (X : K.In s.heap) (I : InstAt s.heap x ox C od) (hm : mroIn K C (.type "object") = some true) (he : findIn K (.ref C) "__eq__" = some (some (.ref f))) (hf : isFn K (.ref f) = true)
    (h : wpAny (model prog w) A.in1 (call (.ref f) [.ref x, b]) (fun v s' => ∃ r, v = .bool r ∧ Q (.bool (!r)) s') E s) : wpAny (model prog w) A (call (.builtin "object.__ne__") [.ref x, b]) Q E s := by
  refine wpAny_call (codeAny_call_builtin PySem.F.cmp_object.ne.plain PySem.F.cmpEntry_ne (check_slot (i := "object.__ne__") (owner := "object") (n := "__ne__") PySem.F.cmpKind_ne PySem.F.cmpSplit_ne (I.type.andThen (looks_mroIn X hm)) (PySem.F.cmpArgs_ne _ _) ?_))
  unfold Builtin.«object.__ne__»
  refine wpAny_bind (m := slotArgs "__ne__" 1 _) (wpAny_pure ?_)
  refine wpAny_bind (m := cRoomFor _ _) (wpAny_cRoomFor hu ?_)
  refine wpAny_bind (m := callSpecialIfBound? (.ref x) (Str.ofString "__eq__") _) (ifBound_K X I he hf (wpAny_mono h (fun r s' hq => ?_) fun _ _ y => y))
  obtain ⟨r, rfl, q⟩ := hq
  refine wpAny_bind (wpAny_truthy_bool ?_)
  exact wpAny_pure q
theorem cmp_ne {Q : Value → Shared → Prop} (hu : A.units + 1 < cLine) (F : Fr h₀ L s.heap m) (X₀ : K.In h₀) (I : InstAt s.heap x ox C od) (hb : Looks (model prog w) s.heap (typeOf b) tb) (hn : notFirst K C tb = true)
    (hs : findIn K (.ref C) "__ne__" = some (some (.builtin "object.__ne__"))) (hm : mroIn K C (.type "object") = some true) (he : findIn K (.ref C) "__eq__" = some (some (.ref f))) (hf : isFn K (.ref f) = true)
    (h : wpAny (model prog w) A.in1 (call (.ref f) [.ref x, b]) (fun v s' => ∃ r, v = .bool r ∧ Q (.bool (!r)) s') E s) : wpAny (model prog w) A (richCompare .NotEq (.ref x) b) Q E s := by
  have X := X₀.keeps F.keep
  have one : wpAny (model prog w) A (tryCompare (.ref x) "__ne__" b) (fun r s' => ∃ v, r = some v ∧ Q v s') E s := by
    unfold tryCompare
    refine wpAny_bind ?_
    have c := ne_call (Q := fun v s' => ∃ r, v = .bool r ∧ Q v s') (A := A) hu X I hm he hf (wpAny_mono h (fun v s' ⟨r, e, q⟩ => ⟨r, e, _, rfl, q⟩) fun _ _ z => z)
    simp only [callSpecialIfBound?, bindSpecialIfBound?]
    refine wpAny_holding (wpAny_bind (wpAny_bind (wpAny_bind (I.type.here ((looks_findIn X hs).here ?_)))))
    refine wpAny_bind (wpAny_askSetting (wpAny_ite ?_))
    split
    · exact wpAny_bind ((Looks.of_pure (PySem.F.cmp_object.ne.bind _)).here (wpAny_pure (by exact wpAny_bind (wpAny_mono c (fun v s' ⟨r, e, q⟩ => by subst e; exact wpAny_pure (wpAny_pure ⟨_, rfl, q⟩)) fun _ _ z => z))))
    · exact wpAny_tryCatch (wpAny_bind ((Looks.of_pure (PySem.F.cmp_object.ne.bind _)).here (wpAny_pure (by exact wpAny_bind (wpAny_mono c (fun v s' ⟨r, e, q⟩ => by subst e; exact wpAny_pure (wpAny_pure ⟨_, rfl, q⟩)) fun _ _ z => z)))))
  unfold richCompare
  simp only [oneThing_ref]
  refine wpAny_holding (wpAny_bind (wpAny_cRoomFor (by omega) ?_))
  refine wpAny_bind (I.type.here (wpAny_bind (hb.here ?_)))
  split
  · rename_i q
    have e : subIn K tb (.ref C) = some false := by
      rcases Bool.or_eq_true_iff.mp hn with e | e
      · rw [beq_iff_eq.mp e] at q; simp at q
      · exact beq_iff_eq.mp e
    refine wpAny_bind ((looks_subIn X e).here ?_)
    simp only [Bool.false_eq_true, if_false]
    refine wpAny_bind (wpAny_mono one (fun r s' z => ?_) fun _ _ e => e)
    obtain ⟨v, rfl, hq⟩ := z
    exact wpAny_pure hq
  · refine wpAny_bind (wpAny_pure ?_)
    simp only [Bool.false_eq_true, if_false]
    refine wpAny_bind (wpAny_mono one (fun r s' z => ?_) fun _ _ e => e)
    obtain ⟨v, rfl, hq⟩ := z
    exact wpAny_pure hq
end
/-- the reading of x == y -/
def rEqO (K : PySem.W.Frag) (tb : List (Str × Str)) (ne : Bool) (ρ : Fns) : R2 := fun x y H Q => ∃ W s σ d1 d2, Abs K W s σ H ∧ RelW K W s H x d1 ∧ RelW K W s H y d2 ∧ Post K σ (RelW K) W s H (fun _ _ _ => False) Q (eqOwn tb ne ρ d1 d2 s)
section
variable {X : Cx} {Wx : WX} {ρ : Fns} {a b : Expr} {fa fb : I} {pos : Pos} {tb : List (Str × Str)}
theorem cls_base {d : D} {t : String} (h : clsD d = some t) : t ∈ ["NoneType", "bool", "int", "str", "tuple", "list"] := by
  unfold clsD at h
  split at h <;> cases h <;> decide
/-- the own __eq__ runs -/
theorem run_eq {key : Str} {ne : Bool} {pins : List (Addr × Obj)} {σ σ1 : L2.St} {H : Hp} {s : Shared} {Q : VK} {aa : Addr} {y : V} {u : Value} {W : Wd} {s1 : S} {d1 d2 : D} {f : Addr} {fd : FuncData} {ps : List Str} {k : Nat} {R : Value → Shared → Prop} {A' : Around} (e0 : Env0 X.prog X.w X.K X.mg X.base A' X.stack s H) (I : Inv X pins σ H s) (A : Abs X.K W s1 σ1 H) (r1 : RelW X.K W s1 H (.ref aa) d1) (r2 : RelW X.K W s1 H y d2) (ry : RelV y u)
    (p : Post X.K σ1 (RelW X.K) W s1 H (fun _ _ _ => False) Q (match ρ key [d1, d2] s1.h with
      | .ok (.bl r) h' => .ok (.bl (ne ^^ r)) ⟨s1.g, h'⟩
      | _ => .bad)) (F : FnOk X.prog X.w X.K X.mg X.base (L2.CX X.prog X.w) k f fd ps (spI X.K ps.length (ρ key))) (room : Room k A') (cb : CB X.K fd ps 2 [] [.ix 0, .ix 1])
    (fin : ∀ (r : Bool) (s' : Shared) (H' : Hp), Inv X pins σ H' s' → Q (.bl (ne ^^ r)) H' → R (.bool r) s') :
    wpAny (model X.prog X.w) A' (call (.ref f) [.ref aa, u]) R X.xe s := by
  obtain ⟨ls, lv, bt, rl, hl, rr⟩ := cb s [.ref aa, u] [] [.ref aa, y] [] I.kIn rfl rfl (.cons rfl (.cons ry .nil)) .nil
  have p' : Post X.K σ1 (RelW X.K) W s1 H (fun _ _ _ => False) (fun v H' => ∃ r, v = .bl r ∧ Q (.bl (ne ^^ r)) H') (ofF s1.g (ρ key [d1, d2] s1.h)) := by
    cases er : ρ key [d1, d2] s1.h with
    | bad => rw [er] at p; exact p
    | ex z h' => rw [er] at p; exact p.elim
    | ok d h' =>
      rw [er] at p
      cases d <;> first | (exact p.elim; done) | skip
      rename_i r
      intro v W' H' A' st rv
      cases rv
      exact ⟨r, rfl, p _ W' H' A' st (.bl _)⟩
  have sp : spI X.K ps.length (ρ key) lv H (fun v H' => ∃ r, v = .bl r ∧ Q (.bl (ne ^^ r)) H') (fun _ _ _ => False) :=
    ⟨W.call s1, s1.h, [d1, d2], A.toCall, (rr _ _ _ _ [d1, d2] [d1, d2] (.cons r1 (.cons r2 .nil)) rfl).cong fun a m => mw_call.mp m, hl, post_call A p'⟩
  refine wpAny_call (codeAny_mono (F.run A' X.stack s H ⟨[.ref aa, u], []⟩ ls lv _ _ room e0 bt rl sp) fun r s' hq => ?_)
  cases r with
  | error e => exact (cx_none hq).elim
  | ok fl =>
    cases fl with
    | ret w =>
      obtain ⟨z, H', I', rz, r, rfl, q⟩ := I.after hq
      cases rz
      exact fin r s' H' I' q
    | next => exact False.elim hq
    | brk => exact False.elim hq
    | cont => exact False.elim hq
/-- how == and != stand to each other -/
def opOf (ne : Bool) : CmpOp := if ne then .NotEq else .Eq
theorem op_eqO {ne : Bool} (hu : X.A.units + 64 < cLine) (ht : ∀ c key, tb.lookup c = some key → EqOk X ρ (He.ga X.K c) key ∧ (ne = true → NeOk X (He.ga X.K c))) : OpR X (compareOp (opOf ne)) (rEqO X.K tb ne ρ) := by
  intro pins s σ H x y v u Q I rx ry h
  obtain ⟨W, s1, σ1, d1, d2, A, r1, r2, p⟩ := h
  unfold eqOwn at p
  cases ei : insOf s1.h d1 with
  | none =>
    rw [ei] at p
    obtain ⟨d, e, f⟩ := post_lift p
    exact op_cmp hu pins s σ H x y v u Q I rx ry ⟨W, s1, σ1, d1, d2, d, A, r1, r2, e, f⟩
  | some q =>
    obtain ⟨c, ns, ds⟩ := q
    rw [ei] at p
    simp only at p
    cases et : tb.lookup c with
    | none => rw [et] at p; exact p.elim
    | some key =>
      rw [et] at p
      simp only at p
      split at p
      · rename_i hr
        obtain ⟨aa, dx, vs, rfl, e1, l1, q1⟩ := rel_ins A r1 ei
        cases rx
        obtain ⟨⟨f, fd, ps, k, hf, fn, F, room, cb, base⟩, hne⟩ := ht c key et
        obtain ⟨mA, J, _⟩ := ins_get I.hok e1
        obtain ⟨od, J, _⟩ := J.look
        obtain ⟨m, hF⟩ := I.fr
        have hty : ∃ tb', PySem.W.Looks (model X.prog X.w) s.heap (typeOf u) tb' ∧ PySem.W.notFirst X.K (He.ga X.K c) tb' = true := by
          unfold rightOk at hr
          cases e2 : insOf s1.h d2 with
          | some q2 =>
            obtain ⟨c2, ns2, ds2⟩ := q2
            rw [e2] at hr
            have hc : c2 = c := of_decide_eq_true hr
            subst hc
            obtain ⟨bb, dy, ws, rfl, e3, _, _⟩ := rel_ins A r2 e2
            cases ry
            obtain ⟨mB, J', _⟩ := ins_get I.hok e3
            obtain ⟨od', J', _⟩ := J'.look
            exact ⟨_, J'.type, by simp [PySem.W.notFirst]⟩
          | none =>
            rw [e2] at hr
            obtain ⟨t, e3⟩ := Option.isSome_iff_exists.mp hr
            obtain ⟨P, Z, hP, _⟩ := kit_of I ry (r2.tyX e3)
            exact ⟨_, Z.ty _ _ I.kIn hP, by unfold PySem.W.notFirst; rw [base t (cls_base e3)]; simp⟩
        obtain ⟨tb', ty, nf⟩ := hty
        have room0 : Room k X.A := room.mono (Nat.le_succ k)
        cases ne with
        | false =>
          refine PySem.W.cmp_K (op := .Eq) (tb := tb') room.units0 hF I.ok.mod.kin J ty nf hf fn ?_
          exact run_eq I.env0 I A r1 r2 ry p F room0 cb fun r s' H' I' q => ⟨.bl r, H', I', rfl, by rw [Bool.false_xor] at q; exact q⟩
        | true =>
          obtain ⟨n1, n2⟩ := hne rfl
          refine cmp_ne (tb := tb') (by have := room.units; omega) hF I.ok.mod.kin J ty nf n1 n2 hf fn ?_
          exact run_eq I.env0.in1 I A r1 r2 ry p F room.in1 cb fun r s' H' I' q => ⟨r, rfl, .bl (!r), H', I', rfl, by rw [Bool.true_xor] at q; exact q⟩
      · exact p.elim
theorem p_eqO {ne : Bool} (hu : X.A.units + 64 < cLine) (ht : ∀ c key, tb.lookup c = some key → EqOk X ρ (He.ga X.K c) key ∧ (ne = true → NeOk X (He.ga X.K c))) (hm : behindInMarks (opOf ne) b = false) (ha : PE X a (tE X.K Wx ρ fa)) (hb : PE X b (tE X.K Wx ρ fb)) : PE X (.Compare a [opOf ne] [b] pos) (tE X.K Wx ρ (iEqO tb ne fa fb)) :=
  PEi (pe_cmpR (op_eqO hu ht) ha hb hm) fun σ H Q ⟨W, s, A, p⟩ => go A p fun x d1 W1 s1 H1 r1 A1 _ p1 => go A1 p1 fun y d2 W2 s2 H2 r2 A2 st2 p2 => by
    refine ⟨W2, s2, σ, d1, d2, A2, st2.rel r1, r2, ?_⟩
    cases e : eqOwn tb ne ρ d1 d2 s2 with
    | bad => rw [e] at p2; exact p2
    | ok d s3 => rw [e] at p2; exact p2
    | ex d s3 =>
      exfalso
      unfold eqOwn at e
      split at e
      · split at e
        · split at e
          · split at e <;> cases e
          · cases e
        · cases e
      · unfold lift at e
        split at e <;> cases e
end
end B
end
section
set_option Elab.async false
set_option linter.all false
set_option maxRecDepth 100000
set_option maxHeartbeats 1000000
namespace B
open PySem PySem.Spec PyProof.Rows L2
inductive All2 {α β : Type} (Q : α → β → Prop) : List α → List β → Prop
  | nil : All2 Q [] []
  | cons {a : α} {b : β} {as : List α} {bs : List β} : Q a b → All2 Q as bs → All2 Q (a :: as) (b :: bs)
/-! ### isinstance of own classes -/
/-- tb: (class of the value, class asked for, answer); cl: the classes that no built-in value is of -/
def isC (tb : List ((Str × Str) × Bool)) (cl : List Str) (h : List Ob) : List D → Option D
  | [x, .cls c] => (match insOf h x with
    | some (c', _, _) => (tb.lookup (c', c)).map .bl
    | none => if (clsD x).isSome && decide (c ∈ cl) then some (.bl false) else none)
  | _ => none
/-- a built-in by its own table -/
def iBf (f : List Ob → List D → Option D) (a : IL) : I := fun ρ s => (a ρ s).bind fun xs s => lift (f s.h xs) s
structure IsOk (K : PySem.W.Frag) (tb : List ((Str × Str) × Bool)) (cl : List Str) : Prop where
  own : ∀ c' c b, tb.lookup (c', c) = some b → C8.InsC K (He.ga K c') ∧ PySem.W.kitOne K (.ref (He.ga K c')) (.ref (He.ga K c)) = some b
  base : ∀ c ∈ cl, ∀ t ∈ ["NoneType", "bool", "int", "str", "tuple", "list"], PySem.W.kitOne K (.type t) (.ref (He.ga K c)) = some false
/-! ### f-strings -/
def txtI (i : Int) : List Nat := (toString i : Str).cps.toList
def fmtD : D → Option D
  | .str s => some (.str s)
  | .int i => if i.natAbs.log2 < 1920 ∧ (txtI i).length ≤ sizeLine then some (.str (txtI i)) else none
  | _ => none
def iFmt (a : I) : I := fun ρ s => (a ρ s).bind fun x s => lift (fmtD x) s
def jsW : List I → List Nat → I
  | [], acc => fun _ s => .ok (.str acc) s
  | a :: r, acc => fun ρ s => (a ρ s).bind fun x s => match x with
    | .str y => if acc.length + y.length ≤ sizeLine then jsW r (acc ++ y) ρ s else .bad
    | _ => .bad
/-! ### lists: [::-1], append -/
def revD (h : List Ob) : D → Option D
  | .tup l => some (.tup l.reverse)
  | .lst l => some (.lst l.reverse)
  | .rdl l => some (.lst l.reverse)
  | .ref n => (match h[n]? with
    | some (.lst l) => some (.lst l.reverse)
    | _ => none)
  | _ => none
def iRevL (a : I) : I := fun ρ s => (a ρ s).bind fun x s => lift (revD s.h x) s
/-- o.append(e), o a list that others may change -/
def iApp (o e : I) : I := fun ρ s => (o ρ s).bind fun x s => match x with
  | .ref k => (match s.h[k]? with
    | some (.lst _) => (e ρ s).bind fun v s => (match s.h[k]? with
      | some (.lst l) => if l.length < sizeLine then .ok .non ⟨s.g, s.h.set k (.lst (l ++ [v]))⟩ else .bad
      | _ => .bad)
    | _ => .bad)
  | _ => .bad
section
variable {X : Cx} {Wx : WX} {ρ : Fns} {a b e o : Expr} {es : List Expr} {fa fb fe fo : I} {fl : IL} {pos apos : Pos} {tb : List (Str × Str)}
theorem q_eqO {ne : Bool} (hu : X.A.units + 64 < cLine) (ht : ∀ c key, tb.lookup c = some key → EqOk X ρ (He.ga X.K c) key ∧ (ne = true → NeOk X (He.ga X.K c))) (hm : behindInMarks (opOf ne) b = false) (ha : PE X a (tE X.K Wx ρ fa)) (hb : PE X b (tE X.K Wx ρ fb)) : PT X (.Compare a [opOf ne] [b] pos) (tT X.K Wx ρ (tEqO tb ne fa fb)) :=
  PTi (pt_cmpR (op_eqO hu ht) ha hb hm) fun σ H Q ⟨W, s, A, p⟩ => go A p fun x d1 W1 s1 H1 r1 A1 _ p1 => go A1 p1 fun y d2 W2 s2 H2 r2 A2 st2 p2 => by
    refine ⟨W2, s2, σ, d1, d2, A2, st2.rel r1, r2, ?_⟩
    cases e : eqOwn tb ne ρ d1 d2 s2 with
    | bad => rw [e] at p2; exact p2
    | ok d s3 =>
      rw [e] at p2
      simp only [bind_ok] at p2
      intro v W3 H3 A3 st3 rv
      cases rv <;> first | (exact p2.elim; done) | skip
      rename_i r
      exact ⟨r, rfl, p2 r W3 H3 A3 st3 rfl⟩
    | ex d s3 =>
      exfalso
      unfold eqOwn at e
      split at e
      · split at e
        · split at e
          · split at e <;> cases e
          · cases e
        · cases e
      · unfold lift at e
        split at e <;> cases e
theorem c_isC {tb : List ((Str × Str) × Bool)} {cl : List Str} (ok : IsOk X.K tb cl) : CallR X (.builtin "isinstance") (rC X.K (isC tb cl)) := by
  intro pins s σ H xs us Q I r h
  obtain ⟨W, s1, σ1, ds, d, A, q, e, f⟩ := h
  unfold isC at e
  split at e
  · rename_i x c
    obtain ⟨v, w, rfl, q1, q2⟩ := rels2 q
    cases q2
    cases ei : insOf s1.h x with
    | some z =>
      obtain ⟨c', ns, ds'⟩ := z
      rw [ei] at e
      obtain ⟨b, e1, rfl⟩ := Option.map_eq_some_iff.mp e
      obtain ⟨aa, dx, vs, rfl, e2, _, _⟩ := rel_ins A q1 ei
      obtain ⟨ic, k1⟩ := ok.own c' c b e1
      exact call_isi pins s σ H _ us Q I r ⟨_, _, _, _, b, rfl, .own _, .base (.ins e2 ic.cl ic.ha ic.hn ic.htk ic.hm), k1, f.now A (.bl b)⟩
    | none =>
      rw [ei] at e
      simp only at e
      split at e
      · rename_i hc
        cases e
        simp only [Bool.and_eq_true, decide_eq_true_eq] at hc
        obtain ⟨t, e3⟩ := Option.isSome_iff_exists.mp hc.1
        exact call_isi pins s σ H _ us Q I r ⟨_, _, _, _, false, rfl, .own _, q1.tyX e3, ok.base c hc.2 t (cls_base e3), f.now A (.bl false)⟩
      · cases e
  · cases e
theorem p_bf {x : Str} {p : Pos} {id : String} {f : List Ob → List D → Option D} (hc : CallR X (.builtin id) (rC X.K f)) (hg : Gl X x) (hm : X.mg x = none) (hv : bootBuiltins x = some (.builtin id)) (ha : PA X (e :: es) (tA X.K Wx ρ fl)) (hn : x ≠ "__name__") (hdb : (x == ("__debug__" : Str)) = false)
    (he : starEach (e :: es) X.env = (false, eval e X.env) :: starEach es X.env) (hpl : (backTo pos (starEach es X.env)).any (·.1) = false) : PE X (.Call (.Name x p) (e :: es) [] pos) (tE X.K Wx ρ (iBf f fl)) :=
  PEi (pe_callB hc hg hm hv ha hn hdb he hpl) fun σ H Q ⟨W, s, A, p⟩ => go A p fun vs ds W1 s1 H1 r1 A1 _ p1 => by
    obtain ⟨d, e, f⟩ := post_lift p1
    exact ⟨W1, s1, σ, ds, d, A1, r1, e, f⟩
theorem p_fmt (ha : PE X e (tE X.K Wx ρ fa)) : PE X (.FormattedValue e (-1) none pos) (tE X.K Wx ρ (iFmt fa)) :=
  PEi (pe_fmt ha) fun σ H Q ⟨W, s, A, p⟩ => go A p fun x d1 W1 s1 H1 r1 A1 _ p1 => by
    obtain ⟨d, e, f⟩ := post_lift p1
    cases r1 <;> first | (cases e; done) | skip
    · rename_i i
      simp only [fmtD] at e
      split at e
      · rename_i hz
        cases e
        exact .inr ⟨i, rfl, hz.1, f.now A1 (.str _ hz.2)⟩
      · cases e
    · rename_i l z
      cases e
      exact .inl ⟨_, rfl, by simpa [Str.length] using z, f.now A1 (.str l z)⟩
theorem js_ok : ∀ {es : List Expr} {fs : List I}, All2 (fun e f => PE X e (tE X.K Wx ρ f)) es fs → ∃ ts, PJ X es ts ∧ ∀ (acc : List Nat), acc.length ≤ sizeLine → ∀ σ H Q, tE X.K Wx ρ (jsW fs acc) σ H Q → tJs ts ⟨acc.toArray⟩ σ H fun out H1 => Q (.str out) H1
  | _, _, .nil => ⟨[], .nil, fun acc hz σ H Q ⟨W, s, A, p⟩ => p _ W H A .refl (.str acc hz)⟩
  | _, _, .cons (b := f) h r => by
    obtain ⟨ts, pj, k⟩ := js_ok r
    refine ⟨_ :: ts, .cons h pj, fun acc hz σ H Q ⟨W, s, A, p⟩ => ?_⟩
    refine go A p fun x d1 W1 s1 H1 r1 A1 _ p1 => ?_
    cases r1 <;> first | (exact p1.elim; done) | skip
    rename_i l z
    simp only at p1
    split at p1
    · rename_i hl
      have e : ((⟨acc.toArray⟩ : Str) ++ (⟨l.toArray⟩ : Str)) = ⟨(acc ++ l).toArray⟩ := by
        show (⟨acc.toArray ++ l.toArray⟩ : Str) = _
        rw [List.append_toArray]
      refine ⟨_, rfl, ?_, ?_⟩
      · rw [e]
        simpa [Str.length] using hl
      · rw [e]
        exact k (acc ++ l) (by rw [List.length_append]; exact hl) σ H1 Q ⟨W1, s1, A1, p1⟩
    · exact p1.elim
theorem p_js {v1 v2 : Expr} {rest : List Expr} {fs : List I} (h : All2 (fun e f => PE X e (tE X.K Wx ρ f)) (v1 :: v2 :: rest) fs) : PE X (.JoinedStr (v1 :: v2 :: rest) pos) (tE X.K Wx ρ (jsW fs [])) := by
  obtain ⟨ts, pj, k⟩ := js_ok h
  exact PEi (pe_joined pj) fun σ H Q q => k [] (by decide) σ H Q q
/-- xs.append(e) -/
theorem p_app (ho : PE X o (tE X.K Wx ρ fo)) (he : PE X e (tE X.K Wx ρ fe)) (hs : starEach [e] X.env = (false, eval e X.env) :: starEach [] X.env) (hbase : attributeBase o "append" X.env (eval o X.env) = eval o X.env) (hline : (apos.endLine == pos.line) = true) (hfew : ((backTo pos (starEach [e] X.env)).all (fun x => !x.1)) = true) :
    PE X (.Call (.Attribute o "append" apos) [e] [] pos) (tE X.K Wx ρ (iApp fo fe)) :=
  PEi (pe_bm PySem.F.plainAttrs_list PySem.F.slot_list_append PySem.F.type_list_append mt_append ho (pa_cons he pa_nil hs) hbase (by rw [hfew]; rfl) hline hs rfl) fun σ H Q ⟨W, s, A, p⟩ => go A p fun x d1 W1 s1 H1 r1 A1 _ p1 => by
    cases r1 <;> first | (exact p1.elim; done) | skip
    rename_i k hk
    simp only at p1
    cases e1 : s1.h[k]? with
    | none => rw [e1] at p1; exact p1.elim
    | some ob =>
      rw [e1] at p1
      cases ob with
      | ins _ _ _ => exact p1.elim
      | lst l0 =>
        obtain ⟨vs, h1, z, q⟩ := A1.hp _ _ e1
        refine ⟨.inl ⟨rfl, vs, SqL.of h1⟩, go A1 p1 fun v d2 W2 s2 H2 r2 A2 st2 p2 => ?_⟩
        cases e2 : s2.h[k]? with
        | none => rw [e2] at p2; exact p2.elim
        | some ob2 =>
          rw [e2] at p2
          cases ob2 with
          | ins _ _ _ => exact p2.elim
          | lst l =>
            simp only at p2
            split at p2
            · rename_i hl
              obtain ⟨ws, h2, z2, q2⟩ := A2.hp _ _ e2
              have hi : W2.ia k = W1.ia k := st2.ia k hk
              have hl2 := q2.length
              refine ⟨_, _, v, rfl, rfl, by rw [← hi]; exact h2, by rw [hl2]; exact hl, ?_⟩
              have B := A2.write e2 (q2.append (.cons r2 .nil)) (by rw [List.length_append, hl2]; simp; omega)
              rw [← hi]
              exact p2 _ W2 _ B.1 B.2 .non
            · exact p2.elim
theorem p_rev {k : Nat} {p1 p2 p3 : Pos} (ha : PE X e (tE X.K Wx ρ fa)) : PE X (.Subscript e (.Slice none none (some (.UnaryOp .USub (.Constant (.int 1) k p1) p2)) p3) pos) (tE X.K Wx ρ (iRevL fa)) :=
  PEi (pe_revA ha) fun σ H Q ⟨W, s, A, p⟩ => go A p fun x d1 W1 s1 H1 r1 A1 _ p1 => by
    obtain ⟨d, e, f⟩ := post_lift p1
    have rv : ∀ {vs : List V} {ds : List D}, RelsW X.K W1 s1 H1 vs ds → RelsW X.K W1 s1 H1 vs.reverse ds.reverse := fun r => by
      have : ∀ (vs : List V) (ds : List D), RelsW X.K W1 s1 H1 vs ds → RelsW X.K W1 s1 H1 vs.reverse ds.reverse := fun vs => by
        induction vs with
        | nil => intro ds r; cases r; exact .nil
        | cons v vs ih =>
          intro ds r
          cases r with
          | cons a r =>
            rw [List.reverse_cons, List.reverse_cons]
            exact (ih _ r).append (.cons a .nil)
      exact this _ _ r
    cases r1 <;> first | (cases e; done) | skip
    · rename_i t z q
      cases e
      exact ⟨_, _, rfl, .inr ⟨t.sq, f.tup A1 (rv q) (by rw [List.length_reverse]; exact z)⟩⟩
    · rename_i m eh z q
      cases e
      exact ⟨_, _, rfl, .inl ⟨SqL.of eh, f.lst A1 (rv q) (by rw [List.length_reverse]; exact z)⟩⟩
    · rename_i k hk
      simp only [revD] at e
      split at e
      · rename_i l hl
        cases e
        obtain ⟨vs, h1, z, q⟩ := A1.hp _ _ hl
        exact ⟨_, _, rfl, .inl ⟨SqL.of h1, f.lst A1 (rv q) (by rw [List.length_reverse]; exact z)⟩⟩
      · cases e
    · rename_i t z q
      cases e
      exact ⟨_, _, rfl, .inl ⟨t.sq, f.lst A1 (rv q) (by rw [List.length_reverse]; exact z)⟩⟩
end
end B
end
section
set_option Elab.async false
set_option linter.all false
set_option maxRecDepth 100000
set_option maxHeartbeats 1000000
namespace B
open PySem PySem.Spec PyProof.Rows L2
/-! ### == where lists may be among those that others change -/
def snap1 (h : List Ob) : D → D
  | .ref k => (match h[k]? with
    | some (.lst l) => .lst l
    | _ => .ref k)
  | d => d
def snap (h : List Ob) : D → D
  | .lst l => .lst (l.map (snap1 h))
  | .tup l => .tup (l.map (snap1 h))
  | .ref k => snap1 h (.ref k)
  | d => d
def iCmpS (ne : Bool) (a b : I) : I := fun ρ s => (a ρ s).bind fun x s => (b ρ s).bind fun y s => lift ((cmpD (opOf ne) (snap s.h x) (snap s.h y)).map .bl) s
def tCmpS (ne : Bool) (a b : I) : IT := fun ρ s => (a ρ s).bind fun x s => (b ρ s).bind fun y s => liftT (cmpD (opOf ne) (snap s.h x) (snap s.h y)) s
/-- list(x): a list that others may change -/
def iListH (a : IL) : I := fun ρ s => (a ρ s).bind fun xs s => match xs with
  | [x] => (match seqD s.h x with
    | some l => .ok (.ref s.h.length) ⟨s.g, s.h ++ [.lst l]⟩
    | none => .bad)
  | _ => .bad
/-- sorted(x): a list that others may change -/
def iSortH (a : IL) : I := fun ρ s => (a ρ s).bind fun xs s => match xs with
  | [x] => (match lstD s.h x with
    | some l => if sortOk l then .ok (.ref s.h.length) ⟨s.g, s.h ++ [.lst (sortL l)]⟩ else .bad
    | none => .bad)
  | _ => .bad
/-- a call that changes nothing: lists that others may change are handed over as they stand -/
def snapF (fm : Fm) : Fm := fun ds h => if scps 0 (ds.map (snap1 h)) then (match fm (ds.map (snap1 h)) [] with
  | .ok d [] => if flatD d then .ok d h else .bad
  | _ => .bad) else .bad
/-- repr(x) by an own __repr__ -/
def iRepr (tb : List (Str × Str)) (a : I) : I := fun ρ s => (a ρ s).bind fun x s => match insOf s.h x with
  | some (c, _, _) => (match tb.lookup c with
    | some key => (match ρ key [x] s.h with
      | .ok (.str y) h' => .ok (.str y) ⟨s.g, h'⟩
      | _ => .bad)
    | none => .bad)
  | none => .bad
section
variable {K : PySem.W.Frag} {W : Wd} {s : S} {σ : L2.St} {H : Hp}
theorem Rel.still {v : V} {d : D} (r : RelW K W s H v d) : Rel K W.ia s.h.length (fun _ => False) H v d := r.shrink (fun _ z => z.elim) r.scp
theorem Rels.still {vs : List V} {ds : List D} (r : RelsW K W s H vs ds) : Rels K W.ia s.h.length (fun _ => False) H vs ds := r.shrink (fun _ z => z.elim) r.scp
theorem Rel.snap1 {v : V} {d : D} (A : Abs K W s σ H) (r : RelW K W s H v d) : Rel K W.ia s.h.length (fun _ => False) H v (B.snap1 s.h d) := by
  have q := r.still
  cases r <;> first | exact q | skip
  rename_i k hk
  show Rel K W.ia s.h.length (fun _ => False) H _ (match s.h[k]? with
    | some (.lst l) => .lst l
    | _ => .ref k)
  cases e : s.h[k]? with
  | none => exact q
  | some ob =>
    cases ob with
    | lst l =>
      obtain ⟨vs, h1, z, q2⟩ := A.hp k _ e
      exact .lst (fun z => z) h1 z q2.still
    | ins _ _ _ => exact q
theorem Rels.snap1 (A : Abs K W s σ H) : ∀ {vs : List V} {ds : List D}, RelsW K W s H vs ds → Rels K W.ia s.h.length (fun _ => False) H vs (ds.map (B.snap1 s.h))
  | _, _, .nil => .nil
  | _, _, .cons a r => .cons (Rel.snap1 A a) (Rels.snap1 A r)
theorem Rel.snap {v : V} {d : D} (A : Abs K W s σ H) (r : RelW K W s H v d) : Rel K W.ia s.h.length (fun _ => False) H v (B.snap s.h d) := by
  have q := r.still
  have q1 := Rel.snap1 A r
  cases r <;> first | exact q | exact q1 | skip
  · rename_i t z r
    refine .tup ?_ z (Rels.snap1 A r)
    rcases t with ⟨m, e⟩ | t
    · exact .inl ⟨fun z => z, e⟩
    · exact .inr t
  · rename_i m e z r
    exact .lst (fun z => z) e z (Rels.snap1 A r)
end
section
variable {K : PySem.W.Frag} {W W' : Wd} {s : S} {σ : L2.St} {H H' : Hp}
/-- more things have been laid -/
theorem Abs.more (A : Abs K W s σ H) (k : ∀ a o, H a = some o → H' a = some o) : Abs K W s σ H' ∧ Stp W s H W s H' := by
  have st : Stp W s H W s H' := ⟨rfl, fun _ _ => rfl, Nat.le_refl _, fun a o e m => ⟨k a o e, m⟩, fun a o _ e => k a o e⟩
  have same : ∀ a, MW W s a → H' a = H a := fun a m => by
    obtain ⟨o, e⟩ := A.there m
    rw [e, k a o e]
  refine ⟨⟨A.len, fun i d e => ?_, fun i d e => ?_, fun k o' e => ?_, A.inj, A.injL, A.sep, A.pI, A.pL, fun a m => ?_⟩, st⟩
  · obtain ⟨v, e1, r⟩ := A.val i d e
    exact ⟨v, e1, st.rel r⟩
  · obtain ⟨e1, r⟩ := A.own i d e
    exact ⟨e1, r.stp st (same _ (.inr (.inr ⟨i, d, e, rfl⟩)))⟩
  · exact (A.hp k o' e).stp st (same _ (.inr (.inl ⟨k, (List.getElem?_eq_some_iff.mp e).1, rfl⟩)))
  · obtain ⟨u, e⟩ := A.pS a m
    exact ⟨u, k a u e⟩
theorem Rel.flatAny {ia ia' : Nat → Addr} {n n' : Nat} {M M' : MS} {v : V} {d : D} (r : Rel K ia n M H v d) (h : flatD d = true) : Rel K ia' n' M' H' v d := by
  cases r <;> first | (cases h; done) | constructor
  assumption
theorem mw0 {h : List Ob} {a : Addr} (m : MW W ⟨[], []⟩ a) : MW W ⟨[], h⟩ a := by
  rcases m with m | ⟨k, hk, _⟩ | ⟨i, d, e, _⟩
  · exact .inl m
  · simp at hk
  · simp at e
theorem mw0P {a : Addr} (m : MW W ⟨[], []⟩ a) : W.P a := by
  rcases m with m | ⟨k, hk, _⟩ | ⟨i, d, e, _⟩
  · exact m
  · simp at hk
  · simp at e
theorem Rel.snap0 {h : List Ob} {v : V} {d : D} (A : Abs K W ⟨[], h⟩ [] H) (r : RelW K W ⟨[], h⟩ H v d) (hs : B.scp 0 (B.snap1 h d) = true) : RelW K W ⟨[], []⟩ H v (B.snap1 h d) := by
  have q : ∀ e, e = B.snap1 h d → e = d → RelW K W ⟨[], []⟩ H v e := fun e h1 h2 => by
    subst h2
    exact r.shrink (fun a m => mw0 m) (by rw [h1]; exact hs)
  cases r <;> first | exact q _ rfl rfl | skip
  rename_i k hk
  cases e : h[k]? with
  | none => exact q _ rfl (by show (match h[k]? with | some (.lst l) => D.lst l | _ => .ref k) = _; rw [e])
  | some ob =>
    cases ob with
    | ins _ _ _ => exact q _ rfl (by show (match h[k]? with | some (.lst l) => D.lst l | _ => .ref k) = _; rw [e])
    | lst l =>
      obtain ⟨vs, h1, z, q2⟩ := A.hp k _ e
      have es : B.snap1 h (.ref k) = .lst l := by show (match h[k]? with | some (.lst l) => D.lst l | _ => .ref k) = _; rw [e]
      rw [es] at hs ⊢
      exact .lst (fun m => A.pI k hk (mw0P m)) h1 z (q2.shrink (fun a m => mw0 m) hs)
theorem Rels.snap0 {h : List Ob} (A : Abs K W ⟨[], h⟩ [] H) : ∀ {vs : List V} {ds : List D}, RelsW K W ⟨[], h⟩ H vs ds → B.scps 0 (ds.map (B.snap1 h)) = true → RelsW K W ⟨[], []⟩ H vs (ds.map (B.snap1 h))
  | _, _, .nil, _ => .nil
  | _, _, .cons a r, hs => by
    have hs : (B.scp 0 _ && B.scps 0 _) = true := hs
    rw [Bool.and_eq_true] at hs
    exact .cons (Rel.snap0 A a hs.1) (Rels.snap0 A r hs.2)
theorem sp_snap {n : Nat} {fm : Fm} {vs : List V} {Q : VK} {E : XK} (h : spI K n (snapF fm) vs H Q E) : spI K n fm vs H Q E := by
  obtain ⟨W, hh, ds, A, r, hl, p⟩ := h
  unfold snapF at p
  split at p
  · rename_i hs
    refine ⟨W, [], _, ⟨rfl, fun i d e => by simp at e, fun i d e => by simp at e, fun k o e => by simp at e, fun k j hk => by simp at hk, fun i j d e h => by simp at h, fun k i d hk => by simp at hk, fun k hk => by simp at hk, fun i d e => by simp at e, A.pS⟩, Rels.snap0 A r hs, hl, ?_⟩
    split at p
    · rename_i d er
      rw [er]
      split at p
      · rename_i hf
        intro v W2 H2 A2 st2 r2
        have keep : ∀ a o, H a = some o → H2 a = some o := fun a o e => by
          by_cases m : W.P a
          · exact st2.pr a o m e
          · exact (st2.fz a o e fun z => m (mw0P z)).1
        obtain ⟨A3, st3⟩ := A.more keep
        exact p v W H2 A3 st3 (r2.flatAny hf)
      · exact p.elim
    · exact p.elim
  · exact p.elim
end
section
variable {X : Cx} {Wx : WX} {ρ : Fns} {a b e o : Expr} {es : List Expr} {fa fb fe fo : I} {fl : IL} {pos apos : Pos} {tb : List (Str × Str)}
theorem op_cmpS {ne : Bool} (hu : X.A.units + 64 < cLine) : OpR X (compareOp (opOf ne)) (fun x y H Q => ∃ W s σ d1 d2 b, Abs X.K W s σ H ∧ RelW X.K W s H x d1 ∧ RelW X.K W s H y d2 ∧ cmpD (opOf ne) (snap s.h d1) (snap s.h d2) = some b ∧ Q (.bl b) H) := by
  intro pins s σ H x y v u Q I rx ry h
  obtain ⟨W, s1, σ1, d1, d2, b, A, r1, r2, e, fin⟩ := h
  have r1 := r1.snap A
  have r2 := r2.snap A
  cases ne with
  | false =>
    have e : cmpD .Eq (snap s1.h d1) (snap s1.h d2) = some b := e
    simp only [cmpD] at e
    split at e
    · rename_i hz
      cases e
      simp only [Bool.and_eq_true, eqOk] at hz
      exact op_eqD hu pins s σ H x y v u Q I rx ry ⟨_, _, r1.dp hz.1.1, r2.dp hz.2.1, hz.1.2, hz.2.2, fin⟩
    · cases e
  | true =>
    have e : cmpD .NotEq (snap s1.h d1) (snap s1.h d2) = some b := e
    simp only [cmpD] at e
    split at e
    · rename_i hz
      cases e
      simp only [Bool.and_eq_true, eqOk] at hz
      exact op_neD hu pins s σ H x y v u Q I rx ry ⟨_, _, r1.dp hz.1.1, r2.dp hz.2.1, hz.1.2, hz.2.2, fin⟩
    · cases e
theorem p_cmpS {ne : Bool} (hu : X.A.units + 64 < cLine) (hm : behindInMarks (opOf ne) b = false) (ha : PE X a (tE X.K Wx ρ fa)) (hb : PE X b (tE X.K Wx ρ fb)) : PE X (.Compare a [opOf ne] [b] pos) (tE X.K Wx ρ (iCmpS ne fa fb)) :=
  PEi (pe_cmpR (op_cmpS hu) ha hb hm) fun σ H Q ⟨W, s, A, p⟩ => go A p fun x d1 W1 s1 H1 r1 A1 _ p1 => go A1 p1 fun y d2 W2 s2 H2 r2 A2 st2 p2 => by
    obtain ⟨d, e, f⟩ := post_lift p2
    obtain ⟨b, e', rfl⟩ := Option.map_eq_some_iff.mp e
    exact ⟨W2, s2, σ, d1, d2, b, A2, st2.rel r1, r2, e', f.now A2 (.bl b)⟩
theorem q_cmpS {ne : Bool} (hu : X.A.units + 64 < cLine) (hm : behindInMarks (opOf ne) b = false) (ha : PE X a (tE X.K Wx ρ fa)) (hb : PE X b (tE X.K Wx ρ fb)) : PT X (.Compare a [opOf ne] [b] pos) (tT X.K Wx ρ (tCmpS ne fa fb)) :=
  PTi (pt_cmpR (op_cmpS hu) ha hb hm) fun σ H Q ⟨W, s, A, p⟩ => by
    refine go A p fun x d1 W1 s1 H1 r1 A1 _ p1 => go A1 p1 fun y d2 W2 s2 H2 r2 A2 st2 p2 => ?_
    obtain ⟨d, e, f⟩ := post_liftT A2 p2
    exact ⟨W2, s2, σ, d1, d2, d, A2, st2.rel r1, r2, e, d, rfl, f W2 H2 A2 .refl⟩
theorem p_listH {p : Pos} (hg : Gl X "list") (hm : X.mg "list" = none) (hv : bootBuiltins "list" = some (.type "list")) (ha : PA X (e :: es) (tA X.K Wx ρ fl)) (he : starEach (e :: es) X.env = (false, eval e X.env) :: starEach es X.env) (hpl : (backTo pos (starEach es X.env)).any (·.1) = false) :
    PE X (.Call (.Name "list" p) (e :: es) [] pos) (tE X.K Wx ρ (iListH fl)) :=
  PEi (pe_callTy call_list_of hg hm hv ha (by decide) (by decide) he hpl) fun σ H Q ⟨W, s, A, p⟩ => go A p fun vs ds W1 s1 H1 r1 A1 _ p1 => by
    match ds, r1, p1 with
    | [], _, p1 => exact p1.elim
    | [x], r1, p1 =>
      simp only at p1
      obtain ⟨v, rfl, q1⟩ := rels1 r1
      cases es : seqD s1.h x with
      | none => rw [es] at p1; exact p1.elim
      | some l =>
        rw [es] at p1
        obtain ⟨a, ws, rfl, hq, z, q2⟩ := rel_seq A1 q1 es
        refine ⟨a, ws, rfl, hq, fun q hq => ?_⟩
        obtain ⟨W2, A2, st2, r2⟩ := A1.alloc hq q2 z
        exact p1 _ W2 _ A2 st2 r2
    | _ :: _ :: _, _, p1 => exact p1.elim
theorem p_sortH (hu : X.A.units + 64 < cLine) {p : Pos} (hg : Gl X "sorted") (hm : X.mg "sorted" = none) (hv : bootBuiltins "sorted" = some (.builtin "sorted")) (ha : PA X (e :: es) (tA X.K Wx ρ fl)) (he : starEach (e :: es) X.env = (false, eval e X.env) :: starEach es X.env) (hpl : (backTo pos (starEach es X.env)).any (·.1) = false) :
    PE X (.Call (.Name "sorted" p) (e :: es) [] pos) (tE X.K Wx ρ (iSortH fl)) :=
  PEi (pe_callB (c_sortR hu) hg hm hv ha (by decide) (by decide) he hpl) fun σ H Q ⟨W, s, A, p⟩ => go A p fun vs ds W1 s1 H1 r1 A1 _ p1 => by
    match ds, r1, p1 with
    | [], _, p1 => exact p1.elim
    | [x], r1, p1 =>
      simp only at p1
      obtain ⟨v, rfl, q1⟩ := rels1 r1
      cases es : lstD s1.h x with
      | none => rw [es] at p1; exact p1.elim
      | some l =>
        rw [es] at p1
        simp only at p1
        split at p1
        · rename_i hok
          refine ⟨W1, s1, σ, v, x, l, rfl, A1, q1, es, hok, fun q ws hq k2 hz => ?_⟩
          obtain ⟨W2, A2, st2, r2⟩ := A1.alloc hq k2 hz
          exact p1 _ W2 _ A2 st2 r2
        · exact p1.elim
    | _ :: _ :: _, _, p1 => exact p1.elim
/-- the class at C has an own __repr__ -/
def ReprOk (X : Cx) (ρ : Fns) (C : Addr) (key : Str) : Prop := ∃ f fd ps k, PySem.W.findIn X.K (.ref C) "__repr__" = some (some (.ref f)) ∧ PySem.W.isFn X.K (.ref f) = true ∧ FnOk X.prog X.w X.K X.mg X.base (L2.CX X.prog X.w) k f fd ps (spI X.K ps.length (ρ key)) ∧ Room (k + 1) X.A ∧ CB X.K fd ps 1 [] [.ix 0]
theorem c_repr (ht : ∀ c key, tb.lookup c = some key → ReprOk X ρ (He.ga X.K c) key) : CallR X (.builtin "repr") (fun xs H Q => ∃ W s σ v d, xs = [v] ∧ Abs X.K W s σ H ∧ RelW X.K W s H v d ∧ Post X.K σ (RelW X.K) W s H (fun _ _ _ => False) Q (match insOf s.h d with
    | some (c, _, _) => (match tb.lookup c with
      | some key => (match ρ key [d] s.h with
        | .ok (.str y) h' => .ok (.str y) ⟨s.g, h'⟩
        | _ => .bad)
      | none => .bad)
    | none => .bad)) := by
  intro pins s σ H xs us Q I r h
  obtain ⟨W, s1, σ1, v, d, rfl, A, r1, p⟩ := h
  obtain ⟨u, rfl, rx⟩ := vals1 r
  cases ei : insOf s1.h d with
  | none => rw [ei] at p; exact p.elim
  | some q =>
    obtain ⟨c, ns, ds⟩ := q
    rw [ei] at p
    simp only at p
    cases et : tb.lookup c with
    | none => rw [et] at p; exact p.elim
    | some key =>
      rw [et] at p
      simp only at p
      obtain ⟨aa, dx, vs, rfl, e1, l1, q1⟩ := rel_ins A r1 ei
      cases rx
      obtain ⟨f, fd, ps, k, hf, fn, F, room, cb⟩ := ht c key et
      obtain ⟨mA, J, _⟩ := ins_get I.hok e1
      obtain ⟨od, J, _⟩ := J.look
      obtain ⟨m, hF⟩ := I.fr
      obtain ⟨ls, lv, bt, rl, hl, rr⟩ := cb s [.ref aa] [] [.ref aa] [] I.kIn rfl rfl (.cons rfl .nil) .nil
      have p' : Post X.K σ1 (RelW X.K) W s1 H (fun _ _ _ => False) (fun v H' => ∃ y : List Nat, v = .str ⟨y.toArray⟩ ∧ Q v H') (ofF s1.g (ρ key [d] s1.h)) := by
        cases er : ρ key [d] s1.h with
        | bad => rw [er] at p; exact p
        | ex z h' => rw [er] at p; exact p.elim
        | ok z h' =>
          rw [er] at p
          cases z <;> first | (exact p.elim; done) | skip
          rename_i y
          intro v W' H' A' st rv
          have rv' := rv
          cases rv
          exact ⟨y, rfl, p _ W' H' A' st rv'⟩
      have sp : spI X.K ps.length (ρ key) lv H (fun v H' => ∃ y : List Nat, v = .str ⟨y.toArray⟩ ∧ Q v H') (fun _ _ _ => False) :=
        ⟨W.call s1, s1.h, [d], A.toCall, (rr _ _ _ _ [d] [d] (.cons r1 .nil) rfl).cong fun a m => mw_call.mp m, hl, post_call A p'⟩
      refine PySem.W.repr_K room.in1.units0 hF I.ok.mod.kin J hf fn ?_
      refine wpAny_call (codeAny_mono (F.run X.A.in1 X.stack s H ⟨[.ref aa], []⟩ ls lv _ _ room.in1 I.env0.in1 bt rl sp) fun r s' hq => ?_)
      cases r with
      | error e => exact (cx_none hq).elim
      | ok fl =>
        cases fl with
        | ret w =>
          obtain ⟨z, H', I', rz, y, rfl, q⟩ := I.after hq
          obtain ⟨t, rfl⟩ := id rz
          exact ⟨.str ⟨y.toArray⟩, H', I', ⟨t, rfl⟩, q⟩
        | next => exact False.elim hq
        | brk => exact False.elim hq
        | cont => exact False.elim hq
theorem p_repr {p : Pos} (ht : ∀ c key, tb.lookup c = some key → ReprOk X ρ (He.ga X.K c) key) (hg : Gl X "repr") (hm : X.mg "repr" = none) (hv : bootBuiltins "repr" = some (.builtin "repr")) (ha : PE X e (tE X.K Wx ρ fa)) (he : starEach [e] X.env = (false, eval e X.env) :: starEach [] X.env) (hpl : (backTo pos (starEach [] X.env)).any (·.1) = false) :
    PE X (.Call (.Name "repr" p) [e] [] pos) (tE X.K Wx ρ (iRepr tb fa)) :=
  PEi (pe_callB (c_repr ht) hg hm hv (pa_cons ha pa_nil he) (by decide) (by decide) he hpl) fun σ H Q ⟨W, s, A, p⟩ => go A p fun x d1 W1 s1 H1 r1 A1 _ p1 => by
    refine ⟨W1, s1, σ, x, d1, rfl, A1, r1, ?_⟩
    cases ei : insOf s1.h d1 with
    | none => rw [ei] at p1; exact p1.elim
    | some q =>
      obtain ⟨c, ns, ds⟩ := q
      rw [ei] at p1
      simp only at p1 ⊢
      cases et : tb.lookup c with
      | none => rw [et] at p1; exact p1.elim
      | some key =>
        rw [et] at p1
        simp only at p1 ⊢
        cases er : ρ key [d1] s1.h with
        | bad => rw [er] at p1; exact p1.elim
        | ex z h' => rw [er] at p1; exact p1.elim
        | ok z h' =>
          rw [er] at p1
          cases z <;> first | (exact p1.elim; done) | exact p1
end
end B
end
section
set_option Elab.async false
set_option linter.all false
set_option maxRecDepth 100000
set_option maxHeartbeats 1000000
namespace B
open PySem PySem.Spec PyProof.Rows L2
/-! ### the text's own global names -/
inductive GE where
  /-- a def: how it may be called (positional arguments, keywords, the parameters' values) -/
  | fn (sh : List (Nat × List Str × List Ai))
  | cst (d : D)
  /-- an own class: its __init__'s key, whether its instances stand still, how it may be called -/
  | cls (key : Str) (fz : Bool) (sh : List (Nat × List Str × List Ai))
structure Gm where
  G : Str → Option GE
  /-- names of built-ins that the top leaves alone -/
  bf : List Str
  /-- attributes by name: which classes have them, and how -/
  ats : Str → List (Str × Ah) := fun _ => []
  /-- methods by name, positional arguments, keywords -/
  mts : Str → Nat → List Str → List (Str × Str × List Ai) := fun _ _ _ => []
  /-- attributes that are stored -/
  sts : Str → List Str := fun _ => []
  /-- own ==, own repr -/
  eqs : List (Str × Str) := []
  rps : List (Str × Str) := []
  /-- isinstance of own classes -/
  isT : List ((Str × Str) × Bool) := []
  isL : List Str := []
  /-- names whose == looks through lists that others may change -/
  sn : List Str := []
  /-- marks of the def at hand: x() where x is called as a def that changes nothing -/
  cf : List Str := []
/-- the words of an expression, of a test -/
structure Tr where
  E : Scope → Expr → Option I
  T : Scope → Expr → Option IT
def slot (N : List Str) (x : Str) : Option Nat := N.findIdx? fun y => decide (y = x)
theorem slot_get {N : List Str} {x : Str} {i : Nat} (h : slot N x = some i) : N[i]? = some x := by
  obtain ⟨h1, h2, _⟩ := List.findIdx?_eq_some_iff_getElem.mp h
  rw [List.getElem?_eq_getElem h1]
  exact congrArg some (of_decide_eq_true h2)
def visB (sc : Scope) (x : Str) : Bool := match sc.names.lookup x with
  | some .local => true
  | some .cell => true
  | some .free => true
  | _ => false
theorem visB_ok {sc : Scope} {x : Str} (h : visB sc x = true) : Vis sc x := by
  unfold visB at h
  split at h
  · rename_i e; exact .inl e
  · rename_i e; exact .inr (.inl e)
  · rename_i e; exact .inr (.inr e)
  · cases h
def okName (x : Str) : Bool := !(x == ("__debug__" : Str)) && !(x == ("__classdict__" : Str)) && !(decide (x = "__name__"))
def glB (sc : Scope) (x : Str) : Bool := match sc.names.lookup x with
  | some .globalImplicit => true
  | _ => false
theorem glB_ok {sc : Scope} {x : Str} (h : glB sc x = true) : sc.names.lookup x = some .globalImplicit := by
  unfold glB at h
  split at h
  · rename_i e; exact e
  · cases h
/-- built-in functions by their names -/
def biOf (x : Str) : Option Bi :=
  if x = "len" then some .len else if x = "int" then some .int else if x = "list" then some .list else if x = "all" then some .all else if x = "isinstance" then some .isi else if x = "tuple" then some .tup else none
/-- built-in classes as values -/
def tyOf (x : Str) : Option String :=
  if x = "str" then some "str" else if x = "int" then some "int" else if x = "bool" then some "bool" else if x = "list" then some "list" else if x = "tuple" then some "tuple" else none
def notSet : Expr → Bool
  | .Set _ _ _ => false
  | _ => true
def notStar : Expr → Bool
  | .Starred _ _ => false
  | _ => true
def notSlice : Expr → Bool
  | .Slice _ _ _ _ => false
  | _ => true
def plainTest : Expr → Bool
  | .UnaryOp .Not _ _ => false
  | .BoolOp _ _ _ => false
  | .IfExp _ _ _ _ => false
  | .Compare _ _ _ _ => false
  | _ => true
/-- not super() -/
def notCall : Expr → Bool
  | .Call (.Name x _) [] [] _ => x != "super"
  | _ => true
def trL (r : Tr) (sc : Scope) : List Expr → Option IL
  | [] => some aNil
  | e :: es => if notStar e then (match r.E sc e, trL r sc es with
    | some f, some g => some (aCons f g)
    | _, _ => none) else none
/-- a display's items: starred ones too -/
def trLs (r : Tr) (sc : Scope) : List Expr → Option IL
  | [] => some aNil
  | .Starred e _ :: es => (match r.E sc e, trLs r sc es with
    | some f, some g => some (aStar f g)
    | _, _ => none)
  | e :: es => if notStar e then (match r.E sc e, trLs r sc es with
    | some f, some g => some (aCons f g)
    | _, _ => none) else none
/-- an f-string's parts -/
def trJ (r : Tr) (sc : Scope) : List Expr → Option (List I)
  | [] => some []
  | e :: es => (match r.E sc e, trJ r sc es with
    | some f, some g => some (f :: g)
    | _, _ => none)
def snB (M : Gm) : Expr → Bool
  | .Name x _ => decide (x ∈ M.sn)
  | .Call (.Attribute _ m _) _ _ _ => decide (m ∈ M.sn)
  | _ => false
def eqW (M : Gm) (a : Expr) (ne : Bool) (f g : I) : I := if snB M a then iCmpS ne f g else iEqO M.eqs ne f g
def eqWT (M : Gm) (a : Expr) (ne : Bool) (f g : I) : IT := if snB M a then tCmpS ne f g else tEqO M.eqs ne f g
def cmpW (M : Gm) (a : Expr) (op : CmpOp) (f g : I) : I := match op with
  | .Eq => eqW M a false f g
  | .NotEq => eqW M a true f g
  | op => iCmp op f g
def cmpWT (M : Gm) (a : Expr) (op : CmpOp) (f g : I) : IT := match op with
  | .Eq => eqWT M a false f g
  | .NotEq => eqWT M a true f g
  | op => tCmpB op f g
/-- the second argument is an own class -/
def isClsArg (M : Gm) (sc : Scope) : List Expr → Bool
  | [_, .Name c _] => glB sc c && (match M.G c with
    | some (.cls _ _ _) => true
    | _ => false)
  | _ => false
def trK (r : Tr) (sc : Scope) : List Keyword → Option IL
  | [] => some aNil
  | ⟨some _, e, _⟩ :: es => (match r.E sc e, trK r sc es with
    | some f, some g => some (aCons f g)
    | _, _ => none)
  | ⟨none, _, _⟩ :: _ => none
def kwN : List Keyword → List Str
  | [] => []
  | ⟨some x, _, _⟩ :: es => x :: kwN es
  | ⟨none, _, _⟩ :: es => kwN es
def trAnd (r : Tr) (sc : Scope) : List Expr → Option I
  | [] => none
  | [e] => r.E sc e
  | e :: es => (match r.E sc e, trAnd r sc es with
    | some f, some g => some (iAnd f g)
    | _, _ => none)
def trOr (r : Tr) (sc : Scope) : List Expr → Option I
  | [] => none
  | [e] => r.E sc e
  | e :: es => (match r.E sc e, trOr r sc es with
    | some f, some g => some (iOr f g)
    | _, _ => none)
def trAndT (r : Tr) (sc : Scope) : List Expr → Option IT
  | [] => none
  | [e] => r.T sc e
  | e :: es => (match r.T sc e, trAndT r sc es with
    | some f, some g => some (tAnd f g)
    | _, _ => none)
def trOrT (r : Tr) (sc : Scope) : List Expr → Option IT
  | [] => none
  | [e] => r.T sc e
  | e :: es => (match r.T sc e, trOrT r sc es with
    | some f, some g => some (tOr f g)
    | _, _ => none)
def trO (r : Tr) (sc : Scope) : Option Expr → Option (Fns → S → R (Option Int))
  | none => some pNo
  | some e => (r.E sc e).map pInt
def find? (sh : List (Nat × List Str × List Ai)) (n : Nat) (ks : List Str) : Option (List Ai) := (sh.find? fun q => decide (q.1 = n) && decide (q.2.1 = ks)).map (·.2.2)
/-- names stored by a target -/
def tgN (N : List Str) (scope : Scope) : Expr → Option Nat
  | .Name x _ => (match scope.names.lookup x with
    | some .local => slot N x
    | some .cell => slot N x
    | _ => none)
  | _ => none
def tgNs (N : List Str) (scope : Scope) : List Expr → Option (List Nat)
  | [] => some []
  | e :: es => (match tgN N scope e, tgNs N scope es with
    | some i, some is => some (i :: is)
    | _, _ => none)
def trG (N : List Str) (scope : Scope) : Expr → Option (IG × List Nat)
  | .Name x p => (tgN N scope (.Name x p)).map fun i => (gV i, [i])
  | .Tuple es _ _ => (tgNs N scope es).map fun is => (gT is, is)
  | _ => none
def isTup : Expr → Bool
  | .Tuple _ _ _ => true
  | _ => false
/-- what is walked -/
def trW (M : Gm) (r : Tr) (sc : Scope) (tg : Expr) (iter : Expr) : Option IL := match iter with
  | .Call (.Name x _) es [] _ =>
    if x = "range" then (if glB sc x && decide (x ∈ M.bf) then (match es with
      | [a] => (trL r sc [a]).map wRange
      | [a, b] => (trL r sc [a, b]).map wRange
      | _ => none) else none)
    else if x = "zip" then (if glB sc x && decide (x ∈ M.bf) && isTup tg then (match es with
      | [a, b] => (trL r sc [a, b]).map wZip
      | _ => none) else none)
    else if x = "enumerate" then (if glB sc x && decide (x ∈ M.bf) && isTup tg then (match es with
      | [a] => (trL r sc [a]).map wEnum
      | _ => none) else none)
    else (r.E sc iter).map wSeq
  | _ => if notSet iter then (r.E sc iter).map wSeq else none
def ownOf (N : List Str) (scope : Scope) : List (Str × Nat) := scope.names.filterMap fun p => match p.2 with
  | .local => (slot N p.1).map fun i => (p.1, i)
  | .cell => (slot N p.1).map fun i => (p.1, i)
  | _ => none
def trIfs (r : Tr) (sc : Scope) : List Expr → Option IT
  | [] => some tYes
  | [c] => r.T sc c
  | _ => none
def subB (is vs : List Nat) : Bool := is.all fun i => decide (i ∈ vs)
/-- a comprehension's parts -/
def trC (M : Gm) (N : List Str) (r : Tr) (sc : Scope) (elt tg iter : Expr) (ifs : List Expr) (scope : Scope) : Option (IL × IG × IT × I × List Nat) :=
  if blkC N sc scope (ownOf N scope) then (match trW M r sc tg iter, trG N scope tg, trIfs r (relS scope sc) ifs, r.E (relS scope sc) elt with
    | some w, some (g, is), some t, some e => if subB is ((ownOf N scope).map (·.2)) then some (w, g, t, e, (ownOf N scope).map (·.2)) else none
    | _, _, _, _ => none) else none
/-- a further clause's parts -/
def trF (M : Gm) (N : List Str) (r : Tr) (sc scope : Scope) (tg iter : Expr) (ifs : List Expr) : Option (IL × IG × IT × List Nat) := match trW M r sc tg iter, trG N scope tg, trIfs r sc ifs with
  | some w, some (g, is), some t => some (w, g, t, is)
  | _, _, _ => none
def stepE (M : Gm) (N : List Str) (r : Tr) (sc : Scope) : Expr → Option I
  | .Constant (.int i) _ _ => some (iC (.int i))
  | .Constant (.bool b) _ _ => some (iC (.bl b))
  | .Constant .none _ _ => some (iC .non)
  | .Constant (.str x) _ _ => if x.cps.toList.length ≤ sizeLine then some (iC (.str x.cps.toList)) else none
  | .Name x _ => if okName x then (if visB sc x then (slot N x).map iV else if glB sc x then (match M.G x with
    | some (.cst d) => some (iC d)
    | some (.fn _) => none
    | some (.cls _ _ _) => some (iC (.cls x))
    | none => if decide (x ∈ M.bf) then (tyOf x).map fun t => iC (.ty t) else none) else none) else none
  | .BinOp a op b _ => (match r.E sc a, r.E sc b with
    | some f, some g => some (iBin op f g)
    | _, _ => none)
  | .Compare a [op] [b] _ => if notSet b then (match r.E sc a, r.E sc b with
    | some f, some g => some (cmpW M a op f g)
    | _, _ => none) else none
  | .Compare a [o1, o2] [b, c] _ => if notSet c then (match r.E sc a, r.E sc b, r.E sc c with
    | some f, some g, some h => some (iChain o1 o2 f g h)
    | _, _, _ => none) else none
  | .BoolOp .And vs _ => trAnd r sc vs
  | .BoolOp .Or vs _ => trOr r sc vs
  | .UnaryOp .Not a _ => (r.E sc a).map iNot
  | .IfExp c a b _ => (match r.T sc c, r.E sc a, r.E sc b with
    | some t, some f, some g => some (iIf t f g)
    | _, _, _ => none)
  | .Tuple es _ _ => (trLs r sc es).map iTup
  | .List es _ => (trLs r sc es).map iLst
  | .Attribute o f _ => if notCall o then (r.E sc o).map fun g => iAt (M.ats f) g f else none
  | .FormattedValue e c none _ => if c = -1 then (r.E sc e).map iFmt else none
  | .JoinedStr (v1 :: v2 :: rest) _ => (trJ r sc (v1 :: v2 :: rest)).map fun fs => jsW fs []
  | .Subscript a (.Slice none none (some (.UnaryOp .USub (.Constant (.int i) _ _) _)) _) _ => if i = 1 then (r.E sc a).map iRevL else none
  | .Subscript a (.Slice lo hi none _) _ => (match r.E sc a, trO r sc lo, trO r sc hi with
    | some f, some l, some h => some (iSl f l h)
    | _, _, _ => none)
  | .Subscript a b _ => if notSlice b then (match r.E sc a, r.E sc b with
    | some f, some g => some (iIx f g)
    | _, _ => none) else none
  | .Call (.Name x _) es kws _ => if okName x && glB sc x then (match M.G x with
    | some (.fn sh) => (match find? sh es.length (kwN kws), trL r sc es, trK r sc kws with
      | some pm, some f, some g => some (if decide (x ++ ("()" : Str) ∈ M.cf) then iCallG (fun ρ => snapF (ρ x)) pm f g else iCall x pm f g)
      | _, _, _ => none)
    | some (.cst _) => none
    | some (.cls key fz sh) => (match find? sh es.length (kwN kws), trL r sc es, trK r sc kws with
      | some pm, some f, some g => some (iMake x key pm fz f g)
      | _, _, _ => none)
    | none => if decide (x ∈ M.bf) then (match kws, es with
      | [], e :: es => if decide (x = "isinstance") && isClsArg M sc (e :: es) then (trL r sc (e :: es)).map (iBf (isC M.isT M.isL))
        else if decide (x = "repr") && es.isEmpty && notStar e then (r.E sc e).map (iRepr M.rps)
        else if decide (x = "sorted") then (trL r sc (e :: es)).map (iBf sortC)
        else (match biOf x, trL r sc (e :: es) with
        | some b, some f => some (iBi b f)
        | _, _ => none)
      | _, _ => none) else none) else none
  | .Call (.Attribute o m apos) es kws pos => if notCall o && (apos.endLine == pos.line) then (
    if decide (m = "join") || decide (m = "append") then (match es, kws with
      | [b], [] => if notStar b then (match r.E sc o, r.E sc b with
        | some f, some g => some (if m = "join" then iMt .join f (aCons g aNil) else iApp f g)
        | _, _ => none) else none
      | _, _ => none)
    else if es.length + kws.length < 28 then (match r.E sc o, trL r sc es, trK r sc kws with
      | some f, some g, some h => some (iMeth (M.mts m es.length (kwN kws)) f m g h)
      | _, _, _ => none) else none) else none
  | .ListComp elt [⟨tg, iter, ifs, 0⟩] scope _ => (match trC M N r sc elt tg iter ifs scope with
    | some (w, g, t, e, vs) => some (iComp w g t e vs)
    | none => none)
  | .ListComp elt [⟨t0, i0, f0, 0⟩, ⟨t1, i1, f1, 0⟩] scope _ => (match trC M N r sc elt t0 i0 f0 scope, trF M N r (relS scope sc) scope t1 i1 f1 with
    | some (w, g, t, e, vs), some (w1, g1, tt1, is1) => if subB is1 vs then some (iCompB w g t (bFor w1 g1 tt1 (bElt e) is1) vs) else none
    | _, _ => none)
  | .ListComp elt [⟨t0, i0, f0, 0⟩, ⟨t1, i1, f1, 0⟩, ⟨t2, i2, f2, 0⟩] scope _ => (match trC M N r sc elt t0 i0 f0 scope, trF M N r (relS scope sc) scope t1 i1 f1, trF M N r (relS scope sc) scope t2 i2 f2 with
    | some (w, g, t, e, vs), some (w1, g1, tt1, is1), some (w2, g2, tt2, is2) => if subB (is1 ++ is2) vs then some (iCompB w g t (bFor w1 g1 tt1 (bFor w2 g2 tt2 (bElt e) is2) (is1 ++ is2)) vs) else none
    | _, _, _ => none)
  | _ => none
def stepT (M : Gm) (r : Tr) (sc : Scope) : Expr → Option IT
  | .UnaryOp .Not a _ => (r.T sc a).map tNot
  | .BoolOp .And vs _ => trAndT r sc vs
  | .BoolOp .Or vs _ => trOrT r sc vs
  | .Compare a [op] [b] _ => if notSet b then (match r.E sc a, r.E sc b with
    | some f, some g => some (cmpWT M a op f g)
    | _, _ => none) else none
  | .Compare a [o1, o2] [b, c] _ => if notSet c then (match r.E sc a, r.E sc b, r.E sc c with
    | some f, some g, some h => some (tChB o1 o2 f g h)
    | _, _, _ => none) else none
  | e => if plainTest e then (r.E sc e).map tTru else none
def trN (M : Gm) (N : List Str) : Nat → Tr
  | 0 => ⟨fun _ _ => none, fun _ _ => none⟩
  | n + 1 => ⟨stepE M N (trN M N n), stepT M (trN M N n)⟩
/-! ### statements -/
def isComp : Expr → Bool
  | .ListComp _ _ _ _ => true
  | .SetComp _ _ _ _ => true
  | .DictComp _ _ _ _ _ => true
  | _ => false
def isTupE : Expr → Bool
  | .Tuple _ _ _ => true
  | _ => false
/-- x = [..]: a list that others may change, if x is among hv -/
def trLh (r : Tr) (sc : Scope) : List Expr → Option IL
  | [] => some aNil
  | .Call (.Name x _) [e] [] _ :: es => if decide (x = "list") && notStar e then (match r.E sc e, trLh r sc es with
    | some f, some g => some (aCons (iListH (aCons f aNil)) g)
    | _, _ => none) else none
  | _ :: _ => none
def trEh (bf : List Str) (r : Tr) (sc : Scope) (hv : List Str) (x : Str) (e : Expr) : Option I := match e with
  | .List es p => if decide (x ∈ hv) then (trL r sc es).map iLstH
    else if decide (x ++ ("[]" : Str) ∈ hv) && (glB sc "list" && decide (("list" : Str) ∈ bf)) then (trLh r sc es).map iLst else r.E sc (.List es p)
  | .Call (.Name y q) [a] [] p => if decide (x ∈ hv) && (decide (y = "sorted") && (notStar a && (glB sc y && decide (y ∈ bf)))) then (r.E sc a).map fun f => iSortH (aCons f aNil) else r.E sc (.Call (.Name y q) [a] [] p)
  | e => r.E sc e
def swB (x : Str) (px : Pos) (y : Str) (py : Pos) (a b : Expr) : Bool := (px.line == py.line) && (!(x == y) && (notStar a && (notStar b && (!(foldedForSure 8 a && foldedForSure 8 b) && !(constantsAlone 8 a && constantsAlone 8 b)))))
def locB (sc : Scope) (x : Str) : Bool := match sc.names.lookup x with
  | some .local => true
  | _ => false
def trSs (rs : Stmt → Option IS) : List Stmt → Option IS
  | [] => some sNx
  | s :: ss => (match rs s, trSs rs ss with
    | some f, some g => some (sSeq f g)
    | _, _ => none)
def stepS (M : Gm) (N hv : List Str) (r : Tr) (sc : Scope) (rs : Stmt → Option IS) : Stmt → Option IS
  | .Return none _ => some sRetN
  | .Return (some e) _ => (trEh M.bf r sc hv "return" e).map sRet
  | .Pass _ => some sNx
  | .Expr e _ => if isComp e then none else (r.E sc e).map sDrop
  | .If c a b _ => (match r.T sc c, trSs rs a, trSs rs b with
    | some t, some f, some g => some (sIf t f g)
    | _, _, _ => none)
  | .Assign [.Name x p] (.ListComp elt [⟨tg, iter, ifs, 0⟩] scope pos) _ => (match trC M N r sc elt tg iter ifs scope, slot N x with
    | some (w, g, t, e, vs), some i => if locB sc x then (if (p.line == pos.line) && !(scope.names.any fun q => q.1 == x && (q.2 == .local || q.2 == .cell)) then some (sAsg (iComp w g t e vs) (gV i)) else none)
        else (match sc.names.lookup x with
          | some .cell => some (sAsg (iComp w g t e vs) (gV i))
          | _ => none)
    | _, _ => none)
  | .Assign [.Name x p] e _ => if isComp e then none else (match tgN N sc (.Name x p), trEh M.bf r sc hv x e with
    | some i, some f => some (sAsg f (gV i))
    | _, _ => none)
  | .Assign [.Tuple [.Name x px, .Name y py] _ _] (.Tuple [a, b] k p) _ => (match sc.names.lookup x, sc.names.lookup y with
    | some .local, some .local => if swB x px y py a b then (match slot N x, slot N y, r.E sc a, r.E sc b with
      | some i, some j, some f, some g => if i = j then none else some (sPar i j f g)
      | _, _, _, _ => none) else none
    | some .cell, some .cell => (match slot N x, slot N y, r.E sc (.Tuple [a, b] k p) with
      | some i, some j, some f => some (sAsg f (gT [i, j]))
      | _, _, _ => none)
    | _, _ => none)
  | .Assign [.Subscript o i _] e _ => if notSlice i && !isComp e && !isTupE e then (match r.E sc o, r.E sc i, r.E sc e with
    | some f, some g, some h => some (sSet f g h)
    | _, _, _ => none) else none
  | .Assign [.Attribute o f _] e _ => if isComp e then none else (match r.E sc o, r.E sc e with
    | some g, some h => some (sAtt (M.sts f) g f h)
    | _, _ => none)
  | .For tg iter body [] _ => if notSet iter then (match trW M r sc tg iter, trG N sc tg, trSs rs body with
    | some w, some (g, _), some b => some (sFor w g b)
    | _, _, _ => none) else none
  | _ => none
def trS (M : Gm) (N hv : List Str) (r : Tr) (sc : Scope) : Nat → Stmt → Option IS
  | 0 => fun _ => none
  | n + 1 => fun st => match stepS M N hv r sc (trS M N hv r sc n) st with
    | some f => some f
    | none => some sBad
/-- a def's body *-/
def trB (M : Gm) (N hv : List Str) (sc : Scope) (body : List Stmt) : Option IS := trSs (trS { M with cf := hv } N hv (trN { M with cf := hv } N 24) sc 12) body
end B
end
section
set_option Elab.async false
set_option linter.all false
set_option maxRecDepth 100000
set_option maxHeartbeats 2000000
namespace B
open PySem PySem.Spec PyProof.Rows L2
/-- what the text's global names are, over a context -/
structure GmOk (X : Cx) (M : Gm) (ρ : Fns) (k : Nat) : Prop where
  fn : ∀ x sh, M.G x = some (.fn sh) → ∃ f fd ps, X.mg x = some (.ref f) ∧ PySem.W.keepIn X.K (.ref f) = true ∧ FnOk X.prog X.w X.K X.mg X.base (L2.CX X.prog X.w) k f fd ps (spI X.K ps.length (ρ x)) ∧ ∀ q ∈ sh, CB X.K fd ps q.1 q.2.1 q.2.2
  cst : ∀ x d, M.G x = some (.cst d) → ∃ v u, X.mg x = some u ∧ RelV v u ∧ ∀ ia n Ms H, Rel X.K ia n Ms H v d
  bf : ∀ x ∈ M.bf, X.mg x = none
  make : ∀ x key fz sh, M.G x = some (.cls key fz sh) → X.mg x = some (.ref (He.ga X.K x)) ∧ PySem.W.keepIn X.K (.ref (He.ga X.K x)) = true ∧ ∃ f fd ps, Mk X.K (He.ga X.K x) f ∧ FnOk X.prog X.w X.K X.mg X.base (L2.CX X.prog X.w) k f fd ps (spI X.K ps.length (ρ key)) ∧ ∀ q ∈ sh, CB X.K fd ps (q.1 + 1) q.2.1 q.2.2
  at_ : ∀ f c h, (M.ats f).lookup c = some h → Cls X.K (He.ga X.K c) ∧ (match h with
    | .fld => NoAttr X.K (He.ga X.K c) f
    | .prop key => ∃ p g fd ps, PropOf X.K (He.ga X.K c) f p g ∧ FnOk X.prog X.w X.K X.mg X.base (L2.CX X.prog X.w) k g fd ps (spI X.K ps.length (ρ key)) ∧ Binds X.K fd ps [] ∧ ps.length = 1)
  mt : ∀ m n ks c q, (M.mts m n ks).lookup c = some q → Cls X.K (He.ga X.K c) ∧ ∃ g fd ps, Meth X.K (He.ga X.K c) m g ∧ FnOk X.prog X.w X.K X.mg X.base (L2.CX X.prog X.w) k g fd ps (spI X.K ps.length (ρ q.1)) ∧ CB X.K fd ps (n + 1) ks q.2
  st : ∀ f, ∀ c ∈ M.sts f, Cls X.K (He.ga X.K c) ∧ NoAttr X.K (He.ga X.K c) f
  eq : ∀ c key, M.eqs.lookup c = some key → (∃ f fd ps, PySem.W.findIn X.K (.ref (He.ga X.K c)) "__eq__" = some (some (.ref f)) ∧ PySem.W.isFn X.K (.ref f) = true ∧ FnOk X.prog X.w X.K X.mg X.base (L2.CX X.prog X.w) k f fd ps (spI X.K ps.length (ρ key)) ∧ CB X.K fd ps 2 [] [.ix 0, .ix 1]) ∧
    (∀ t ∈ ["NoneType", "bool", "int", "str", "tuple", "list"], PySem.W.subIn X.K (.type t) (.ref (He.ga X.K c)) = some false) ∧ NeOk X (He.ga X.K c)
  rp : ∀ c key, M.rps.lookup c = some key → ∃ f fd ps, PySem.W.findIn X.K (.ref (He.ga X.K c)) "__repr__" = some (some (.ref f)) ∧ PySem.W.isFn X.K (.ref f) = true ∧ FnOk X.prog X.w X.K X.mg X.base (L2.CX X.prog X.w) k f fd ps (spI X.K ps.length (ρ key)) ∧ CB X.K fd ps 1 [] [.ix 0]
  is_ : IsOk X.K M.isT M.isL
structure Cok (X : Cx) (Wx : WX) (M : Gm) (N : List Str) (ρ : Fns) (k : Nat) (sc : Scope) : Prop where
  en : X.N = N
  es : X.env.scope = sc
  calm : X.calm = true
  nd : X.N.Nodup
  hr : Room (k + 1) X.A
  tk : Takes X Wx
  g : GmOk X M ρ k
  kd : sc.kind = .function
theorem Cok.hu {X : Cx} {Wx : WX} {M : Gm} {N : List Str} {ρ : Fns} {k : Nat} {sc : Scope} (c : Cok X Wx M N ρ k sc) : X.A.units + 64 < cLine := c.hr.units
theorem Cok.gl {X : Cx} {Wx : WX} {M : Gm} {N : List Str} {ρ : Fns} {k : Nat} {sc : Scope} (c : Cok X Wx M N ρ k sc) {x : Str} (h : glB sc x = true) : Gl X x := by
  show X.env.scope.names.lookup x = _
  rw [c.es]
  exact glB_ok h
section
variable {X : Cx} {Wx : WX} {M : Gm} {N : List Str} {ρ : Fns} {k : Nat} {sc : Scope}
theorem Cok.hr0 (c : Cok X Wx M N ρ k sc) : Room k X.A := c.hr.mono (Nat.le_succ k)
theorem Cok.ah (c : Cok X Wx M N ρ k sc) {f : Str} (cl : Str) (h : Ah) (e : (M.ats f).lookup cl = some h) : AhOk X ρ (He.ga X.K cl) f h := by
  obtain ⟨h1, h2⟩ := c.g.at_ f cl h e
  cases h with
  | fld => exact ⟨h1, h2⟩
  | prop key =>
    obtain ⟨p, g, fd, ps, q1, q2, q3, q4⟩ := h2
    exact ⟨h1, p, g, fd, ps, k, q1, q2, c.hr, q3, q4⟩
theorem Cok.mtk (c : Cok X Wx M N ρ k sc) {m : Str} {n : Nat} {ks : List Str} (cl : Str) (q : Str × List Ai) (e : (M.mts m n ks).lookup cl = some q) : MtOk X ρ (He.ga X.K cl) m n ks q := by
  obtain ⟨h1, g, fd, ps, q1, q2, q3⟩ := c.g.mt m n ks cl q e
  exact ⟨h1, g, fd, ps, k, q1, q2, c.hr0, q3⟩
theorem Cok.eqk (c : Cok X Wx M N ρ k sc) {ne : Bool} (cl key : Str) (e : M.eqs.lookup cl = some key) : EqOk X ρ (He.ga X.K cl) key ∧ (ne = true → NeOk X (He.ga X.K cl)) := by
  obtain ⟨⟨f, fd, ps, q1, q2, q3, q4⟩, h2, h3⟩ := c.g.eq cl key e
  exact ⟨⟨f, fd, ps, k, q1, q2, q3, c.hr, q4, h2⟩, fun _ => h3⟩
theorem Cok.rpk (c : Cok X Wx M N ρ k sc) (cl key : Str) (e : M.rps.lookup cl = some key) : ReprOk X ρ (He.ga X.K cl) key := by
  obtain ⟨f, fd, ps, q1, q2, q3, q4⟩ := c.g.rp cl key e
  exact ⟨f, fd, ps, k, q1, q2, q3, c.hr, q4⟩
end
/-- within a comprehension -/
theorem Cok.blk {X : Cx} {Wx : WX} {M : Gm} {N : List Str} {ρ : Fns} {k : Nat} {sc : Scope} (c : Cok X Wx M N ρ k sc) {s : Shared} {H : Hp} {scope : Scope} {C : Addr} {cl : List (Str × Addr)} {fp : List Addr} (hk : scope.kind = .function) :
    Cok (X.blk s H scope (compEnvC scope cl C X.env) fp) (fun _ _ _ _ => False) M N ρ k (relS scope sc) := by
  refine ⟨c.en, ?_, c.calm, c.nd, c.hr, takes0, ⟨c.g.fn, c.g.cst, c.g.bf, c.g.make, c.g.at_, c.g.mt, c.g.st, c.g.eq, c.g.rp, c.g.is_⟩, hk⟩
  rw [← c.es]
  rfl
structure TrOk (M : Gm) (N : List Str) (ρ : Fns) (k : Nat) (r : Tr) : Prop where
  E : ∀ sc e f, r.E sc e = some f → ∀ X Wx, Cok X Wx M N ρ k sc → PE X e (tE X.K Wx ρ f)
  T : ∀ sc e f, r.T sc e = some f → ∀ X Wx, Cok X Wx M N ρ k sc → PT X e (tT X.K Wx ρ f)
/-! ### small facts of the syntax -/
theorem star_ok {e : Expr} {es : List Expr} {env : Env} (h : notStar e = true) : starEach (e :: es) env = (false, eval e env) :: starEach es env := by
  cases e <;> first | rfl | cases h
theorem any_backTo {pos : Pos} {l : List (Bool × Sem Value)} (h : l.any (·.1) = false) : (backTo pos l).any (·.1) = false := by
  unfold backTo
  rw [List.any_map]
  exact h
theorem set_ok {e : Expr} (h : notSet e = true) : ∀ es k p, e ≠ .Set es k p := by
  intro es k p z
  subst z
  cases h
theorem fold_ok {e : Expr} {env : Env} (h : notSet e = true) : ∀ x, foldedSetIterable e env x = pure x := by
  intro x
  cases e <;> first | rfl | cases h
theorem marks_ok {op : CmpOp} {b : Expr} (h : notSet b = true) : behindInMarks op b = false := mark_of (.inr (set_ok h))
theorem plain_ok {e : Expr} {env : Env} (h : plainTest e = true) : ∀ whole, isTrue e env whole = (do let v ← whole; standAt e.pos; holding [v] (truthy v)) := by
  intro whole
  cases e with
  | UnaryOp op a p => cases op <;> first | rfl | cases h
  | BoolOp op a p => cases h
  | IfExp a b c p => cases h
  | Compare a b c p => cases h
  | _ => rfl
theorem ix_ok {b : Expr} (h : notSlice b = true) : PlainIx b := by
  intro o i
  cases b <;> first | rfl | cases h
theorem base_ok {o : Expr} {m : Str} {env : Env} (h : notCall o = true) : attributeBase o m env (eval o env) = eval o env := by
  unfold attributeBase
  split
  · rename_i x p pos
    have h : (x != "super") = true := h
    rw [h, Bool.true_or, Bool.true_or, Bool.true_or, if_pos rfl]
  · rfl
theorem swaps_ok {e : Expr} {t : Option Expr} {l : Nat} {env : Env} (h : isComp e = false) : swapsWith e t l env = pure false := by
  cases e <;> first | rfl | cases h
section
variable {X : Cx} {Wx : WX} {M : Gm} {N : List Str} {ρ : Fns} {k : Nat} {sc : Scope} {r : Tr}
theorem trL_ok (o : TrOk M N ρ k r) (c : Cok X Wx M N ρ k sc) : ∀ {es : List Expr} {f : IL}, trL r sc es = some f → PA X es (tA X.K Wx ρ f) ∧ (starEach es X.env).any (·.1) = false ∧ (∀ s ds s', f ρ s = .ok ds s' → ds.length = es.length) ∧ (es = [] ∧ f = aNil ∨ ∃ e r, es = e :: r ∧ starEach (e :: r) X.env = (false, eval e X.env) :: starEach r X.env)
  | [], f, h => by
    cases h
    exact ⟨p_nil, rfl, fun s ds s' h => by cases h; rfl, .inl ⟨rfl, rfl⟩⟩
  | e :: es, f, h => by
    unfold trL at h
    split at h
    · rename_i hs
      split at h
      · rename_i f1 g1 e1 e2
        cases h
        obtain ⟨q1, q2, q3, _⟩ := trL_ok o c e2
        refine ⟨p_cons (o.E sc e f1 e1 X Wx c) q1 (star_ok hs), ?_, fun s ds s' h => ?_, .inr ⟨e, es, rfl, star_ok hs⟩⟩
        · rw [star_ok hs, List.any_cons, q2]; rfl
        · simp only [aCons] at h
          cases e3 : f1 ρ s with
          | bad => rw [e3] at h; cases h
          | ex x s1 => rw [e3] at h; cases h
          | ok d s1 =>
            rw [e3] at h
            simp only [bind_ok] at h
            cases e4 : g1 ρ s1 with
            | bad => rw [e4] at h; cases h
            | ex x s1 => rw [e4] at h; cases h
            | ok d2 s2 =>
              rw [e4] at h
              cases h
              simp [q3 _ _ _ e4]
      · cases h
    · cases h
theorem trLs_ok (o : TrOk M N ρ k r) (c : Cok X Wx M N ρ k sc) : ∀ {es : List Expr} {f : IL}, trLs r sc es = some f → PA X es (tA X.K Wx ρ f)
  | [], f, h => by cases h; exact p_nil
  | e :: es, f, h => by
    by_cases hs : notStar e = true
    · have h : (if notStar e then (match r.E sc e, trLs r sc es with
        | some f, some g => some (aCons f g)
        | _, _ => none) else none) = some f := by
        cases e <;> first | exact h | cases hs
      rw [if_pos hs] at h
      split at h
      · rename_i f1 g1 e1 e2
        cases h
        exact p_cons (o.E sc e f1 e1 X Wx c) (trLs_ok o c e2) (star_ok hs)
      · cases h
    · cases e with
      | Starred e p =>
        unfold trLs at h
        split at h
        · rename_i f1 g1 e1 e2
          cases h
          exact pa_starB (o.E sc e f1 e1 X Wx c) (trLs_ok o c e2)
        · cases h
      | _ => exact absurd rfl hs
theorem trJ_ok (o : TrOk M N ρ k r) (c : Cok X Wx M N ρ k sc) : ∀ {es : List Expr} {fs : List I}, trJ r sc es = some fs → All2 (fun e f => PE X e (tE X.K Wx ρ f)) es fs
  | [], f, h => by cases h; exact .nil
  | e :: es, f, h => by
    unfold trJ at h
    split at h
    · rename_i f1 g1 e1 e2
      cases h
      exact .cons (o.E sc e f1 e1 X Wx c) (trJ_ok o c e2)
    · cases h
theorem cmpW_ok (c : Cok X Wx M N ρ k sc) {a b : Expr} {op : CmpOp} {f g : I} {pos : Pos} (hs : notSet b = true) (ha : PE X a (tE X.K Wx ρ f)) (hb : PE X b (tE X.K Wx ρ g)) : PE X (.Compare a [op] [b] pos) (tE X.K Wx ρ (cmpW M a op f g)) := by
  have eqc : ∀ ne : Bool, PE X (.Compare a [opOf ne] [b] pos) (tE X.K Wx ρ (eqW M a ne f g)) := fun ne => by
    unfold eqW
    split
    · exact p_cmpS c.hu (marks_ok hs) ha hb
    · exact p_eqO c.hu (fun cl key e => c.eqk cl key e) (marks_ok hs) ha hb
  cases op with
  | Eq => exact eqc false
  | NotEq => exact eqc true
  | _ => exact p_cmp c.hu (marks_ok hs) ha hb
theorem cmpWT_ok (c : Cok X Wx M N ρ k sc) {a b : Expr} {op : CmpOp} {f g : I} {pos : Pos} (hs : notSet b = true) (ha : PE X a (tE X.K Wx ρ f)) (hb : PE X b (tE X.K Wx ρ g)) : PT X (.Compare a [op] [b] pos) (tT X.K Wx ρ (cmpWT M a op f g)) := by
  have eqc : ∀ ne : Bool, PT X (.Compare a [opOf ne] [b] pos) (tT X.K Wx ρ (eqWT M a ne f g)) := fun ne => by
    unfold eqWT
    split
    · exact q_cmpS c.hu (marks_ok hs) ha hb
    · exact q_eqO c.hu (fun cl key e => c.eqk cl key e) (marks_ok hs) ha hb
  cases op with
  | Eq => exact eqc false
  | NotEq => exact eqc true
  | _ => exact q_cmp c.hu (marks_ok hs) ha hb
theorem trK_ok (o : TrOk M N ρ k r) (c : Cok X Wx M N ρ k sc) {pos : Pos} : ∀ {es : List Keyword} {f : IL}, trK r sc es = some f → PK X es (tA X.K Wx ρ f) ∧ (∀ s ds s', f ρ s = .ok ds s' → ds.length = (kwN es).length) ∧ (backToKw pos (keywordEach es X.env)).all (·.1.isSome) = true ∧
    (backToKw pos (keywordEach es X.env)).filterMap (·.1) = kwN es ∧ (backToKw pos (keywordEach es X.env)).any (·.1.isNone) = false
  | [], f, h => by
    cases h
    exact ⟨⟨fun pos pins s σ H Q I q => pk_nil.run pos pins s σ H Q I (let ⟨W, s, A, p⟩ := q; p [] W H A .refl .nil)⟩, fun s ds s' h => by cases h; rfl, rfl, rfl, rfl⟩
  | ⟨none, e, p⟩ :: es, f, h => by cases h
  | ⟨some x, e, p⟩ :: es, f, h => by
    unfold trK at h
    split at h
    · rename_i f1 g1 e1 e2
      cases h
      obtain ⟨q1, q2, q3, q4, q5⟩ := trK_ok o c e2
      refine ⟨⟨fun pos pins s σ H Q I q => (pk_cons (o.E sc e f1 e1 X Wx c) q1).run pos pins s σ H Q I ?_⟩, fun s ds s' h => ?_, ?_, ?_, ?_⟩
      · obtain ⟨W, s, A, p⟩ := q
        exact go A p fun x d1 W1 s1 H1 r1 A1 _ p1 => go A1 p1 fun y d2 W2 s2 H2 r2 A2 st2 p2 => p2 _ W2 H2 A2 .refl (.cons (st2.rel r1) r2)
      · simp only [aCons] at h
        cases e3 : f1 ρ s with
        | bad => rw [e3] at h; cases h
        | ex x s1 => rw [e3] at h; cases h
        | ok d s1 =>
          rw [e3] at h
          simp only [bind_ok] at h
          cases e4 : g1 ρ s1 with
          | bad => rw [e4] at h; cases h
          | ex x s1 => rw [e4] at h; cases h
          | ok d2 s2 =>
            rw [e4] at h
            cases h
            simp [kwN, q2 _ _ _ e4]
      · exact q3
      · show x :: (backToKw pos (keywordEach es X.env)).filterMap (·.1) = x :: kwN es
        rw [q4]
      · exact q5
    · cases h
theorem trAnd_ok (o : TrOk M N ρ k r) (c : Cok X Wx M N ρ k sc) {pos : Pos} : ∀ {es : List Expr} {f : I}, trAnd r sc es = some f → PE X (.BoolOp .And es pos) (tE X.K Wx ρ f)
  | [], f, h => by cases h
  | [e], f, h => p_one (o.E sc e f h X Wx c)
  | e :: e' :: es, f, h => by
    unfold trAnd at h
    split at h
    · rename_i f1 g1 e1 e2
      cases h
      exact p_and (o.E sc e f1 e1 X Wx c) (trAnd_ok o c e2)
    · cases h
theorem trOr_ok (o : TrOk M N ρ k r) (c : Cok X Wx M N ρ k sc) {pos : Pos} : ∀ {es : List Expr} {f : I}, trOr r sc es = some f → PE X (.BoolOp .Or es pos) (tE X.K Wx ρ f)
  | [], f, h => by cases h
  | [e], f, h => p_one (o.E sc e f h X Wx c)
  | e :: e' :: es, f, h => by
    unfold trOr at h
    split at h
    · rename_i f1 g1 e1 e2
      cases h
      exact p_or (o.E sc e f1 e1 X Wx c) (trOr_ok o c e2)
    · cases h
theorem trAndT_ok (o : TrOk M N ρ k r) (c : Cok X Wx M N ρ k sc) {pos : Pos} : ∀ {es : List Expr} {f : IT}, trAndT r sc es = some f → PW X (.BoolOp .And es pos) (tT X.K Wx ρ f)
  | [], f, h => by cases h
  | [e], f, h => q_and1 (o.T sc e f h X Wx c)
  | e :: e' :: es, f, h => by
    unfold trAndT at h
    split at h
    · rename_i f1 g1 e1 e2
      cases h
      exact q_and (o.T sc e f1 e1 X Wx c) (trAndT_ok o c e2)
    · cases h
theorem trOrT_ok (o : TrOk M N ρ k r) (c : Cok X Wx M N ρ k sc) {pos : Pos} : ∀ {es : List Expr} {f : IT}, trOrT r sc es = some f → PW X (.BoolOp .Or es pos) (tT X.K Wx ρ f)
  | [], f, h => by cases h
  | [e], f, h => q_or1 (o.T sc e f h X Wx c)
  | e :: e' :: es, f, h => by
    unfold trOrT at h
    split at h
    · rename_i f1 g1 e1 e2
      cases h
      exact q_or (o.T sc e f1 e1 X Wx c) (trOrT_ok o c e2)
    · cases h
theorem trO_ok (o : TrOk M N ρ k r) (c : Cok X Wx M N ρ k sc) {e : Option Expr} {f : Fns → S → R (Option Int)} (h : trO r sc e = some f) : PO X e (tO X.K Wx ρ f) := by
  cases e with
  | none => cases h; exact o_no
  | some e =>
    obtain ⟨g, h1, rfl⟩ := Option.map_eq_some_iff.mp h
    exact o_int (o.E sc e g h1 X Wx c)
theorem stepT_ok (o : TrOk M N ρ k r) (c : Cok X Wx M N ρ k sc) {e : Expr} {f : IT} (h : stepT M r sc e = some f) : PT X e (tT X.K Wx ρ f) := by
  unfold stepT at h
  split at h
  · obtain ⟨g, h1, rfl⟩ := Option.map_eq_some_iff.mp h
    exact q_not (o.T sc _ g h1 X Wx c)
  · exact (trAndT_ok o c h).pt
  · exact (trOrT_ok o c h).pt
  · split at h
    · rename_i hs
      split at h
      · rename_i f1 g1 e1 e2
        cases h
        exact cmpWT_ok c hs (o.E sc _ f1 e1 X Wx c) (o.E sc _ g1 e2 X Wx c)
      · cases h
    · cases h
  · split at h
    · rename_i hs
      split at h
      · rename_i f1 g1 h1 e1 e2 e3
        cases h
        exact q_chain c.hu (marks_ok hs) (o.E sc _ f1 e1 X Wx c) (o.E sc _ g1 e2 X Wx c) (o.E sc _ h1 e3 X Wx c)
      · cases h
    · cases h
  · split at h
    · rename_i hs
      obtain ⟨g, h1, rfl⟩ := Option.map_eq_some_iff.mp h
      exact q_tru (o.E sc _ g h1 X Wx c) (plain_ok hs)
    · cases h
end
end B
end
section
set_option Elab.async false
set_option linter.all false
set_option maxRecDepth 100000
set_option maxHeartbeats 4000000
namespace B
open PySem PySem.Spec PyProof.Rows L2
/-- names of the written scope may be stored -/
def TgC (X : Cx) (scope : Scope) : Prop := ∀ x kk, scope.names.lookup x = some kk → (kk = .local ∨ kk = .cell) → Loc X.env.scope x ∧ (X.fn x = true ∨ X.env.scope.names.lookup x = some .local)
section
variable {M : Gm} {N : List Str} {ρ : Fns} {k : Nat} {sc scope : Scope} {r : Tr}
theorem tgN_ok {e : Expr} {i : Nat} (h : tgN N scope e = some i) : ∃ x p kk, e = .Name x p ∧ N[i]? = some x ∧ scope.names.lookup x = some kk ∧ (kk = .local ∨ kk = .cell) := by
  unfold tgN at h
  split at h
  · split at h
    · rename_i e; exact ⟨_, _, _, rfl, slot_get h, e, .inl rfl⟩
    · rename_i e; exact ⟨_, _, _, rfl, slot_get h, e, .inr rfl⟩
    · cases h
  · cases h
theorem pg_of {X : Cx} {e : Expr} {i : Nat} (hN : X.N = N) (nd : X.N.Nodup) (ht : TgC X scope) (h : tgN N scope e = some i) : PG X e (gName i) := by
  obtain ⟨x, p, kk, rfl, h1, h2, h3⟩ := tgN_ok h
  exact pg_name nd (by rw [hN]; exact h1) (ht x kk h2 h3).1 (ht x kk h2 h3).2
theorem pgs_of {X : Cx} (hN : X.N = N) (nd : X.N.Nodup) (ht : TgC X scope) : ∀ {es : List Expr} {is : List Nat}, tgNs N scope es = some is → PGs X es (gNames is) ∧ (assignEach es X.env).length = is.length ∧ (assignEach es X.env).findIdx? (·.1) = none
  | [], is, h => by cases h; exact ⟨pgs_nil, rfl, rfl⟩
  | e :: es, is, h => by
    unfold tgNs at h
    split at h
    · rename_i i is' h1 h2
      cases h
      obtain ⟨q1, q2, q3⟩ := pgs_of hN nd ht h2
      obtain ⟨x, p, kk, rfl, _⟩ := tgN_ok h1
      refine ⟨pgs_cons (pg_of hN nd ht h1) q1 rfl, ?_, ?_⟩
      · show (assignEach es X.env).length + 1 = is'.length + 1
        rw [q2]
      · show List.findIdx? _ ((false, assign (.Name x p) X.env) :: assignEach es X.env) = none
        rw [List.findIdx?_cons, q3]
        rfl
    · cases h
theorem trG_ok {tg : Expr} {g : IG} {is : List Nat} (h : trG N scope tg = some (g, is)) (K : PySem.W.Frag) : ∃ gt, GOk K g gt ∧ (∀ vs : List Nat, (∀ i ∈ is, i ∈ vs) → GW gt vs) ∧ ∀ X : Cx, X.K = K → X.N = N → X.N.Nodup → X.calm = true → TgC X scope → PG X tg gt := by
  unfold trG at h
  split at h
  · obtain ⟨i, h1, h2⟩ := Option.map_eq_some_iff.mp h
    cases h2
    exact ⟨gName i, fun W s σ H v d s' Q A r e q => by cases e; exact q _ (A.set r).1 (A.set r).2, fun vs hv => gw_v (hv i (by simp)), fun X _ hN nd _ ht => pg_of hN nd ht h1⟩
  · obtain ⟨is', h1, h2⟩ := Option.map_eq_some_iff.mp h
    cases h2
    refine ⟨gTup K is.length (gNames is), fun W s σ H v d s' Q A r e q => ?_, fun vs hv => gw_t hv, fun X hK hN nd hc ht => ?_⟩
    · cases r with
      | tup t z r =>
        refine ⟨_, _, rfl, t.sq, ?_, gok_vs is _ W s σ H _ s' Q A r e q⟩
        rw [r.length]
        exact (show ∀ (is : List Nat) (ds : List D) (s s' : S), gVs is ds s = some s' → ds.length = is.length from fun is => by
          induction is with
          | nil => intro ds s s' h; cases ds with | nil => rfl | cons _ _ => cases h
          | cons i is ih => intro ds s s' h; cases ds with | nil => cases h | cons d ds => simp [ih ds _ s' h]) is _ s s' e
      | _ => cases e
    · subst hK
      obtain ⟨q1, q2, q3⟩ := pgs_of hN nd ht h1
      exact pg_tup hc q1 q2 q3
  · cases h
variable {X : Cx} {Wx : WX}
theorem isTup_ok {e : Expr} (h : isTup e = true) : ∃ es kk p, e = .Tuple es kk p := by
  cases e <;> first | exact ⟨_, _, _, rfl⟩ | cases h
theorem trW_ok (o : TrOk M N ρ k r) (c : Cok X Wx M N ρ k sc) {tg iter : Expr} {w : IL} (h : trW M r sc tg iter = some w) : PI X tg iter (tJ X.K Wx ρ w) := by
  unfold trW at h
  split at h
  · rename_i x p es pos
    split at h
    · rename_i hx
      subst hx
      split at h
      · rename_i hb
        simp only [Bool.and_eq_true, decide_eq_true_eq] at hb
        split at h
        · obtain ⟨f, h1, rfl⟩ := Option.map_eq_some_iff.mp h
          obtain ⟨q1, q2, q3, q4⟩ := trL_ok o c h1
          rcases q4 with ⟨z, _⟩ | ⟨e, r', z, hs⟩
          · cases z
          · cases z
            exact w_range1 (c.gl hb.1) (c.g.bf _ hb.2) q1 hs q3
        · rename_i a b
          obtain ⟨f, h1, rfl⟩ := Option.map_eq_some_iff.mp h
          obtain ⟨q1, q2, q3, q4⟩ := trL_ok o c h1
          have hb' : starEach [b] X.env = [(false, eval b X.env)] := by
            unfold trL at h1
            split at h1
            · split at h1
              · rename_i e2
                unfold trL at e2
                split at e2
                · rename_i hs; exact star_ok hs
                · cases e2
              · cases h1
            · cases h1
          rcases q4 with ⟨z, _⟩ | ⟨e, r', z, hs⟩
          · cases z
          · cases z
            exact w_range2 (c.gl hb.1) (c.g.bf _ hb.2) q1 (by rw [hs, hb']) hb' q3
        · cases h
      · cases h
    · split at h
      · rename_i hx
        subst hx
        split at h
        · rename_i hb
          simp only [Bool.and_eq_true, decide_eq_true_eq] at hb
          obtain ⟨ts, kk, tp, rfl⟩ := isTup_ok hb.2
          split at h
          · rename_i a b
            obtain ⟨f, h1, rfl⟩ := Option.map_eq_some_iff.mp h
            obtain ⟨q1, q2, q3, q4⟩ := trL_ok o c h1
            rcases q4 with ⟨z, _⟩ | ⟨e, r', z, hs⟩
            · cases z
            · cases z
              refine w_zip (c.gl hb.1.1) (c.g.bf _ hb.1.2) q1 hs (any_backTo ?_) q3
              rw [hs, List.any_cons] at q2
              simpa using q2
          · cases h
        · cases h
      · split at h
        · rename_i hx
          subst hx
          split at h
          · rename_i hb
            simp only [Bool.and_eq_true, decide_eq_true_eq] at hb
            obtain ⟨ts, kk, tp, rfl⟩ := isTup_ok hb.2
            split at h
            · obtain ⟨f, h1, rfl⟩ := Option.map_eq_some_iff.mp h
              obtain ⟨q1, q2, q3, q4⟩ := trL_ok o c h1
              rcases q4 with ⟨z, _⟩ | ⟨e, r', z, hs⟩
              · cases z
              · cases z
                exact w_enum (c.gl hb.1.1) (c.g.bf _ hb.1.2) q1 hs q3
            · cases h
          · cases h
        · obtain ⟨f, h1, rfl⟩ := Option.map_eq_some_iff.mp h
          exact w_seq (o.E sc _ f h1 X Wx c)
  · split at h
    · obtain ⟨f, h1, rfl⟩ := Option.map_eq_some_iff.mp h
      exact w_seq (o.E sc _ f h1 X Wx c)
    · cases h
theorem trIfs_ok (o : TrOk M N ρ k r) (c : Cok X Wx M N ρ k sc) {ifs : List Expr} {t : IT} (h : trIfs r sc ifs = some t) : PTs X ifs (tT X.K Wx ρ t) := by
  unfold trIfs at h
  split at h
  · cases h
    refine ⟨fun pins s σ H Q I q => pts_nil.run pins s σ H Q I ?_⟩
    obtain ⟨W, s, A, p⟩ := q
    exact p _ W H A .refl rfl
  · exact pts_one (o.T sc _ t h X Wx c)
  · cases h
/-- a comprehension's parts are right -/
theorem trC_ok (o : TrOk M N ρ k r) (c : Cok X Wx M N ρ k sc) {elt tg iter : Expr} {ifs : List Expr} {w : IL} {g : IG} {t : IT} {e : I} {vs : List Nat} (h : trC M N r sc elt tg iter ifs scope = some (w, g, t, e, vs)) :
    ∃ own gt, vs = own.map (·.2) ∧ BlkOk X.N X.env.scope scope own ∧ PI X tg iter (tJ X.K Wx ρ w) ∧ GOk X.K g gt ∧ GW gt vs ∧ (∀ (s : Shared) (H : Hp) (C : Addr) (cl : List (Str × Addr)) (fp : List Addr), PG (X.blk s H scope (compEnvC scope cl C X.env) fp) tg gt) ∧
      (∀ (s : Shared) (H : Hp) (C : Addr) (cl : List (Str × Addr)) (fp : List Addr), PTs (X.blk s H scope (compEnvC scope cl C X.env) fp) ifs (tT X.K (fun _ _ _ _ => False) ρ t)) ∧
      ∀ (s : Shared) (H : Hp) (C : Addr) (cl : List (Str × Addr)) (fp : List Addr), PE (X.blk s H scope (compEnvC scope cl C X.env) fp) elt (tE X.K (fun _ _ _ _ => False) ρ e) := by
  unfold trC at h
  split at h
  · rename_i hb
    have bk := blkOk_by hb
    split at h
    · rename_i w' g' is' t' e' h1 h2 h3 h4
      split at h
      · rename_i hs
        cases h
        obtain ⟨gt, gk, gw, pg⟩ := trG_ok h2 X.K
        have sub : ∀ i ∈ is', i ∈ (ownOf N scope).map (·.2) := fun i hi => of_decide_eq_true (List.all_eq_true.mp hs i hi)
        refine ⟨ownOf N scope, gt, rfl, by rw [c.en, c.es]; exact bk, trW_ok o c h1, gk, gw _ sub, fun s H C cl fp => ?_, fun s H C cl fp => trIfs_ok o (c.blk bk.kind) h3, fun s H C cl fp => o.E _ _ _ h4 _ _ (c.blk bk.kind)⟩
        refine pg _ rfl c.en c.nd c.calm fun x kk hx hk => ?_
        have kp : (relS scope X.env.scope).names.lookup x = some kk := lookup_relS_keep (by rcases hk with z | z <;> (rw [z]; decide)) hx
        rcases hk with rfl | rfl
        · exact ⟨.inl kp, .inr kp⟩
        · exact ⟨.inr kp, .inl (by show (scope.names.lookup x == some .cell) = true; rw [hx]; rfl)⟩
      · cases h
    · cases h
  · cases h
/-- a further clause's parts are right, within the block -/
theorem trF_ok (o : TrOk M N ρ k r) (c : Cok X Wx M N ρ k sc) (hk : scope.kind = .function) {tg iter : Expr} {ifs : List Expr} {w : IL} {g : IG} {t : IT} {is : List Nat} (h : trF M N r (relS scope sc) scope tg iter ifs = some (w, g, t, is)) :
    ∃ gt, GOk X.K g gt ∧ (∀ vs : List Nat, (∀ i ∈ is, i ∈ vs) → GW gt vs) ∧ ∀ (s : Shared) (H : Hp) (C : Addr) (cl : List (Str × Addr)) (fp : List Addr), PI (X.blk s H scope (compEnvC scope cl C X.env) fp) tg iter (tJ X.K WF ρ w) ∧ PG (X.blk s H scope (compEnvC scope cl C X.env) fp) tg gt ∧ PTs (X.blk s H scope (compEnvC scope cl C X.env) fp) ifs (tT X.K WF ρ t) := by
  unfold trF at h
  split at h
  · rename_i w' g' is' t' h1 h2 h3
    cases h
    obtain ⟨gt, gk, gw, pg⟩ := trG_ok h2 X.K
    refine ⟨gt, gk, gw, fun s H C cl fp => ⟨trW_ok o (c.blk hk) h1, ?_, trIfs_ok o (c.blk hk) h3⟩⟩
    refine pg _ rfl c.en c.nd c.calm fun x kk hx hk => ?_
    have kp : (relS scope X.env.scope).names.lookup x = some kk := lookup_relS_keep (by rcases hk with z | z <;> (rw [z]; decide)) hx
    rcases hk with rfl | rfl
    · exact ⟨.inl kp, .inr kp⟩
    · exact ⟨.inr kp, .inl (by show (scope.names.lookup x == some .cell) = true; rw [hx]; rfl)⟩
  · cases h
end
end B
end
section
set_option Elab.async false
set_option linter.all false
set_option maxRecDepth 100000
set_option maxHeartbeats 4000000
namespace B
open PySem PySem.Spec PyProof.Rows L2
section
variable {X : Cx} {Wx : WX} {M : Gm} {N : List Str} {ρ : Fns} {k : Nat} {sc scope : Scope} {r : Tr}
theorem okName_ok {x : Str} (h : okName x = true) : (x == ("__debug__" : Str)) = false ∧ (x == ("__classdict__" : Str)) = false ∧ x ≠ "__name__" := by
  unfold okName at h
  simp only [Bool.and_eq_true, Bool.not_eq_true', decide_eq_false_iff_not] at h
  exact ⟨h.1.1, h.1.2, h.2⟩
theorem ty_boot {x : Str} {t : String} (h : tyOf x = some t) : bootBuiltins x = some (.type t) := by
  unfold tyOf at h
  split at h
  · rename_i e; cases h; subst e; decide +kernel
  · split at h
    · rename_i e; cases h; subst e; decide +kernel
    · split at h
      · rename_i e; cases h; subst e; decide +kernel
      · split at h
        · rename_i e; cases h; subst e; decide +kernel
        · split at h
          · rename_i e; cases h; subst e; decide +kernel
          · cases h
theorem bi_ok {b : Bi} {x : Str} {p pos : Pos} {e : Expr} {es : List Expr} {fl : IL} (c : Cok X Wx M N ρ k sc) (h : biOf x = some b) (hg : Gl X x) (hm : X.mg x = none) (ha : PA X (e :: es) (tA X.K Wx ρ fl)) (hn : x ≠ "__name__") (hdb : (x == ("__debug__" : Str)) = false)
    (he : starEach (e :: es) X.env = (false, eval e X.env) :: starEach es X.env) (hpl : (backTo pos (starEach es X.env)).any (·.1) = false) : PE X (.Call (.Name x p) (e :: es) [] pos) (tE X.K Wx ρ (iBi b fl)) := by
  unfold biOf at h
  split at h
  · rename_i e; cases h; subst e; exact p_bi (f := .len) c_len hg hm (by decide +kernel) ha hn hdb he hpl
  · split at h
    · rename_i e; cases h; subst e; exact p_biT (f := .int) c_int hg hm (by decide +kernel) ha hn hdb he hpl
    · split at h
      · rename_i e; cases h; subst e; exact p_biT (f := .list) c_list hg hm (by decide +kernel) ha hn hdb he hpl
      · split at h
        · rename_i e; cases h; subst e; exact p_bi (f := .all) (c_all c.calm) hg hm (by decide +kernel) ha hn hdb he hpl
        · split at h
          · rename_i e; cases h; subst e; exact p_bi (f := .isi) c_isi hg hm (by decide +kernel) ha hn hdb he hpl
          · split at h
            · rename_i e; cases h; subst e; exact p_biT (f := .tup) c_tup hg hm (by decide +kernel) ha hn hdb he hpl
            · cases h
theorem find_ok {sh : List (Nat × List Str × List Ai)} {n : Nat} {ks : List Str} {pm : List Ai} (h : find? sh n ks = some pm) : (n, ks, pm) ∈ sh := by
  unfold find? at h
  obtain ⟨q, h1, rfl⟩ := Option.map_eq_some_iff.mp h
  have h2 := List.find?_some h1
  simp only [Bool.and_eq_true, decide_eq_true_eq] at h2
  obtain ⟨q1, q2, q3⟩ := q
  obtain ⟨rfl, rfl⟩ := h2
  exact List.mem_of_find?_eq_some h1
theorem trW_set {tg iter : Expr} {w : IL} (h : trW M r sc tg iter = some w) : notSet iter = true := by
  unfold trW at h
  split at h
  · rfl
  · split at h
    · assumption
    · cases h
theorem trC_set {elt tg iter : Expr} {ifs : List Expr} {q : IL × IG × IT × I × List Nat} (h : trC M N r sc elt tg iter ifs scope = some q) : notSet iter = true := by
  unfold trC at h
  split at h
  · split at h
    · rename_i h1 _ _ _; exact trW_set h1
    · cases h
  · cases h
theorem trF_set {tg iter : Expr} {ifs : List Expr} {q : IL × IG × IT × List Nat} (h : trF M N r sc scope tg iter ifs = some q) : notSet iter = true := by
  unfold trF at h
  split at h
  · rename_i h1 _ _; exact trW_set h1
  · cases h
theorem turn_or {LC t1 i1 : Expr} {f1 : List Expr} {k : Nat} {D : Addr} {E : Env} {rest : Value → Value → Env → Sem PySem.Fin} (h : ∀ it acc env, compTurn LC k it acc env = turnG LC k t1 i1 f1 it acc env (rest it acc env)) :
    ∀ it acc env, compTurn LC k it acc env = turnG LC k t1 i1 f1 it acc env (rest it (.ref D) E) ∨ (acc ≠ .ref D ∨ env ≠ E) := fun it acc env => by
  by_cases h1 : acc = .ref D
  · by_cases h2 : env = E
    · subst h1 h2
      exact .inl (h it _ _)
    · exact .inr (.inr h2)
  · exact .inr (.inl h1)
theorem sub_mem {is vs : List Nat} (h : subB is vs = true) : ∀ i ∈ is, i ∈ vs := fun i hi => of_decide_eq_true (List.all_eq_true.mp h i hi)
theorem stepE_ok (o : TrOk M N ρ k r) (c : Cok X Wx M N ρ k sc) {e : Expr} {f : I} (h : stepE M N r sc e = some f) : PE X e (tE X.K Wx ρ f) := by
  unfold stepE at h
  split at h
  · cases h; exact p_int
  · cases h; exact p_bl
  · cases h; exact p_non
  · split at h
    · rename_i hz; cases h; exact p_str hz
    · cases h
  · rename_i x p
    split at h
    · rename_i hn
      obtain ⟨n1, n2, n3⟩ := okName_ok hn
      split at h
      · rename_i hv
        obtain ⟨i, h1, rfl⟩ := Option.map_eq_some_iff.mp h
        exact p_v (pe_var (by rw [c.en]; exact slot_get h1) (by rw [c.es]; exact visB_ok hv) n1 n2)
      · split at h
        · rename_i hg
          split at h
          · rename_i d hG
            cases h
            obtain ⟨v, u, h1, h2, h3⟩ := c.g.cst x d hG
            exact p_c (pe_glob (c.gl hg) h1 h2 n1) h3
          · cases h
          · rename_i key fz sh hG
            cases h
            obtain ⟨h1, _⟩ := c.g.make x key fz sh hG
            exact p_c (v := .ref (He.ga X.K x)) (pe_glob (c.gl hg) h1 rfl n1) fun _ _ _ _ => .cls x
          · split at h
            · rename_i hb
              obtain ⟨t, h1, rfl⟩ := Option.map_eq_some_iff.mp h
              exact p_c (pe_bltn (v := .ty t) (c.gl hg) (c.g.bf _ (of_decide_eq_true hb)) (ty_boot h1) rfl n3 n1) fun _ _ _ _ => .ty t
            · cases h
        · cases h
    · cases h
  · split at h
    · rename_i f1 g1 e1 e2
      cases h
      exact p_bin (o.E sc _ f1 e1 X Wx c) (o.E sc _ g1 e2 X Wx c)
    · cases h
  · split at h
    · rename_i hs
      split at h
      · rename_i f1 g1 e1 e2
        cases h
        exact cmpW_ok c hs (o.E sc _ f1 e1 X Wx c) (o.E sc _ g1 e2 X Wx c)
      · cases h
    · cases h
  · split at h
    · rename_i hs
      split at h
      · rename_i f1 g1 h1 e1 e2 e3
        cases h
        exact p_chain c.hu (marks_ok hs) (o.E sc _ f1 e1 X Wx c) (o.E sc _ g1 e2 X Wx c) (o.E sc _ h1 e3 X Wx c)
      · cases h
    · cases h
  · exact trAnd_ok o c h
  · exact trOr_ok o c h
  · obtain ⟨g, h1, rfl⟩ := Option.map_eq_some_iff.mp h
    exact p_not (o.E sc _ g h1 X Wx c)
  · split at h
    · rename_i t1 f1 g1 e1 e2 e3
      cases h
      exact p_if (o.T sc _ t1 e1 X Wx c) (o.E sc _ f1 e2 X Wx c) (o.E sc _ g1 e3 X Wx c)
    · cases h
  · obtain ⟨g, h1, rfl⟩ := Option.map_eq_some_iff.mp h
    exact p_tup (trLs_ok o c h1)
  · obtain ⟨g, h1, rfl⟩ := Option.map_eq_some_iff.mp h
    exact p_lst (trLs_ok o c h1)
  · split at h
    · rename_i hc
      obtain ⟨g, h1, rfl⟩ := Option.map_eq_some_iff.mp h
      exact p_at (o.E sc _ g h1 X Wx c) (base_ok hc) fun cl h e => c.ah cl h e
    · cases h
  · split at h
    · rename_i hc
      subst hc
      obtain ⟨g, h1, rfl⟩ := Option.map_eq_some_iff.mp h
      exact p_fmt (o.E sc _ g h1 X Wx c)
    · cases h
  · obtain ⟨g, h1, rfl⟩ := Option.map_eq_some_iff.mp h
    exact p_js (trJ_ok o c h1)
  · split at h
    · rename_i hc
      subst hc
      obtain ⟨g, h1, rfl⟩ := Option.map_eq_some_iff.mp h
      exact p_rev (o.E sc _ g h1 X Wx c)
    · cases h
  · split at h
    · rename_i f1 l1 u1 e1 e2 e3
      cases h
      exact p_sl (o.E sc _ f1 e1 X Wx c) (trO_ok o c e2) (trO_ok o c e3)
    · cases h
  · split at h
    · rename_i hs
      split at h
      · rename_i f1 g1 e1 e2
        cases h
        exact p_ix (ix_ok hs) (o.E sc _ f1 e1 X Wx c) (o.E sc _ g1 e2 X Wx c)
      · cases h
    · cases h
  · rename_i x p es kws pos
    split at h
    · rename_i hn
      simp only [Bool.and_eq_true] at hn
      obtain ⟨n1, n2, n3⟩ := okName_ok hn.1
      split at h
      · rename_i sh hG
        split at h
        · rename_i pm f1 g1 e1 e2 e3
          cases h
          obtain ⟨fa, fd, ps, h1, h2, h3, h4⟩ := c.g.fn x sh hG
          obtain ⟨q1, q2, q3, q4⟩ := trL_ok o c e2
          obtain ⟨k1, k2, k3, k4, k5⟩ := trK_ok o c (pos := pos) e3
          split
          · exact p_callG (fm := fun ρ => snapF (ρ x)) (h3.imp fun vs H Q E => sp_snap) c.hr0 (c.gl hn.2) h1 h2 (h4 _ (find_ok e1)) c.tk q1 k1 q3 k2 n1 q4 (any_backTo q2) k3 k4 k5
          · exact p_call h3 c.hr0 (c.gl hn.2) h1 h2 (h4 _ (find_ok e1)) c.tk q1 k1 q3 k2 n1 q4 (any_backTo q2) k3 k4 k5
        · cases h
      · cases h
      · rename_i key fz sh hG
        split at h
        · rename_i pm f1 g1 e1 e2 e3
          cases h
          obtain ⟨h1, h2, fa, fd, ps, h3, h4, h5⟩ := c.g.make x key fz sh hG
          obtain ⟨q1, q2, q3, q4⟩ := trL_ok o c e2
          obtain ⟨k1, k2, k3, k4, k5⟩ := trK_ok o c (pos := pos) e3
          exact p_make ⟨fa, fd, ps, k, h3, h4, c.hr, h5 _ (find_ok e1)⟩ h2 c.tk (c.gl hn.2) h1 n1 q1 k1 q3 k2 q4 (any_backTo q2) k3 k4 k5
        · cases h
      · split at h
        · rename_i hb
          split at h
          · rename_i e es'
            split at h
            · rename_i hi
              simp only [Bool.and_eq_true, decide_eq_true_eq] at hi
              obtain ⟨rfl, hi⟩ := hi
              obtain ⟨f1, e2, rfl⟩ := Option.map_eq_some_iff.mp h
              obtain ⟨q1, q2, q3, q4⟩ := trL_ok o c e2
              rcases q4 with ⟨z, _⟩ | ⟨e', r', z, hs⟩
              · cases z
              · cases z
                rw [hs, List.any_cons] at q2
                exact p_bf (c_isC c.g.is_) (c.gl hn.2) (c.g.bf _ (of_decide_eq_true hb)) (by decide +kernel) q1 n3 n1 hs (any_backTo (by simpa using q2))
            · split at h
              · rename_i hi
                simp only [Bool.and_eq_true, decide_eq_true_eq, List.isEmpty_iff] at hi
                obtain ⟨⟨rfl, rfl⟩, hs⟩ := hi
                obtain ⟨f1, e2, rfl⟩ := Option.map_eq_some_iff.mp h
                exact p_repr (fun cl key e => c.rpk cl key e) (c.gl hn.2) (c.g.bf _ (of_decide_eq_true hb)) (by decide +kernel) (o.E sc _ f1 e2 X Wx c) (star_ok hs) rfl
              · split at h
                · rename_i hi
                  have hi := of_decide_eq_true hi
                  subst hi
                  obtain ⟨f1, e2, rfl⟩ := Option.map_eq_some_iff.mp h
                  obtain ⟨q1, q2, q3, q4⟩ := trL_ok o c e2
                  rcases q4 with ⟨z, _⟩ | ⟨e', r', z, hs⟩
                  · cases z
                  · cases z
                    rw [hs, List.any_cons] at q2
                    exact p_bf (c_sorted c.hu) (c.gl hn.2) (c.g.bf _ (of_decide_eq_true hb)) (by decide +kernel) q1 n3 n1 hs (any_backTo (by simpa using q2))
                split at h
                · rename_i b f1 e1 e2
                  cases h
                  obtain ⟨q1, q2, q3, q4⟩ := trL_ok o c e2
                  rcases q4 with ⟨z, _⟩ | ⟨e', r', z, hs⟩
                  · cases z
                  · cases z
                    rw [hs, List.any_cons] at q2
                    exact bi_ok c e1 (c.gl hn.2) (c.g.bf _ (of_decide_eq_true hb)) q1 n3 n1 hs (any_backTo (by simpa using q2))
                · cases h
          · cases h
        · cases h
    · cases h
  · rename_i ob m apos es kws pos
    split at h
    · rename_i hb
      simp only [Bool.and_eq_true] at hb
      obtain ⟨hc, hl⟩ := hb
      split at h
      · rename_i hm
        split at h
        · rename_i b
          split at h
          · rename_i hs
            split at h
            · rename_i f1 g1 e1 e2
              cases h
              split
              · rename_i hj
                subst hj
                exact p_join (o.E sc _ f1 e1 X Wx c) (o.E sc _ g1 e2 X Wx c) (star_ok hs) (base_ok hc) hl
              · rename_i hj
                have hm : m = "append" := by
                  rcases Bool.or_eq_true_iff.mp hm with z | z
                  · exact absurd (of_decide_eq_true z) hj
                  · exact of_decide_eq_true z
                subst hm
                exact p_app (o.E sc _ f1 e1 X Wx c) (o.E sc _ g1 e2 X Wx c) (star_ok hs) (base_ok hc) hl (by rw [star_ok hs]; rfl)
            · cases h
          · cases h
        · cases h
      · split at h
        · rename_i hlen
          split at h
          · rename_i f1 g1 h1 e1 e2 e3
            cases h
            obtain ⟨q1, q2, q3, q4⟩ := trL_ok o c e2
            obtain ⟨k1, k2, k3, k4, k5⟩ := trK_ok o c (pos := pos) e3
            refine p_meth (o.E sc _ f1 e1 X Wx c) (base_ok hc) hl ?_ (fun cl q e => c.mtk cl q e) c.tk q1 k1 q3 k2 q4 (any_backTo q2) k3 k4 k5
            unfold methodCallForm
            have a1 : (backTo pos (starEach es X.env)).all (fun x => !x.1) = true := by
              have := any_backTo (pos := pos) q2
              rw [List.all_eq_not_any_not]
              simp only [Bool.not_not]
              rw [this]
              rfl
            rw [a1, k3]
            have : (if (backToKw pos (keywordEach kws X.env)).isEmpty then 0 else 1) ≤ 1 := by split <;> omega
            simp only [Bool.true_and, decide_eq_true_eq]
            omega
          · cases h
        · cases h
    · cases h
  · split at h
    · rename_i w g t e' vs hC
      cases h
      obtain ⟨own, gt, rfl, bk, pi, gk, gw, pg, pt, pe⟩ := trC_ok o c hC
      exact PEi (pe_lc c.calm c.nd pi bk pg pt pe (fold_ok (trC_set hC))) fun σ H Q q => comp_imp gk gw q
    · cases h
  · rename_i elt t0 i0 f0 t1 i1 f1 scope pos
    split at h
    · rename_i w g t e' vs w1 g1 tt1 is1 hC hF
      split at h
      · rename_i hs
        cases h
        obtain ⟨own, gt, rfl, bk, pi, gk, gw, pg, pt, pe⟩ := trC_ok o c hC
        obtain ⟨gt1, gk1, gw1, k1⟩ := trF_ok o c bk.kind hF
        have hb : ∀ (s : Shared) (H : Hp) (C : Addr) (cl : List (Str × Addr)) (fp : List Addr) (D : Addr), PB (X.blk s H scope (compEnvC scope cl C X.env) fp) (.ListComp elt [⟨t0, i0, f0, 0⟩, ⟨t1, i1, f1, 0⟩] scope pos) 0 D (fun it => nextG (.ListComp elt [⟨t0, i0, f0, 0⟩, ⟨t1, i1, f1, 0⟩] scope pos) 0 i1 it (.ref D) (compEnvC scope cl C X.env)) (tB X.K ρ (bFor w1 g1 tt1 (bElt e') is1) (own.map (·.2))) (own.map (·.2)) := fun s H C cl fp D => by
          obtain ⟨a1, a2, a3⟩ := k1 s H C cl fp
          have l := PBi (tb' := tB X.K ρ (bElt e') is1) (pb_last (X := X.blk s H scope (compEnvC scope cl C X.env) fp) (gens := [⟨t0, i0, f0, 0⟩, ⟨t1, i1, f1, 0⟩]) (scope := scope) (pos := pos) (k := 1) (D := D) (vs := is1) (pe s H C cl fp) fun _ _ z => z) fun σ H D Nx q => tb_elt q
          exact PBi (pb_next (X := X.blk s H scope (compEnvC scope cl C X.env) fp) (k := 0) (vs1 := is1) c.calm (fun _ _ z => z) rfl a1 a2 a3 (fold_ok (trF_set hF)) (turn_or fun it acc env => turn21 elt t0 i0 t1 i1 f0 f1 scope pos it acc env) l (sub_mem hs) fun _ z => z) fun σ H D Nx q => tb_for gk1 (gw1 is1 fun _ z => z) (sub_mem hs) q
        exact PEi (pe_lcB c.calm c.nd pi bk pg pt (fun D env it => turn20 elt t0 i0 t1 i1 f0 f1 scope pos it (.ref D) env) hb (fun _ z => z) (fold_ok (trC_set hC))) fun σ H Q q => compB_imp gk gw q
      · cases h
    · cases h
  · rename_i elt t0 i0 f0 t1 i1 f1 t2 i2 f2 scope pos
    split at h
    · rename_i w g t e' vs w1 g1 tt1 is1 w2 g2 tt2 is2 hC hF hF2
      split at h
      · rename_i hs
        cases h
        obtain ⟨own, gt, rfl, bk, pi, gk, gw, pg, pt, pe⟩ := trC_ok o c hC
        obtain ⟨gt1, gk1, gw1, k1⟩ := trF_ok o c bk.kind hF
        obtain ⟨gt2, gk2, gw2, k2⟩ := trF_ok o c bk.kind hF2
        have hb : ∀ (s : Shared) (H : Hp) (C : Addr) (cl : List (Str × Addr)) (fp : List Addr) (D : Addr), PB (X.blk s H scope (compEnvC scope cl C X.env) fp) (.ListComp elt [⟨t0, i0, f0, 0⟩, ⟨t1, i1, f1, 0⟩, ⟨t2, i2, f2, 0⟩] scope pos) 0 D (fun it => nextG (.ListComp elt [⟨t0, i0, f0, 0⟩, ⟨t1, i1, f1, 0⟩, ⟨t2, i2, f2, 0⟩] scope pos) 0 i1 it (.ref D) (compEnvC scope cl C X.env)) (tB X.K ρ (bFor w1 g1 tt1 (bFor w2 g2 tt2 (bElt e') is2) (is1 ++ is2)) (own.map (·.2))) (own.map (·.2)) := fun s H C cl fp D => by
          obtain ⟨a1, a2, a3⟩ := k1 s H C cl fp
          obtain ⟨b1, b2, b3⟩ := k2 s H C cl fp
          have l := PBi (tb' := tB X.K ρ (bElt e') is2) (pb_last (X := X.blk s H scope (compEnvC scope cl C X.env) fp) (gens := [⟨t0, i0, f0, 0⟩, ⟨t1, i1, f1, 0⟩, ⟨t2, i2, f2, 0⟩]) (scope := scope) (pos := pos) (k := 2) (D := D) (vs := is2) (pe s H C cl fp) fun _ _ z => z) fun σ H D Nx q => tb_elt q
          have l2 := PBi (tb' := tB X.K ρ (bFor w2 g2 tt2 (bElt e') is2) (is1 ++ is2)) (pb_next (X := X.blk s H scope (compEnvC scope cl C X.env) fp) (k := 1) (vs1 := is2) (vs := is1 ++ is2) c.calm (fun _ _ z => z) rfl b1 b2 b3 (fold_ok (trF_set hF2)) (turn_or fun it acc env => turn32 elt t0 i0 t1 i1 t2 i2 f0 f1 f2 scope pos it acc env) l (fun _ z => List.mem_append_right _ z) fun _ z => z) fun σ H D Nx q => tb_for gk2 (gw2 is2 fun _ z => z) (fun _ z => List.mem_append_right _ z) q
          exact PBi (pb_next (X := X.blk s H scope (compEnvC scope cl C X.env) fp) (k := 0) (vs1 := is1 ++ is2) c.calm (fun _ _ z => z) rfl a1 a2 a3 (fold_ok (trF_set hF)) (turn_or fun it acc env => turn31 elt t0 i0 t1 i1 t2 i2 f0 f1 f2 scope pos it acc env) l2 (sub_mem hs) fun _ z => z) fun σ H D Nx q => tb_for gk1 (gw1 (is1 ++ is2) fun _ z => List.mem_append_left _ z) (sub_mem hs) q
        exact PEi (pe_lcB c.calm c.nd pi bk pg pt (fun D env it => turn30 elt t0 i0 t1 i1 t2 i2 f0 f1 f2 scope pos it (.ref D) env) hb (fun _ z => z) (fold_ok (trC_set hC))) fun σ H Q q => compB_imp gk gw q
      · cases h
    · cases h
  · cases h
theorem trN_ok : ∀ n, TrOk M N ρ k (trN M N n) := fun n => by
  induction n with
  | zero => exact ⟨fun _ _ _ h => (by cases h), fun _ _ _ h => (by cases h)⟩
  | succ n ih => exact ⟨fun sc e f h X Wx c => stepE_ok ih c h, fun sc e f h X Wx c => stepT_ok ih c h⟩
/-! ### statements -/
/-- a def's own context -/
structure CokS (X : Cx) (Wx : WX) (M : Gm) (N : List Str) (ρ : Fns) (k : Nat) (sc : Scope) : Prop extends Cok X Wx M N ρ k sc where
  po : PassesOwn (model X.prog X.w) X.A X.env X.xe
  fnT : ∀ x, X.fn x = true
theorem CokS.tgc (c : CokS X Wx M N ρ k sc) : TgC X sc := fun x kk h hk => by
  rw [← c.es] at h
  refine ⟨?_, .inl (c.fnT x)⟩
  rcases hk with rfl | rfl
  · exact .inl h
  · exact .inr h
theorem trLh_ok (o : TrOk M N ρ k r) (c : Cok X Wx M N ρ k sc) (hg : glB sc "list" = true) (hb : ("list" : Str) ∈ M.bf) : ∀ {es : List Expr} {f : IL}, trLh r sc es = some f → PA X es (tA X.K Wx ρ f)
  | [], f, h => by cases h; exact p_nil
  | e :: es, f, h => by
    unfold trLh at h
    split at h
    · rename_i z; cases z
    · rename_i x p e' pos es' z
      cases z
      split at h
      · rename_i hs
        simp only [Bool.and_eq_true, decide_eq_true_eq] at hs
        obtain ⟨rfl, hs⟩ := hs
        split at h
        · rename_i f1 g1 e1 e2
          cases h
          exact p_cons (p_listH (c.gl hg) (c.g.bf _ hb) (by decide +kernel) (p_cons (o.E sc _ f1 e1 X Wx c) p_nil (star_ok hs)) (star_ok hs) rfl) (trLh_ok o c hg hb e2) rfl
        · cases h
      · cases h
    · cases h
theorem trEh_ok (o : TrOk M N ρ k r) (c : Cok X Wx M N ρ k sc) {hv : List Str} {x : Str} {e : Expr} {f : I} (h : trEh M.bf r sc hv x e = some f) : PE X e (tE X.K Wx ρ f) := by
  unfold trEh at h
  split at h
  · split at h
    · obtain ⟨g, h1, rfl⟩ := Option.map_eq_some_iff.mp h
      exact p_lstH (trL_ok o c h1).1
    · split at h
      · rename_i hb
        simp only [Bool.and_eq_true, decide_eq_true_eq] at hb
        obtain ⟨g, h1, rfl⟩ := Option.map_eq_some_iff.mp h
        exact p_lst (trLh_ok o c hb.2.1 hb.2.2 h1)
      · exact o.E sc _ f h X Wx c
  · split at h
    · rename_i hb
      simp only [Bool.and_eq_true, decide_eq_true_eq] at hb
      obtain ⟨_, rfl, hs, hg, hb⟩ := hb
      obtain ⟨g, h1, rfl⟩ := Option.map_eq_some_iff.mp h
      exact p_sortH c.hu (c.gl hg) (c.g.bf _ hb) (by decide +kernel) (p_cons (o.E sc _ g h1 X Wx c) p_nil (star_ok hs)) (star_ok hs) rfl
    · exact o.E sc _ f h X Wx c
  · exact o.E sc _ f h X Wx c
theorem trSs_ok {rs : Stmt → Option IS} (hrs : ∀ st f, rs st = some f → PS X st (tS X.K Wx ρ f)) : ∀ {ss : List Stmt} {f : IS}, trSs rs ss = some f → PSs X ss (tS X.K Wx ρ f)
  | [], f, h => by cases h; exact s_nil
  | s :: ss, f, h => by
    unfold trSs at h
    split at h
    · rename_i f1 g1 e1 e2
      cases h
      exact s_cons (hrs s f1 e1) (trSs_ok hrs e2)
    · cases h
theorem locB_ok {sc : Scope} {x : Str} (h : locB sc x = true) : sc.names.lookup x = some .local := by
  unfold locB at h
  split at h
  · rename_i e; exact e
  · cases h
theorem notTup {e o i : Expr} {p : Pos} {env : Env} : swappedStores [.Subscript o i p] e env = pure none := by
  unfold swappedStores; cases e <;> rfl
theorem gokV {K : PySem.W.Frag} {i : Nat} : GOk K (gV i) (gName i) := fun W s σ H v d s' Q A r e q => by
  cases e
  exact q _ (A.set r).1 (A.set r).2
theorem sw_cell {elt : Expr} {gs : List Comprehension} {scope : Scope} {pos py : Pos} {y : Str} {l : Nat} {env : Env} (hy : env.kindOf y = some .cell) : swapsWith (.ListComp elt gs scope pos) (some (.Name y py)) l env = pure false := by
  unfold swapsWith
  simp only [hy]
  have e : ((some NameKind.cell : Option NameKind) == some .local) = false := rfl
  rw [e, Bool.and_false]
  rfl
theorem stores_loc {x y : Str} {px py pt : Pos} {kt k2 : Nat} {a b : Expr} {pt2 : Pos} {env : Env} (hk : env.blockKind = .function) (hx : env.kindOf x = some .local) (hy : env.kindOf y = some .local) (h : swB x px y py a b = true) :
    swappedStores [.Tuple [.Name x px, .Name y py] kt pt] (.Tuple [a, b] k2 pt2) env = pure (some [x, y]) := by
  unfold swB at h
  simp only [Bool.and_eq_true, Bool.not_eq_true', beq_iff_eq] at h
  obtain ⟨h1, h2, h3, h4, h5, h6⟩ := h
  have na : (match (generalizing := false) a with | .Starred .. => true | _ => false) = false := by cases a <;> first | rfl | cases h3
  have nb : (match (generalizing := false) b with | .Starred .. => true | _ => false) = false := by cases b <;> first | rfl | cases h4
  have h2' : (y == x) = false := by simpa using fun z : y = x => (by simpa using h2 : ¬ x = y) z.symm
  unfold swappedStores
  simp [hx, hy, hk, h1, h2, h2', h5, h6, na, nb, Expr.pos, List.eraseDups_cons, List.filter_cons]
  intro z
  exfalso
  rcases z with z | z
  · cases a <;> first | (cases h3; done) | (cases z; done)
  · cases b <;> first | (cases h4; done) | (cases z; done)
theorem stores_cell {x y : Str} {px py pt : Pos} {kt k2 : Nat} {a b : Expr} {pt2 : Pos} {env : Env} (hx : env.kindOf x = some .cell) : swappedStores [.Tuple [.Name x px, .Name y py] kt pt] (.Tuple [a, b] k2 pt2) env = pure none := by
  unfold swappedStores
  simp only [hx, List.filterMap_cons, List.filterMap_nil]
  have e : ((some NameKind.cell : Option NameKind) == some .local) = false := rfl
  rw [e]
  repeat' split
  all_goals first | rfl | simp_all
theorem sub_ok {o i : Expr} {pos : Pos} {env : Env} (h : notSlice i = true) : ∀ v, assign (.Subscript o i pos) env v = (do
      let ov ← holding [v] (eval o env)
      let iv ← holding [v, ov] (eval i env)
      standAt pos
      holding [v, ov, iv] (setItem ov iv v)
      release [v, ov, iv] []) := by
  intro v
  cases i <;> first | rfl | cases h
theorem stepS_ok (o : TrOk M N ρ k r) (c : CokS X Wx M N ρ k sc) {hv : List Str} {rs : Stmt → Option IS} (hrs : ∀ st f, rs st = some f → PS X st (tS X.K Wx ρ f)) {st : Stmt} {f : IS} (h : stepS M N hv r sc rs st = some f) : PS X st (tS X.K Wx ρ f) := by
  have c0 : Cok X Wx M N ρ k sc := c.toCok
  unfold stepS at h
  split at h
  · cases h; exact s_retN
  · obtain ⟨g, h1, rfl⟩ := Option.map_eq_some_iff.mp h
    exact s_ret (trEh_ok o c0 h1)
  · cases h; exact s_pass
  · split at h
    · cases h
    · rename_i hs
      obtain ⟨g, h1, rfl⟩ := Option.map_eq_some_iff.mp h
      exact s_drop (o.E sc _ g h1 X Wx c0) (swaps_ok (by simpa using hs))
  · split at h
    · rename_i t f1 g1 e1 e2 e3
      cases h
      exact s_if (o.T sc _ t e1 X Wx c0) (trSs_ok hrs e2) (trSs_ok hrs e3)
    · cases h
  · rename_i x p elt tg iter ifs scope pos sp
    split at h
    · rename_i w g t e' vs i hC hi
      obtain ⟨own, gt, rfl, bk, pi, gk, gw, pg, pt, pe⟩ := trC_ok o c0 hC
      have hN : X.N[i]? = some x := by rw [c.en]; exact slot_get hi
      split at h
      · rename_i hloc
        split at h
        · rename_i hb
          cases h
          simp only [Bool.and_eq_true, Bool.not_eq_true'] at hb
          have hl : X.env.scope.names.lookup x = some .local := by rw [c.es]; exact locB_ok hloc
          refine PSi (ps_setLc c.calm c.nd hN hl (sw_true (by rw [c.es]; exact c.kd) hl hb.1 hb.2) pi bk pg pt pe (fold_ok (trC_set hC))) fun D σ H q => comp_imp gk gw (asg_imp gokV q)
        · cases h
      · split at h
        · rename_i hcell
          cases h
          have hl : X.env.scope.names.lookup x = some .cell := by rw [c.es]; exact hcell
          refine PSi (ps_set c.nd hN (.inr hl) (PEi (pe_lc c.calm c.nd pi bk pg pt pe (fold_ok (trC_set hC))) fun σ H Q q => comp_imp gk gw q) ?_ (.inl (c.fnT x))) fun D σ H q => asg_imp gokV q
          exact sw_cell hl
        · cases h
    · cases h
  · rename_i x p e sp _
    split at h
    · cases h
    · rename_i hs
      split at h
      · rename_i i f1 e1 e2
        cases h
        obtain ⟨y, py, kk, z, h1, h2, h3⟩ := tgN_ok e1
        cases z
        obtain ⟨l1, l2⟩ := c.tgc x kk h2 h3
        exact PSi (ps_set c.nd (by rw [c.en]; exact h1) l1 (trEh_ok o c0 e2) (swaps_ok (by simpa using hs)) l2) fun D σ H q => asg_imp gokV q
      · cases h
  · rename_i x px y py kt pt a b k2 p2 sp
    split at h
    · rename_i hx hy
      split at h
      · rename_i hsw
        split at h
        · rename_i i j f1 g1 e1 e2 e3 e4
          split at h
          · cases h
          · rename_i hij
            cases h
            have hsw' := hsw
            unfold swB at hsw'
            simp only [Bool.and_eq_true] at hsw'
            have lx : X.env.scope.names.lookup x = some .local := by rw [c.es]; exact hx
            have ly : X.env.scope.names.lookup y = some .local := by rw [c.es]; exact hy
            have bk : X.env.blockKind = .function := by unfold Env.blockKind; rw [c.es, c.kd]; rfl
            exact s_par c.calm c.nd (by rw [c.en]; exact slot_get e1) (by rw [c.en]; exact slot_get e2) hij lx ly (p_cons (o.E sc _ f1 e3 X Wx c0) (p_cons (o.E sc _ g1 e4 X Wx c0) p_nil (star_ok hsw'.2.2.2.1)) (star_ok hsw'.2.2.1)) (stores_loc bk lx ly hsw) rfl
        · cases h
      · cases h
    · rename_i hx hy
      split at h
      · rename_i i j f1 e1 e2 e3
        cases h
        have gx : PG X (.Name x px) (gName i) := pg_of c.en c.nd c.tgc (by show (match sc.names.lookup x with | some .local => slot N x | some .cell => slot N x | _ => none) = some i; rw [hx]; exact e1)
        have gy : PG X (.Name y py) (gName j) := pg_of c.en c.nd c.tgc (by show (match sc.names.lookup y with | some .local => slot N y | some .cell => slot N y | _ => none) = some j; rw [hy]; exact e2)
        have kx : X.env.kindOf x = some .cell := by show X.env.scope.names.lookup x = _; rw [c.es]; exact hx
        refine PSi (ps_asg (o.E sc _ f1 e3 X Wx c0) (pg_tup (n := 2) c.calm (pgs_cons gx (pgs_cons gy pgs_nil))) rfl (stores_cell kx) rfl) fun D σ H q => asg_imp (gok_t (is := [i, j])) q
      · cases h
    · cases h
  · split at h
    · rename_i hb
      simp only [Bool.and_eq_true, Bool.not_eq_true'] at hb
      split at h
      · rename_i f1 g1 h1 e1 e2 e3
        cases h
        exact s_set (ps_asg (o.E sc _ h1 e3 X Wx c0) (pg_sub (o.E sc _ f1 e1 X Wx c0) (o.E sc _ g1 e2 X Wx c0) set_list (sub_ok hb.1.1)) (by unfold swapsWithSole; exact swaps_ok hb.1.2) notTup rfl)
      · cases h
    · cases h
  · split at h
    · cases h
    · rename_i hs
      split at h
      · rename_i f1 g1 e1 e2
        cases h
        exact s_att (o.E sc _ f1 e1 X Wx c0) (o.E sc _ g1 e2 X Wx c0) (fun cl hc => c.g.st _ cl hc) (swaps_ok (by simpa using hs))
      · cases h
  · split at h
    · rename_i hs
      split at h
      · rename_i w g is b e1 e2 e3
        cases h
        obtain ⟨gt, gk, gw, pg⟩ := trG_ok e2 X.K
        exact s_for c.po c.calm (trW_ok o c0 e1) (pg X rfl c.en c.nd c.calm c.tgc) gk (trSs_ok hrs e3) (fold_ok hs)
      · cases h
    · cases h
  · cases h
theorem trS_ok (o : TrOk M N ρ k r) (c : CokS X Wx M N ρ k sc) {hv : List Str} : ∀ n st f, trS M N hv r sc n st = some f → PS X st (tS X.K Wx ρ f) := fun n => by
  induction n with
  | zero => intro st f h; cases h
  | succ n ih =>
    intro st f h
    have h : (match stepS M N hv r sc (trS M N hv r sc n) st with
      | some f => some f
      | none => some sBad) = some f := h
    cases e : stepS M N hv r sc (trS M N hv r sc n) st with
    | some g => rw [e] at h; cases h; exact stepS_ok o c ih e
    | none =>
      rw [e] at h
      cases h
      exact ⟨fun pins s σ H D I ⟨W, s1, A, p⟩ => p.elim⟩
theorem CokS.marks (c : CokS X Wx M N ρ k sc) {hv : List Str} : CokS X Wx { M with cf := hv } N ρ k sc :=
  ⟨⟨c.en, c.es, c.calm, c.nd, c.hr, c.tk, ⟨c.g.fn, c.g.cst, c.g.bf, c.g.make, c.g.at_, c.g.mt, c.g.st, c.g.eq, c.g.rp, c.g.is_⟩, c.kd⟩, c.po, c.fnT⟩
theorem trB_ok (c : CokS X Wx M N ρ k sc) {hv : List Str} {body : List Stmt} {f : IS} (h : trB M N hv sc body = some f) : PSs X body (tS X.K Wx ρ f) :=
  trSs_ok (trS_ok (trN_ok 24) c.marks 12) h
end
end B
end
section
set_option Elab.async false
set_option linter.all false
set_option maxRecDepth 100000
set_option maxHeartbeats 1000000
namespace B
open PySem PySem.Spec PyProof.Rows L2
/-- where a def stands: a global, a class's method, a property's getter -/
inductive Loc where
  | glo (x : Str) | met (c m : Str) | prp (c f : Str)
def Loc.ad (K : PySem.W.Frag) : Loc → Addr
  | .glo x => He.ga K x
  | .met c m => He.ma K (He.ga K c) m
  | .prp c f => (match PySem.W.recIn K (He.ma K (He.ga K c) f) "property" with
    | some (.ref g :: _) => g
    | _ => 0)
/-- a def of the text: its key (a global's is its name) -/
structure Ent where
  x : Str
  loc : Loc
  name : Str
  qual : Str
  ps : List Str
  N : List Str
  hv : List Str
  params : Arguments
  body : List Stmt
  sc : Scope
  fb : IS
  sh : List (Nat × List Str × List Ai)
/-- an own class -/
structure ClsI where
  c : Str
  /-- its __init__'s key, whether its instances stand still, how it may be called -/
  key : Str
  fz : Bool
  /-- attributes of the instances; properties and methods with their keys -/
  flds : List Str
  props : List (Str × Str)
  mths : List (Str × Str × List (Nat × List Str × List Ai))
  eq : Option Str
  rp : Option Str
/-- the text: its defs, its constants, the built-ins that it leaves alone, its classes -/
structure Txt where
  tab : List Ent
  cs : List (Str × D)
  bf : List Str
  cl : List ClsI := []
  isT : List ((Str × Str) × Bool) := []
  isL : List Str := []
  sn : List Str := []
def Txt.ent (T : Txt) (x : Str) : Option Ent := T.tab.find? fun e => decide (e.x = x)
def Txt.clsOf (T : Txt) (x : Str) : Option ClsI := T.cl.find? fun e => decide (e.c = x)
def isGlo : Loc → Bool
  | .glo _ => true
  | _ => false
/-- the shapes of a class's calls, by those of its __init__ -/
def shN (l : List (Nat × List Str × List Ai)) : List (Nat × List Str × List Ai) := l.filterMap fun q => match q.1 with
  | 0 => none
  | n + 1 => some (n, q.2.1, q.2.2)
theorem shN_ok {l : List (Nat × List Str × List Ai)} {q : Nat × List Str × List Ai} (h : q ∈ shN l) : (q.1 + 1, q.2.1, q.2.2) ∈ l := by
  obtain ⟨p, hp, e⟩ := List.mem_filterMap.mp h
  obtain ⟨p1, p2, p3⟩ := p
  cases p1 with
  | zero => cases e
  | succ n => cases e; exact hp
def Txt.G (T : Txt) (x : Str) : Option GE := match T.ent x with
  | some e => if isGlo e.loc then some (.fn e.sh) else none
  | none => (match T.cs.lookup x with
    | some d => some (.cst d)
    | none => (T.clsOf x).map fun c => .cls c.key c.fz (match T.ent c.key with
      | some e => shN e.sh
      | none => []))
def ClsI.ah (f : Str) (c : ClsI) : Option (Str × Ah) := if f ∈ c.flds then some (c.c, .fld) else (c.props.lookup f).map fun key => (c.c, .prop key)
def ClsI.mt (m : Str) (n : Nat) (ks : List Str) (c : ClsI) : Option (Str × Str × List Ai) := match c.mths.lookup m with
  | some (key, sh) => (find? sh (n + 1) ks).map fun pm => (c.c, key, pm)
  | none => none
/-- the methods' shapes are those of their defs -/
def ClsI.sh (T : Txt) (c : ClsI) : Prop := ∀ m key sh, c.mths.lookup m = some (key, sh) → ∀ e, T.ent key = some e → sh = e.sh
def Txt.gm (T : Txt) : Gm where
  G := T.G
  bf := T.bf
  ats := fun f => T.cl.filterMap (ClsI.ah f)
  mts := fun m n ks => T.cl.filterMap (ClsI.mt m n ks)
  sts := fun f => T.cl.filterMap fun c => if f ∈ c.flds then some c.c else none
  eqs := T.cl.filterMap fun c => c.eq.map fun k => (c.c, k)
  rps := T.cl.filterMap fun c => c.rp.map fun k => (c.c, k)
  isT := T.isT
  isL := T.isL
  sn := T.sn
/-- what the defs do, calls at most n deep -/
def Txt.rho (T : Txt) : Nat → Fns
  | 0 => fun _ _ _ => .bad
  | n + 1 => fun x => match T.ent x with
    | some e => runD e.N.length e.fb (T.rho n)
    | none => fun _ _ => .bad
theorem Txt.ent_ok {T : Txt} {x : Str} {e : Ent} (h : T.ent x = some e) : e ∈ T.tab ∧ e.x = x := by
  unfold Txt.ent at h
  exact ⟨List.mem_of_find?_eq_some h, by have := List.find?_some h; exact of_decide_eq_true this⟩
/-- a def as the top has left it -/
def EntOk (K : PySem.W.Frag) (T : Txt) (e : Ent) : Prop :=
  ∃ fd, FunD K e.name e.qual e.params e.body e.sc [] [] (e.loc.ad K) fd ∧ FnScope e.N e.ps e.sc ∧ trB T.gm e.N e.hv e.sc e.body = some e.fb ∧ (∀ q ∈ e.sh, CB K fd e.ps q.1 q.2.1 q.2.2) ∧ Binds K fd e.ps []
/-- a class as the top has left it -/
structure ClsOk (K : PySem.W.Frag) (mg : Str → Option Value) (T : Txt) (c : ClsI) : Prop where
  gl : mg c.c = some (.ref (He.ga K c.c))
  make : ∃ e, T.ent c.key = some e ∧ Mk K (He.ga K c.c) (e.loc.ad K)
  cl : Cls K (He.ga K c.c)
  fld : ∀ f ∈ c.flds, NoAttr K (He.ga K c.c) f
  prop : ∀ f key, c.props.lookup f = some key → ∃ e p, T.ent key = some e ∧ PropOf K (He.ga K c.c) f p (e.loc.ad K) ∧ e.ps.length = 1
  mth : ∀ m key sh, c.mths.lookup m = some (key, sh) → ∃ e, T.ent key = some e ∧ Meth K (He.ga K c.c) m (e.loc.ad K) ∧ sh = e.sh
  eq : ∀ key, c.eq = some key → ∃ e, T.ent key = some e ∧ PySem.W.findIn K (.ref (He.ga K c.c)) "__eq__" = some (some (.ref (e.loc.ad K))) ∧ PySem.W.isFn K (.ref (e.loc.ad K)) = true ∧ e.ps.length = 2 ∧
    (∀ t ∈ ["NoneType", "bool", "int", "str", "tuple", "list"], PySem.W.subIn K (.type t) (.ref (He.ga K c.c)) = some false) ∧ PySem.W.findIn K (.ref (He.ga K c.c)) "__ne__" = some (some (.builtin "object.__ne__")) ∧ PySem.W.mroIn K (He.ga K c.c) (.type "object") = some true
  rp : ∀ key, c.rp = some key → ∃ e, T.ent key = some e ∧ PySem.W.findIn K (.ref (He.ga K c.c)) "__repr__" = some (some (.ref (e.loc.ad K))) ∧ PySem.W.isFn K (.ref (e.loc.ad K)) = true ∧ e.ps.length = 1
structure TxtOk (K : PySem.W.Frag) (mg : Str → Option Value) (T : Txt) : Prop where
  tab : ∀ e ∈ T.tab, EntOk K T e
  glo : ∀ e ∈ T.tab, isGlo e.loc = true → mg e.x = some (.ref (e.loc.ad K))
  cs : ∀ x d, T.cs.lookup x = some d → ∃ v u, mg x = some u ∧ RelV v u ∧ ∀ ia n Ms H, Rel K ia n Ms H v d
  bf : ∀ x ∈ T.bf, mg x = none
  cl : ∀ c ∈ T.cl, ClsOk K mg T c
  is_ : IsOk K T.isT T.isL
/-- a call with positional arguments alone *-/
theorem cb_all {K : PySem.W.Frag} {fd : FuncData} {ps : List Str} (h : Binds K fd ps []) : CB K fd ps ps.length [] ((List.range ps.length).map Ai.ix) := by
  intro s us ws vs zs X hn hm r rz
  have hw : ws = [] := List.length_eq_zero_iff.mp hm
  subst hw
  cases rz
  refine ⟨us, vs, ?_, r, by rw [r.length]; exact hn, fun ia m M H ds es rd hp => ?_⟩
  · have := h s us X (by rw [List.append_nil]; exact hn)
    rw [List.append_nil] at this
    exact this
  · rw [List.append_nil] at rd
    have hl := rd.length
    have hv := r.length
    have key : ∀ (k : Nat) (ds : List D), k ≤ ds.length → permD ((List.range k).map Ai.ix) ds = some (ds.take k) := fun k ds => by
      have gen : ∀ (j k : Nat), j + k ≤ ds.length → permD ((List.range' j k).map Ai.ix) ds = some ((ds.drop j).take k) := fun j k => by
        induction k generalizing j with
        | zero => intro _; simp [permD]
        | succ k ih =>
          intro hj
          rw [List.range'_succ, List.map_cons, permD, ih (j + 1) (by omega)]
          have hj' : j < ds.length := by omega
          rw [List.getElem?_eq_getElem hj', List.drop_eq_getElem_cons hj', List.take_succ_cons]
      intro hk
      have := gen 0 k (by omega)
      rw [List.range_eq_range', this]
      simp
    rw [key ps.length ds (by omega)] at hp
    cases hp
    rw [List.take_of_length_le (by omega)]
    exact rd
theorem lookup_fm {α β : Type} {g : α → Option (Str × β)} {c : Str} {h : β} : ∀ (l : List α), (l.filterMap g).lookup c = some h → ∃ a ∈ l, g a = some (c, h)
  | [], e => by simp at e
  | a :: l, e => by
    rw [List.filterMap_cons] at e
    split at e
    · obtain ⟨b, hb, q⟩ := lookup_fm l e
      exact ⟨b, List.mem_cons_of_mem _ hb, q⟩
    · rename_i y hy
      obtain ⟨y1, y2⟩ := y
      rw [List.lookup_cons] at e
      cases hb : c == y1 with
      | true =>
        rw [hb] at e
        cases e
        exact ⟨a, List.mem_cons_self, by rw [hy, eq_of_beq hb]⟩
      | false =>
        rw [hb] at e
        obtain ⟨b, hb, q⟩ := lookup_fm l e
        exact ⟨b, List.mem_cons_of_mem _ hb, q⟩
section
variable {P : Program} {w : World} {K : PySem.W.Frag} {mg : Str → Option Value} {base : Heap} {T : Txt}
theorem fn_zero {f : Addr} {fd : FuncData} {ps : List Str} {fm : Fm} (h : ∀ ds h, fm ds h = .bad) : FnOk P w K mg base (L2.CX P w) 0 f fd ps (spI K ps.length fm) := by
  refine ⟨fun vs H Q E ⟨_, _, _, _, _, h, _⟩ => h, fun A outer s H args us vs Q E _ _ _ _ ⟨W, hh, ds, _, _, _, p⟩ => ?_⟩
  rw [h] at p
  exact p.elim
theorem Txt.cls_ok {x : Str} {c : ClsI} (h : T.clsOf x = some c) : c ∈ T.cl ∧ c.c = x := by
  unfold Txt.clsOf at h
  exact ⟨List.mem_of_find?_eq_some h, by have := List.find?_some h; exact of_decide_eq_true this⟩
/-- what is known of the defs at a level -/
def At (P : Program) (w : World) (K : PySem.W.Frag) (mg : Str → Option Value) (base : Heap) (T : Txt) (n : Nat) : Prop :=
  ∀ x e, T.ent x = some e → ∃ fd, FnOk P w K mg base (L2.CX P w) (2 * n) (e.loc.ad K) fd e.ps (spI K e.ps.length (T.rho n x)) ∧ FunD K e.name e.qual e.params e.body e.sc [] [] (e.loc.ad K) fd ∧ (∀ q ∈ e.sh, CB K fd e.ps q.1 q.2.1 q.2.2) ∧ Binds K fd e.ps []
theorem gm_ok {X : Cx} {n : Nat} (O : TxtOk X.K X.mg T) (ih : At X.prog X.w X.K X.mg X.base T n) : GmOk X T.gm (T.rho n) (2 * n) where
  fn := fun x sh hx => by
    have hx : T.G x = some (.fn sh) := hx
    unfold Txt.G at hx
    cases he : T.ent x with
    | none =>
      rw [he] at hx
      simp only at hx
      split at hx
      · cases hx
      · obtain ⟨c, _, z⟩ := Option.map_eq_some_iff.mp hx
        cases z
    | some e =>
      rw [he] at hx
      simp only at hx
      split at hx
      · rename_i hg
        cases hx
        obtain ⟨hm, rfl⟩ := Txt.ent_ok he
        obtain ⟨fd, q1, q2, q3, _⟩ := ih e.x e he
        exact ⟨_, fd, e.ps, O.glo e hm hg, q2.kp, q1, q3⟩
      · cases hx
  cst := fun x d hx => by
    have hx : T.G x = some (.cst d) := hx
    unfold Txt.G at hx
    cases he : T.ent x with
    | none =>
      rw [he] at hx
      simp only at hx
      split at hx
      · rename_i d' hd
        cases hx
        exact O.cs x d hd
      · obtain ⟨c, _, z⟩ := Option.map_eq_some_iff.mp hx
        cases z
    | some e =>
      rw [he] at hx
      simp only at hx
      split at hx <;> cases hx
  bf := fun x hx => O.bf x hx
  make := fun x key fz sh hx => by
    have hx : T.G x = some (.cls key fz sh) := hx
    unfold Txt.G at hx
    cases he : T.ent x with
    | none =>
      rw [he] at hx
      simp only at hx
      split at hx
      · cases hx
      · obtain ⟨c, h1, z⟩ := Option.map_eq_some_iff.mp hx
        cases z
        obtain ⟨hm, rfl⟩ := Txt.cls_ok h1
        have C := O.cl c hm
        obtain ⟨e, k1, k2⟩ := C.make
        obtain ⟨fd, q1, q2, q3, _⟩ := ih c.key e k1
        rw [k1]
        exact ⟨C.gl, k2.kp, _, fd, e.ps, k2, q1, fun q hq => q3 _ (shN_ok hq)⟩
    | some e =>
      rw [he] at hx
      simp only at hx
      split at hx <;> cases hx
  at_ := fun f c h e => by
    obtain ⟨ci, hm, q⟩ := lookup_fm T.cl e
    have C := O.cl ci hm
    unfold ClsI.ah at q
    split at q
    · rename_i hf
      cases q
      exact ⟨C.cl, C.fld f hf⟩
    · obtain ⟨key, h1, z⟩ := Option.map_eq_some_iff.mp q
      cases z
      obtain ⟨e, p, k1, k2, k3⟩ := C.prop f key h1
      obtain ⟨fd, q1, q2, _, q4⟩ := ih key e k1
      exact ⟨C.cl, p, _, fd, e.ps, k2, q1, q4, k3⟩
  mt := fun m nn ks c q e => by
    obtain ⟨ci, hm, z⟩ := lookup_fm T.cl e
    have C := O.cl ci hm
    unfold ClsI.mt at z
    split at z
    · rename_i key sh h1
      obtain ⟨pm, h3, z⟩ := Option.map_eq_some_iff.mp z
      cases z
      obtain ⟨e', k1, k2, k3⟩ := C.mth m key sh h1
      obtain ⟨fd, q1, q2, q3, _⟩ := ih key e' k1
      rw [k3] at h3
      exact ⟨C.cl, _, fd, e'.ps, k2, q1, q3 _ (find_ok h3)⟩
    · cases z
  st := fun f c hc => by
    obtain ⟨ci, hm, z⟩ := List.mem_filterMap.mp hc
    have C := O.cl ci hm
    split at z
    · rename_i hf
      cases z
      exact ⟨C.cl, C.fld f hf⟩
    · cases z
  eq := fun c key e => by
    obtain ⟨ci, hm, z⟩ := lookup_fm T.cl e
    have C := O.cl ci hm
    obtain ⟨k, h1, z⟩ := Option.map_eq_some_iff.mp z
    cases z
    obtain ⟨e, k1, k2, k3, k4, k5, k6, k7⟩ := C.eq key h1
    obtain ⟨fd, q1, q2, _, q3⟩ := ih key e k1
    have cb := cb_all q3
    rw [k4] at cb
    exact ⟨⟨_, fd, e.ps, k2, k3, q1, cb⟩, k5, k6, k7⟩
  rp := fun c key e => by
    obtain ⟨ci, hm, z⟩ := lookup_fm T.cl e
    have C := O.cl ci hm
    obtain ⟨k, h1, z⟩ := Option.map_eq_some_iff.mp z
    cases z
    obtain ⟨e, k1, k2, k3, k4⟩ := C.rp key h1
    obtain ⟨fd, q1, q2, _, q3⟩ := ih key e k1
    have cb := cb_all q3
    rw [k4] at cb
    exact ⟨_, fd, e.ps, k2, k3, q1, cb⟩
  is_ := O.is_
/-- every def keeps what the interpreter says of it -/
theorem all_ok (O : TxtOk K mg T) : ∀ n, At P w K mg base T n := fun n => by
  induction n with
  | zero =>
    intro x e h
    obtain ⟨hm, rfl⟩ := Txt.ent_ok h
    obtain ⟨fd, F, h3, h4, h5⟩ := O.tab e hm
    exact ⟨fd, fn_zero fun _ _ => rfl, F, h5⟩
  | succ n ih =>
    intro x e h
    obtain ⟨hm, rfl⟩ := Txt.ent_ok h
    obtain ⟨fd, F, Sc, h4, h5⟩ := O.tab e hm
    refine ⟨fd, ?_, F, h5⟩
    have e2 : T.rho (n + 1) e.x = runD e.N.length e.fb (T.rho n) := by
      show (match T.ent e.x with
        | some e => runD e.N.length e.fb (T.rho n)
        | none => fun _ _ => .bad) = _
      rw [h]
    rw [e2]
    show FnOk P w K mg base (L2.CX P w) (2 * n + 1 + 1) _ fd e.ps _
    refine fn_ok F Sc fun cdv A outer s H E hr => ?_
    exact trB_ok (M := T.gm) (N := e.N) (k := 2 * n) (sc := e.sc) ⟨⟨rfl, rfl, rfl, Sc.nd, hr, takes_of rfl rfl rfl rfl, gm_ok (X := cxOf (L2.CX P w) P w K mg base e.N e.qual e.sc (e.loc.ad K) cdv A outer s H E) O ih, Sc.kind⟩, passes_of rfl, fun _ => rfl⟩ h4
end
/-! ### constants -/
mutual
def kB (K : PySem.W.Frag) : D → Value → Bool
  | .non, .none => true
  | .bl b, .bool c => b == c
  | .int i, .int j _ => decide (i = j)
  | .str l, .str x _ => decide (x.cps.toList = l) && decide (l.length ≤ sizeLine)
  | .tup ds, .ref a => (match K.lookup a with
    | some ⟨.type c, _, .seq its _, _⟩ => decide (c = "tuple") && (decide (its.size ≤ sizeLine) && kBs K ds its.toList)
    | _ => false)
  | _, _ => false
def kBs (K : PySem.W.Frag) : List D → List Value → Bool
  | [], [] => true
  | d :: ds, u :: us => kB K d u && kBs K ds us
  | _, _ => false
end
mutual
theorem kB_ok {K : PySem.W.Frag} : ∀ {d : D} {u : Value}, kB K d u = true → ∃ v, RelV v u ∧ ∀ ia n Ms H, Rel K ia n Ms H v d
  | .non, u, h => by
    cases u <;> first | exact ⟨.non, rfl, fun _ _ _ _ => .non⟩ | cases h
  | .bl b, u, h => by
    cases u <;> first | (rename_i c; exact ⟨.bl c, rfl, fun _ _ _ _ => by rw [show b = c from eq_of_beq h]; exact .bl c⟩) | cases h
  | .int i, u, h => by
    cases u <;> first | (rename_i j t; exact ⟨.int i, ⟨t, by rw [show i = j from of_decide_eq_true h]⟩, fun _ _ _ _ => .int i⟩) | cases h
  | .str l, u, h => by
    cases u <;> first | cases h | skip
    rename_i x t
    simp only [kB, Bool.and_eq_true, decide_eq_true_eq] at h
    exact ⟨.str ⟨l.toArray⟩, ⟨t, by rw [← h.1]⟩, fun _ _ _ _ => .str l h.2⟩
  | .tup ds, u, h => by
    cases u <;> first | (cases h; done) | skip
    rename_i a
    simp only [kB] at h
    split at h
    · rename_i c dd its n sl hk
      simp only [Bool.and_eq_true, decide_eq_true_eq] at h
      obtain ⟨vs, r1, r2⟩ := kBs_ok h.2.2
      have hl : vs.length = its.size := by rw [r1.length]; simp
      exact ⟨.ref a, rfl, fun ia m Ms H => .tup (.inr ⟨_, its, n, hk, by rw [h.1], rfl, h.2.1, r1⟩) (by rw [hl]; exact h.2.1) (r2 ia m Ms H)⟩
    · cases h
  | .lst _, u, h => by cases u <;> cases h
  | .ref _, u, h => by cases u <;> cases h
  | .ty _, u, h => by cases u <;> cases h
  | .rdl _, u, h => by cases u <;> cases h
theorem kBs_ok {K : PySem.W.Frag} : ∀ {ds : List D} {us : List Value}, kBs K ds us = true → ∃ vs, Vals vs us ∧ ∀ ia n Ms H, Rels K ia n Ms H vs ds
  | [], [], _ => ⟨[], .nil, fun _ _ _ _ => .nil⟩
  | d :: ds, u :: us, h => by
    simp only [kBs, Bool.and_eq_true] at h
    obtain ⟨v, r1, r2⟩ := kB_ok h.1
    obtain ⟨vs, q1, q2⟩ := kBs_ok h.2
    exact ⟨v :: vs, .cons r1 q1, fun ia n Ms H => .cons (r2 ia n Ms H) (q2 ia n Ms H)⟩
  | [], _ :: _, h => by cases h
  | _ :: _, [], h => by cases h
end
/-! ### the head's look -/
def fnA (K : PySem.W.Frag) (a : Addr) : He.FnW := match K.lookup a with
  | some ⟨_, _, .func g, _⟩ => some (g.name, g.qualname, g.params, g.body, g.scope, g.globals, g.closure, g.builtins)
  | _ => none
def Ent.val (e : Ent) : He.FnW := some (e.name, e.qual, e.params, .stmts e.body, e.sc, mainGlobals, [], builtinsNs)
def Ent.okK (K : PySem.W.Frag) (e : Ent) : Bool := PySem.W.keepIn K (.ref (e.loc.ad K)) && (match K.lookup (e.loc.ad K) with
  | some ⟨_, _, .func g, _⟩ => PySem.W.codeIn K g.code e.qual && (He.dflB K g.defaults [] && He.kwdB K g.kwdefaults [])
  | _ => false)
theorem Ent.funD {K : PySem.W.Frag} {e : Ent} (h : fnA K (e.loc.ad K) = e.val) (c : e.okK K = true) : ∃ fd, FunD K e.name e.qual e.params e.body e.sc [] [] (e.loc.ad K) fd := by
  unfold Ent.okK at c
  rw [Bool.and_eq_true] at c
  obtain ⟨kp, c⟩ := c
  unfold fnA at h
  split at h
  · rename_i oc od g osl lk
    rw [lk] at c
    simp only [Bool.and_eq_true] at c
    obtain ⟨c1, c2, c3⟩ := c
    obtain ⟨n1, n2, n3, n4, n5, n6, n7, n8, n9, n10, n11, n12, n13, n14, n15⟩ := g
    simp only [Ent.val, Option.some.injEq, Prod.mk.injEq] at h
    obtain ⟨rfl, rfl, rfl, rfl, rfl, rfl, rfl, rfl⟩ := h
    exact ⟨_, ⟨oc, od, n8, n9, n10, n11, n12, n13, n14, osl, rfl, lk, c1, He.dflB_ok c2, He.kwdB_ok c3⟩, kp⟩
  · cases h
def csB (K : PySem.W.Frag) (q : Str × D) : Bool := match PySem.W.nsIn K mainGlobals q.1 with
  | some (some u) => kB K q.2 u
  | _ => false
def Txt.is (T : Txt) (key : Str) (f : Ent → Bool) : Bool := match T.ent key with
  | some e => f e
  | none => false
theorem Txt.is_ok {T : Txt} {key : Str} {f : Ent → Bool} (h : T.is key f = true) : ∃ e, T.ent key = some e ∧ f e = true := by
  unfold Txt.is at h
  split at h
  · rename_i e he; exact ⟨e, he, h⟩
  · cases h
def propB (K : PySem.W.Frag) (C : Addr) (f : Str) (g : Addr) : Bool := He.eqO (PySem.W.findIn K (.ref C) f) (some (some (.ref (He.ma K C f)))) && (He.eqO (PySem.W.specialIn K (.ref (He.ma K C f)) "__get__") (some (some (.builtin "property.__get__"))) && (decide (PySem.W.takesIn K (.ref (He.ma K C f)) = some true) && (match PySem.W.recIn K (He.ma K C f) "property" with
  | some (.ref g' :: _) => decide (g' = g)
  | _ => false)))
theorem propB_ok {K : PySem.W.Frag} {C : Addr} {f : Str} {g : Addr} (h : propB K C f g = true) : PropOf K C f (He.ma K C f) g := by
  unfold propB at h
  simp only [Bool.and_eq_true, decide_eq_true_eq] at h
  obtain ⟨h1, h2, h3, h4⟩ := h
  refine ⟨He.eqO_ok h1, He.eqO_ok h2, h3, ?_⟩
  split at h4
  · rename_i g' r e
    rw [← of_decide_eq_true h4]
    exact ⟨r, e⟩
  · cases h4
def baseT : List String := ["NoneType", "bool", "int", "str", "tuple", "list"]
def ClsI.okK (T : Txt) (K : PySem.W.Frag) (c : ClsI) : Bool :=
  ((He.Fa.glo c.c).ok K && ((He.Fa.cls c.c).ok K && ((He.Fa.mkr c.c).ok K && T.is c.key fun e => decide (e.loc.ad K = He.ma K (He.ga K c.c) "__init__")))) &&
  ((c.flds.all fun f => (He.Fa.noat c.c f).ok K) && ((c.props.all fun q => T.is q.2 fun e => propB K (He.ga K c.c) q.1 (e.loc.ad K) && decide (e.ps.length = 1)) && ((c.mths.all fun q => T.is q.2.1 fun e => (He.Fa.meth c.c q.1).ok K && decide (e.loc.ad K = He.ma K (He.ga K c.c) q.1)) &&
  ((match c.eq with
    | some key => T.is key fun e => He.eqO (PySem.W.findIn K (.ref (He.ga K c.c)) "__eq__") (some (some (.ref (e.loc.ad K)))) && (PySem.W.isFn K (.ref (e.loc.ad K)) && (decide (e.ps.length = 2) && ((baseT.all fun t => decide (PySem.W.subIn K (.type t) (.ref (He.ga K c.c)) = some false)) && (He.eqO (PySem.W.findIn K (.ref (He.ga K c.c)) "__ne__") (some (some (.builtin "object.__ne__"))) && decide (PySem.W.mroIn K (He.ga K c.c) (.type "object") = some true)))))
    | none => true) &&
  (match c.rp with
    | some key => T.is key fun e => He.eqO (PySem.W.findIn K (.ref (He.ga K c.c)) "__repr__") (some (some (.ref (e.loc.ad K)))) && (PySem.W.isFn K (.ref (e.loc.ad K)) && decide (e.ps.length = 1))
    | none => true)))))
theorem lookup_mem {β : Type} {x : Str} {d : β} : ∀ (l : List (Str × β)), l.lookup x = some d → (x, d) ∈ l
  | [], h => by cases h
  | (y, z) :: l, h => by
    rw [List.lookup_cons] at h
    cases hb : x == y with
    | true =>
      rw [hb] at h
      cases h
      rw [eq_of_beq hb]
      exact List.mem_cons_self
    | false =>
      rw [hb] at h
      exact List.mem_cons_of_mem _ (lookup_mem l h)
theorem ClsI.ok_of {T : Txt} {K : PySem.W.Frag} {h : Heap} {mg : Str → Option Value} {c : ClsI} (X : K.In h) (G : h.Ns mainGlobals mg) (e : c.okK T K = true) (hsh : c.sh T) : ClsOk K mg T c := by
  unfold ClsI.okK at e
  simp only [Bool.and_eq_true, List.all_eq_true] at e
  obtain ⟨⟨h1, h2, h3, h4⟩, h5, h6, h7, h8, h9⟩ := e
  refine ⟨He.glo_ok X G h1, ?_, He.cls_ok h2, fun f hf => He.noat_ok (h5 f hf), fun f key hk => ?_, fun m key sh hk => ?_, fun key hk => ?_, fun key hk => ?_⟩
  · obtain ⟨en, k1, k2⟩ := Txt.is_ok h4
    exact ⟨en, k1, by rw [of_decide_eq_true k2]; exact He.mkr_ok h3⟩
  · obtain ⟨en, k1, k2⟩ := Txt.is_ok (h6 _ (lookup_mem _ hk))
    rw [Bool.and_eq_true] at k2
    exact ⟨en, _, k1, propB_ok k2.1, of_decide_eq_true k2.2⟩
  · obtain ⟨en, k1, k2⟩ := Txt.is_ok (h7 _ (lookup_mem _ hk))
    rw [Bool.and_eq_true] at k2
    exact ⟨en, k1, by rw [of_decide_eq_true k2.2]; exact He.meth_ok k2.1, hsh m key sh hk en k1⟩
  · rw [hk] at h8
    obtain ⟨en, k1, k2⟩ := Txt.is_ok h8
    simp only [Bool.and_eq_true, decide_eq_true_eq, List.all_eq_true] at k2
    obtain ⟨a1, a2, a3, a4, a5, a6⟩ := k2
    exact ⟨en, k1, He.eqO_ok a1, a2, a3, a4, He.eqO_ok a5, a6⟩
  · rw [hk] at h9
    obtain ⟨en, k1, k2⟩ := Txt.is_ok h9
    simp only [Bool.and_eq_true, decide_eq_true_eq] at k2
    exact ⟨en, k1, He.eqO_ok k2.1, k2.2.1, k2.2.2⟩
/-- isinstance's answers -/
def insB (K : PySem.W.Frag) (C : Addr) : Bool := He.eqO (PySem.W.findIn K (.ref C) "__class__") (some (some (.builtin "object.__class__"))) && (He.eqO (PySem.W.specialIn K (.builtin "object.__class__") "__get__") (some (some (.builtin "getset_descriptor.__get__"))) && (decide (PySem.W.takesIn K (.builtin "object.__class__") = some true) && (decide (PySem.W.mroIn K C (.type "object") = some true) && decide (PySem.W.kitOne K (.ref C) (.ref C) = some true))))
def Txt.isB (T : Txt) (K : PySem.W.Frag) : Bool := (T.isT.all fun q => (He.Fa.cls q.1.1).ok K && (insB K (He.ga K q.1.1) && decide (PySem.W.kitOne K (.ref (He.ga K q.1.1)) (.ref (He.ga K q.1.2)) = some q.2))) && T.isL.all fun c => baseT.all fun t => decide (PySem.W.kitOne K (.type t) (.ref (He.ga K c)) = some false)
theorem Txt.isB_ok {T : Txt} {K : PySem.W.Frag} (h : T.isB K = true) : IsOk K T.isT T.isL := by
  unfold Txt.isB at h
  simp only [Bool.and_eq_true, List.all_eq_true, decide_eq_true_eq] at h
  refine ⟨fun c' c b e => ?_, fun c hc t ht => h.2 c hc t ht⟩
  have hm : ((c', c), b) ∈ T.isT := by
    have : ∀ (l : List ((Str × Str) × Bool)), l.lookup (c', c) = some b → ((c', c), b) ∈ l := fun l => by
      induction l with
      | nil => intro h; cases h
      | cons a l ih =>
        obtain ⟨y, z⟩ := a
        intro h
        rw [List.lookup_cons] at h
        cases hb : (c', c) == y with
        | true =>
          rw [hb] at h
          cases h
          rw [eq_of_beq hb]
          exact List.mem_cons_self
        | false =>
          rw [hb] at h
          exact List.mem_cons_of_mem _ (ih h)
    exact this _ e
  obtain ⟨h1, h2, h3⟩ := h.1 _ hm
  unfold insB at h2
  simp only [Bool.and_eq_true, decide_eq_true_eq] at h2
  obtain ⟨a1, a2, a3, a4, a5⟩ := h2
  exact ⟨⟨He.cls_ok h1, He.eqO_ok a1, He.eqO_ok a2, a3, a4, a5⟩, h3⟩
/-- all that is looked at -/
def Txt.see (T : Txt) (K : PySem.W.Frag) : Bool := (T.tab.all fun e => match e.loc with
    | .glo x => decide (x = e.x) && (He.Fa.glo x).ok K
    | _ => true) && ((T.tab.all fun e => e.okK K) && ((T.cs.all fun q => csB K q) && ((T.bf.all fun x => (He.Fa.free x).ok K) && ((T.cl.all fun c => c.okK T K) && T.isB K))))
abbrev AlT : Type := Bool × List He.FnW
def Txt.obs (T : Txt) (K : PySem.W.Frag) : AlT := (T.see K, T.tab.map fun e => fnA K (e.loc.ad K))
def Txt.val (T : Txt) : AlT := (true, T.tab.map fun e => e.val)
def Txt.obsG (T : Txt) (n : Nat) (g : Addr → Option Obj) : AlT := T.obs (He.frG g (He.asD g n))
def Txt.hook (T : Txt) (n : Nat) : PySem.W.Hook where
  α := AlT
  obs := fun s => T.obsG n s.heap.get?
  val := fun _ => T.val
  says := fun _ h => ∃ K : PySem.W.Frag, K.In h ∧ T.obs K = T.val
  of := fun _ _ e => ⟨_, He.frG_in, e⟩
  keeps := fun _ _ _ ⟨K, hK, c⟩ k => ⟨K, PySem.W.Frag.In.keeps hK k, c⟩
theorem Txt.obsG_eq {T : Txt} {n : Nat} {g : Addr → Option Obj} {s : Shared} (h : ∀ a, g a = s.heap.get? a) : T.obsG n g = (T.hook n).obs s := by
  have e : g = s.heap.get? := funext h
  rw [e] <;> rfl
/-- what is shown of the text itself: the scopes, the translation, the calls' shapes *-/
structure Ent.Ok (T : Txt) (e : Ent) : Prop where
  sc : FnScope e.N e.ps e.sc
  tr : trB T.gm e.N e.hv e.sc e.body = some e.fb
  cb : ∀ (K : PySem.W.Frag) (f : Addr) (fd : FuncData), FunD K e.name e.qual e.params e.body e.sc [] [] f fd → (∀ q ∈ e.sh, CB K fd e.ps q.1 q.2.1 q.2.2) ∧ Binds K fd e.ps []
theorem txt_ok {T : Txt} {K : PySem.W.Frag} {h : Heap} {mg : Str → Option Value} (X : K.In h) (G : h.Ns mainGlobals mg) (c : T.obs K = T.val) (ok : ∀ e ∈ T.tab, e.Ok T) (okc : ∀ c ∈ T.cl, c.sh T) : TxtOk K mg T := by
  have c1 : T.see K = true := congrArg (fun z : AlT => z.1) c
  have c2 : T.tab.map (fun e => fnA K (e.loc.ad K)) = T.tab.map fun e => e.val := congrArg (fun z : AlT => z.2) c
  unfold Txt.see at c1
  simp only [Bool.and_eq_true, List.all_eq_true] at c1
  obtain ⟨g1, g2, g3, g4, g5, g6⟩ := c1
  refine ⟨fun e he => ?_, fun e he hg => ?_, fun x d hx => ?_, fun x hx => He.free_ok X G (g4 x hx), fun cl hc => ClsI.ok_of X G (g5 cl hc) (okc cl hc), Txt.isB_ok g6⟩
  · have hv : fnA K (e.loc.ad K) = e.val := by
      have : ∀ (l : List Ent), l.map (fun e => fnA K (e.loc.ad K)) = l.map (fun e => e.val) → ∀ e ∈ l, fnA K (e.loc.ad K) = e.val := fun l => by
        induction l with
        | nil => intro _ e he; cases he
        | cons a l ih =>
          intro hl e he
          simp only [List.map_cons, List.cons.injEq] at hl
          rcases List.mem_cons.mp he with rfl | he
          · exact hl.1
          · exact ih hl.2 e he
      exact this T.tab c2 e he
    obtain ⟨fd, F⟩ := Ent.funD hv (g2 e he)
    exact ⟨fd, F, (ok e he).sc, (ok e he).tr, (ok e he).cb K _ fd F⟩
  · have := g1 e he
    cases el : e.loc with
    | glo x =>
      rw [el] at this
      simp only [Bool.and_eq_true, decide_eq_true_eq] at this
      rw [← this.1]
      exact He.glo_ok X G this.2
    | met _ _ => rw [el] at hg; cases hg
    | prp _ _ => rw [el] at hg; cases hg
  · have hk := g3 _ (lookup_mem _ hx)
    unfold csB at hk
    split at hk
    · rename_i u hu
      obtain ⟨v, r1, r2⟩ := kB_ok hk
      exact ⟨v, u, PySem.W.mg_of X G hu, r1, r2⟩
    · cases hk
/-- the law -/
theorem law_sp {K : PySem.W.Frag} {H : Hp} {a : Addr} {ns : List Int} {fm : Fm} (hO : Only H) (hS : SqL K H a (ns.map V.int)) (hl : ns.length ≤ 63) {h' : List Ob} (hf : fm [.rdl (ns.map .int)] [] = .ok (.bl true) h') :
    spI K 1 fm [.ref a] H (fun v _ => v = .bl true) fun _ _ _ => False := by
  have A : Abs K ⟨fun _ => 0, fun _ => 0, fun _ => False⟩ ⟨[], []⟩ [] H := ⟨rfl, fun i d e => by simp at e, fun i d e => by simp at e, fun k o e => by simp at e, fun k j hk => by simp at hk, fun i j d e h => by simp at h, fun k i d hk => by simp at hk, fun k hk => by simp at hk, fun i d e => by simp at e, fun a m => m.elim⟩
  have nM : ∀ b, ¬ MW ⟨fun _ => 0, fun _ => 0, fun _ => False⟩ ⟨[], []⟩ b := fun b m => by
    rcases m with m | ⟨k, hk, _⟩ | ⟨i, d, e, _⟩
    · exact m
    · simp at hk
    · simp at e
  refine ⟨_, [], [.rdl (ns.map .int)], A,   .cons (.rdl (vs := ns.map V.int) ?_ (by rw [List.length_map]; exact Nat.le_trans hl (by decide)) ?_) .nil, rfl, ?_⟩
  · rcases hS with h | h
    · exact .inl ⟨nM a, h⟩
    · exact .inr h
  · generalize ns = l
    induction l with
    | nil => exact .nil
    | cons n l ih => exact .cons (.int n) ih
  · rw [hf]
    intro v W' H' A' st r
    cases r
    rfl
end B
end
section
set_option Elab.async false
set_option linter.all false
set_option maxRecDepth 100000
set_option maxHeartbeats 1000000
namespace B
open PySem PySem.Spec PyProof.Rows L2
/-- the parameters' values, by the arguments' numbers -/
def pick {α : Type} (z : α) (is : List Nat) (l : List α) : List α := is.map fun i => l.getD i z
theorem pick_vals {vs : List V} {us : List Value} (r : Vals vs us) : ∀ is : List Nat, (∀ i ∈ is, i < us.length) → Vals (pick .non is vs) (pick .none is us)
  | [], _ => .nil
  | i :: is, h => by
    refine .cons ?_ (pick_vals r is fun j hj => h j (List.mem_cons_of_mem _ hj))
    have hi := h i List.mem_cons_self
    have hv : i < vs.length := by rw [r.length]; exact hi
    show RelV (vs.getD i .non) (us.getD i .none)
    rw [List.getD_eq_getElem?_getD, List.getD_eq_getElem?_getD, List.getElem?_eq_getElem hi, List.getElem?_eq_getElem hv]
    have : ∀ (vs : List V) (us : List Value), Vals vs us → ∀ i (h1 : i < vs.length) (h2 : i < us.length), RelV vs[i] us[i] := fun vs us r => by
      induction r with
      | nil => intro i h1; exact absurd h1 (Nat.not_lt_zero _)
      | cons h _ ih =>
        intro i h1 h2
        cases i with
        | zero => exact h
        | succ i => exact ih i _ _
    exact this vs us r i hv hi
theorem pick_rels {K : PySem.W.Frag} {ia : Nat → Addr} {m : Nat} {M : MS} {H : Hp} {vs : List V} {ds : List D} (r : Rels K ia m M H vs ds) : ∀ (is : List Nat) (es : List D), permD (is.map Ai.ix) ds = some es → Rels K ia m M H (pick .non is vs) es
  | [], es, h => by cases h; exact .nil
  | i :: is, es, h => by
    rw [List.map_cons, permD] at h
    split at h
    · rename_i d ds' h1 h2
      cases h
      refine .cons ?_ (pick_rels r is _ h2)
      have : ∀ (vs : List V) (ds : List D), Rels K ia m M H vs ds → ∀ (i : Nat) (d : D), ds[i]? = some d → Rel K ia m M H (vs.getD i .non) d := fun vs ds r => by
        intro i
        induction i generalizing vs ds with
        | zero =>
          intro d e
          cases r with
          | nil => simp at e
          | cons a b => simp at e; subst e; exact a
        | succ i ih =>
          intro d e
          cases r with
          | nil => simp at e
          | cons a b => simp at e; exact ih _ _ b d e
      exact this vs ds r i d h1
    · cases h
theorem cb_perm {K : PySem.W.Frag} {x qual : Str} {params : Arguments} {body : List Stmt} {scope : Scope} {kws : List (Str × V)} {f : Addr} {fd : FuncData} {ps ks : List Str} {n : Nat} (is : List Nat) (F : FunD K x qual params body scope [] kws f fd)
    (hl : is.length = ps.length) (hi : ∀ i ∈ is, i < n + ks.length)
    (h : ∀ (kV doc pm : Value) (an : Option Addr) (cdv ct : Value) (us ws : List Value), us.length = n → ws.length = ks.length → bindArgs (PySem.W.fnOf x qual params body scope .none kV doc pm an cdv ct) ⟨us, ks.zip ws⟩ = pure (ps.zip (pick .none is (us ++ ws)))) : CB K fd ps n ks (is.map Ai.ix) := by
  intro s us ws vs zs X hu hw r rz
  obtain ⟨oc, od, dV, kV, doc, pm, an, cdv, ct, osl, rfl, lk, hcd, hD, hK⟩ := F.ex
  rcases hD with ⟨_, rfl⟩ | ⟨e, _⟩
  · have ra : Vals (vs ++ zs) (us ++ ws) := by
      have : ∀ {vs : List V} {us : List Value}, Vals vs us → Vals (vs ++ zs) (us ++ ws) := fun r => by
        induction r with
        | nil => exact rz
        | cons h _ ih => exact .cons h ih
      exact this r
    refine ⟨_, _, .of_eq (h kV doc pm an cdv ct us ws hu hw), pick_vals ra is fun i hj => by rw [List.length_append, hu, hw]; exact hi i hj, by unfold pick; rw [List.length_map]; exact hl, fun ia m M H ds es rd hp => pick_rels rd is es hp⟩
  · exact absurd rfl e
/-! ### the law's end -/
theorem walk_ofW {l : PySem.W.OpenLaw} {n k : Nat} {q : Program} {loose : List Str} {XP : (Str → Option Value) → Heap → Prop} {YP : World → Heap → Prop} {d : DefRec} {CX : World → CXT} {x : Str}
    (hn : l.most = some n) (hn2 : n ≤ sizeLine) (hdf : d.params.defaults = []) (hr : Room k callerA)
    (F : ∀ (w : World) (mg : Str → Option Value) (fa : Addr) (h : Heap), YP w h → h.Ns mainGlobals mg → mg d.name = some (.ref fa) →
      ∃ (K : PySem.W.Frag) (fd : FuncData) (sp : Sp), K.In h ∧ (∀ (s : Shared) (u : Value), BindsTo s fd ⟨[u], []⟩ [(x, u)]) ∧
        (∀ (H : Hp) (a : Addr) (ns : List Int), ns.length ≤ n → Only H → SqL K H a (ns.map V.int) → sp [.ref a] H (fun v _ => v = .bl true) fun _ _ _ => False) ∧
        ∀ base : Heap, K.In base → base.Ns mainGlobals mg → FnOk l.prog w K mg base (CX w) k fa fd [x] sp)
    (hCX : ∀ (w : World) (H : Hp) (s : Shared) (e : Value) (s' : Shared), CX w [] H s (fun _ _ _ => False) e s' → False) :
    PySem.W.WalkO q loose XP YP l.row.toRowW d [] (fun f vs => PySem.call f vs) := by
  refine Att.attach_call hn hdf fun w s₀ s₁ mg mb fa o pm cd doc a vs ns G Y ho hd hcd hmg hobj hints hlen hg => ?_
  obtain ⟨K, fd, sp, KX, hb, hsp, hF⟩ := F w mg fa _ Y G.T.g hmg
  exact law_call KX G.T.g G.T.b G.T.builtins G.T.nolimit hg hobj hints (Nat.le_trans hlen hn2) hr hF hb (fun H hO hS => hsp H a ns hlen hO hS) fun H e s' => hCX w H s₁ e s'
theorem cx_no {P : Program} (w : World) (H : Hp) (s : Shared) (e : Value) (s' : Shared) (h : L2.CX P w [] H s (fun _ _ _ => False) e s') : False := by
  obtain ⟨_, _, _, _, _, _, _, _, _, _, _, _, z⟩ := h
  exact z
theorem fnok_law {P : Program} {w : World} {K : PySem.W.Frag} {mg : Str → Option Value} {base : Heap} {T : Txt} {n : Nat} {e : Ent} {fd : FuncData} (O : TxtOk K mg T) (he : T.ent "law" = some e) (F : FunD K e.name e.qual e.params e.body e.sc [] [] (e.loc.ad K) fd) :
    FnOk P w K mg base (L2.CX P w) (2 * n) (e.loc.ad K) fd e.ps (spI K e.ps.length (T.rho n "law")) := by
  obtain ⟨fd', q3, F', _⟩ := all_ok (P := P) (w := w) (base := base) O n "law" e he
  obtain ⟨oc, od, dV, kV, doc, pm, an, cdv, ct, osl, _, lk, _⟩ := F.ex
  obtain ⟨oc', od', dV', kV', doc', pm', an', cdv', ct', osl', _, lk', _⟩ := F'.ex
  rw [lk] at lk'
  cases lk'
  exact q3
end B
end
section
set_option Elab.async false
set_option linter.all false
set_option maxRecDepth 100000
set_option maxHeartbeats 4000000
/-! the words, one step each, as rewriting rules; the laws' common defs -/
namespace B
open PySem
section
variable (ρ : Fns) (s : S) (a b c : I) (l r : IL) (t u : IT) (p q : IS) (d e : D) (g : List Sl) (h : List Ob)
@[simp] theorem e_C : iC d ρ s = .ok d s := rfl
@[simp] theorem e_V (i : Nat) : iV i ρ ⟨g, h⟩ = (match g[i]? with
  | some (.val d) => .ok d ⟨g, h⟩
  | some (.own d) => .ok d ⟨g.set i (.val d), h⟩
  | _ => .bad) := rfl
@[simp] theorem e_Bin (op : Operator) : iBin op a b ρ s = (a ρ s).bind fun x s => (b ρ s).bind fun y s => lift (binD op x y) s := rfl
@[simp] theorem e_Cmp (op : CmpOp) : iCmp op a b ρ s = (a ρ s).bind fun x s => (b ρ s).bind fun y s => lift ((cmpD op x y).map .bl) s := rfl
@[simp] theorem e_CmpB (op : CmpOp) : tCmpB op a b ρ s = (a ρ s).bind fun x s => (b ρ s).bind fun y s => liftT (cmpD op x y) s := rfl
@[simp] theorem e_EqO (tb : List (Str × Str)) (ne : Bool) : iEqO tb ne a b ρ s = (a ρ s).bind fun x s => (b ρ s).bind fun y s => eqOwn tb ne ρ x y s := rfl
@[simp] theorem e_EqT (tb : List (Str × Str)) (ne : Bool) : tEqO tb ne a b ρ s = (a ρ s).bind fun x s => (b ρ s).bind fun y s => (eqOwn tb ne ρ x y s).bind fun z s => match z with
  | .bl r => .ok r s
  | _ => .bad := rfl
@[simp] theorem o_eq (tb : List (Str × Str)) (i j : Int) : eqOwn tb false ρ (.int i) (.int j) s = .ok (.bl (decide (i = j))) s := by
  show lift ((cmpD .Eq (.int i) (.int j)).map .bl) s = _
  rw [show cmpD .Eq (.int i) (.int j) = some (decide (i = j)) from by
    show some (i == j) = _
    by_cases h : i = j <;> simp [h]]
  rfl
@[simp] theorem o_ne (tb : List (Str × Str)) (i j : Int) : eqOwn tb true ρ (.int i) (.int j) s = .ok (.bl (!decide (i = j))) s := by
  show lift ((cmpD .NotEq (.int i) (.int j)).map .bl) s = _
  rw [show cmpD .NotEq (.int i) (.int j) = some (!decide (i = j)) from by
    show some (!(i == j)) = _
    by_cases h : i = j <;> simp [h]]
  rfl
@[simp] theorem o_eqB (tb : List (Str × Str)) (i j : Bool) : eqOwn tb false ρ (.bl i) (.bl j) s = .ok (.bl (i == j)) s := rfl
@[simp] theorem o_neB (tb : List (Str × Str)) (i j : Bool) : eqOwn tb true ρ (.bl i) (.bl j) s = .ok (.bl (!(i == j))) s := rfl
@[simp] theorem e_Tru : tTru a ρ s = (a ρ s).bind fun x s => liftT (truthD x) s := rfl
@[simp] theorem e_And : tAnd t u ρ s = (t ρ s).bind fun x s => match x with
  | true => u ρ s
  | false => .ok false s := rfl
@[simp] theorem e_Or : tOr t u ρ s = (t ρ s).bind fun x s => match x with
  | true => .ok true s
  | false => u ρ s := rfl
@[simp] theorem e_Not : tNot t ρ s = (t ρ s).bind fun x s => .ok (!x) s := rfl
@[simp] theorem e_If : iIf t a b ρ s = (t ρ s).bind fun x s => match x with
  | true => a ρ s
  | false => b ρ s := rfl
@[simp] theorem e_aNil : aNil ρ s = .ok [] s := rfl
@[simp] theorem e_aCons : aCons a l ρ s = (a ρ s).bind fun x s => (l ρ s).bind fun xs s => .ok (x :: xs) s := rfl
@[simp] theorem e_Tup : iTup l ρ s = (l ρ s).bind fun xs s => lift (if xs.length ≤ sizeLine then some (.tup xs) else none) s := rfl
@[simp] theorem e_Lst : iLst l ρ s = (l ρ s).bind fun xs s => lift (if xs.length ≤ sizeLine then some (.lst xs) else none) s := rfl
@[simp] theorem e_LstH : iLstH l ρ s = (l ρ s).bind fun xs s => if xs.length ≤ sizeLine then .ok (.ref s.h.length) ⟨s.g, s.h ++ [.lst xs]⟩ else .bad := rfl
@[simp] theorem e_Ix : iIx a b ρ s = (a ρ s).bind fun x s => (b ρ s).bind fun y s => lift (ixD s.h x y) s := rfl
@[simp] theorem e_pNo : pNo ρ s = .ok none s := rfl
@[simp] theorem e_pInt : pInt a ρ s = (a ρ s).bind fun x s => match x with
  | .int i => .ok (some i) s
  | _ => .bad := rfl
@[simp] theorem e_Sl (lo hi : Fns → S → R (Option Int)) : iSl a lo hi ρ s = (a ρ s).bind fun x s => (lo ρ s).bind fun l s => (hi ρ s).bind fun u s => lift (slD s.h x l u) s := rfl
@[simp] theorem e_Bi (f : Bi) : iBi f l ρ s = (l ρ s).bind fun xs s => lift (biD f s.h xs) s := rfl
@[simp] theorem e_Call (f : Str) (pm : List Ai) : iCall f pm l r ρ s = (l ρ s).bind fun xs s => (r ρ s).bind fun ys s => match permD pm (xs ++ ys) with
  | some zs => ofF s.g (ρ f zs s.h)
  | none => .bad := rfl
@[simp] theorem e_sNx : sNx ρ s = .ok .nx s := rfl
@[simp] theorem e_Seq : sSeq p q ρ s = (p ρ s).bind fun f s => match f with
  | .nx => q ρ s
  | f => .ok f s := rfl
@[simp] theorem e_Ret : sRet a ρ s = (a ρ s).bind fun x s => .ok (.rt x) s := rfl
@[simp] theorem e_sIf : sIf t p q ρ s = (t ρ s).bind fun x s => match x with
  | true => p ρ s
  | false => q ρ s := rfl
@[simp] theorem e_Asg (k : IG) : sAsg a k ρ s = (a ρ s).bind fun x s => match k x s with
  | some s => .ok .nx s
  | none => .bad := rfl
@[simp] theorem e_gV (i : Nat) : gV i d ⟨g, h⟩ = some ⟨g.set i (.val d), h⟩ := rfl
@[simp] theorem e_Set : sSet a b c ρ s = (c ρ s).bind fun v s => (a ρ s).bind fun x s => (b ρ s).bind fun y s => match x, y with
  | .ref n, .int k => (match s.h[n]? with
    | some (.lst l) => (match L2.ixN l.length k with
      | some j => .ok .nx ⟨s.g, s.h.set n (.lst (l.set j v))⟩
      | none => .bad)
    | _ => .bad)
  | _, _ => .bad := rfl
@[simp] theorem e_ofF (d : D) : ofF g (.ok d h) = .ok d ⟨g, h⟩ := rfl
@[simp] theorem b_add (i j : Int) : binD .Add (.int i) (.int j) = some (.int (i + j)) := rfl
@[simp] theorem b_sub (i j : Int) : binD .Sub (.int i) (.int j) = some (.int (i - j)) := rfl
@[simp] theorem c_eq (i j : Int) : cmpD .Eq (.int i) (.int j) = some (decide (i = j)) := by
  show some (i == j) = _
  by_cases h : i = j <;> simp [h]
@[simp] theorem c_ne (i j : Int) : cmpD .NotEq (.int i) (.int j) = some (!decide (i = j)) := by
  show some (!(i == j)) = _
  by_cases h : i = j <;> simp [h]
@[simp] theorem c_lt (i j : Int) : cmpD .Lt (.int i) (.int j) = some (decide (i < j)) := rfl
@[simp] theorem c_le (i j : Int) : cmpD .LtE (.int i) (.int j) = some (decide (i ≤ j)) := rfl
@[simp] theorem c_gt (i j : Int) : cmpD .Gt (.int i) (.int j) = some (decide (j < i)) := rfl
@[simp] theorem c_ge (i j : Int) : cmpD .GtE (.int i) (.int j) = some (decide (j ≤ i)) := rfl
@[simp] theorem c_eqB (x y : Bool) : cmpD .Eq (.bl x) (.bl y) = some (x == y) := rfl
@[simp] theorem c_neB (x y : Bool) : cmpD .NotEq (.bl x) (.bl y) = some (!(x == y)) := rfl
@[simp] theorem t_bl (x : Bool) : truthD (.bl x) = some x := rfl
end
/-- mod with a positive second number -/
theorem b_mod {i j : Int} (h : 0 < j) : binD .Mod (.int i) (.int j) = some (.int (i % j)) := by
  show (if j ≠ 0 then some (D.int (i.fmod j)) else none) = _
  rw [if_pos (by omega), Int.fmod_eq_emod_of_nonneg _ (by omega)]
theorem b_div {i j : Int} (h : 0 < j) (h2 : j < 1073741824) : binD .FloorDiv (.int i) (.int j) = some (.int (i / j)) := by
  show (if j ≠ 0 ∧ j.natAbs < 1073741824 then some (D.int (i.fdiv j)) else none) = _
  rw [if_pos ⟨by omega, by omega⟩, Int.fdiv_eq_ediv_of_nonneg _ (by omega)]
theorem b_mul {i j : Int} (h : (-(2 ^ 64) < i ∧ i < 2 ^ 64) ∨ (-(2 ^ 64) < j ∧ j < 2 ^ 64)) : binD .Mult (.int i) (.int j) = some (.int (i * j)) := by
  show (if (-(2 ^ 64) < i ∧ i < 2 ^ 64) ∨ (-(2 ^ 64) < j ∧ j < 2 ^ 64) then some (D.int (i * j)) else none) = _
  rw [if_pos h]
/-! ### the bag -/
def bagL (cs : List Int) (i c sd n : Int) : List D := [.lst (cs.map .int), .int i, .int c, .int sd, .int n]
def BagL (l : List D) : Prop := ∃ cs i c sd n, l = bagL cs i c sd n ∧ 0 ≤ i ∧ 0 ≤ c ∧ 0 ≤ sd ∧ sd < 2147483587
def wPull (tb : List (Str × Str)) : IS := (sSeq (sIf (tAnd (tEqO tb false (iIx (iV 0) (iC (.int 2))) (iC (.int 0))) (tCmpB .Lt (iIx (iV 0) (iC (.int 1))) (iBi .len (aCons (iIx (iV 0) (iC (.int 0))) aNil)))) (sSeq (sAsg (iIx (iIx (iV 0) (iC (.int 0))) (iIx (iV 0) (iC (.int 1)))) (gV 2))
  (sSeq (sSet (iV 0) (iC (.int 1)) (iBin .Add (iIx (iV 0) (iC (.int 1))) (iC (.int 1))))
  (sSeq (sIf (tCmpB .GtE (iV 2) (iBin .Pow (iC (.int 10)) (iC (.int 18)))) (sSeq (sSet (iV 0) (iC (.int 2)) (iV 2))
  sNx) (sSeq (sSet (iV 0) (iC (.int 3)) (iBin .Mod (iBi .int (aCons (iBin .Add (iBin .Add (iBin .Mult (iIx (iV 0) (iC (.int 3))) (iC (.int 46133))) (iBin .Mult (iBin .Mod (iBi .int (aCons (iV 2) aNil)) (iC (.int 2147483549))) (iC (.int 52963)))) (iC (.int 37))) aNil)) (iC (.int 2147483587))))
  sNx))
  sNx))) sNx)
  (sSeq (sIf (tCmpB .Gt (iIx (iV 0) (iC (.int 2))) (iC (.int 0))) (sSeq (sAsg (iBin .Mod (iBi .int (aCons (iIx (iV 0) (iC (.int 2))) aNil)) (iV 1)) (gV 3))
  (sSeq (sSet (iV 0) (iC (.int 2)) (iBin .FloorDiv (iIx (iV 0) (iC (.int 2))) (iV 1)))
  (sSeq (sRet (iV 3))
  sNx))) sNx)
  (sSeq (sSet (iV 0) (iC (.int 4)) (iBin .Add (iIx (iV 0) (iC (.int 4))) (iC (.int 1))))
  (sSeq (sAsg (iIx (iV 0) (iC (.int 3))) (gV 4))
  (sSeq (sSet (iV 0) (iC (.int 3)) (iBin .Mod (iBi .int (aCons (iBin .Add (iBin .Add (iBin .Add (iBin .Mult (iV 4) (iV 4)) (iBin .Mult (iV 4) (iC (.int 31013)))) (iBin .Mult (iIx (iV 0) (iC (.int 4))) (iC (.int 1299827)))) (iC (.int 87623))) aNil)) (iC (.int 2147483587))))
  (sSeq (sRet (iBin .Mod (iBi .int (aCons (iBin .Add (iBin .FloorDiv (iIx (iV 0) (iC (.int 3))) (iC (.int 73))) (iBin .Mult (iBin .Mod (iBi .int (aCons (iIx (iV 0) (iC (.int 3))) aNil)) (iC (.int 7907))) (iC (.int 61)))) aNil)) (iV 1)))
  sNx))))))
section
variable {ρ : Fns} {h : List Ob} {b : Nat} {m : Int} {tb : List (Str × Str)}
theorem ix_ref {l : List D} {i : Int} (hb : h[b]? = some (.lst l)) : ixD h (.ref b) (.int i) = L2.atI l i := by
  simp [ixD, seqD, hb]
theorem ix_bag {cs : List Int} {i c sd n : Int} (hb : h[b]? = some (.lst (bagL cs i c sd n))) : ixD h (.ref b) (.int 0) = some (.lst (cs.map .int)) ∧ ixD h (.ref b) (.int 1) = some (.int i) ∧ ixD h (.ref b) (.int 2) = some (.int c) ∧ ixD h (.ref b) (.int 3) = some (.int sd) ∧ ixD h (.ref b) (.int 4) = some (.int n) := by
  refine ⟨?_, ?_, ?_, ?_, ?_⟩ <;> (rw [ix_ref hb]; rfl)
/-- the second part of a pull: c is left over, or the seed turns -/
def wPull2 (tb : List (Str × Str)) : IS := (sSeq (sIf (tCmpB .Gt (iIx (iV 0) (iC (.int 2))) (iC (.int 0))) (sSeq (sAsg (iBin .Mod (iBi .int (aCons (iIx (iV 0) (iC (.int 2))) aNil)) (iV 1)) (gV 3))
  (sSeq (sSet (iV 0) (iC (.int 2)) (iBin .FloorDiv (iIx (iV 0) (iC (.int 2))) (iV 1)))
  (sSeq (sRet (iV 3))
  sNx))) sNx)
  (sSeq (sSet (iV 0) (iC (.int 4)) (iBin .Add (iIx (iV 0) (iC (.int 4))) (iC (.int 1))))
  (sSeq (sAsg (iIx (iV 0) (iC (.int 3))) (gV 4))
  (sSeq (sSet (iV 0) (iC (.int 3)) (iBin .Mod (iBi .int (aCons (iBin .Add (iBin .Add (iBin .Add (iBin .Mult (iV 4) (iV 4)) (iBin .Mult (iV 4) (iC (.int 31013)))) (iBin .Mult (iIx (iV 0) (iC (.int 4))) (iC (.int 1299827)))) (iC (.int 87623))) aNil)) (iC (.int 2147483587))))
  (sSeq (sRet (iBin .Mod (iBi .int (aCons (iBin .Add (iBin .FloorDiv (iIx (iV 0) (iC (.int 3))) (iC (.int 73))) (iBin .Mult (iBin .Mod (iBi .int (aCons (iIx (iV 0) (iC (.int 3))) aNil)) (iC (.int 7907))) (iC (.int 61)))) aNil)) (iV 1)))
  sNx)))))
@[simp] theorem bi_int (h : List Ob) (i : Int) : biD .int h [.int i] = some (.int i) := rfl
theorem pull2_ok {cs : List Int} {i c sd n : Int} {z : Sl} (hb : h[b]? = some (.lst (bagL cs i c sd n))) (hi : 0 ≤ i) (hc : 0 ≤ c) (h0 : 0 ≤ sd) (h1 : sd < 2147483587) (hm : 0 < m) (hm2 : m < 1073741824) :
    ∃ d l' g', 0 ≤ d ∧ d < m ∧ BagL l' ∧ wPull2 tb ρ ⟨[.val (.ref b), .val (.int m), z, .no, .no], h⟩ = .ok (.rt (.int d)) ⟨g', h.set b (.lst l')⟩ := by
  obtain ⟨i0, i1, i2, i3, i4⟩ := ix_bag hb
  have hl : b < h.length := by
    rcases Nat.lt_or_ge b h.length with q | q
    · exact q
    · rw [List.getElem?_eq_none q] at hb; cases hb
  by_cases hp : 0 < c
  · refine ⟨c % m, bagL cs i (c / m) sd n, [.val (.ref b), .val (.int m), z, .val (.int (c % m)), .no], Int.emod_nonneg _ (by omega), Int.emod_lt_of_pos _ hm, ⟨cs, i, c / m, sd, n, rfl, hi, Int.ediv_nonneg hc (by omega), h0, h1⟩, ?_⟩
    simp [wPull2, i2, hp, b_mod hm, b_div hm hm2, hb]
    simp [bagL, L2.ixN]
  · obtain ⟨x, hx⟩ : ∃ x, x = sd * sd + sd * 31013 + (n + 1) * 1299827 + 87623 := ⟨_, rfl⟩
    obtain ⟨y, hy⟩ : ∃ y, y = x % 2147483587 / 73 + x % 2147483587 % 7907 * 61 := ⟨_, rfl⟩
    have e1 : (h.set b (.lst (bagL cs i c sd (n + 1))))[b]? = some (.lst (bagL cs i c sd (n + 1))) := List.getElem?_set_self hl
    have e2 : (h.set b (.lst (bagL cs i c (x % 2147483587) (n + 1))))[b]? = some (.lst (bagL cs i c (x % 2147483587) (n + 1))) := List.getElem?_set_self hl
    obtain ⟨j0, j1, j2, j3, j4⟩ := ix_bag e1
    obtain ⟨k0, k1, k2, k3, k4⟩ := ix_bag e2
    refine ⟨y % m, bagL cs i c (x % 2147483587) (n + 1), [.val (.ref b), .val (.int m), z, .no, .val (.int sd)], Int.emod_nonneg _ (by omega), Int.emod_lt_of_pos _ hm, ⟨cs, i, c, _, _, rfl, hi, hc, Int.emod_nonneg _ (by omega), Int.emod_lt_of_pos _ (by omega)⟩, ?_⟩
    have z1 : (bagL cs i c sd n).set 4 (.int (n + 1)) = bagL cs i c sd (n + 1) := rfl
    have z2 : (bagL cs i c sd (n + 1)).set 3 (.int (x % 2147483587)) = bagL cs i c (x % 2147483587) (n + 1) := rfl
    have y4 : L2.ixN (bagL cs i c sd n).length 4 = some 4 := rfl
    have y3 : L2.ixN (bagL cs i c sd (n + 1)).length 3 = some 3 := rfl
    have m1 : binD .Mult (.int sd) (.int sd) = some (.int (sd * sd)) := b_mul (by omega)
    have m2 : binD .Mult (.int sd) (.int 31013) = some (.int (sd * 31013)) := b_mul (by omega)
    have m3 : binD .Mult (.int (n + 1)) (.int 1299827) = some (.int ((n + 1) * 1299827)) := b_mul (by omega)
    have m4 : ∀ q : Int, binD .Mult (.int q) (.int 61) = some (.int (q * 61)) := fun q => b_mul (by omega)
    have d1 : ∀ q : Int, binD .Mod (.int q) (.int 2147483587) = some (.int (q % 2147483587)) := fun q => b_mod (by omega)
    have d2 : ∀ q : Int, binD .Mod (.int q) (.int 7907) = some (.int (q % 7907)) := fun q => b_mod (by omega)
    have d3 : ∀ q : Int, binD .FloorDiv (.int q) (.int 73) = some (.int (q / 73)) := fun q => b_div (by omega) (by omega)
    simp only [wPull2, e_Seq, e_sIf, e_CmpB, e_EqT, o_eq, e_Ix, e_V, e_C, bind_ok, List.getElem?_cons_zero, List.getElem?_cons_succ, i2, lift_some, c_gt, liftT_some, hp, decide_false, e_sNx, e_Set, e_Bin, i4, b_add, hb, y4, z1, e_Asg, j3, e_gV, List.set_cons_zero, List.set_cons_succ, e_Bi, e_aCons, e_aNil, m1, m2, j4, m3, bi_int, ← hx, d1, e1, y3, z2, List.set_set, e_Ret, k3, d2, d3, m4, ← hy, b_mod hm]
theorem pull_ok {l : List D} (hb : h[b]? = some (.lst l)) (B : BagL l) (hm : 0 < m) (hm2 : m < 1073741824) :
    ∃ d l', 0 ≤ d ∧ d < m ∧ BagL l' ∧ runD 5 (wPull tb) ρ [.ref b, .int m] h = .ok (.int d) (h.set b (.lst l')) := by
  obtain ⟨cs, i, c, sd, n, rfl, hi, hc, h0, h1⟩ := B
  obtain ⟨i0, i1, i2, i3, i4⟩ := ix_bag hb
  have hl : b < h.length := by
    rcases Nat.lt_or_ge b h.length with q | q
    · exact q
    · rw [List.getElem?_eq_none q] at hb; cases hb
  have ln : ∀ h, biD .len h [.lst (cs.map D.int)] = some (.int cs.length) := fun h => by simp [biD, lenD, seqD]
  have step : ∀ (z : Sl) (h' : List Ob) (c' i' sd' : Int), h'[b]? = some (.lst (bagL cs i' c' sd' n)) → 0 ≤ i' → 0 ≤ c' → 0 ≤ sd' → sd' < 2147483587 → (∀ o, h'.set b o = h.set b o) →
      (sIf (tAnd (tEqO tb false (iIx (iV 0) (iC (.int 2))) (iC (.int 0))) (tCmpB .Lt (iIx (iV 0) (iC (.int 1))) (iBi .len (aCons (iIx (iV 0) (iC (.int 0))) aNil)))) (sSeq (sAsg (iIx (iIx (iV 0) (iC (.int 0))) (iIx (iV 0) (iC (.int 1)))) (gV 2))
  (sSeq (sSet (iV 0) (iC (.int 1)) (iBin .Add (iIx (iV 0) (iC (.int 1))) (iC (.int 1))))
  (sSeq (sIf (tCmpB .GtE (iV 2) (iBin .Pow (iC (.int 10)) (iC (.int 18)))) (sSeq (sSet (iV 0) (iC (.int 2)) (iV 2))
  sNx) (sSeq (sSet (iV 0) (iC (.int 3)) (iBin .Mod (iBi .int (aCons (iBin .Add (iBin .Add (iBin .Mult (iIx (iV 0) (iC (.int 3))) (iC (.int 46133))) (iBin .Mult (iBin .Mod (iBi .int (aCons (iV 2) aNil)) (iC (.int 2147483549))) (iC (.int 52963)))) (iC (.int 37))) aNil)) (iC (.int 2147483587))))
  sNx))
  sNx))) sNx) ρ ⟨[.val (.ref b), .val (.int m), .no, .no, .no], h⟩ = .ok .nx ⟨[.val (.ref b), .val (.int m), z, .no, .no], h'⟩ →
      ∃ d l', 0 ≤ d ∧ d < m ∧ BagL l' ∧ runD 5 (wPull tb) ρ [.ref b, .int m] h = .ok (.int d) (h.set b (.lst l')) := fun z h' c' i' sd' q1 q2 q3 q4 q5 q6 q7 => by
    obtain ⟨d, l', g', p1, p2, p3, p4⟩ := pull2_ok (tb := tb) (ρ := ρ) (z := z) q1 q2 q3 q4 q5 hm hm2
    refine ⟨d, l', p1, p2, p3, ?_⟩
    unfold runD
    show (match wPull tb ρ ⟨[.val (.ref b), .val (.int m), .no, .no, .no], h⟩ with
      | .ok .nx s => Rf.ok .non s.h
      | .ok (.rt d) s => .ok d s.h
      | .ok _ _ => .bad
      | .ex x s => .ex x s.h
      | .bad => .bad) = _
    have e : wPull tb ρ ⟨[.val (.ref b), .val (.int m), .no, .no, .no], h⟩ = .ok (.rt (.int d)) ⟨g', h'.set b (.lst l')⟩ := by
      unfold wPull
      rw [e_Seq, q7, bind_ok]
      exact p4
    rw [e, q6]
  by_cases hz : c = 0 ∧ i < cs.length
  · obtain ⟨rfl, hi2⟩ := hz
    obtain ⟨x, hx⟩ : ∃ x, cs[i.toNat]? = some x := ⟨_, List.getElem?_eq_getElem (by omega)⟩
    have cx : L2.atI (cs.map D.int) i = some (.int x) := by
      unfold L2.atI L2.ixN
      rw [if_pos hi, List.length_map, if_pos hi2]
      simp [hx]
    have cx2 : ixD h (.lst (cs.map D.int)) (.int i) = some (.int x) := by
      show (some (cs.map D.int)).bind (fun l => L2.atI l i) = _
      exact cx
    have e1 : (h.set b (.lst (bagL cs (i + 1) 0 sd n)))[b]? = some (.lst (bagL cs (i + 1) 0 sd n)) := List.getElem?_set_self hl
    obtain ⟨j0, j1, j2, j3, j4⟩ := ix_bag e1
    have pw : binD .Pow (.int 10) (.int 18) = some (.int (10 ^ 18)) := rfl
    have z1 : (bagL cs i 0 sd n).set 1 (.int (i + 1)) = bagL cs (i + 1) 0 sd n := rfl
    have y1 : L2.ixN (bagL cs i 0 sd n).length 1 = some 1 := rfl
    have y2 : L2.ixN (bagL cs (i + 1) 0 sd n).length 2 = some 2 := rfl
    have y3 : L2.ixN (bagL cs (i + 1) 0 sd n).length 3 = some 3 := rfl
    have dt : decide True = true := rfl
    by_cases hg : (10 : Int) ^ 18 ≤ x
    · refine step (.val (.int x)) (h.set b (.lst (bagL cs (i + 1) x sd n))) x (i + 1) sd (List.getElem?_set_self hl) (by omega) (by omega) h0 h1 (fun o => by rw [List.set_set]) ?_
      have z2 : (bagL cs (i + 1) 0 sd n).set 2 (.int x) = bagL cs (i + 1) x sd n := rfl
      simp only [e_Seq, e_sIf, e_And, e_CmpB, e_EqT, o_eq, e_Ix, e_V, e_C, bind_ok, List.getElem?_cons_zero, List.getElem?_cons_succ, i2, lift_some, c_eq, dt, liftT_some, c_lt, i1, i0, ln, e_Bi, e_aCons, e_aNil, hi2, decide_true, e_Asg, cx2, e_gV, List.set_cons_zero, List.set_cons_succ, e_Set, e_Bin, b_add, hb, y1, z1, c_ge, pw, hg, e1, y2, z2, List.set_set, e_sNx]
    · refine step (.val (.int x)) (h.set b (.lst (bagL cs (i + 1) 0 ((sd * 46133 + x % 2147483549 * 52963 + 37) % 2147483587) n))) 0 (i + 1) _ (List.getElem?_set_self hl) (by omega) (by omega) (Int.emod_nonneg _ (by omega)) (Int.emod_lt_of_pos _ (by omega)) (fun o => by rw [List.set_set]) ?_
      have z2 : (bagL cs (i + 1) 0 sd n).set 3 (.int ((sd * 46133 + x % 2147483549 * 52963 + 37) % 2147483587)) = bagL cs (i + 1) 0 ((sd * 46133 + x % 2147483549 * 52963 + 37) % 2147483587) n := rfl
      have m1 : ∀ q : Int, binD .Mult (.int q) (.int 46133) = some (.int (q * 46133)) := fun q => b_mul (by omega)
      have m2 : ∀ q : Int, binD .Mult (.int q) (.int 52963) = some (.int (q * 52963)) := fun q => b_mul (by omega)
      have d1 : ∀ q : Int, binD .Mod (.int q) (.int 2147483587) = some (.int (q % 2147483587)) := fun q => b_mod (by omega)
      have d2 : ∀ q : Int, binD .Mod (.int q) (.int 2147483549) = some (.int (q % 2147483549)) := fun q => b_mod (by omega)
      simp only [e_Seq, e_sIf, e_And, e_CmpB, e_EqT, o_eq, e_Ix, e_V, e_C, bind_ok, List.getElem?_cons_zero, List.getElem?_cons_succ, i2, lift_some, c_eq, dt, liftT_some, c_lt, i1, i0, ln, e_Bi, e_aCons, e_aNil, hi2, decide_true, e_Asg, cx2, e_gV, List.set_cons_zero, List.set_cons_succ, e_Set, e_Bin, b_add, hb, y1, z1, c_ge, pw, hg, decide_false, e1, y3, z2, List.set_set, e_sNx, bi_int, m1, m2, d1, d2, j3]
  · refine step .no h c i sd hb hi hc h0 h1 (fun _ => rfl) ?_
    by_cases hc0 : c = 0
    · subst hc0
      have hi2 : ¬ i < cs.length := fun z => hz ⟨rfl, z⟩
      have dt : decide True = true := rfl
      simp only [e_sIf, e_And, e_CmpB, e_EqT, o_eq, e_Ix, e_V, e_C, bind_ok, List.getElem?_cons_zero, List.getElem?_cons_succ, i2, lift_some, c_eq, dt, liftT_some, c_lt, i1, i0, ln, e_Bi, e_aCons, e_aNil, hi2, decide_false, e_sNx]
    · simp only [e_sIf, e_And, e_CmpB, e_EqT, o_eq, e_Ix, e_V, e_C, bind_ok, List.getElem?_cons_zero, List.getElem?_cons_succ, i2, lift_some, c_eq, liftT_some, hc0, decide_false, e_sNx]
end
end B
end
section
set_option Elab.async false
set_option linter.all false
set_option maxRecDepth 100000
set_option maxHeartbeats 4000000
namespace B
open PySem
inductive F2 {α β : Type} (Q : α → β → Prop) : List α → List β → Prop
  | nil : F2 Q [] []
  | cons {a : α} {b : β} {as : List α} {bs : List β} : Q a b → F2 Q as bs → F2 Q (a :: as) (b :: bs)
theorem F2.length {α β : Type} {Q : α → β → Prop} {as : List α} {bs : List β} (h : F2 Q as bs) : as.length = bs.length := by
  induction h with
  | nil => rfl
  | cons _ _ ih => simp [ih]
theorem F2.map {α β : Type} {f : α → β} {as : List α} {bs : List β} (h : F2 (fun a b => b = f a) as bs) : bs = as.map f := by
  induction h with
  | nil => rfl
  | cons e _ ih => rw [e, ih]; rfl
/-! ### comprehensions -/
theorem comp_inv {k : IG} {e : I} {vs : List Nat} {ρ : Fns} {g : List Sl} {P : List Ob → Prop} {Q : D → D → Prop} : ∀ (ds : List D) (h : List Ob), P h →
    (∀ d ∈ ds, ∀ h, P h → ∃ s1 y s2, k d ⟨wipeS g vs, h⟩ = some s1 ∧ e ρ s1 = .ok y s2 ∧ wipeS s2.g vs = wipeS g vs ∧ P s2.h ∧ Q d y) →
    ∃ ys h', P h' ∧ F2 Q ds ys ∧ compL k tYes e vs ρ ds ⟨wipeS g vs, h⟩ = some (ys, ⟨wipeS g vs, h'⟩)
  | [], h, p, _ => ⟨[], h, p, .nil, rfl⟩
  | d :: ds, h, p, H => by
    obtain ⟨s1, y, s2, e1, e2, e3, p2, q⟩ := H d List.mem_cons_self h p
    obtain ⟨ys, h', p', qs, e4⟩ := comp_inv ds s2.h p2 fun d' hd => H d' (List.mem_cons_of_mem _ hd)
    refine ⟨y :: ys, h', p', .cons q qs, ?_⟩
    show (match k d ⟨wipeS g vs, h⟩ with
      | none => none
      | some s1 => match tYes ρ s1 with
        | .ok true s2 => (match e ρ s2 with
          | .ok y s3 => (match compL k tYes e vs ρ ds ⟨wipeS s3.g vs, s3.h⟩ with
            | some (ys, s4) => some (y :: ys, s4)
            | none => none)
          | _ => none)
        | .ok false s2 => compL k tYes e vs ρ ds ⟨wipeS s2.g vs, s2.h⟩
        | _ => none) = _
    rw [e1]
    show (match e ρ s1 with
          | .ok y s3 => (match compL k tYes e vs ρ ds ⟨wipeS s3.g vs, s3.h⟩ with
            | some (ys, s4) => some (y :: ys, s4)
            | none => none)
          | _ => none) = _
    rw [e2]
    show (match compL k tYes e vs ρ ds ⟨wipeS s2.g vs, s2.h⟩ with
            | some (ys, s4) => some (y :: ys, s4)
            | none => none) = _
    rw [e3, e4]
theorem i_comp {w : IL} {k : IG} {e : I} {vs : List Nat} {ρ : Fns} {g : List Sl} {h h1 : List Ob} {ds : List D} {P : List Ob → Prop} {Q : D → D → Prop} (hw : w ρ ⟨g, h⟩ = .ok ds ⟨g, h1⟩) (p : P h1)
    (H : ∀ d ∈ ds, ∀ h, P h → ∃ s1 y s2, k d ⟨wipeS g vs, h⟩ = some s1 ∧ e ρ s1 = .ok y s2 ∧ wipeS s2.g vs = wipeS g vs ∧ P s2.h ∧ Q d y) (hg : backS (wipeS g vs) g vs = g) :
    ∃ ys h', P h' ∧ F2 Q ds ys ∧ iComp w k tYes e vs ρ ⟨g, h⟩ = .ok (.lst ys) ⟨g, h'⟩ := by
  obtain ⟨ys, h', p', qs, e4⟩ := comp_inv ds h1 p H
  refine ⟨ys, h', p', qs, ?_⟩
  show (w ρ ⟨g, h⟩).bind (fun ds s => match compL k tYes e vs ρ ds ⟨wipeS s.g vs, s.h⟩ with
    | some (ys, s') => R.ok (D.lst ys) ⟨backS s'.g s.g vs, s'.h⟩
    | none => .bad) = _
  rw [hw, bind_ok]
  show (match compL k tYes e vs ρ ds ⟨wipeS g vs, h1⟩ with
    | some (ys, s') => R.ok (D.lst ys) ⟨backS s'.g g vs, s'.h⟩
    | none => .bad) = _
  rw [e4]
  show R.ok (D.lst ys) ⟨backS (wipeS g vs) g vs, h'⟩ = _
  rw [hg]
/-- the heap stays -/
theorem i_map {w : IL} {k : IG} {e : I} {vs : List Nat} {ρ : Fns} {g : List Sl} {h h1 : List Ob} {ds : List D} {f : D → D} (hw : w ρ ⟨g, h⟩ = .ok ds ⟨g, h1⟩)
    (H : ∀ d ∈ ds, ∃ s1 s2, k d ⟨wipeS g vs, h1⟩ = some s1 ∧ e ρ s1 = .ok (f d) s2 ∧ wipeS s2.g vs = wipeS g vs ∧ s2.h = h1) (hg : backS (wipeS g vs) g vs = g) :
    iComp w k tYes e vs ρ ⟨g, h⟩ = .ok (.lst (ds.map f)) ⟨g, h1⟩ := by
  obtain ⟨ys, h', p', qs, e4⟩ := i_comp (P := fun h => h = h1) (Q := fun d y => y = f d) (e := e) (k := k) hw rfl (fun d hd h hh => by
    subst hh
    obtain ⟨s1, s2, a, b, c, dd⟩ := H d hd
    exact ⟨s1, _, s2, a, b, c, dd, rfl⟩) hg
  rw [e4, p', qs.map]
theorem seq_nx {p q : IS} {ρ : Fns} {s s' : S} (h : p ρ s = .ok .nx s') : sSeq p q ρ s = q ρ s' := by
  rw [e_Seq, h, bind_ok]
theorem seq_rt {p q : IS} {ρ : Fns} {s s' : S} {d : D} (h : p ρ s = .ok (.rt d) s') : sSeq p q ρ s = .ok (.rt d) s' := by
  rw [e_Seq, h, bind_ok]
theorem run_rt {n : Nat} {b : IS} {ρ : Fns} {ds : List D} {h : List Ob} {d : D} {g : List Sl} {h' : List Ob} {g' : List Sl} (e : b ρ ⟨g, h⟩ = .ok (.rt d) ⟨g', h'⟩) (hg : ds.map .val ++ List.replicate (n - ds.length) .no = g) : runD n b ρ ds h = .ok d h' := by
  unfold runD
  rw [hg, e]
/-! ### the common defs -/
def wOpened : IS := (sSeq (sRet (iLstH (aCons (iBi .list (aCons (iSl (iV 0) pNo (pInt (iC (.int 63)))) aNil)) (aCons (iC (.int 0)) (aCons (iC (.int 0)) (aCons (iC (.int 5744)) (aCons (iC (.int 0)) aNil)))))))
  sNx)
theorem opened_ok {ρ : Fns} {ns : List Int} {h : List Ob} : runD 1 wOpened ρ [.rdl (ns.map .int)] h = .ok (.ref h.length) (h ++ [.lst (bagL (ns.take 63) 0 0 5744 0)]) := by
  have e : wOpened ρ ⟨[.val (.rdl (ns.map .int))], h⟩ = .ok (.rt (.ref h.length)) ⟨[.val (.rdl (ns.map .int))], h ++ [.lst (bagL (ns.take 63) 0 0 5744 0)]⟩ := by
    have c : ∀ l : List D, cut l none (some 63) = l.take 63 := fun l => by
      unfold cut
      rw [HT.sIx_none, show (63 : Int) = ((63 : Nat) : Int) from rfl, HT.sIx_nat]
      simp
    simp [wOpened, slD, c, biD, listD, seqD, bagL, sizeLine]
  exact run_rt e rfl
def PullOk (ρ : Fns) : Prop := ∀ (h : List Ob) (b : Nat) (l : List D) (m : Int), h[b]? = some (.lst l) → BagL l → 0 < m → m < 1073741824 → ∃ d l', 0 ≤ d ∧ d < m ∧ BagL l' ∧ ρ "_law_pull" [.ref b, .int m] h = .ok (.int d) (h.set b (.lst l'))
/-- pulled from h: the bag alone has changed -/
def Pulled (b : Nat) (h h' : List Ob) : Prop := ∃ l', BagL l' ∧ h' = h.set b (.lst l')
def HasBag (h : List Ob) (b : Nat) : Prop := ∃ l, h[b]? = some (.lst l) ∧ BagL l
theorem Pulled.bag {b : Nat} {h h' : List Ob} (p : Pulled b h h') (B : HasBag h b) : HasBag h' b := by
  obtain ⟨l, hb, _⟩ := B
  obtain ⟨l', B', rfl⟩ := p
  have hl : b < h.length := by
    rcases Nat.lt_or_ge b h.length with q | q
    · exact q
    · rw [List.getElem?_eq_none q] at hb; cases hb
  exact ⟨l', List.getElem?_set_self hl, B'⟩
theorem Pulled.trans {b : Nat} {h h1 h2 : List Ob} (p : Pulled b h h1) (q : Pulled b h1 h2) : Pulled b h h2 := by
  obtain ⟨l, _, rfl⟩ := p
  obtain ⟨l', B, rfl⟩ := q
  exact ⟨l', B, List.set_set ..⟩
theorem Pulled.refl {b : Nat} {h : List Ob} (B : HasBag h b) : Pulled b h h := by
  obtain ⟨l, hb, B⟩ := B
  refine ⟨l, B, ?_⟩
  have hl : b < h.length := by
    rcases Nat.lt_or_ge b h.length with q | q
    · exact q
    · rw [List.getElem?_eq_none q] at hb; cases hb
  rw [List.getElem?_eq_getElem hl] at hb
  rw [← (Option.some.inj hb : h[b] = _)]
  exact (List.set_getElem_self hl).symm
theorem PullOk.go {ρ : Fns} (P : PullOk ρ) {h : List Ob} {b : Nat} {m : Int} (B : HasBag h b) (h0 : 0 < m) (h1 : m < 1073741824) : ∃ (d : Nat) (h' : List Ob), (d : Int) < m ∧ Pulled b h h' ∧ ρ "_law_pull" [.ref b, .int m] h = .ok (.int d) h' := by
  obtain ⟨l, hb, B⟩ := B
  obtain ⟨d, l', q1, q2, q3, q4⟩ := P h b l m hb B h0 h1
  refine ⟨d.toNat, _, by omega, ⟨l', q3, rfl⟩, ?_⟩
  rw [q4, Int.toNat_of_nonneg q1]
theorem PullOk.of {T : Txt} {e : Ent} {n : Nat} (h : T.ent "_law_pull" = some e) (h1 : e.N.length = 5) {tb : List (Str × Str)} (h2 : e.fb = wPull tb) : PullOk (T.rho (n + 1)) := fun hh b l m hb B h3 h4 => by
  have e2 : T.rho (n + 1) "_law_pull" = runD 5 (wPull tb) (T.rho n) := by
    show (match T.ent "_law_pull" with
        | some e => runD e.N.length e.fb (T.rho n)
        | none => fun _ _ => .bad) = _
    rw [h]
    show runD e.N.length e.fb (T.rho n) = _
    rw [h1, h2]
  rw [e2]
  exact pull_ok hb B h3 h4
theorem rho_run {T : Txt} {x : Str} {e : Ent} {n : Nat} (h : T.ent x = some e) : T.rho (n + 1) x = runD e.N.length e.fb (T.rho n) := by
  show (match T.ent x with
      | some e => runD e.N.length e.fb (T.rho n)
      | none => fun _ _ => .bad) = _
  rw [h]
def wAny : IS := (sSeq (sRet (iIx (iV 1) (iCall "_law_pull" [.ix 0, .ix 1] (aCons (iV 0) (aCons (iBi .len (aCons (iV 1) aNil)) aNil)) aNil)))
  sNx)
theorem at_nat {α : Type} {l : List α} {d : Nat} (h : d < l.length) : L2.atI l (d : Int) = some l[d] := by
  unfold L2.atI L2.ixN
  rw [if_pos (by omega), if_pos (by omega)]
  simp [h]
/-- one of the things -/
theorem any_str {ρ : Fns} (P : PullOk ρ) {h : List Ob} {b : Nat} {s : List Nat} (B : HasBag h b) (h0 : s ≠ []) (h1 : s.length < 1073741824) : ∃ c h', c ∈ s ∧ Pulled b h h' ∧ runD 2 wAny ρ [.ref b, .str s] h = .ok (.str [c]) h' := by
  have hp : 0 < s.length := List.length_pos_iff.mpr h0
  obtain ⟨d, h', q1, q2, q3⟩ := P.go (m := (s.length : Int)) B (by omega) (by omega)
  have hd : d < s.length := by omega
  refine ⟨s[d], h', List.getElem_mem hd, q2, ?_⟩
  have e : wAny ρ ⟨[.val (.ref b), .val (.str s)], h⟩ = .ok (.rt (.str [s[d]])) ⟨[.val (.ref b), .val (.str s)], h'⟩ := by
    simp [wAny, biD, lenD, permD, q3, ixD, at_nat hd]
  exact run_rt e rfl
theorem any_lst {ρ : Fns} (P : PullOk ρ) {h : List Ob} {b : Nat} {s : List D} (B : HasBag h b) (h0 : s ≠ []) (h1 : s.length < 1073741824) : ∃ c h', c ∈ s ∧ Pulled b h h' ∧ runD 2 wAny ρ [.ref b, .lst s] h = .ok c h' := by
  have hp : 0 < s.length := List.length_pos_iff.mpr h0
  obtain ⟨d, h', q1, q2, q3⟩ := P.go (m := (s.length : Int)) B (by omega) (by omega)
  have hd : d < s.length := by omega
  refine ⟨s[d], h', List.getElem_mem hd, q2, ?_⟩
  have e : wAny ρ ⟨[.val (.ref b), .val (.lst s)], h⟩ = .ok (.rt s[d]) ⟨[.val (.ref b), .val (.lst s)], h'⟩ := by
    simp [wAny, biD, lenD, permD, q3, ixD, seqD, at_nat hd]
  exact run_rt e rfl
theorem any_tup {ρ : Fns} (P : PullOk ρ) {h : List Ob} {b : Nat} {s : List D} (B : HasBag h b) (h0 : s ≠ []) (h1 : s.length < 1073741824) : ∃ c h', c ∈ s ∧ Pulled b h h' ∧ runD 2 wAny ρ [.ref b, .tup s] h = .ok c h' := by
  have hp : 0 < s.length := List.length_pos_iff.mpr h0
  obtain ⟨d, h', q1, q2, q3⟩ := P.go (m := (s.length : Int)) B (by omega) (by omega)
  have hd : d < s.length := by omega
  refine ⟨s[d], h', List.getElem_mem hd, q2, ?_⟩
  have e : wAny ρ ⟨[.val (.ref b), .val (.tup s)], h⟩ = .ok (.rt s[d]) ⟨[.val (.ref b), .val (.tup s)], h'⟩ := by
    simp [wAny, biD, lenD, permD, q3, ixD, seqD, at_nat hd]
  exact run_rt e rfl
end B
end
section
set_option Elab.async false
set_option linter.all false
set_option maxRecDepth 100000
set_option maxHeartbeats 4000000
namespace B
open PySem
section
variable (ρ : Fns) (s : S) (a b c : I) (l r : IL) (t u : IT) (p q : IS) (d e : D) (g : List Sl) (h : List Ob)
@[simp] theorem e_iAnd : iAnd a b ρ s = (a ρ s).bind fun x s => match truthD x with
  | some true => b ρ s
  | some false => .ok x s
  | none => .bad := rfl
@[simp] theorem e_iOr : iOr a b ρ s = (a ρ s).bind fun x s => match truthD x with
  | some true => .ok x s
  | some false => b ρ s
  | none => .bad := rfl
@[simp] theorem e_iNot : iNot a ρ s = (a ρ s).bind fun x s => lift ((truthD x).map fun b => .bl (!b)) s := rfl
@[simp] theorem e_Chain (o1 o2 : CmpOp) : iChain o1 o2 a b c ρ s = (a ρ s).bind fun x s => (b ρ s).bind fun y s => match cmpD o1 x y with
  | some true => (c ρ s).bind fun z s => lift ((cmpD o2 y z).map .bl) s
  | some false => .ok (.bl false) s
  | none => .bad := rfl
@[simp] theorem e_ChB (o1 o2 : CmpOp) : tChB o1 o2 a b c ρ s = (a ρ s).bind fun x s => (b ρ s).bind fun y s => match cmpD o1 x y with
  | some true => (c ρ s).bind fun z s => liftT (cmpD o2 y z) s
  | some false => .ok false s
  | none => .bad := rfl
@[simp] theorem e_gT (is : List Nat) (xs : List D) : gT is (.tup xs) s = gVs is xs s := rfl
@[simp] theorem e_gVs0 : gVs [] [] s = some s := rfl
@[simp] theorem e_gVs1 (i : Nat) (is : List Nat) (ds : List D) : gVs (i :: is) (d :: ds) ⟨g, h⟩ = gVs is ds ⟨g.set i (.val d), h⟩ := rfl
@[simp] theorem e_Mt (m : Mt) : iMt m a l ρ s = (a ρ s).bind fun x s => match mtOk m x with
  | true => (l ρ s).bind fun xs s => lift (mtD m x xs) s
  | false => .bad := rfl
@[simp] theorem e_wSeq : wSeq a ρ s = (a ρ s).bind fun x s => match x with
  | .str t => .ok (t.map fun c => .str [c]) s
  | .tup l => .ok l s
  | .lst l => .ok l s
  | _ => .bad := rfl
@[simp] theorem e_wZip : wZip l ρ s = (l ρ s).bind fun xs s => match xs with
  | [.lst l, .lst r] => .ok ((l.zip r).map pairD) s
  | [.tup l, .tup r] => .ok ((l.zip r).map pairD) s
  | _ => .bad := rfl
end
def cpOk (x : List Nat) : Bool := x.all fun c => decide (c < 1114112)
theorem eqOk_str {x : List Nat} (h : cpOk x = true) : eqOk (.str x) = true := by
  simp only [eqOk, isData, pd, SeqAt.shaped, PyData.canLay0, PyData.depth, PyData.strOk]
  simpa [cpOk] using h
theorem c_eqS {x y : List Nat} (hx : cpOk x = true) (hy : cpOk y = true) : cmpD .Eq (.str x) (.str y) = some (decide (x = y)) := by
  show (if eqOk (.str x) && eqOk (.str y) then some ((⟨x.toArray⟩ : Str) == ⟨y.toArray⟩) else none) = _
  rw [eqOk_str hx, eqOk_str hy]
  simp only [Bool.and_self, if_true]
  by_cases e : x = y
  · subst e
    simp
  · have : ((⟨x.toArray⟩ : Str) == ⟨y.toArray⟩) = false := by
      apply beq_eq_false_iff_ne.mpr
      intro z
      apply e
      have := congrArg (fun s : Str => s.cps.toList) z
      exact this
    rw [this]
    simp [e]
theorem o_eqS {tb : List (Str × Str)} {ρ : Fns} {s : S} {x y : List Nat} (hx : cpOk x = true) (hy : cpOk y = true) : eqOwn tb false ρ (.str x) (.str y) s = .ok (.bl (decide (x = y))) s := by
  show lift ((cmpD .Eq (.str x) (.str y)).map .bl) s = _
  rw [c_eqS hx hy]
  rfl
@[simp] theorem o_eqN {tb : List (Str × Str)} {ρ : Fns} {s : S} : eqOwn tb false ρ .non .non s = .ok (.bl true) s := rfl
@[simp] theorem i_non_int (h : List Ob) : biD .isi h [.non, .ty "int"] = some (.bl false) := rfl
@[simp] theorem i_non_bool (h : List Ob) : biD .isi h [.non, .ty "bool"] = some (.bl false) := rfl
@[simp] theorem i_non_str (h : List Ob) : biD .isi h [.non, .ty "str"] = some (.bl false) := rfl
@[simp] theorem i_non_list (h : List Ob) : biD .isi h [.non, .ty "list"] = some (.bl false) := rfl
@[simp] theorem i_non_tuple (h : List Ob) : biD .isi h [.non, .ty "tuple"] = some (.bl false) := rfl
@[simp] theorem i_non_lt (h : List Ob) : biD .isi h [.non, .tup [.ty "list", .ty "tuple"]] = some (.bl false) := rfl
@[simp] theorem i_bl_int (h : List Ob) (x : Bool) : biD .isi h [(.bl x), .ty "int"] = some (.bl true) := rfl
@[simp] theorem i_bl_bool (h : List Ob) (x : Bool) : biD .isi h [(.bl x), .ty "bool"] = some (.bl true) := rfl
@[simp] theorem i_bl_str (h : List Ob) (x : Bool) : biD .isi h [(.bl x), .ty "str"] = some (.bl false) := rfl
@[simp] theorem i_bl_list (h : List Ob) (x : Bool) : biD .isi h [(.bl x), .ty "list"] = some (.bl false) := rfl
@[simp] theorem i_bl_tuple (h : List Ob) (x : Bool) : biD .isi h [(.bl x), .ty "tuple"] = some (.bl false) := rfl
@[simp] theorem i_bl_lt (h : List Ob) (x : Bool) : biD .isi h [(.bl x), .tup [.ty "list", .ty "tuple"]] = some (.bl false) := rfl
@[simp] theorem i_int_int (h : List Ob) (x : Int) : biD .isi h [(.int x), .ty "int"] = some (.bl true) := rfl
@[simp] theorem i_int_bool (h : List Ob) (x : Int) : biD .isi h [(.int x), .ty "bool"] = some (.bl false) := rfl
@[simp] theorem i_int_str (h : List Ob) (x : Int) : biD .isi h [(.int x), .ty "str"] = some (.bl false) := rfl
@[simp] theorem i_int_list (h : List Ob) (x : Int) : biD .isi h [(.int x), .ty "list"] = some (.bl false) := rfl
@[simp] theorem i_int_tuple (h : List Ob) (x : Int) : biD .isi h [(.int x), .ty "tuple"] = some (.bl false) := rfl
@[simp] theorem i_int_lt (h : List Ob) (x : Int) : biD .isi h [(.int x), .tup [.ty "list", .ty "tuple"]] = some (.bl false) := rfl
@[simp] theorem i_str_int (h : List Ob) (x : List Nat) : biD .isi h [(.str x), .ty "int"] = some (.bl false) := rfl
@[simp] theorem i_str_bool (h : List Ob) (x : List Nat) : biD .isi h [(.str x), .ty "bool"] = some (.bl false) := rfl
@[simp] theorem i_str_str (h : List Ob) (x : List Nat) : biD .isi h [(.str x), .ty "str"] = some (.bl true) := rfl
@[simp] theorem i_str_list (h : List Ob) (x : List Nat) : biD .isi h [(.str x), .ty "list"] = some (.bl false) := rfl
@[simp] theorem i_str_tuple (h : List Ob) (x : List Nat) : biD .isi h [(.str x), .ty "tuple"] = some (.bl false) := rfl
@[simp] theorem i_str_lt (h : List Ob) (x : List Nat) : biD .isi h [(.str x), .tup [.ty "list", .ty "tuple"]] = some (.bl false) := rfl
@[simp] theorem i_tup_int (h : List Ob) (x : List D) : biD .isi h [(.tup x), .ty "int"] = some (.bl false) := rfl
@[simp] theorem i_tup_bool (h : List Ob) (x : List D) : biD .isi h [(.tup x), .ty "bool"] = some (.bl false) := rfl
@[simp] theorem i_tup_str (h : List Ob) (x : List D) : biD .isi h [(.tup x), .ty "str"] = some (.bl false) := rfl
@[simp] theorem i_tup_list (h : List Ob) (x : List D) : biD .isi h [(.tup x), .ty "list"] = some (.bl false) := rfl
@[simp] theorem i_tup_tuple (h : List Ob) (x : List D) : biD .isi h [(.tup x), .ty "tuple"] = some (.bl true) := rfl
@[simp] theorem i_tup_lt (h : List Ob) (x : List D) : biD .isi h [(.tup x), .tup [.ty "list", .ty "tuple"]] = some (.bl true) := rfl
@[simp] theorem i_lst_int (h : List Ob) (x : List D) : biD .isi h [(.lst x), .ty "int"] = some (.bl false) := rfl
@[simp] theorem i_lst_bool (h : List Ob) (x : List D) : biD .isi h [(.lst x), .ty "bool"] = some (.bl false) := rfl
@[simp] theorem i_lst_str (h : List Ob) (x : List D) : biD .isi h [(.lst x), .ty "str"] = some (.bl false) := rfl
@[simp] theorem i_lst_list (h : List Ob) (x : List D) : biD .isi h [(.lst x), .ty "list"] = some (.bl true) := rfl
@[simp] theorem i_lst_tuple (h : List Ob) (x : List D) : biD .isi h [(.lst x), .ty "tuple"] = some (.bl false) := rfl
@[simp] theorem i_lst_lt (h : List Ob) (x : List D) : biD .isi h [(.lst x), .tup [.ty "list", .ty "tuple"]] = some (.bl true) := rfl
@[simp] theorem n_non : cmpD .Is .non .non = some true := rfl
@[simp] theorem nn_non : cmpD .IsNot .non .non = some false := rfl
@[simp] theorem n_bl (x : Bool) : cmpD .Is (.bl x) .non = some false := rfl
@[simp] theorem nn_bl (x : Bool) : cmpD .IsNot (.bl x) .non = some true := rfl
@[simp] theorem n_int (x : Int) : cmpD .Is (.int x) .non = some false := rfl
@[simp] theorem nn_int (x : Int) : cmpD .IsNot (.int x) .non = some true := rfl
@[simp] theorem n_str (x : List Nat) : cmpD .Is (.str x) .non = some false := rfl
@[simp] theorem nn_str (x : List Nat) : cmpD .IsNot (.str x) .non = some true := rfl
@[simp] theorem n_tup (x : List D) : cmpD .Is (.tup x) .non = some false := rfl
@[simp] theorem nn_tup (x : List D) : cmpD .IsNot (.tup x) .non = some true := rfl
@[simp] theorem n_lst (x : List D) : cmpD .Is (.lst x) .non = some false := rfl
@[simp] theorem nn_lst (x : List D) : cmpD .IsNot (.lst x) .non = some true := rfl
@[simp] theorem k_list : ([D.ty "list", D.ty "tuple"] : List D).length ≤ sizeLine := by decide
theorem wRange_nat {l : IL} {ρ : Fns} {s s' : S} {n : Nat} (h : l ρ s = .ok [.int (n : Int)] s') (hn : n ≤ sizeLine) : wRange l ρ s = .ok ((List.range n).map fun (k : Nat) => D.int (k : Int)) s' := by
  show (l ρ s).bind (fun xs s => match xs with
    | [.int n] => if -(2 ^ 62) ≤ n ∧ n ≤ sizeLine then R.ok ((List.range n.toNat).map fun (k : Nat) => D.int (k : Int)) s else .bad
    | [.int i, .int j] => if (-(2 ^ 62) ≤ i ∧ i < 2 ^ 62 ∧ -(2 ^ 62) ≤ j ∧ j < 2 ^ 62) ∧ j - i ≤ sizeLine then .ok ((List.range (j - i).toNat).map fun (k : Nat) => D.int (i + (k : Int))) s else .bad
    | _ => .bad) = _
  rw [h, bind_ok]
  show (if -(2 ^ 62) ≤ (n : Int) ∧ (n : Int) ≤ sizeLine then R.ok ((List.range (n : Int).toNat).map fun (k : Nat) => D.int (k : Int)) s' else .bad) = _
  rw [if_pos ⟨by omega, by omega⟩, Int.toNat_natCast]
/-! ### alike -/
def wLike (tb : List (Str × Str)) : IS := (sSeq (sIf (tTru (iBi .isi (aCons (iV 1) (aCons (iTup (aCons (iC (.ty "list")) (aCons (iC (.ty "tuple")) aNil))) aNil)))) (sSeq (sIf (tOr (tEqO tb true (iBi .isi (aCons (iV 0) (aCons (iC (.ty "list")) aNil))) (iBi .isi (aCons (iV 1) (aCons (iC (.ty "list")) aNil)))) (tEqO tb true (iBi .isi (aCons (iV 0) (aCons (iC (.ty "tuple")) aNil))) (iBi .isi (aCons (iV 1) (aCons (iC (.ty "tuple")) aNil))))) (sSeq (sRet (iC (.bl false)))
  sNx) sNx)
  (sSeq (sRet (iAnd (iEqO tb false (iBi .len (aCons (iV 0) aNil)) (iBi .len (aCons (iV 1) aNil))) (iBi .all (aCons (iComp (wZip (aCons (iV 0) (aCons (iV 1) aNil))) (gT [2, 3]) tYes (iCall "_law_like" [.ix 0, .ix 1] (aCons (iV 2) (aCons (iV 3) aNil)) aNil) [2, 3]) aNil))))
  sNx)) sNx)
  (sSeq (sIf (tOr (tCmpB .Is (iV 1) (iC .non)) (tCmpB .Is (iV 0) (iC .non))) (sSeq (sRet (iAnd (iCmp .Is (iV 1) (iC .non)) (iCmp .Is (iV 0) (iC .non))))
  sNx) sNx)
  (sSeq (sIf (tOr (tEqO tb true (iBi .isi (aCons (iV 0) (aCons (iC (.ty "bool")) aNil))) (iBi .isi (aCons (iV 1) (aCons (iC (.ty "bool")) aNil)))) (tEqO tb true (iBi .isi (aCons (iV 0) (aCons (iC (.ty "int")) aNil))) (iBi .isi (aCons (iV 1) (aCons (iC (.ty "int")) aNil))))) (sSeq (sRet (iC (.bl false)))
  sNx) sNx)
  (sSeq (sRet (iAnd (iEqO tb false (iBi .isi (aCons (iV 0) (aCons (iC (.ty "str")) aNil))) (iBi .isi (aCons (iV 1) (aCons (iC (.ty "str")) aNil)))) (iEqO tb false (iV 0) (iV 1))))
  sNx))))
/-- trees of plain values, at most n deep -/
def okD : Nat → D → Bool
  | _, .non => true
  | _, .bl _ => true
  | _, .int _ => true
  | _, .str s => cpOk s
  | n + 1, .lst l => l.all (okD n)
  | n + 1, .tup l => l.all (okD n)
  | _, _ => false
theorem all_true {α : Type} (l : List α) : bools (l.map fun _ => D.bl true) = some (l.map fun _ => true) := by
  induction l with
  | nil => rfl
  | cons a l ih => simp [bools, ih]
theorem like_step {ρ : Fns} {h : List Ob} {n : Nat} (ih : ∀ d, okD n d = true → ρ "_law_like" [d, d] h = .ok (.bl true) h) (l : List D) (hl : l.all (okD n) = true) (z : D) (g : List Sl) (hg : g = [.val z, .val z, .no, .no]) (hw : (aCons (iV 0) (aCons (iV 1) aNil)) ρ ⟨g, h⟩ = .ok [z, z] ⟨g, h⟩) (hz : z = .lst l ∨ z = .tup l) :
    iComp (wZip (aCons (iV 0) (aCons (iV 1) aNil))) (gT [2, 3]) tYes (iCall "_law_like" [.ix 0, .ix 1] (aCons (iV 2) (aCons (iV 3) aNil)) aNil) [2, 3] ρ ⟨g, h⟩ = .ok (.lst (((l.zip l).map pairD).map fun _ => .bl true)) ⟨g, h⟩ := by
  have w : wZip (aCons (iV 0) (aCons (iV 1) aNil)) ρ ⟨g, h⟩ = .ok ((l.zip l).map pairD) ⟨g, h⟩ := by
    rw [e_wZip, hw, bind_ok]
    rcases hz with rfl | rfl <;> rfl
  subst hg
  refine i_map (f := fun _ => .bl true) w (fun d hd => ?_) rfl
  obtain ⟨⟨x, y⟩, hp, rfl⟩ := List.mem_map.mp hd
  have hxy : x = y ∧ x ∈ l := by
    have : ∀ (l : List D), (x, y) ∈ l.zip l → x = y ∧ x ∈ l := fun l => by
      induction l with
      | nil => intro z; cases z
      | cons a l ih =>
        intro z
        rw [List.zip_cons_cons] at z
        rcases List.mem_cons.mp z with e | z
        · cases e; exact ⟨rfl, List.mem_cons_self⟩
        · exact ⟨(ih z).1, List.mem_cons_of_mem _ (ih z).2⟩
    exact this l hp
  obtain ⟨rfl, hx⟩ := hxy
  have hx' := ih x (List.all_eq_true.mp hl x hx)
  refine ⟨⟨[.val z, .val z, .val x, .val x], h⟩, ⟨[.val z, .val z, .val x, .val x], h⟩, rfl, ?_, rfl, rfl⟩
  simp [permD, hx']
theorem like_ok {T : Txt} {e : Ent} (he : T.ent "_law_like" = some e) (h1 : e.N.length = 4) {tb : List (Str × Str)} (h2 : e.fb = wLike tb) : ∀ (n : Nat) (d : D) (h : List Ob), okD n d = true → T.rho (n + 1) "_law_like" [d, d] h = .ok (.bl true) h := fun n => by
  have lst2 : (2 : Nat) ≤ sizeLine := by decide
  have flat : ∀ (ρ : Fns) (d : D) (h : List Ob), okD 0 d = true → runD 4 (wLike tb) ρ [d, d] h = .ok (.bl true) h := fun ρ d h hd => by
    cases d <;> first | (cases hd; done) | skip
    · exact run_rt (g := [.val .non, .val .non, .no, .no]) (g' := [.val .non, .val .non, .no, .no]) (by simp [wLike, lst2]) rfl
    · rename_i b
      exact run_rt (g := [.val (.bl b), .val (.bl b), .no, .no]) (g' := [.val (.bl b), .val (.bl b), .no, .no]) (by simp [wLike, lst2]) rfl
    · rename_i b
      exact run_rt (g := [.val (.int b), .val (.int b), .no, .no]) (g' := [.val (.int b), .val (.int b), .no, .no]) (by simp [wLike, lst2]) rfl
    · rename_i b
      have hb : cpOk b = true := hd
      exact run_rt (g := [.val (.str b), .val (.str b), .no, .no]) (g' := [.val (.str b), .val (.str b), .no, .no]) (by simp [wLike, lst2, o_eqS hb hb]) rfl
  induction n with
  | zero =>
    intro d h hd
    rw [rho_run he, h1, h2]
    exact flat _ d h hd
  | succ n ih =>
    intro d h hd
    rw [rho_run he, h1, h2]
    have al : ∀ (h : List Ob) (l : List D), biD .all h [.lst (((l.zip l).map pairD).map fun _ => D.bl true)] = some (.bl true) := fun h l => by
      show (bools (((l.zip l).map pairD).map fun _ => D.bl true)).map (fun bs => D.bl (bs.all id)) = _
      rw [all_true]
      simp
    cases d <;> first | exact flat _ _ h rfl | exact flat _ _ h hd | (cases hd; done) | skip
    · rename_i l
      have c := like_step (ρ := T.rho (n + 1)) (h := h) (fun d hd => ih d h hd) l hd (.tup l) _ rfl (by simp) (.inr rfl)
      refine run_rt (g := [.val (.tup l), .val (.tup l), .no, .no]) (g' := [.val (.tup l), .val (.tup l), .no, .no]) ?_ rfl
      have ll : ∀ h, biD .len h [.tup l] = some (.int l.length) := fun _ => rfl
      simp only [wLike, e_Seq, e_sIf, e_Tru, e_Bi, e_aCons, e_aNil, e_V, e_Tup, e_C, bind_ok, List.getElem?_cons_zero, List.getElem?_cons_succ, List.length_cons, List.length_nil, lst2, if_true, lift_some, i_tup_lt, t_bl, liftT_some, e_Or, e_EqT, o_neB, i_tup_list, i_tup_tuple, c_neB, e_sNx, e_Ret, e_iAnd, e_EqO, ll, o_eq, c, al, Bool.not_true, beq_self_eq_true, decide_true]
    · rename_i l
      have c := like_step (ρ := T.rho (n + 1)) (h := h) (fun d hd => ih d h hd) l hd (.lst l) _ rfl (by simp) (.inl rfl)
      refine run_rt (g := [.val (.lst l), .val (.lst l), .no, .no]) (g' := [.val (.lst l), .val (.lst l), .no, .no]) ?_ rfl
      have ll : ∀ h, biD .len h [.lst l] = some (.int l.length) := fun _ => rfl
      simp only [wLike, e_Seq, e_sIf, e_Tru, e_Bi, e_aCons, e_aNil, e_V, e_Tup, e_C, bind_ok, List.getElem?_cons_zero, List.getElem?_cons_succ, List.length_cons, List.length_nil, lst2, if_true, lift_some, i_lst_lt, t_bl, liftT_some, e_Or, e_EqT, o_neB, i_lst_list, i_lst_tuple, c_neB, e_sNx, e_Ret, e_iAnd, e_EqO, ll, o_eq, c, al, Bool.not_true, beq_self_eq_true, decide_true]
end B
end
section
set_option Elab.async false
set_option linter.all false
set_option maxRecDepth 100000
set_option maxHeartbeats 4000000
namespace B
open PySem
def LET : List Nat := [97, 98, 99, 100, 101, 102, 103, 104, 105, 106, 107, 108, 109, 110, 111, 112, 113, 114, 115, 116, 117, 118, 119, 120, 121, 122]
def RES : List (List Nat) := [[116, 114, 117, 101], [110, 111, 116], [97, 110, 100], [111, 114], [102, 114, 111, 109], [116, 111], [105, 102], [101, 108, 115, 101], [101, 110, 100], [102, 97, 105, 108], [114, 101, 116, 117, 114, 110], [99, 97, 108, 108], [110, 101, 119], [99, 117, 116], [116, 105, 101], [115, 101, 116], [99, 108, 101, 97, 114], [100, 114, 111, 112], [115, 99, 114, 105, 112, 116], [114, 117, 108, 101], [103, 114, 97, 112, 104], [110, 111, 100, 101], [108, 105, 110, 107], [102, 108, 97, 103, 115], [108, 105, 110, 107, 115]]
/-- a name as the program takes it -/
structure IsN (w : List Nat) : Prop where
  pos : 1 ≤ w.length
  le : w.length ≤ 8
  res : w ∉ RES
  let_ : ∀ c ∈ w, c ∈ LET
def wNames : IS := (sSeq (sAsg (iC (.str [97, 98, 99, 100, 101, 102, 103, 104, 105, 106, 107, 108, 109, 110, 111, 112, 113, 114, 115, 116, 117, 118, 119, 120, 121, 122])) (gV 2))
  (sSeq (sAsg (iMt .join (iC (.str [])) (aCons (iComp (wRange (aCons (iCall "_law_pull" [.ix 0, .ix 1] (aCons (iV 0) (aCons (iC (.int 7)) aNil)) aNil) aNil)) (gV 4) tYes (iCall "_law_any" [.ix 0, .ix 1] (aCons (iV 0) (aCons (iV 2) aNil)) aNil) [4]) aNil)) (gV 3))
  (sSeq (sAsg (iTup (aCons (iCall "_law_pull" [.ix 0, .ix 1] (aCons (iV 0) (aCons (iBin .Add (iBi .len (aCons (iV 3) aNil)) (iC (.int 1))) aNil)) aNil) (aCons (iCall "_law_pull" [.ix 0, .ix 1] (aCons (iV 0) (aCons (iC (.int 26)) aNil)) aNil) aNil))) (gT [5, 6]))
  (sSeq (sAsg (iComp (wRange (aCons (iV 1) aNil)) (gV 4) tYes (iBin .Add (iBin .Add (iSl (iV 3) pNo (pInt (iV 5))) (iIx (iV 2) (iBin .Mod (iBi .int (aCons (iBin .Add (iV 6) (iBin .Mult (iC (.int 5)) (iV 4))) aNil)) (iC (.int 26))))) (iSl (iV 3) (pInt (iV 5)) pNo)) [4]) (gV 7))
  (sSeq (sAsg (iLst (aCons (iC (.str [116, 114, 117, 101])) (aCons (iC (.str [110, 111, 116])) (aCons (iC (.str [97, 110, 100])) (aCons (iC (.str [111, 114])) (aCons (iC (.str [102, 114, 111, 109])) (aCons (iC (.str [116, 111])) (aCons (iC (.str [105, 102])) (aCons (iC (.str [101, 108, 115, 101])) (aCons (iC (.str [101, 110, 100])) (aCons (iC (.str [102, 97, 105, 108])) (aCons (iC (.str [114, 101, 116, 117, 114, 110])) (aCons (iC (.str [99, 97, 108, 108])) (aCons (iC (.str [110, 101, 119])) (aCons (iC (.str [99, 117, 116])) (aCons (iC (.str [116, 105, 101])) aNil)))))))))))))))) (gV 8))
  (sSeq (sAsg (iBin .Add (iV 8) (iLst (aCons (iC (.str [115, 101, 116])) (aCons (iC (.str [99, 108, 101, 97, 114])) (aCons (iC (.str [100, 114, 111, 112])) (aCons (iC (.str [115, 99, 114, 105, 112, 116])) (aCons (iC (.str [114, 117, 108, 101])) (aCons (iC (.str [103, 114, 97, 112, 104])) (aCons (iC (.str [110, 111, 100, 101])) (aCons (iC (.str [108, 105, 110, 107])) (aCons (iC (.str [102, 108, 97, 103, 115])) (aCons (iC (.str [108, 105, 110, 107, 115])) aNil)))))))))))) (gV 8))
  (sSeq (sRet (iComp (wSeq (iV 7)) (gV 9) tYes (iIf (tCmpB .In (iV 9) (iV 8)) (iBin .Add (iV 9) (iC (.str [120]))) (iV 9)) [9]))
  sNx)))))))
def AnyOk (ρ : Fns) : Prop := ∀ (h : List Ob) (b : Nat) (s : List Nat), HasBag h b → s ≠ [] → s.length < 1073741824 → ∃ c h', c ∈ s ∧ Pulled b h h' ∧ ρ "_law_any" [.ref b, .str s] h = .ok (.str [c]) h'
theorem AnyOk.of {T : Txt} {e : Ent} {n : Nat} (P : PullOk (T.rho n)) (h : T.ent "_law_any" = some e) (h1 : e.N.length = 2) (h2 : e.fb = wAny) : AnyOk (T.rho (n + 1)) := fun hh b s B h3 h4 => by
  rw [rho_run h, h1, h2]
  exact any_str P B h3 h4
/-- the words' parts -/
def stem (P : IS) : IS := P
theorem join_one : ∀ {ys : List D}, (∀ y ∈ ys, ∃ c ∈ LET, y = .str [c]) → ∃ s : List Nat, strL ys = some (s.map fun c => [c]) ∧ s.length = ys.length ∧ ∀ c ∈ s, c ∈ LET
  | [], _ => ⟨[], rfl, rfl, fun c h => absurd h (List.not_mem_nil)⟩
  | y :: ys, h => by
    obtain ⟨c, hc, rfl⟩ := h y List.mem_cons_self
    obtain ⟨s, h1, h2, h3⟩ := join_one fun y hy => h y (List.mem_cons_of_mem _ hy)
    refine ⟨c :: s, ?_, by simp [h2], fun d hd => ?_⟩
    · show (strL ys).map ([c] :: ·) = _
      rw [h1]
      rfl
    · rcases List.mem_cons.mp hd with rfl | hd
      · exact hc
      · exact h3 d hd
theorem joinL_one : ∀ s : List Nat, TL.joinL [] (s.map fun c => [c]) = s
  | [] => rfl
  | [c] => rfl
  | c :: d :: s => by
    have := joinL_one (d :: s)
    show [c] ++ ([] ++ TL.joinL [] ((d :: s).map fun c => [c])) = _
    rw [this]
    rfl
theorem join_ok {s : List Nat} {ys : List D} (h : strL ys = some (s.map fun c => [c])) (hl : s.length ≤ 1000) : mtD .join (.str []) [.lst ys] = some (.str s) := by
  show (strL ys).bind (fun ys => if (ys.map (·.length)).sum + ys.length * ([] : List Nat).length ≤ 16777216 then some (D.str (TL.joinL [] ys)) else none) = _
  rw [h]
  show (if ((s.map fun c => [c]).map (·.length)).sum + (s.map fun c => [c]).length * ([] : List Nat).length ≤ 16777216 then some (D.str (TL.joinL [] (s.map fun c => [c]))) else none) = _
  have e : ((s.map fun c => [c]).map (·.length)).sum = s.length := by
    rw [List.map_map]
    show (s.map fun _ => 1).sum = _
    clear hl h
    induction s with
    | nil => rfl
    | cons a s ih => simp [ih]; omega
  rw [e, if_pos (by simp; omega), joinL_one]
theorem slice_to (s : List Nat) (n : Nat) (h : List Ob) : slD h (.str s) none (some (n : Int)) = some (.str (s.take n)) := by
  show some (D.str (cut s none (some (n : Int)))) = _
  unfold cut
  rw [HT.sIx_none, HT.sIx_nat]
  simp
theorem slice_from (s : List Nat) (n : Nat) (h : List Ob) : slD h (.str s) (some (n : Int)) none = some (.str (s.drop n)) := by
  show some (D.str (cut s (some (n : Int)) none)) = _
  unfold cut
  rw [HT.sIx_none, HT.sIx_nat]
  by_cases hn : n ≤ s.length
  · rw [Nat.min_eq_left hn, List.take_of_length_le (by simp)]
  · rw [Nat.min_eq_right (by omega), List.drop_length, List.drop_of_length_le (by omega)]
    simp
theorem b_addS {a b : List Nat} (h : a.length + b.length ≤ 1000000) : binD .Add (.str a) (.str b) = some (.str (a ++ b)) := by
  show (if a.length + b.length ≤ sizeLine then some (D.str (a ++ b)) else none) = _
  rw [if_pos (Nat.le_trans h (by decide))]
/-- one found name -/
def found (st : List Nat) (at_ first k : Nat) : List Nat := st.take at_ ++ [LET.getD ((first + 5 * k) % 26) 0] ++ st.drop at_
def fixN (w : List Nat) : List Nat := if w ∈ RES then w ++ [120] else w
theorem in_res (w : List Nat) : cmpD .In (.str w) (.lst (RES.map .str)) = some (decide (w ∈ RES)) := by
  show (if flatD (.str w) && (RES.map D.str).all flatD then some ((RES.map D.str).any fun z => eqF z (.str w)) else none) = _
  rw [if_pos (show (flatD (.str w) && (RES.map D.str).all flatD) = true from rfl)]
  rw [List.any_map]
  congr 1
  rw [Bool.eq_iff_iff, List.any_eq_true, decide_eq_true_iff]
  constructor
  · rintro ⟨x, hx, e⟩
    have : x = w := eq_of_beq e
    rw [← this]; exact hx
  · intro hx
    exact ⟨w, hx, beq_self_eq_true w⟩
theorem isN_fix {w : List Nat} (h1 : 1 ≤ w.length) (h2 : w.length ≤ 7) (h3 : ∀ c ∈ w, c ∈ LET) : IsN (fixN w) := by
  unfold fixN
  split
  · rename_i h
    refine ⟨by simp, by simp; omega, ?_, fun c hc => ?_⟩
    · have : ∀ w ∈ RES, w ++ [120] ∉ RES := by decide
      exact this w h
    · rcases List.mem_append.mp hc with hc | hc
      · exact h3 c hc
      · rw [List.mem_singleton.mp hc]; decide
  · rename_i h
    exact ⟨h1, by omega, h, h3⟩
structure Named (ws : List (List Nat)) (n : Nat) : Prop where
  len : ws.length = n
  ok : ∀ w ∈ ws, IsN w
  nd : ws.Nodup
theorem let_inj : ∀ i < 26, ∀ j < 26, LET.getD i 0 = LET.getD j 0 → i = j := by decide
theorem let_mem : ∀ i < 26, LET.getD i 0 ∈ LET := by decide
theorem five_inj (f i j : Nat) (hi : i < 26) (hj : j < 26) (h : (f + 5 * i) % 26 = (f + 5 * j) % 26) : i = j := by omega
theorem found_len {st : List Nat} {at_ first k : Nat} (h : at_ ≤ st.length) : (found st at_ first k).length = st.length + 1 := by
  unfold found
  simp
  omega
theorem found_inj {st : List Nat} {at_ first i j : Nat} (h : at_ ≤ st.length) (hi : i < 26) (hj : j < 26) (e : found st at_ first i = found st at_ first j) : i = j := by
  unfold found at e
  have e := List.append_cancel_right e
  have e := List.append_cancel_left e
  have e := (List.cons.inj e).1
  exact five_inj first i j hi hj (let_inj _ (Nat.mod_lt _ (by decide)) _ (Nat.mod_lt _ (by decide)) e)
theorem fix_inj {v w : List Nat} (hl : v.length = w.length) (e : fixN v = fixN w) : v = w := by
  unfold fixN at e
  split at e <;> split at e
  · exact List.append_cancel_right e
  · have := congrArg List.length e; simp at this; omega
  · have := congrArg List.length e; simp at this; omega
  · exact e
theorem named {st : List Nat} {at_ first n : Nat} (hs : st.length ≤ 6) (ha : at_ ≤ st.length) (hn : n ≤ 26) (hl : ∀ c ∈ st, c ∈ LET) : Named ((List.range n).map fun k => fixN (found st at_ first k)) n := by
  refine ⟨by simp, fun w hw => ?_, ?_⟩
  · obtain ⟨k, hk, rfl⟩ := List.mem_map.mp hw
    refine isN_fix (by rw [found_len ha]; omega) (by rw [found_len ha]; omega) fun c hc => ?_
    unfold found at hc
    rcases List.mem_append.mp hc with hc | hc
    · rcases List.mem_append.mp hc with hc | hc
      · exact hl c (List.mem_of_mem_take hc)
      · rw [List.mem_singleton.mp hc]; exact let_mem _ (Nat.mod_lt _ (by decide))
    · exact hl c (List.mem_of_mem_drop hc)
  · refine List.pairwise_map.mpr ?_
    refine List.Pairwise.imp_of_mem (fun {a b} ha' hb' hab => ?_) (List.nodup_range (n := n))
    intro e
    rw [List.mem_range] at ha' hb'
    exact hab (found_inj ha (by omega) (by omega) (fix_inj (by rw [found_len ha, found_len ha]) e))
def NamesOk (ρ : Fns) : Prop := ∀ (h : List Ob) (b n : Nat), HasBag h b → n ≤ 26 → ∃ ws h', Named ws n ∧ Pulled b h h' ∧ ρ "_law_names" [.ref b, .int (n : Int)] h = .ok (.lst (ws.map .str)) h'
theorem names_ok {ρ : Fns} (P : PullOk ρ) (A : AnyOk ρ) {h : List Ob} {b n : Nat} (B : HasBag h b) (hn : n ≤ 26) : ∃ ws h', Named ws n ∧ Pulled b h h' ∧ runD 10 wNames ρ [.ref b, .int (n : Int)] h = .ok (.lst (ws.map .str)) h' := by
  have n7 : (7 : Int) < 1073741824 := by decide
  obtain ⟨d, h1, d7, p1, e1⟩ := P.go (m := 7) B (by decide) n7
  have d7 : d < 7 := by omega
  have B1 := p1.bag B
  have sz : ∀ k : Nat, k ≤ 1000 → k ≤ sizeLine := fun k hk => Nat.le_trans hk (by decide)
  -- the stem
  obtain ⟨ys, h2, p2, q2, e2⟩ := i_comp (P := fun h' => Pulled b h h') (Q := fun _ y => ∃ c ∈ LET, y = D.str [c]) (ρ := ρ) (g := [.val (.ref b), .val (.int n), .val (.str LET), .no, .no, .no, .no, .no, .no, .no]) (h := h) (h1 := h1) (vs := [4]) (k := gV 4)
    (w := wRange (aCons (iCall "_law_pull" [.ix 0, .ix 1] (aCons (iV 0) (aCons (iC (.int 7)) aNil)) aNil) aNil)) (e := iCall "_law_any" [.ix 0, .ix 1] (aCons (iV 0) (aCons (iV 2) aNil)) aNil)
    (wRange_nat (n := d) (by simp [permD, e1]) (sz d (by omega))) p1 (fun x hx h' ph => by
      obtain ⟨c, h3, hc, p3, e3⟩ := A h' b LET (ph.bag B) (by decide) (by decide)
      refine ⟨_, _, ⟨[.val (.ref b), .val (.int n), .val (.str LET), .no, .val x, .no, .no, .no, .no, .no], h3⟩, rfl, ?_, rfl, ph.trans p3, c, hc, rfl⟩
      simp [permD, e3, wipeS]) rfl
  obtain ⟨st, j1, j2, j3⟩ := join_one (ys := ys) (fun y hy => by
    have : ∀ {ds ys : List D}, F2 (fun _ y => ∃ c ∈ LET, y = D.str [c]) ds ys → ∀ y ∈ ys, ∃ c ∈ LET, y = D.str [c] := fun q => by
      induction q with
      | nil => intro y hy; cases hy
      | cons a _ ih =>
        intro y hy
        rcases List.mem_cons.mp hy with rfl | hy
        · exact a
        · exact ih y hy
    exact this q2 y hy)
  have jl : st.length ≤ 6 := by
    have := q2.length
    rw [List.length_map, List.length_range] at this
    omega
  have B2 := p2.bag B
  obtain ⟨at_, h3, a7, p3, e3⟩ := P.go (m := (st.length : Int) + 1) B2 (by omega) (by omega)
  have B3 := p3.bag B2
  obtain ⟨fi, h4, f7, p4, e4⟩ := P.go (m := 26) B3 (by decide) (by decide)
  have ha : at_ ≤ st.length := by omega
  refine ⟨_, h4, named jl ha hn j3 (first := fi), (p2.trans p3).trans p4, ?_⟩
  obtain ⟨g0, hg0⟩ : ∃ g0 : List Sl, g0 = [.val (.ref b), .val (.int n), .no, .no, .no, .no, .no, .no, .no, .no] := ⟨_, rfl⟩
  refine run_rt (g' := [.val (.ref b), .val (.int n), .val (.str LET), .val (.str st), .no, .val (.int at_), .val (.int fi), .val (.lst ((List.range n).map fun k => .str (found st at_ fi k))), .val (.lst (RES.map .str)), .no]) ?_ rfl
  unfold wNames
  refine (seq_nx (s' := ⟨[.val (.ref b), .val (.int n), .val (.str LET), .no, .no, .no, .no, .no, .no, .no], h⟩) rfl).trans ?_
  refine (seq_nx (s' := ⟨[.val (.ref b), .val (.int n), .val (.str LET), .val (.str st), .no, .no, .no, .no, .no, .no], h2⟩) ?_).trans ?_
  · rw [e_Asg, e_Mt, e_C, bind_ok]
    show ((aCons _ aNil ρ _).bind fun xs s => lift (mtD .join (.str []) xs) s).bind _ = _
    rw [e_aCons, e2]
    simp [join_ok j1 (by omega)]
  refine (seq_nx (s' := ⟨[.val (.ref b), .val (.int n), .val (.str LET), .val (.str st), .no, .val (.int at_), .val (.int fi), .no, .no, .no], h4⟩) ?_).trans ?_
  · have ln : ∀ h, biD .len h [.str st] = some (.int st.length) := fun _ => rfl
    simp [permD, ln, e3, e4, sz 2 (by omega)]
  refine (seq_nx (s' := ⟨[.val (.ref b), .val (.int n), .val (.str LET), .val (.str st), .no, .val (.int at_), .val (.int fi), .val (.lst ((List.range n).map fun k => .str (found st at_ fi k))), .no, .no], h4⟩) ?_).trans ?_
  · have c := i_map (f := fun x => match x with | .int k => .str (found st at_ fi k.toNat) | _ => .non) (ρ := ρ) (g := [.val (.ref b), .val (.int n), .val (.str LET), .val (.str st), .no, .val (.int at_), .val (.int fi), .no, .no, .no]) (h := h4) (h1 := h4) (vs := [4]) (k := gV 4)
      (w := wRange (aCons (iV 1) aNil)) (e := iBin .Add (iBin .Add (iSl (iV 3) pNo (pInt (iV 5))) (iIx (iV 2) (iBin .Mod (iBi .int (aCons (iBin .Add (iV 6) (iBin .Mult (iC (.int 5)) (iV 4))) aNil)) (iC (.int 26))))) (iSl (iV 3) (pInt (iV 5)) pNo))
      (wRange_nat (n := n) (by simp) (sz n (by omega))) (fun x hx => by
        obtain ⟨k, hk, rfl⟩ := List.mem_map.mp hx
        refine ⟨_, ⟨[.val (.ref b), .val (.int n), .val (.str LET), .val (.str st), .val (.int k), .val (.int at_), .val (.int fi), .no, .no, .no], h4⟩, rfl, ?_, rfl, rfl⟩
        have m1 : binD .Mult (.int 5) (.int (k : Int)) = some (.int (5 * (k : Int))) := b_mul (by omega)
        have m2 : ∀ q : Int, binD .Mod (.int q) (.int 26) = some (.int (q % 26)) := fun q => b_mod (by omega)
        have m3 : ixD h4 (.str LET) (.int (((fi : Int) + 5 * (k : Int)) % 26)) = some (.str [LET.getD ((fi + 5 * k) % 26) 0]) := by
          have e : ((fi : Int) + 5 * (k : Int)) % 26 = (((fi + 5 * k) % 26 : Nat) : Int) := by omega
          have hlt : (fi + 5 * k) % 26 < LET.length := Nat.mod_lt _ (by decide)
          rw [e]
          show (L2.atI LET _).map _ = _
          rw [at_nat hlt, List.getD_eq_getElem?_getD, List.getElem?_eq_getElem hlt]
          rfl
        have a1 : binD .Add (.str (st.take at_)) (.str [LET.getD ((fi + 5 * k) % 26) 0]) = some (.str (st.take at_ ++ [LET.getD ((fi + 5 * k) % 26) 0])) := b_addS (by simp; omega)
        have a2 : binD .Add (.str (st.take at_ ++ [LET.getD ((fi + 5 * k) % 26) 0])) (.str (st.drop at_)) = some (.str (found st at_ fi k)) := b_addS (by simp; omega)
        simp [wipeS, slice_to, slice_from, m1, m2, m3, a1, a2, -List.getD_eq_getElem?_getD]) rfl
    rw [e_Asg, c, bind_ok]
    simp [List.map_map, Function.comp_def]
  refine (seq_nx (s' := ⟨[.val (.ref b), .val (.int n), .val (.str LET), .val (.str st), .no, .val (.int at_), .val (.int fi), .val (.lst ((List.range n).map fun k => .str (found st at_ fi k))), .val (.lst ((RES.take 15).map .str)), .no], h4⟩) ?_).trans ?_
  · simp [RES, sizeLine]
  refine (seq_nx (s' := ⟨[.val (.ref b), .val (.int n), .val (.str LET), .val (.str st), .no, .val (.int at_), .val (.int fi), .val (.lst ((List.range n).map fun k => .str (found st at_ fi k))), .val (.lst (RES.map .str)), .no], h4⟩) ?_).trans ?_
  · simp [RES, sizeLine, binD]
  refine seq_rt ?_
  have c := i_map (f := fun x => match x with | .str k => .str (fixN k) | _ => .non) (ρ := ρ) (g := [.val (.ref b), .val (.int n), .val (.str LET), .val (.str st), .no, .val (.int at_), .val (.int fi), .val (.lst ((List.range n).map fun k => .str (found st at_ fi k))), .val (.lst (RES.map .str)), .no]) (h := h4) (h1 := h4) (vs := [9]) (k := gV 9)
      (w := wSeq (iV 7)) (e := iIf (tCmpB .In (iV 9) (iV 8)) (iBin .Add (iV 9) (iC (.str [120]))) (iV 9)) (ds := (List.range n).map fun k => .str (found st at_ fi k)) (by simp) (fun x hx => by
        obtain ⟨k, hk, rfl⟩ := List.mem_map.mp hx
        refine ⟨_, ⟨[.val (.ref b), .val (.int n), .val (.str LET), .val (.str st), .no, .val (.int at_), .val (.int fi), .val (.lst ((List.range n).map fun k => .str (found st at_ fi k))), .val (.lst (RES.map .str)), .val (.str (found st at_ fi k))], h4⟩, rfl, ?_, rfl, rfl⟩
        have fl := found_len (first := fi) (k := k) ha
        have a1 : binD .Add (.str (found st at_ fi k)) (.str [120]) = some (.str (found st at_ fi k ++ [120])) := b_addS (by rw [fl]; simp; omega)
        by_cases hr : found st at_ fi k ∈ RES
        · simp [wipeS, in_res, hr, a1, fixN]
        · simp [wipeS, in_res, hr, fixN]) rfl
  rw [e_Ret, c, bind_ok]
  simp [List.map_map, Function.comp_def]
theorem NamesOk.of {T : Txt} {e : Ent} {n : Nat} (P : PullOk (T.rho n)) (A : AnyOk (T.rho n)) (h : T.ent "_law_names" = some e) (h1 : e.N.length = 10) (h2 : e.fb = wNames) : NamesOk (T.rho (n + 1)) := fun hh b n B hn => by
  rw [rho_run h, h1, h2]
  exact names_ok P A B hn
end B
end
section
set_option Elab.async false
set_option linter.all false
set_option maxRecDepth 100000
set_option maxHeartbeats 4000000
/-! running a body statement by statement -/
namespace B
open PySem
/-- the body ends, and so -/
def Runs (b : IS) (ρ : Fns) (s : S) (P : Fl → S → Prop) : Prop := ∃ f s', b ρ s = .ok f s' ∧ P f s'
/-- the def answers, and so -/
def Does (r : Rf) (Q : D → List Ob → Prop) : Prop := ∃ d h', r = .ok d h' ∧ Q d h'
def EndP (Q : D → List Ob → Prop) : Fl → S → Prop
  | .nx, s => Q .non s.h
  | .rt d, s => Q d s.h
  | _, _ => False
theorem Does.imp {r : Rf} {Q Q' : D → List Ob → Prop} (h : Does r Q) (i : ∀ d h', Q d h' → Q' d h') : Does r Q' := let ⟨d, h', e, q⟩ := h; ⟨d, h', e, i d h' q⟩
theorem Does.eq {r : Rf} {d : D} {h' : List Ob} (h : Does r fun x y => x = d ∧ y = h') : r = .ok d h' := by
  obtain ⟨_, _, e, rfl, rfl⟩ := h
  exact e
theorem Does.of {r : Rf} {d : D} {h' : List Ob} {Q : D → List Ob → Prop} (e : r = .ok d h') (q : Q d h') : Does r Q := ⟨d, h', e, q⟩
section
variable {n : Nat} {b p q r : IS} {ρ : Fns} {ds : List D} {g g' : List Sl} {h h' : List Ob} {P P' : Fl → S → Prop} {Q : D → List Ob → Prop} {e e2 : I} {t : IT} {v v2 : D} {i j : Nat} {x : Bool} {s s1 : S}
theorem run_does (hg : ds.map .val ++ List.replicate (n - ds.length) .no = g) (hr : Runs b ρ ⟨g, h⟩ (EndP Q)) : Does (runD n b ρ ds h) Q := by
  obtain ⟨f, s', e, q⟩ := hr
  unfold runD
  rw [hg, e]
  cases f with
  | nx => exact ⟨_, _, rfl, q⟩
  | rt d => exact ⟨_, _, rfl, q⟩
  | bk => exact q.elim
  | ct => exact q.elim
theorem Runs.imp (hr : Runs b ρ s P) (k : ∀ f s', P f s' → P' f s') : Runs b ρ s P' := let ⟨f, s', e, q⟩ := hr; ⟨f, s', e, k f s' q⟩
/-- what follows a part -/
def Then (r : IS) (ρ : Fns) (P : Fl → S → Prop) : Fl → S → Prop
  | .nx, s => Runs r ρ s P
  | f, s => P f s
theorem run_seq (hp : Runs p ρ s (Then r ρ P)) : Runs (sSeq p r) ρ s P := by
  obtain ⟨f, s', e1, q⟩ := hp
  show ∃ f s', sSeq p r ρ s = .ok f s' ∧ P f s'
  rw [e_Seq, e1, bind_ok]
  cases f with
  | nx => exact q
  | rt d => exact ⟨_, _, rfl, q⟩
  | bk => exact ⟨_, _, rfl, q⟩
  | ct => exact ⟨_, _, rfl, q⟩
theorem run_nx (q : P .nx s) : Runs sNx ρ s P := ⟨_, _, rfl, q⟩
theorem run_asg (v : D) (h' : List Ob) (he : e ρ ⟨g, h⟩ = .ok v ⟨g, h'⟩) (hr : Runs r ρ ⟨g.set i (.val v), h'⟩ P) : Runs (sSeq (sAsg e (gV i)) r) ρ ⟨g, h⟩ P := by
  obtain ⟨f, s', e1, q⟩ := hr
  refine ⟨f, s', ?_, q⟩
  rw [e_Seq, e_Asg, he, bind_ok, e_gV]
  exact e1
theorem run_par (v v2 : D) (h1 h' : List Ob) (he : e ρ ⟨g, h⟩ = .ok v ⟨g, h1⟩) (he2 : e2 ρ ⟨g, h1⟩ = .ok v2 ⟨g, h'⟩) (hr : Runs r ρ ⟨(g.set i (.val v)).set j (.val v2), h'⟩ P) : Runs (sSeq (sPar i j e e2) r) ρ ⟨g, h⟩ P := by
  obtain ⟨f, s', e1, q⟩ := hr
  refine ⟨f, s', ?_, q⟩
  rw [e_Seq]
  show ((e ρ ⟨g, h⟩).bind fun x s => (e2 ρ s).bind fun y s => R.ok Fl.nx ⟨(s.g.set i (.val x)).set j (.val y), s.h⟩).bind _ = _
  rw [he, bind_ok, he2, bind_ok, bind_ok]
  exact e1
theorem run_ret (v : D) (h' : List Ob) (he : e ρ ⟨g, h⟩ = .ok v ⟨g, h'⟩) (q : P (.rt v) ⟨g, h'⟩) : Runs (sSeq (sRet e) r) ρ ⟨g, h⟩ P :=
  ⟨_, _, by rw [e_Seq, e_Ret, he, bind_ok, bind_ok], q⟩
theorem run_drop (v : D) (h' : List Ob) (he : e ρ ⟨g, h⟩ = .ok v ⟨g, h'⟩) (hr : Runs r ρ ⟨g, h'⟩ P) : Runs (sSeq (sDrop e) r) ρ ⟨g, h⟩ P := by
  obtain ⟨f, s', e1, q⟩ := hr
  refine ⟨f, s', ?_, q⟩
  rw [e_Seq]
  show ((e ρ ⟨g, h⟩).bind fun _ s => R.ok Fl.nx s).bind _ = _
  rw [he, bind_ok, bind_ok]
  exact e1
theorem run_ifF (h' : List Ob) (ht : t ρ ⟨g, h⟩ = .ok false ⟨g, h'⟩) (hr : Runs r ρ ⟨g, h'⟩ P) : Runs (sSeq (sIf t p sNx) r) ρ ⟨g, h⟩ P := by
  obtain ⟨f, s', e1, q⟩ := hr
  refine ⟨f, s', ?_, q⟩
  rw [e_Seq, e_sIf, ht, bind_ok]
  exact e1
theorem run_if (x : Bool) (h' : List Ob) (ht : t ρ ⟨g, h⟩ = .ok x ⟨g, h'⟩) (hr : Runs (if x then p else q) ρ ⟨g, h'⟩ (Then r ρ P)) : Runs (sSeq (sIf t p q) r) ρ ⟨g, h⟩ P := by
  refine run_seq ?_
  obtain ⟨f, s', e1, k⟩ := hr
  refine ⟨f, s', ?_, k⟩
  rw [e_sIf, ht, bind_ok]
  cases x <;> exact e1
/-- a loop by what holds of the state *-/
theorem for_inv {k : IG} {Inv : List D → S → Prop} : ∀ (ds : List D) (s : S), Inv ds s → (∀ d ds s, Inv (d :: ds) s → ∃ s1, k d s = some s1 ∧ Runs p ρ s1 fun f s' => (f = .nx ∨ f = .ct) ∧ Inv ds s') → ∃ s', forL k p ρ ds s = .ok .nx s' ∧ Inv [] s'
  | [], s, i, _ => ⟨s, rfl, i⟩
  | d :: ds, s, i, H => by
    obtain ⟨s1, e1, f, s2, e2, hf, i2⟩ := H d ds s i
    obtain ⟨s', e3, i3⟩ := for_inv ds s2 i2 H
    refine ⟨s', ?_, i3⟩
    show (match k d s with
    | none => R.bad
    | some s1 => (p ρ s1).bind fun f s2 => match f with
      | .nx => forL k p ρ ds s2
      | .ct => forL k p ρ ds s2
      | .bk => .ok .nx s2
      | .rt d => .ok (.rt d) s2) = _
    rw [e1]
    show (p ρ s1).bind _ = _
    rw [e2, bind_ok]
    rcases hf with rfl | rfl <;> exact e3
theorem run_for {w : IL} {k : IG} (Inv : List D → S → Prop) (ds : List D) (h' : List Ob) (hw : w ρ ⟨g, h⟩ = .ok ds ⟨g, h'⟩) (i : Inv ds ⟨g, h'⟩) (H : ∀ d ds s, Inv (d :: ds) s → ∃ s1, k d s = some s1 ∧ Runs p ρ s1 fun f s' => (f = .nx ∨ f = .ct) ∧ Inv ds s') (hr : ∀ s', Inv [] s' → Runs r ρ s' P) :
    Runs (sSeq (sFor w k p) r) ρ ⟨g, h⟩ P := by
  obtain ⟨s', e, i2⟩ := for_inv ds ⟨g, h'⟩ i H
  obtain ⟨f, s2, e2, q⟩ := hr s' i2
  refine ⟨f, s2, ?_, q⟩
  rw [e_Seq]
  show ((w ρ ⟨g, h⟩).bind fun ds s => forL k p ρ ds s).bind _ = _
  rw [hw, bind_ok, e, bind_ok]
  exact e2
end
/-! ### lists of texts -/
abbrev sL (ws : List (List Nat)) : List D := ws.map .str
theorem strL_strs : ∀ ws : List (List Nat), strL (sL ws) = some ws
  | [] => rfl
  | w :: ws => by
    show (strL (sL ws)).map (w :: ·) = _
    rw [strL_strs ws]
    rfl
theorem join_strs {a : List Nat} {ws : List (List Nat)} (h : (ws.map (·.length)).sum + ws.length * a.length ≤ 16777216) : mtD .join (.str a) [.lst (sL ws)] = some (.str (TL.joinL a ws)) := by
  show (strL (sL ws)).bind (fun ys => if (ys.map (·.length)).sum + ys.length * a.length ≤ 16777216 then some (D.str (TL.joinL a ys)) else none) = _
  rw [strL_strs]
  show (if _ then _ else _) = _
  rw [if_pos h]
theorem join_strsT {a : List Nat} {ws : List (List Nat)} (h : (ws.map (·.length)).sum + ws.length * a.length ≤ 16777216) : mtD .join (.str a) [.tup (sL ws)] = some (.str (TL.joinL a ws)) := by
  show (strL (sL ws)).bind (fun ys => if (ys.map (·.length)).sum + ys.length * a.length ≤ 16777216 then some (D.str (TL.joinL a ys)) else none) = _
  rw [strL_strs]
  show (if _ then _ else _) = _
  rw [if_pos h]
theorem sum_le {ws : List (List Nat)} {k : Nat} (h : ∀ w ∈ ws, w.length ≤ k) : (ws.map (·.length)).sum ≤ k * ws.length := by
  induction ws with
  | nil => simp
  | cons w ws ih =>
    have h1 := h w List.mem_cons_self
    have h2 := ih fun w hw => h w (List.mem_cons_of_mem _ hw)
    simp only [List.map_cons, List.sum_cons, List.length_cons, Nat.mul_add, Nat.mul_one]
    omega
theorem joinL_lenR {a : List Nat} : ∀ ws : List (List Nat), (TL.joinL a ws).length ≤ (ws.map (·.length)).sum + ws.length * a.length
  | [] => by simp [TL.joinL]
  | [w] => by simp [TL.joinL]
  | w :: v :: ws => by
    have := joinL_lenR (a := a) (v :: ws)
    have e : TL.joinL a (w :: v :: ws) = w ++ (a ++ TL.joinL a (v :: ws)) := rfl
    rw [e]
    simp only [List.length_append, List.map_cons, List.sum_cons, List.length_cons, Nat.add_mul, Nat.one_mul] at this ⊢
    omega
theorem joinL_mem {a : List Nat} {P : Nat → Prop} (ha : ∀ c ∈ a, P c) : ∀ ws : List (List Nat), (∀ w ∈ ws, ∀ c ∈ w, P c) → ∀ c ∈ TL.joinL a ws, P c
  | [], _, c, hc => by simp [TL.joinL] at hc
  | [w], h, c, hc => h w (by simp) c (by simpa [TL.joinL] using hc)
  | w :: v :: ws, h, c, hc => by
    have e : TL.joinL a (w :: v :: ws) = w ++ (a ++ TL.joinL a (v :: ws)) := rfl
    rw [e] at hc
    rcases List.mem_append.mp hc with hc | hc
    · exact h w (by simp) c hc
    · rcases List.mem_append.mp hc with hc | hc
      · exact ha c hc
      · exact joinL_mem ha (v :: ws) (fun w hw => h w (List.mem_cons_of_mem _ hw)) c hc
/-! ### data, as far as == sees it -/
theorem isData_strs : ∀ ws : List (List Nat), isDatas (sL ws) = true
  | [] => rfl
  | w :: ws => by
    show (isData (.str w) && isDatas (sL ws)) = true
    rw [isData_strs ws]
    rfl
/-- lays, and how deep -/
def eqN : Nat → D → Bool
  | _, .non => true
  | _, .bl _ => true
  | _, .int _ => true
  | _, .str s => cpOk s
  | n + 1, .lst l => l.all (eqN n)
  | n + 1, .tup l => l.all (eqN n)
  | _, _ => false
theorem str_ok {x : List Nat} (h : cpOk x = true) : PyData.strOk (⟨x.toArray⟩ : Str) = true := by
  simpa [PyData.strOk, cpOk] using h
theorem eqN_ok : ∀ (n : Nat) (d : D), eqN n d = true → isData d = true ∧ (pd d).canLay0 = true ∧ (pd d).depth ≤ n := fun n => by
  have flat : ∀ (n : Nat) (d : D), (∀ l, d ≠ .lst l) → (∀ l, d ≠ .tup l) → eqN n d = true → isData d = true ∧ (pd d).canLay0 = true ∧ (pd d).depth ≤ n := fun n d h1 h2 h => by
    cases d with
    | str s => cases n <;> exact ⟨rfl, by simp only [pd, PyData.canLay0]; exact str_ok h, by simp [pd, PyData.depth]⟩
    | non => exact ⟨rfl, by simp [pd, PyData.canLay0], by simp [pd, PyData.depth]⟩
    | bl _ => exact ⟨rfl, by simp [pd, PyData.canLay0], by simp [pd, PyData.depth]⟩
    | int _ => exact ⟨rfl, by simp [pd, PyData.canLay0], by simp [pd, PyData.depth]⟩
    | lst l => exact absurd rfl (h1 l)
    | tup l => exact absurd rfl (h2 l)
    | _ => cases n <;> cases h
  have many : ∀ (n : Nat), (∀ d, eqN n d = true → isData d = true ∧ (pd d).canLay0 = true ∧ (pd d).depth ≤ n) → ∀ l : List D, l.all (eqN n) = true → isDatas l = true ∧ PyData.canLayAll0 (pds l) = true ∧ PyData.depthAll (pds l) ≤ n := fun n ih l => by
    induction l with
    | nil => intro _; exact ⟨rfl, by simp [pds, PyData.canLayAll0], by simp [pds, PyData.depthAll]⟩
    | cons d l il =>
      intro h
      simp only [List.all_cons, Bool.and_eq_true] at h
      obtain ⟨a1, a2, a3⟩ := ih d h.1
      obtain ⟨b1, b2, b3⟩ := il h.2
      refine ⟨by simp [isDatas, a1, b1], by simp [pds, PyData.canLayAll0, a2, b2], ?_⟩
      simp only [pds, PyData.depthAll]
      omega
  induction n with
  | zero =>
    intro d h
    refine flat 0 d (fun l e => ?_) (fun l e => ?_) h
    · subst e; cases h
    · subst e; cases h
  | succ n ih =>
    intro d h
    cases d with
    | lst l =>
      obtain ⟨a1, a2, a3⟩ := many n ih l h
      exact ⟨a1, by simpa only [pd, PyData.canLay0] using a2, by simp only [pd, PyData.depth]; omega⟩
    | tup l =>
      obtain ⟨a1, a2, a3⟩ := many n ih l h
      exact ⟨a1, by simpa only [pd, PyData.canLay0] using a2, by simp only [pd, PyData.depth]; omega⟩
    | _ => exact flat (n + 1) _ (fun l e => by cases e) (fun l e => by cases e) h
theorem eqOk_of {n : Nat} {d : D} (h : eqN n d = true) (hn : n ≤ 64) : eqOk d = true := by
  obtain ⟨a, b, c⟩ := eqN_ok n d h
  have c2 : (pd d).depth ≤ 64 := Nat.le_trans c hn
  simp [eqOk, SeqAt.shaped, a, b, c2]
/-- == of trees of texts, None and containers: it is equality -/
def pureN : Nat → D → Bool
  | _, .non => true
  | _, .str _ => true
  | n + 1, .lst l => l.all (pureN n)
  | n + 1, .tup l => l.all (pureN n)
  | _, _ => false
theorem eqv_str (x y : List Nat) : PyData.eqv (pd (.str x)) (pd (.str y)) = decide (x = y) := by
  show ((⟨x.toArray⟩ : Str) == ⟨y.toArray⟩) = _
  by_cases e : x = y
  · subst e; simp
  · rw [decide_eq_false e]
    apply beq_eq_false_iff_ne.mpr
    intro z
    exact e (congrArg (fun s : Str => s.cps.toList) z)
theorem eqD_strs (a b : List (List Nat)) : PyData.eqvAll (pds (sL a)) (pds (sL b)) = decide (a = b) := by
  induction a generalizing b with
  | nil =>
    cases b with
    | nil => rfl
    | cons y b => rfl
  | cons x a ih =>
    cases b with
    | nil => rfl
    | cons y b =>
      show (PyData.eqv (pd (.str x)) (pd (.str y)) && PyData.eqvAll (pds (sL a)) (pds (sL b))) = _
      rw [eqv_str, ih]
      by_cases e1 : x = y <;> by_cases e2 : a = b <;> simp [e1, e2]
theorem eqD_tt (a b a' b' : List (List Nat)) : eqD (.tup [.tup (sL a), .tup (sL b)]) (.tup [.tup (sL a'), .tup (sL b')]) = (decide (a = a') && decide (b = b')) := by
  show (PyData.eqvAll (pds (sL a)) (pds (sL a')) && (PyData.eqvAll (pds (sL b)) (pds (sL b')) && true)) = _
  rw [eqD_strs, eqD_strs, Bool.and_true]
theorem eqD_tl (a b a' b' : List (List Nat)) : eqD (.tup [.lst (sL a), .lst (sL b)]) (.tup [.lst (sL a'), .lst (sL b')]) = (decide (a = a') && decide (b = b')) := by
  show (PyData.eqvAll (pds (sL a)) (pds (sL a')) && (PyData.eqvAll (pds (sL b)) (pds (sL b')) && true)) = _
  rw [eqD_strs, eqD_strs, Bool.and_true]
theorem eqD_ll (a b a' b' : List (List Nat)) : eqD (.lst [.lst (sL a), .lst (sL b)]) (.lst [.lst (sL a'), .lst (sL b')]) = (decide (a = a') && decide (b = b')) := by
  show (PyData.eqvAll (pds (sL a)) (pds (sL a')) && (PyData.eqvAll (pds (sL b)) (pds (sL b')) && true)) = _
  rw [eqD_strs, eqD_strs, Bool.and_true]
theorem eqD_l (a b : List (List Nat)) : eqD (.lst (sL a)) (.lst (sL b)) = decide (a = b) := eqD_strs a b
theorem eqD_t (a b : List (List Nat)) : eqD (.tup (sL a)) (.tup (sL b)) = decide (a = b) := eqD_strs a b
theorem c_eqD {x y : D} {n : Nat} (hx : eqN n x = true) (hy : eqN n y = true) (hn : n ≤ 64) : cmpD .Eq x y = some (eqD x y) := by
  show (if eqOk x && eqOk y then some (eqD x y) else none) = _
  rw [eqOk_of hx hn, eqOk_of hy hn]
  rfl
theorem c_neD {x y : D} {n : Nat} (hx : eqN n x = true) (hy : eqN n y = true) (hn : n ≤ 64) : cmpD .NotEq x y = some (!eqD x y) := by
  show (if eqOk x && eqOk y then some (!eqD x y) else none) = _
  rw [eqOk_of hx hn, eqOk_of hy hn]
  rfl
theorem o_data {tb : List (Str × Str)} {ρ : Fns} {s : S} {x y : D} {n : Nat} (hx : eqN n x = true) (hy : eqN n y = true) (hn : n ≤ 64) : eqOwn tb false ρ x y s = .ok (.bl (eqD x y)) s := by
  have e : insOf s.h x = none := by
    cases x with
    | ref k => cases n <;> cases hx
    | ins _ _ _ => cases n <;> cases hx
    | _ => rfl
  show (match insOf s.h x with
    | some (c, _, _) => _
    | none => lift ((cmpD .Eq x y).map .bl) s) = _
  rw [e]
  show lift ((cmpD .Eq x y).map .bl) s = _
  rw [c_eqD hx hy hn]
  rfl
theorem o_dataN {tb : List (Str × Str)} {ρ : Fns} {s : S} {x y : D} {n : Nat} (hx : eqN n x = true) (hy : eqN n y = true) (hn : n ≤ 64) : eqOwn tb true ρ x y s = .ok (.bl (!eqD x y)) s := by
  have e : insOf s.h x = none := by
    cases x with
    | ref k => cases n <;> cases hx
    | ins _ _ _ => cases n <;> cases hx
    | _ => rfl
  show (match insOf s.h x with
    | some (c, _, _) => _
    | none => lift ((cmpD .NotEq x y).map .bl) s) = _
  rw [e]
  show lift ((cmpD .NotEq x y).map .bl) s = _
  rw [c_neD hx hy hn]
  rfl
theorem eqN_strs {ws : List (List Nat)} {n : Nat} (h : ∀ w ∈ ws, cpOk w = true) : (sL ws).all (eqN n) = true := by
  rw [List.all_eq_true]
  intro d hd
  obtain ⟨w, hw, rfl⟩ := List.mem_map.mp hd
  cases n <;> exact h w hw
/-! ### instances that stand still -/
mutual
theorem eqT_refl : ∀ d : D, eqT d d = true
  | .non => rfl
  | .bl b => by simp [eqT]
  | .int _ => by simp [eqT]
  | .str _ => by simp [eqT]
  | .tup l => by simp only [eqT]; exact eqTs_refl l
  | .lst l => by simp only [eqT]; exact eqTs_refl l
  | .ref _ => by simp [eqT]
  | .ty _ => by simp [eqT]
  | .rdl l => by simp only [eqT]; exact eqTs_refl l
  | .ins _ _ l => by simp only [eqT, decide_true, Bool.true_and]; exact eqTs_refl l
  | .cls _ => by simp [eqT]
theorem eqTs_refl : ∀ l : List D, eqTs l l = true
  | [] => rfl
  | d :: l => by simp only [eqTs, eqT_refl d, eqTs_refl l, Bool.and_self]
end
theorem eqOb_refl (o : Ob) : eqOb o o = true := by
  cases o with
  | lst l => exact eqTs_refl l
  | ins c ns ds => simp only [eqOb, decide_true, Bool.true_and]; exact eqTs_refl ds
theorem eqH_refl : ∀ h : List Ob, eqH h h = true
  | [] => rfl
  | o :: h => by simp only [eqH, eqOb_refl o, eqH_refl h, Bool.and_self]
theorem made_fz {g : List Sl} {h : List Ob} {c : Str} {ns : List Str} {ds : List D} (hs : scps h.length ds = true) : made true g h (.ok .non (h ++ [.ins c ns ds])) = .ok (.ins c ns ds) ⟨g, h⟩ := by
  have e1 : (h ++ [Ob.ins c ns ds]).take h.length = h := by simp
  have e2 : (h ++ [Ob.ins c ns ds])[h.length]? = some (.ins c ns ds) := by simp
  show (if eqH ((h ++ [Ob.ins c ns ds]).take h.length) h && decide ((h ++ [Ob.ins c ns ds]).length = h.length + 1) then (match (h ++ [Ob.ins c ns ds])[h.length]? with
      | some (.ins c ns ds) => if scps h.length ds then R.ok (D.ins c ns ds) ⟨g, h⟩ else .bad
      | _ => .bad) else .bad) = _
  rw [e1, e2, eqH_refl, if_pos (by simp)]
  show (if scps h.length ds then R.ok (D.ins c ns ds) ⟨g, h⟩ else .bad) = _
  rw [if_pos hs]
theorem scps_strs (k : Nat) : ∀ ws : List (List Nat), scps k (sL ws) = true
  | [] => rfl
  | w :: ws => by
    show (true && scps k (sL ws)) = true
    rw [scps_strs k ws]
    rfl
section
variable (ρ : Fns) (s : S) (a b : I) (l r : IL)
@[simp] theorem e_aStar : aStar a l ρ s = (a ρ s).bind fun x s => match seqD s.h x with
  | some k => (l ρ s).bind fun xs s => .ok (k ++ xs) s
  | none => .bad := rfl
@[simp] theorem e_Make (c key : Str) (pm : List Ai) (fz : Bool) : iMake c key pm fz l r ρ s = (l ρ s).bind fun xs s => (r ρ s).bind fun ys s => match permD pm (.ref s.h.length :: xs ++ ys) with
  | some zs => made fz s.g s.h (ρ key zs (s.h ++ [.ins c [] []]))
  | none => .bad := rfl
@[simp] theorem e_Fmt : iFmt a ρ s = (a ρ s).bind fun x s => lift (fmtD x) s := rfl
@[simp] theorem e_js0 (acc : List Nat) : jsW [] acc ρ s = .ok (.str acc) s := rfl
@[simp] theorem e_js1 (as : List I) (acc : List Nat) : jsW (a :: as) acc ρ s = (a ρ s).bind fun x s => match x with
  | .str y => if acc.length + y.length ≤ sizeLine then jsW as (acc ++ y) ρ s else .bad
  | _ => .bad := rfl
@[simp] theorem e_RevL : iRevL a ρ s = (a ρ s).bind fun x s => lift (revD s.h x) s := rfl
@[simp] theorem e_CmpS (ne : Bool) : tCmpS ne a b ρ s = (a ρ s).bind fun x s => (b ρ s).bind fun y s => liftT (cmpD (opOf ne) (snap s.h x) (snap s.h y)) s := rfl
@[simp] theorem e_Bf (f : List Ob → List D → Option D) : iBf f l ρ s = (l ρ s).bind fun xs s => lift (f s.h xs) s := rfl
@[simp] theorem e_wEnum : wEnum l ρ s = (l ρ s).bind fun xs s => match xs with
  | [.lst l] => .ok (l.zipIdx.map numD) s
  | _ => .bad := rfl
end
/-- an attribute of a standing instance *-/
theorem at_fld {tb : List (Str × Ah)} {ρ : Fns} {g : List Sl} {h h' : List Ob} {a : I} {f c : Str} {ns : List Str} {ds : List D} {d : D} (ha : a ρ ⟨g, h⟩ = .ok (.ins c ns ds) ⟨g, h'⟩) (ht : tb.lookup c = some .fld) (hl : lookD f ns ds = some d) : iAt tb a f ρ ⟨g, h⟩ = .ok d ⟨g, h'⟩ := by
  show (a ρ ⟨g, h⟩).bind _ = _
  rw [ha, bind_ok]
  show (match tb.lookup c with
    | some .fld => lift (lookD f ns ds) (⟨g, h'⟩ : S)
    | some (.prop key) => _
    | none => .bad) = _
  rw [ht, hl]
  rfl
theorem at_prop {tb : List (Str × Ah)} {ρ : Fns} {g : List Sl} {h h' h2 : List Ob} {a : I} {f c key : Str} {ns : List Str} {ds : List D} {d : D} (ha : a ρ ⟨g, h⟩ = .ok (.ins c ns ds) ⟨g, h'⟩) (ht : tb.lookup c = some (.prop key)) (hl : ρ key [.ins c ns ds] h' = .ok d h2) : iAt tb a f ρ ⟨g, h⟩ = .ok d ⟨g, h2⟩ := by
  show (a ρ ⟨g, h⟩).bind _ = _
  rw [ha, bind_ok]
  show (match tb.lookup c with
    | some .fld => lift (lookD f ns ds) (⟨g, h'⟩ : S)
    | some (.prop key) => (match ρ key [.ins c ns ds] h' with
      | .ok d h => R.ok d ⟨g, h⟩
      | _ => .bad)
    | none => .bad) = _
  rw [ht]
  show (match ρ key [.ins c ns ds] h' with
      | .ok d h => R.ok d ⟨g, h⟩
      | _ => .bad) = _
  rw [hl]
/-- o = p by an own == -/
theorem o_ins {tb : List (Str × Str)} {ne : Bool} {ρ : Fns} {s : S} {c key : Str} {ns : List Str} {ds : List D} {y : D} {b : Bool} (ht : tb.lookup c = some key) (hr : rightOk c s.h y = true) (he : ρ key [.ins c ns ds, y] s.h = .ok (.bl b) s.h) : eqOwn tb ne ρ (.ins c ns ds) y s = .ok (.bl (ne ^^ b)) s := by
  show (match tb.lookup c with
    | some key => if rightOk c s.h y then (match ρ key [.ins c ns ds, y] s.h with
      | .ok (.bl r) h' => R.ok (D.bl (ne ^^ r)) ⟨s.g, h'⟩
      | _ => .bad) else .bad
    | none => .bad) = _
  rw [ht]
  show (if rightOk c s.h y then (match ρ key [.ins c ns ds, y] s.h with
      | .ok (.bl r) h' => R.ok (D.bl (ne ^^ r)) ⟨s.g, h'⟩
      | _ => .bad) else .bad) = _
  rw [if_pos hr, he]
end B
end
section
set_option Elab.async false
set_option linter.all false
set_option maxRecDepth 100000
set_option maxHeartbeats 4000000
/-! is_name, _law_ground, class Schema -/
namespace B
open PySem
def cRES : D := .tup (RES.map .str)
def wIsName : IS := (sSeq (sIf (tOr (tNot (tTru (iBi .isi (aCons (iV 0) (aCons (iC (.ty "str")) aNil))))) (tOr (tNot (tChB .LtE .LtE (iC (.int 1)) (iBi .len (aCons (iV 0) aNil)) (iC (.int 8)))) (tCmpB .In (iV 0) (iC cRES)))) (sSeq (sRet (iC (.bl false)))
  sNx) sNx)
  (sSeq (sRet (iBi .all (aCons (iComp (wSeq (iV 0)) (gV 1) tYes (iCmp .In (iV 1) (iC (.str LET))) [1]) aNil)))
  sNx))
def isNB (s : List Nat) : Bool := decide (1 ≤ s.length) && (decide (s.length ≤ 8) && (!decide (s ∈ RES) && s.all fun c => decide (c ∈ LET)))
theorem isNB_of {s : List Nat} (h : IsN s) : isNB s = true := by
  unfold isNB
  simp only [Bool.and_eq_true, decide_eq_true_eq, Bool.not_eq_true', decide_eq_false_iff_not, List.all_eq_true]
  exact ⟨h.pos, h.le, h.res, h.let_⟩
def isB : D → Bool
  | .str s => isNB s
  | _ => false
/-- what is_name is asked of -/
def askable : D → Bool
  | .non => true
  | .bl _ => true
  | .int _ => true
  | .str _ => true
  | .tup _ => true
  | .lst _ => true
  | _ => false
theorem in_resT (w : List Nat) : cmpD .In (.str w) cRES = some (decide (w ∈ RES)) := by
  have := in_res w
  exact this
theorem isname_ok {ρ : Fns} {x : D} {h : List Ob} (hx : askable x = true) : runD 2 wIsName ρ [x] h = .ok (.bl (isB x)) h := by
  cases x <;> first | (cases hx; done) | skip
  · exact run_rt (g := [.val .non, .no]) (g' := [.val .non, .no]) (by simp [wIsName, isB]) rfl
  · rename_i v
    exact run_rt (g := [.val (.bl v), .no]) (g' := [.val (.bl v), .no]) (by simp [wIsName, isB]) rfl
  · rename_i v
    exact run_rt (g := [.val (.int v), .no]) (g' := [.val (.int v), .no]) (by simp [wIsName, isB]) rfl
  · rename_i v
    refine run_rt (g := [.val (.str v), .no]) (g' := [.val (.str v), .no]) ?_ rfl
    have ln : ∀ h, biD .len h [.str v] = some (.int v.length) := fun _ => rfl
    have c := i_map (f := fun x => match x with | .str [c] => .bl (decide (c ∈ LET)) | _ => .non) (ρ := ρ) (g := [.val (.str v), .no]) (h := h) (h1 := h) (vs := [1]) (k := gV 1)
      (w := wSeq (iV 0)) (e := iCmp .In (iV 1) (iC (.str LET))) (ds := v.map fun c => .str [c]) (by simp) (fun x hx => by
        obtain ⟨k, hk, rfl⟩ := List.mem_map.mp hx
        refine ⟨_, ⟨[.val (.str v), .val (.str [k])], h⟩, rfl, ?_, rfl, rfl⟩
        have : cmpD .In (.str [k]) (.str LET) = some (decide (k ∈ LET)) := rfl
        simp [wipeS, this]) rfl
    have al : ∀ h, biD .all h [.lst ((v.map fun c => D.str [c]).map fun x => match x with | .str [c] => .bl (decide (c ∈ LET)) | _ => .non)] = some (.bl (v.all fun c => decide (c ∈ LET))) := fun h => by
      have : ∀ v : List Nat, bools ((v.map fun c => D.str [c]).map fun x => match x with | .str [c] => .bl (decide (c ∈ LET)) | _ => .non) = some (v.map fun c => decide (c ∈ LET)) := fun v => by
        induction v with
        | nil => rfl
        | cons a v ih =>
          show (bools ((v.map fun c => D.str [c]).map _)).map _ = _
          rw [ih]
          rfl
      show (bools _).map (fun bs => D.bl (bs.all id)) = _
      rw [this]
      simp [List.all_map]
    by_cases h1 : 1 ≤ v.length
    · have h1' : (1 : Int) ≤ (v.length : Int) := by omega
      by_cases h2 : v.length ≤ 8
      · have h2' : (v.length : Int) ≤ 8 := by omega
        by_cases h3 : v ∈ RES
        · simp [wIsName, ln, h1', h2', in_resT, h3, isB, isNB]
        · simp only [wIsName, e_Seq, e_sIf, e_Or, e_Not, e_Tru, e_Bi, e_aCons, e_aNil, e_V, e_C, bind_ok, List.getElem?_cons_zero, List.getElem?_cons_succ, i_str_str, lift_some, t_bl, liftT_some, Bool.not_true, e_ChB, ln, c_le, h1', decide_true, h2', e_CmpB, in_resT, h3, decide_false, e_sNx, e_Ret, c, al]
          simp [isB, isNB, h1, h2, h3]
      · have h2' : ¬ (v.length : Int) ≤ 8 := by omega
        simp [wIsName, ln, h1', h2', isB, isNB, h2]
    · have h1' : ¬ (1 : Int) ≤ (v.length : Int) := by omega
      simp [wIsName, ln, h1', isB, isNB, h1]
  · rename_i v
    exact run_rt (g := [.val (.tup v), .no]) (g' := [.val (.tup v), .no]) (by simp [wIsName, isB]) rfl
  · rename_i v
    exact run_rt (g := [.val (.lst v), .no]) (g' := [.val (.lst v), .no]) (by simp [wIsName, isB]) rfl
theorem sz {k : Nat} (h : k ≤ 1000000) : k ≤ sizeLine := Nat.le_trans h (by decide)
theorem cp_let : ∀ c ∈ LET, c < 1114112 := by decide
theorem IsN.cp {w : List Nat} (h : IsN w) : cpOk w = true := by
  unfold cpOk
  rw [List.all_eq_true]
  intro c hc
  exact decide_eq_true (cp_let c (h.let_ c hc))
/-! ### drawn flags and links -/
def wGround : IS := (sSeq (sPar 3 4 (iCall "_law_pull" [.ix 0, .ix 1] (aCons (iV 0) (aCons (iBin .Add (iV 1) (iC (.int 1))) aNil)) aNil) (iBin .Add (iC (.int 1)) (iCall "_law_pull" [.ix 0, .ix 1] (aCons (iV 0) (aCons (iV 2) aNil)) aNil)))
  (sSeq (sAsg (iCall "_law_names" [.ix 0, .ix 1] (aCons (iV 0) (aCons (iBin .Add (iV 3) (iV 4)) aNil)) aNil) (gV 5))
  (sSeq (sRet (iTup (aCons (iSl (iV 5) pNo (pInt (iV 3))) (aCons (iSl (iV 5) (pInt (iV 3)) pNo) aNil))))
  sNx)))
/-- flags and links as a schema takes them -/
structure GoodS (fl ln : List (List Nat)) : Prop where
  ok : ∀ w ∈ fl ++ ln, IsN w
  nd : (fl ++ ln).Nodup
  f3 : fl.length ≤ 3
  l1 : 1 ≤ ln.length
  l3 : ln.length ≤ 3
def grD (fl ln : List (List Nat)) : D := .tup [.lst (sL fl), .lst (sL ln)]
def GroundOk (ρ : Fns) : Prop := ∀ (h : List Ob) (b f l : Nat), HasBag h b → f ≤ 3 → 1 ≤ l → l ≤ 3 → ∃ fl ln h', GoodS fl ln ∧ fl.length ≤ f ∧ ln.length ≤ l ∧ Pulled b h h' ∧ ρ "_law_ground" [.ref b, .int (f : Int), .int (l : Int)] h = .ok (grD fl ln) h'
theorem slice_toL {α : Type} (l : List D) (n : Nat) (h : List Ob) : slD h (.lst l) none (some (n : Int)) = some (.lst (l.take n)) := by
  show some (D.lst (cut l none (some (n : Int)))) = _
  unfold cut
  rw [HT.sIx_none, HT.sIx_nat]
  simp
theorem slice_fromL {α : Type} (l : List D) (n : Nat) (h : List Ob) : slD h (.lst l) (some (n : Int)) none = some (.lst (l.drop n)) := by
  show some (D.lst (cut l (some (n : Int)) none)) = _
  unfold cut
  rw [HT.sIx_none, HT.sIx_nat]
  by_cases hn : n ≤ l.length
  · rw [Nat.min_eq_left hn, List.take_of_length_le (by simp)]
  · rw [Nat.min_eq_right (by omega), List.drop_length, List.drop_of_length_le (by omega)]
    simp
theorem ground_ok {ρ : Fns} (P : PullOk ρ) (N : NamesOk ρ) {h : List Ob} {b f l : Nat} (B : HasBag h b) (hf : f ≤ 3) (h1 : 1 ≤ l) (h3 : l ≤ 3) :
    ∃ fl ln h', GoodS fl ln ∧ fl.length ≤ f ∧ ln.length ≤ l ∧ Pulled b h h' ∧ runD 6 wGround ρ [.ref b, .int (f : Int), .int (l : Int)] h = .ok (grD fl ln) h' := by
  obtain ⟨m, ha, m1, p1, e1⟩ := P.go (m := (f : Int) + 1) B (by omega) (by omega)
  have B1 := p1.bag B
  obtain ⟨k, hb, k1, p2, e2⟩ := P.go (m := (l : Int)) B1 (by omega) (by omega)
  have B2 := p2.bag B1
  obtain ⟨ws, hc, W, p3, e3⟩ := N hb b (m + (1 + k)) B2 (by omega)
  have wl := W.len
  refine ⟨ws.take m, ws.drop m, hc, ⟨fun w hw => W.ok w (by rwa [List.take_append_drop] at hw), by rw [List.take_append_drop]; exact W.nd, by simp; omega, by simp; omega, by simp; omega⟩, by simp; omega, by simp; omega, (p1.trans p2).trans p3, ?_⟩
  refine Does.eq (run_does (g := [.val (.ref b), .val (.int f), .val (.int l), .no, .no, .no]) rfl ?_)
  unfold wGround
  refine run_par (.int m) (.int (1 + k)) ha hb (by simp [permD, e1]) (by simp [permD, e2]) ?_
  have e3' : ρ "_law_names" [.ref b, .int ((m : Int) + (1 + (k : Int)))] hb = .ok (.lst (sL ws)) hc := by
    rw [← e3]
    congr 3
  refine run_asg (.lst (sL ws)) hc (by simp [permD, e3']) ?_
  refine run_ret (grD (ws.take m) (ws.drop m)) hc ?_ ⟨rfl, rfl⟩
  simp only [List.set_cons_zero, List.set_cons_succ, e_Tup, e_aCons, e_aNil, e_Sl, e_V, e_pNo, e_pInt, bind_ok, List.getElem?_cons_zero, List.getElem?_cons_succ, slice_toL (α := Unit), slice_fromL (α := Unit), lift_some, List.length_cons, List.length_nil, sz (k := 0 + 1 + 1) (by omega), if_true, grD, sL, List.map_take, List.map_drop]
theorem GroundOk.of {T : Txt} {e : Ent} {n : Nat} (P : PullOk (T.rho n)) (N : NamesOk (T.rho n)) (h : T.ent "_law_ground" = some e) (h1 : e.N.length = 6) (h2 : e.fb = wGround) : GroundOk (T.rho (n + 1)) := fun hh b f l B h3 h4 h5 => by
  rw [rho_run h, h1, h2]
  exact ground_ok P N B h3 h4 h5
/-! ### class Schema -/
def schD (fl ln : List (List Nat)) : D := .ins "Schema" ["own_flags", "own_links"] [.tup (sL fl), .tup (sL ln)]
def wSInit (r1 r2 r3 r4 : IS) : IS := (sSeq (sAsg (iLst (aStar (iV 1) (aStar (iV 2) aNil))) (gV 3))
  (sSeq (sFor (wSeq (iV 3)) (gV 4) (sSeq (sIf (tNot (tTru (iCall "is_name" [.ix 0] (aCons (iV 4) aNil) aNil))) (sSeq r1
  sNx) sNx)
  sNx))
  (sSeq (sFor (wEnum (aCons (iV 3) aNil)) (gT [5, 4]) (sSeq (sIf (tCmpB .In (iV 4) (iSl (iV 3) pNo (pInt (iV 5)))) (sSeq r2
  sNx) sNx)
  sNx))
  (sSeq (sIf (tCmpB .Gt (iBi .len (aCons (iV 1) aNil)) (iC (.int 3))) (sSeq r3
  sNx) sNx)
  (sSeq (sIf (tNot (tChB .LtE .LtE (iC (.int 1)) (iBi .len (aCons (iV 2) aNil)) (iC (.int 3)))) (sSeq r4
  sNx) sNx)
  (sSeq (sAtt ["Schema"] (iV 0) "own_flags" (iBi .tup (aCons (iV 1) aNil)))
  (sSeq (sAtt ["Schema"] (iV 0) "own_links" (iBi .tup (aCons (iV 2) aNil)))
  sNx)))))))
def wSFlags : IS := (sSeq (sRet (iAt [("Schema", .fld)] (iV 0) "own_flags"))
  sNx)
def wSLinks : IS := (sSeq (sRet (iAt [("Schema", .fld)] (iV 0) "own_links"))
  sNx)
def wSText : IS := (sSeq (sRet (iBin .Add (iBin .Add (iMt .join (iC (.str [32])) (aCons (iLst (aCons (iC (.str [102, 108, 97, 103, 115])) (aStar (iAt [("Schema", .fld)] (iV 0) "own_flags") aNil))) aNil)) (iC (.str [10]))) (iMt .join (iC (.str [32])) (aCons (iLst (aCons (iC (.str [108, 105, 110, 107, 115])) (aStar (iAt [("Schema", .fld)] (iV 0) "own_links") aNil))) aNil))))
  sNx)
def wSEq (tb : List (Str × Str)) (isT : List ((Str × Str) × Bool)) (isL : List Str) : IS := (sSeq (sIf (tNot (tTru (iBf (isC isT isL) (aCons (iV 1) (aCons (iC (.cls "Schema")) aNil))))) (sSeq (sRet (iC (.bl false)))
  sNx) sNx)
  (sSeq (sRet (iEqO tb false (iTup (aCons (iAt [("Schema", .fld)] (iV 0) "own_flags") (aCons (iAt [("Schema", .fld)] (iV 0) "own_links") aNil))) (iTup (aCons (iAt [("Schema", .fld)] (iV 1) "own_flags") (aCons (iAt [("Schema", .fld)] (iV 1) "own_links") aNil)))))
  sNx))
def wSRepr : IS := (sSeq (sAsg (iOr (iMt .join (iC (.str [32])) (aCons (iAt [("Schema", .fld)] (iV 0) "own_flags") aNil)) (iC (.str [45]))) (gV 1))
  (sSeq (sRet (jsW [(iC (.str [83, 99, 104, 101, 109, 97, 40])), (iFmt (iV 1)), (iC (.str [58, 32])), (iFmt (iMt .join (iC (.str [32])) (aCons (iAt [("Schema", .fld)] (iV 0) "own_links") aNil))), (iC (.str [41]))] []))
  sNx))
theorem seq_len {h : List Ob} {x : D} {l : List D} (e : seqD h x = some l) : biD .len h [x] = some (.int l.length) := by
  cases x <;> first | (cases e; done) | skip
  all_goals (simp [biD, lenD, e])
theorem seq_tup {h : List Ob} {x : D} {l : List D} (e : seqD h x = some l) : biD .tup h [x] = some (.tup l) := by
  cases x <;> first | (cases e; done) | (cases e; rfl) | skip
  rename_i n
  show (match h[n]? with
    | some (.lst l) => some (D.tup l)
    | _ => none) = _
  simp only [seqD] at e
  split at e
  · rename_i l' e1
    cases e
    first | rw [e1] | rfl
  · cases e
theorem seq_app {h : List Ob} {x : D} {l : List D} {r : List Ob} (e : seqD h x = some l) : seqD (h ++ r) x = some l := by
  cases x <;> first | (cases e; done) | exact e | skip
  rename_i n
  simp only [seqD] at e ⊢
  split at e
  · rename_i l' e1
    cases e
    rw [List.getElem?_append_left (List.getElem?_eq_some_iff.mp e1).1, e1]
  · cases e
theorem in_sL (w : List Nat) (ws : List (List Nat)) : cmpD .In (.str w) (.lst (sL ws)) = some (decide (w ∈ ws)) := by
  have hf : (flatD (.str w) && (sL ws).all flatD) = true := by
    show ((sL ws).all flatD) = true
    rw [List.all_eq_true]
    intro d hd
    obtain ⟨v, _, rfl⟩ := List.mem_map.mp hd
    rfl
  show (if flatD (.str w) && (sL ws).all flatD then some ((sL ws).any fun z => eqF z (.str w)) else none) = _
  rw [if_pos hf, List.any_map]
  congr 1
  rw [Bool.eq_iff_iff, List.any_eq_true, decide_eq_true_iff]
  constructor
  · rintro ⟨x, hx, e⟩
    have : x = w := eq_of_beq e
    rw [← this]; exact hx
  · intro hx
    exact ⟨w, hx, beq_self_eq_true w⟩
theorem run_att {r : IS} {ρ : Fns} {g : List Sl} {h h' h2 : List Ob} {P : Fl → S → Prop} {tb : List Str} {o e : I} {f c : Str} {k : Nat} {ns : List Str} {ds : List D} (v : D) (he : e ρ ⟨g, h⟩ = .ok v ⟨g, h'⟩) (ho : o ρ ⟨g, h'⟩ = .ok (.ref k) ⟨g, h2⟩) (hk : h2[k]? = some (.ins c ns ds)) (ht : c ∈ tb) (hn : ns.length < 1000)
    (hr : Runs r ρ ⟨g, h2.set k (.ins c (putN f ns) (putD f v ns ds))⟩ P) : Runs (sSeq (sAtt tb o f e) r) ρ ⟨g, h⟩ P := by
  obtain ⟨fl, s', e1, q⟩ := hr
  refine ⟨fl, s', ?_, q⟩
  rw [e_Seq]
  show ((e ρ ⟨g, h⟩).bind fun v s => (o ρ s).bind fun x s => match x with
  | .ref k => (match s.h[k]? with
    | some (.ins c ns ds) => if decide (c ∈ tb) && decide (ns.length < 1000) then R.ok Fl.nx ⟨s.g, s.h.set k (.ins c (putN f ns) (putD f v ns ds))⟩ else .bad
    | _ => .bad)
  | _ => .bad).bind _ = _
  rw [he, bind_ok, ho, bind_ok]
  show (match h2[k]? with
    | some (.ins c ns ds) => if decide (c ∈ tb) && decide (ns.length < 1000) then R.ok Fl.nx ⟨g, h2.set k (.ins c (putN f ns) (putD f v ns ds))⟩ else .bad
    | _ => .bad).bind _ = _
  rw [hk]
  show (if decide (c ∈ tb) && decide (ns.length < 1000) then R.ok Fl.nx (⟨g, h2.set k (.ins c (putN f ns) (putD f v ns ds))⟩ : S) else .bad).bind _ = _
  rw [if_pos (by simp [ht, hn]), bind_ok]
  exact e1
def IsNameOk (ρ : Fns) : Prop := ∀ (x : D) (h : List Ob), askable x = true → ρ "is_name" [x] h = .ok (.bl (isB x)) h
theorem IsNameOk.of {T : Txt} {e : Ent} {n : Nat} (h : T.ent "is_name" = some e) (h1 : e.N.length = 2) (h2 : e.fb = wIsName) : IsNameOk (T.rho (n + 1)) := fun x hh hx => by
  rw [rho_run h, h1, h2]
  exact isname_ok hx
theorem sinit_ok {ρ : Fns} {r1 r2 r3 r4 : IS} (N : IsNameOk ρ) {h : List Ob} {fl ln : List (List Nat)} {x1 x2 : D} (G : GoodS fl ln) (q1 : seqD h x1 = some (sL fl)) (q2 : seqD h x2 = some (sL ln)) :
    runD 6 (wSInit r1 r2 r3 r4) ρ [.ref h.length, x1, x2] (h ++ [.ins "Schema" [] []]) = .ok .non (h ++ [.ins "Schema" ["own_flags", "own_links"] [.tup (sL fl), .tup (sL ln)]]) := by
  obtain ⟨hh, ehh⟩ : ∃ hh, hh = h ++ [Ob.ins "Schema" [] []] := ⟨_, rfl⟩
  rw [← ehh]
  have q1' : seqD hh x1 = some (sL fl) := by rw [ehh]; exact seq_app q1
  have q2' : seqD hh x2 = some (sL ln) := by rw [ehh]; exact seq_app q2
  have l1 := seq_len q1'
  have l2 := seq_len q2'
  obtain ⟨ws, ews⟩ : ∃ ws, ws = fl ++ ln := ⟨_, rfl⟩
  have wl : ws.length ≤ 6 := by rw [ews, List.length_append]; have := G.f3; have := G.l3; omega
  refine Does.eq (run_does (g := [.val (.ref h.length), .val x1, .val x2, .no, .no, .no]) rfl ?_)
  unfold wSInit
  refine run_asg (.lst (sL ws)) hh ?_ ?_
  · have z : ((sL fl) ++ ((sL ln) ++ [])).length ≤ sizeLine := by
      rw [List.append_nil, List.length_append, List.length_map, List.length_map]
      rw [ews, List.length_append] at wl
      exact sz (by omega)
    simp only [e_Lst, e_aStar, e_aNil, e_V, List.getElem?_cons_zero, List.getElem?_cons_succ, bind_ok, q1', q2', z, if_true, lift_some]
    rw [ews, List.append_nil]
    simp only [sL, List.map_append]
  simp only [List.set_cons_zero, List.set_cons_succ]
  refine run_for (fun ds s => (∀ d ∈ ds, ∃ w, IsN w ∧ d = .str w) ∧ ∃ z4, s = ⟨[.val (.ref h.length), .val x1, .val x2, .val (.lst (sL ws)), z4, .no], hh⟩) (sL ws) hh (by simp) ⟨fun d hd => ?_, _, rfl⟩ ?_ ?_
  · obtain ⟨w, hw, rfl⟩ := List.mem_map.mp hd
    exact ⟨w, G.ok w (by rw [← ews]; exact hw), rfl⟩
  · rintro d ds s ⟨hd, z4, rfl⟩
    obtain ⟨w, hw, rfl⟩ := hd d List.mem_cons_self
    refine ⟨_, rfl, ?_⟩
    simp only [List.set_cons_zero, List.set_cons_succ]
    have e := N (.str w) hh rfl
    have e' : isB (.str w) = true := isNB_of hw
    refine run_ifF hh (by simp [permD, e, e']) (run_nx ⟨.inl rfl, fun d' hd' => hd d' (List.mem_cons_of_mem _ hd'), _, rfl⟩)
  rintro s ⟨_, z4, rfl⟩
  refine run_for (fun ds s => (∀ d ∈ ds, ∃ (w : List Nat) (i : Nat), w ∉ ws.take i ∧ d = .tup [.int i, .str w]) ∧ ∃ z4 z5, s = ⟨[.val (.ref h.length), .val x1, .val x2, .val (.lst (sL ws)), z4, z5], hh⟩) ((sL ws).zipIdx.map numD) hh (by simp) ⟨fun d hd => ?_, _, _, rfl⟩ ?_ ?_
  · obtain ⟨⟨x, i⟩, hp, rfl⟩ := List.mem_map.mp hd
    have hp' := List.mem_zipIdx hp
    simp only [Nat.zero_le, Nat.zero_add, Nat.sub_zero, true_and, List.length_map] at hp'
    obtain ⟨hi, hx⟩ := hp'
    have hx : x = .str ws[i] := by rw [hx]; simp
    refine ⟨ws[i], i, fun hm => ?_, by rw [hx]; rfl⟩
    have nd : ws.Nodup := by rw [ews]; exact G.nd
    obtain ⟨j, hj, e⟩ := List.mem_iff_getElem.mp hm
    rw [List.length_take] at hj
    rw [List.getElem_take] at e
    exact (List.pairwise_iff_getElem.mp nd) j i (by omega) hi (by omega) e
  · rintro d ds s ⟨hd, z4, z5, rfl⟩
    obtain ⟨w, i, hw, rfl⟩ := hd d List.mem_cons_self
    refine ⟨_, rfl, ?_⟩
    simp only [List.set_cons_zero, List.set_cons_succ]
    have e := slice_toL (α := Unit) (sL ws) i hh
    have e' : cmpD .In (.str w) (.lst ((sL ws).take i)) = some false := by
      rw [show (sL ws).take i = sL (ws.take i) from List.map_take.symm, in_sL, decide_eq_false hw]
    refine run_ifF hh (by simp [e, e']) (run_nx ⟨.inl rfl, fun d' hd' => hd d' (List.mem_cons_of_mem _ hd'), _, _, rfl⟩)
  rintro s ⟨_, z4, z5, rfl⟩
  have g3 := G.f3
  have g1 := G.l1
  have gl := G.l3
  have c1 : ¬ (3 : Int) < (fl.length : Int) := by omega
  have c2 : (1 : Int) ≤ (ln.length : Int) := by omega
  have c3 : (ln.length : Int) ≤ 3 := by omega
  refine run_ifF hh (by simp [l1, c1]) ?_
  refine run_ifF hh (by simp [l2, c2, c3]) ?_
  have k0 : hh[h.length]? = some (.ins "Schema" [] []) := by rw [ehh]; simp
  refine run_att (.tup (sL fl)) (h' := hh) (h2 := hh) (by simp [seq_tup q1']) (by simp) k0 (by simp) (by decide) ?_
  have s1 : hh.set h.length (.ins "Schema" (putN "own_flags" []) (putD "own_flags" (.tup (sL fl)) [] [])) = h ++ [.ins "Schema" ["own_flags"] [.tup (sL fl)]] := by rw [ehh]; simp [putN, putD]
  rw [s1]
  have q2'' : seqD (h ++ [.ins "Schema" ["own_flags"] [.tup (sL fl)]]) x2 = some (sL ln) := seq_app q2
  refine run_att (.tup (sL ln)) (h' := h ++ [.ins "Schema" ["own_flags"] [.tup (sL fl)]]) (h2 := h ++ [.ins "Schema" ["own_flags"] [.tup (sL fl)]]) (by simp [seq_tup q2'']) (by simp) (k := h.length) (by simp; exact ⟨rfl, rfl, rfl⟩) (by simp) (by decide) ?_
  refine run_nx ⟨rfl, ?_⟩
  show (h ++ [Ob.ins "Schema" ["own_flags"] [.tup (sL fl)]]).set h.length _ = _
  have n1 : ("own_flags" : Str) ≠ "own_links" := by decide
  simp [putN, putD, n1]
/-- C(flags, links) *-/
structure SchOk (ρ : Fns) : Prop where
  init : ∀ (h : List Ob) (fl ln : List (List Nat)) (x1 x2 : D), GoodS fl ln → seqD h x1 = some (sL fl) → seqD h x2 = some (sL ln) → ρ "Schema.__init__" [.ref h.length, x1, x2] (h ++ [.ins "Schema" [] []]) = .ok .non (h ++ [.ins "Schema" ["own_flags", "own_links"] [.tup (sL fl), .tup (sL ln)]])
theorem sch_made {fl ln : List (List Nat)} {g : List Sl} {h : List Ob} : made true g h (.ok .non (h ++ [.ins "Schema" ["own_flags", "own_links"] [.tup (sL fl), .tup (sL ln)]])) = .ok (schD fl ln) ⟨g, h⟩ :=
  made_fz (by
    show (scps h.length (sL fl) && (scps h.length (sL ln) && true)) = true
    rw [scps_strs, scps_strs]
    rfl)
theorem sflags_ok {ρ : Fns} {h : List Ob} {fl ln : List (List Nat)} : runD 1 wSFlags ρ [schD fl ln] h = .ok (.tup (sL fl)) h := by
  refine Does.eq (run_does (g := [.val (schD fl ln)]) rfl ?_)
  exact run_ret _ _ (at_fld rfl rfl rfl) ⟨rfl, rfl⟩
theorem slinks_ok {ρ : Fns} {h : List Ob} {fl ln : List (List Nat)} : runD 1 wSLinks ρ [schD fl ln] h = .ok (.tup (sL ln)) h := by
  refine Does.eq (run_does (g := [.val (schD fl ln)]) rfl ?_)
  exact run_ret _ _ (at_fld rfl rfl rfl) ⟨rfl, rfl⟩
def FLG : List Nat := [102, 108, 97, 103, 115]
def LNK : List Nat := [108, 105, 110, 107, 115]
/-- a schema's text, its repr -/
def sText (fl ln : List (List Nat)) : List Nat := TL.joinL [32] (FLG :: fl) ++ [10] ++ TL.joinL [32] (LNK :: ln)
def sShow (fl ln : List (List Nat)) : List Nat := [83, 99, 104, 101, 109, 97, 40] ++ (if fl = [] then [45] else TL.joinL [32] fl) ++ [58, 32] ++ TL.joinL [32] ln ++ [41]
/-- names of a schema and perhaps one word more: short enough *-/
def Few (ws : List (List Nat)) : Prop := (ws.map (·.length)).sum + ws.length * ([32] : List Nat).length ≤ 16777216 ∧ (TL.joinL [32] ws).length ≤ 100
theorem join_few {ws : List (List Nat)} (h : ∀ w ∈ ws, w.length ≤ 8) (hl : ws.length ≤ 7) : Few ws := by
  show (ws.map (·.length)).sum + ws.length * ([32] : List Nat).length ≤ 16777216 ∧ (TL.joinL [32] ws).length ≤ 100
  have h1 := sum_le h
  have h2 := joinL_lenR (a := [32]) ws
  have h3 : ([32] : List Nat).length = 1 := rfl
  rw [h3] at h2 ⊢
  omega
theorem GoodS.fl8 {fl ln : List (List Nat)} (G : GoodS fl ln) : ∀ w ∈ fl, w.length ≤ 8 := fun w hw => (G.ok w (List.mem_append_left _ hw)).le
theorem GoodS.ln8 {fl ln : List (List Nat)} (G : GoodS fl ln) : ∀ w ∈ ln, w.length ≤ 8 := fun w hw => (G.ok w (List.mem_append_right _ hw)).le
theorem GoodS.flcp {fl ln : List (List Nat)} (G : GoodS fl ln) : ∀ w ∈ fl, cpOk w = true := fun w hw => (G.ok w (List.mem_append_left _ hw)).cp
theorem GoodS.lncp {fl ln : List (List Nat)} (G : GoodS fl ln) : ∀ w ∈ ln, cpOk w = true := fun w hw => (G.ok w (List.mem_append_right _ hw)).cp
theorem GoodS.j1 {fl ln : List (List Nat)} (G : GoodS fl ln) : Few (FLG :: fl) := join_few (ws := FLG :: fl) (fun w hw => by
  rcases List.mem_cons.mp hw with rfl | hw
  · decide
  · exact G.fl8 w hw) (by have := G.f3; simp; omega)
theorem GoodS.j2 {fl ln : List (List Nat)} (G : GoodS fl ln) : Few (LNK :: ln) := join_few (ws := LNK :: ln) (fun w hw => by
  rcases List.mem_cons.mp hw with rfl | hw
  · decide
  · exact G.ln8 w hw) (by have := G.l3; simp; omega)
theorem GoodS.j3 {fl ln : List (List Nat)} (G : GoodS fl ln) : Few fl := join_few (ws := fl) G.fl8 (by have := G.f3; omega)
theorem GoodS.j4 {fl ln : List (List Nat)} (G : GoodS fl ln) : Few ln := join_few (ws := ln) G.ln8 (by have := G.l3; omega)
theorem cat3 {a b c : List Nat} (ha : a.length ≤ 100) (hb : b.length ≤ 1) (hc : c.length ≤ 100) : binD .Add (.str a) (.str b) = some (.str (a ++ b)) ∧ binD .Add (.str (a ++ b)) (.str c) = some (.str (a ++ b ++ c)) :=
  ⟨b_addS (by omega), b_addS (by simp; omega)⟩
theorem stext_ok {ρ : Fns} {h : List Ob} {fl ln : List (List Nat)} (G : GoodS fl ln) : runD 1 wSText ρ [schD fl ln] h = .ok (.str (sText fl ln)) h := by
  refine Does.eq (run_does (g := [.val (schD fl ln)]) rfl ?_)
  refine run_ret _ h ?_ ⟨rfl, rfl⟩
  have a1 : ∀ (h : List Ob), iAt [("Schema", .fld)] (iV 0) "own_flags" ρ ⟨[.val (schD fl ln)], h⟩ = .ok (.tup (sL fl)) ⟨[.val (schD fl ln)], h⟩ := fun h => at_fld rfl rfl rfl
  have a2 : ∀ (h : List Ob), iAt [("Schema", .fld)] (iV 0) "own_links" ρ ⟨[.val (schD fl ln)], h⟩ = .ok (.tup (sL ln)) ⟨[.val (schD fl ln)], h⟩ := fun h => at_fld rfl rfl rfl
  have j1 := G.j1
  have j2 := G.j2
  have e1 := join_strs j1.1
  have e2 := join_strs j2.1
  obtain ⟨c1, c2⟩ := cat3 (b := [10]) j1.2 (by decide) j2.2
  have s1 : ∀ h : List Ob, seqD h (.tup (sL fl)) = some (sL fl) := fun _ => rfl
  have s2 : ∀ h : List Ob, seqD h (.tup (sL ln)) = some (sL ln) := fun _ => rfl
  have z1 : (sL (FLG :: fl)).length ≤ sizeLine := sz (by have := G.f3; simp; omega)
  have z2 : (sL (LNK :: ln)).length ≤ sizeLine := sz (by have := G.l3; simp; omega)
  have y1 : D.str FLG :: (sL fl ++ []) = sL (FLG :: fl) := by simp
  have y2 : D.str LNK :: (sL ln ++ []) = sL (LNK :: ln) := by simp
  have k1 : ([102, 108, 97, 103, 115] : List Nat) = FLG := rfl
  have k2 : ([108, 105, 110, 107, 115] : List Nat) = LNK := rfl
  have mo : ∀ x, mtOk .join (.str x) = true := fun _ => rfl
  simp only [k1, k2, e_Bin, e_Mt, e_C, e_aCons, e_aNil, e_aStar, e_Lst, a1, a2, bind_ok, s1, s2, z1, z2, if_true, lift_some, mo, y1, y2, e1, e2, c1, c2, sText]
theorem srepr_ok {ρ : Fns} {h : List Ob} {fl ln : List (List Nat)} (G : GoodS fl ln) : runD 2 wSRepr ρ [schD fl ln] h = .ok (.str (sShow fl ln)) h := by
  refine Does.eq (run_does (g := [.val (schD fl ln), .no]) rfl ?_)
  have a1 : ∀ (z : Sl) (h : List Ob), iAt [("Schema", .fld)] (iV 0) "own_flags" ρ ⟨[.val (schD fl ln), z], h⟩ = .ok (.tup (sL fl)) ⟨[.val (schD fl ln), z], h⟩ := fun z h => at_fld rfl rfl rfl
  have a2 : ∀ (z : Sl) (h : List Ob), iAt [("Schema", .fld)] (iV 0) "own_links" ρ ⟨[.val (schD fl ln), z], h⟩ = .ok (.tup (sL ln)) ⟨[.val (schD fl ln), z], h⟩ := fun z h => at_fld rfl rfl rfl
  have j3 := G.j3
  have j4 := G.j4
  have e3 := join_strsT j3.1
  have e4 := join_strsT j4.1
  have mo : ∀ x, mtOk .join (.str x) = true := fun _ => rfl
  have tr : truthD (.str (TL.joinL [32] fl)) = some (!decide (fl = [])) := by
    show some (!(TL.joinL [32] fl).isEmpty) = _
    congr 2
    cases fl with
    | nil => rfl
    | cons w fl =>
      have hw := (G.ok w (by simp)).pos
      have : TL.joinL [32] (w :: fl) ≠ [] := by
        intro z
        have : w = [] := by
          cases fl with
          | nil => exact z
          | cons v fl => exact (List.append_eq_nil_iff.mp z).1
        rw [this] at hw
        simp at hw
      simp [this]
  obtain ⟨hd, ehd⟩ : ∃ hd, hd = (if fl = [] then [45] else TL.joinL [32] fl) := ⟨_, rfl⟩
  have hdl : hd.length ≤ 100 := by
    rw [ehd]
    split
    · decide
    · exact j3.2
  refine run_asg (.str hd) h ?_ ?_
  · rw [ehd]
    by_cases hf : fl = []
    · have hd1 : decide (fl = []) = true := decide_eq_true hf
      rw [if_pos hf]
      simp only [e_iOr, e_Mt, e_C, e_aCons, e_aNil, a1, bind_ok, mo, e3, lift_some, tr, hd1, Bool.not_true]
    · have hd1 : decide (fl = []) = false := decide_eq_false hf
      rw [if_neg hf]
      simp only [e_iOr, e_Mt, e_C, e_aCons, e_aNil, a1, bind_ok, mo, e3, lift_some, tr, hd1, Bool.not_false]
  simp only [List.set_cons_zero, List.set_cons_succ]
  refine run_ret _ h ?_ ⟨rfl, rfl⟩
  have f1 : ∀ x, fmtD (.str x) = some (.str x) := fun _ => rfl
  have l7 : ([83, 99, 104, 101, 109, 97, 40] : List Nat).length = 7 := rfl
  obtain ⟨b1, hb1⟩ : ∃ b1, b1 = TL.joinL [32] ln := ⟨_, rfl⟩
  have hb1l : b1.length ≤ 100 := by rw [hb1]; exact j4.2
  have t1 : ([] : List Nat).length + ([83, 99, 104, 101, 109, 97, 40] : List Nat).length ≤ sizeLine := sz (by decide)
  have t2 : (([] : List Nat) ++ [83, 99, 104, 101, 109, 97, 40]).length + hd.length ≤ sizeLine := sz (by simp; omega)
  have t3 : (([] : List Nat) ++ [83, 99, 104, 101, 109, 97, 40] ++ hd).length + ([58, 32] : List Nat).length ≤ sizeLine := sz (by simp; omega)
  have t4 : (([] : List Nat) ++ [83, 99, 104, 101, 109, 97, 40] ++ hd ++ [58, 32]).length + b1.length ≤ sizeLine := sz (by simp; omega)
  have t5 : (([] : List Nat) ++ [83, 99, 104, 101, 109, 97, 40] ++ hd ++ [58, 32] ++ b1).length + ([41] : List Nat).length ≤ sizeLine := sz (by simp; omega)
  simp only [e_js1, e_js0, e_C, bind_ok, t1, if_true, e_Fmt, e_V, List.getElem?_cons_zero, List.getElem?_cons_succ, f1, lift_some, t2, t3, e_Mt, a2, e_aCons, e_aNil, mo, e4, ← hb1, t4, t5]
  rw [sShow, ← ehd, ← hb1]
  rfl
theorem seq_ok {ρ : Fns} {tb : List (Str × Str)} {isT : List ((Str × Str) × Bool)} {isL : List Str} (hT : isT.lookup (("Schema", "Schema") : Str × Str) = some true) {h : List Ob} {fl ln fl' ln' : List (List Nat)} (h1 : ∀ w ∈ fl ++ ln, cpOk w = true) (h2 : ∀ w ∈ fl' ++ ln', cpOk w = true) :
    runD 2 (wSEq tb isT isL) ρ [schD fl ln, schD fl' ln'] h = .ok (.bl (decide (fl = fl') && decide (ln = ln'))) h := by
  refine Does.eq (run_does (g := [.val (schD fl ln), .val (schD fl' ln')]) rfl ?_)
  have i1 : isC isT isL h [schD fl' ln', .cls "Schema"] = some (.bl true) := by
    show (isT.lookup (("Schema", "Schema") : Str × Str)).map D.bl = _
    rw [hT]
    rfl
  refine run_ifF h (by simp [i1]) ?_
  have a : ∀ (i : Nat) (f : Str) (d : D) (a b : List (List Nat)), ([Sl.val (schD fl ln), .val (schD fl' ln')] : List Sl)[i]? = some (.val (schD a b)) → lookD f ["own_flags", "own_links"] [.tup (sL a), .tup (sL b)] = some d → ∀ h : List Ob, iAt [("Schema", .fld)] (iV i) f ρ ⟨[.val (schD fl ln), .val (schD fl' ln')], h⟩ = .ok d ⟨[.val (schD fl ln), .val (schD fl' ln')], h⟩ := fun i f d a b hi hl h =>
    at_fld (c := "Schema") (ns := ["own_flags", "own_links"]) (ds := [.tup (sL a), .tup (sL b)]) (by rw [e_V, hi]; rfl) rfl hl
  have a1 := a 0 "own_flags" (.tup (sL fl)) fl ln rfl rfl
  have a2 := a 0 "own_links" (.tup (sL ln)) fl ln rfl rfl
  have a3 := a 1 "own_flags" (.tup (sL fl')) fl' ln' rfl rfl
  have a4 := a 1 "own_links" (.tup (sL ln')) fl' ln' rfl rfl
  have z2 : ∀ x y : D, ([x, y] : List D).length ≤ sizeLine := fun _ _ => sz (by simp)
  have n : ∀ a b : List (List Nat), (∀ w ∈ a ++ b, cpOk w = true) → eqN 2 (.tup [.tup (sL a), .tup (sL b)]) = true := fun a b hc => by
    show ((sL a).all (eqN 0) && ((sL b).all (eqN 0) && true)) = true
    rw [eqN_strs fun w hw => hc w (List.mem_append_left _ hw), eqN_strs fun w hw => hc w (List.mem_append_right _ hw)]
    rfl
  refine run_ret _ h ?_ ⟨rfl, rfl⟩
  simp only [e_EqO, e_Tup, e_aCons, e_aNil, a1, a2, a3, a4, bind_ok, z2, if_true, lift_some]
  rw [o_data (n := 2) (n _ _ h1) (n _ _ h2) (by decide), eqD_tt]
theorem sne_ok {ρ : Fns} {tb : List (Str × Str)} {isT : List ((Str × Str) × Bool)} {isL : List Str} (hL : ("Schema" : Str) ∈ isL) {h : List Ob} {fl ln : List (List Nat)} {y : D} (hi : insOf h y = none) (hy : (clsD y).isSome = true) :
    runD 2 (wSEq tb isT isL) ρ [schD fl ln, y] h = .ok (.bl false) h := by
  refine Does.eq (run_does (g := [.val (schD fl ln), .val y]) rfl ?_)
  have i1 : isC isT isL h [y, .cls "Schema"] = some (.bl false) := by
    show (match insOf h y with
    | some (c', _, _) => (isT.lookup (c', ("Schema" : Str))).map D.bl
    | none => if (clsD y).isSome && decide (("Schema" : Str) ∈ isL) then some (D.bl false) else none) = _
    rw [hi, if_pos (by simp [hy, hL])]
  refine run_if true h (by simp [i1]) ?_
  exact run_ret _ h rfl ⟨rfl, rfl⟩
end B
end
section
set_option Elab.async false
set_option linter.all false
set_option maxRecDepth 100000
set_option maxHeartbeats 4000000
/-! subsets, profiles, slots, is_part, is_profile -/
namespace B
open PySem
theorem b_addT {a b : List D} (h : a.length + b.length ≤ 1000000) : binD .Add (.tup a) (.tup b) = some (.tup (a ++ b)) := by
  show (if a.length + b.length ≤ sizeLine then some (D.tup (a ++ b)) else none) = _
  rw [if_pos (sz h)]
theorem b_addL {a b : List D} (h : a.length + b.length ≤ 1000000) : binD .Add (.lst a) (.lst b) = some (.lst (a ++ b)) := by
  show (if a.length + b.length ≤ sizeLine then some (D.lst (a ++ b)) else none) = _
  rw [if_pos (sz h)]
/-! ### subsets -/
def subsG : List (List (List Nat)) → List (List Nat) → List (List (List Nat))
  | acc, [] => acc
  | acc, n :: ns => subsG (acc ++ acc.map (· ++ [n])) ns
abbrev subs (ns : List (List Nat)) : List (List (List Nat)) := subsG [[]] ns
theorem subsG_mem : ∀ (ns : List (List Nat)) (acc : List (List (List Nat))) (r : List (List Nat)), r ∈ subsG acc ns → ∃ a ∈ acc, ∃ t, List.Sublist t ns ∧ r = a ++ t
  | [], acc, r, h => ⟨r, h, [], .slnil, by simp⟩
  | n :: ns, acc, r, h => by
    obtain ⟨a, ha, t, ht, e⟩ := subsG_mem ns _ r h
    rcases List.mem_append.mp ha with ha | ha
    · exact ⟨a, ha, t, .cons _ ht, e⟩
    · obtain ⟨b, hb, rfl⟩ := List.mem_map.mp ha
      exact ⟨b, hb, n :: t, .cons₂ _ ht, by rw [e]; simp⟩
theorem subs_mem {ns r : List (List Nat)} (h : r ∈ subs ns) : List.Sublist r ns := by
  obtain ⟨a, ha, t, ht, e⟩ := subsG_mem ns _ r h
  rw [List.mem_singleton.mp ha] at e
  rw [e]
  exact ht
theorem subsG_len : ∀ (ns : List (List Nat)) (acc : List (List (List Nat))), (subsG acc ns).length = acc.length * 2 ^ ns.length
  | [], acc => by simp [subsG]
  | n :: ns, acc => by
    rw [subsG, subsG_len ns]
    simp only [List.length_append, List.length_map, List.length_cons, Nat.pow_succ]
    rw [← Nat.two_mul, Nat.mul_assoc, Nat.mul_comm 2, Nat.mul_assoc]
theorem subs_len {ns : List (List Nat)} (h : ns.length ≤ 3) : (subs ns).length ≤ 8 ∧ 1 ≤ (subs ns).length := by
  rw [subs, subsG_len]
  have : ns.length = 0 ∨ ns.length = 1 ∨ ns.length = 2 ∨ ns.length = 3 := by omega
  rcases this with e | e | e | e <;> rw [e] <;> simp
abbrev rowD (r : List (List Nat)) : D := .tup (sL r)
abbrev rowsD (rs : List (List (List Nat))) : List D := rs.map rowD
def wSubsets : IS := (sSeq (sAsg (iLst (aCons (iTup aNil) aNil)) (gV 1))
  (sSeq (sFor (wSeq (iV 0)) (gV 2) (sSeq (sAsg (iBin .Add (iV 1) (iComp (wSeq (iV 1)) (gV 3) tYes (iBin .Add (iV 3) (iTup (aCons (iV 2) aNil))) [3])) (gV 1))
  sNx))
  (sSeq (sRet (iV 1))
  sNx)))
theorem sL_cons {d : D} {ds : List D} {rest : List (List Nat)} (h : d :: ds = sL rest) : ∃ n r, rest = n :: r ∧ d = .str n ∧ ds = sL r := by
  cases rest with
  | nil => cases h
  | cons n r =>
    injection h with h1 h2
    exact ⟨n, r, rfl, h1, h2⟩
theorem subsets_ok {ρ : Fns} {h : List Ob} {x : D} {ns : List (List Nat)} (hx : x = .tup (sL ns) ∨ x = .lst (sL ns)) (hn : ns.length ≤ 3) : runD 4 wSubsets ρ [x] h = .ok (.lst (rowsD (subs ns))) h := by
  refine Does.eq (run_does (g := [.val x, .no, .no, .no]) rfl ?_)
  unfold wSubsets
  have z0 : ([] : List D).length ≤ sizeLine := sz (by simp)
  have z1 : ∀ d : D, ([d] : List D).length ≤ sizeLine := fun d => sz (by simp)
  refine run_asg (.lst (rowsD [[]])) h ?_ ?_
  · simp only [e_Lst, e_aCons, e_aNil, e_Tup, bind_ok, z0, z1, if_true, lift_some]
    rfl
  simp only [List.set_cons_zero, List.set_cons_succ]
  refine run_for (fun ds s => ∃ (rest : List (List Nat)) (acc : List (List (List Nat))) (z2 : Sl), ds = sL rest ∧ s = ⟨[.val x, .val (.lst (rowsD acc)), z2, .no], h⟩ ∧ subsG acc rest = subs ns ∧ acc.length * 2 ^ rest.length ≤ 8 ∧ ∀ r ∈ acc, r.length + rest.length ≤ 3) (sL ns) h ?_ ⟨ns, [[]], _, rfl, rfl, rfl, ?_, ?_⟩ ?_ ?_
  · rcases hx with rfl | rfl <;> simp
  · have := (subs_len hn).1
    rwa [subs, subsG_len] at this
  · intro r hr
    rw [List.mem_singleton.mp hr]
    simpa using hn
  · rintro d ds s ⟨rest, acc, z2, e1, rfl, e2, e3, e4⟩
    obtain ⟨n, r, rfl, rfl, rfl⟩ := sL_cons e1
    refine ⟨_, rfl, ?_⟩
    simp only [List.set_cons_zero, List.set_cons_succ]
    have c := i_map (f := fun d => match d with | .tup l => .tup (l ++ [.str n]) | d => d) (ρ := ρ) (g := [.val x, .val (.lst (rowsD acc)), .val (.str n), .no]) (h := h) (h1 := h) (vs := [3]) (k := gV 3)
      (w := wSeq (iV 1)) (e := iBin .Add (iV 3) (iTup (aCons (iV 2) aNil))) (ds := rowsD acc) (by simp) (fun d hd => by
        obtain ⟨q, hq, rfl⟩ := List.mem_map.mp hd
        refine ⟨_, ⟨[.val x, .val (.lst (rowsD acc)), .val (.str n), .val (rowD q)], h⟩, rfl, ?_, rfl, rfl⟩
        have a := b_addT (a := sL q) (b := [.str n]) (by have := e4 q hq; simp only [List.length_map, List.length_cons, List.length_nil] at this ⊢; omega)
        simp only [wipeS, List.set_cons_zero, List.set_cons_succ, e_Bin, e_V, List.getElem?_cons_zero, List.getElem?_cons_succ, bind_ok, e_Tup, e_aCons, e_aNil, z1, if_true, lift_some, a]) rfl
    have fm : (rowsD acc).map (fun d => match d with | .tup l => .tup (l ++ [.str n]) | d => d) = rowsD (acc.map (· ++ [n])) := by
      simp [List.map_map, Function.comp_def]
    rw [fm] at c
    have al : acc.length ≤ 8 := Nat.le_trans (Nat.le_mul_of_pos_right _ (Nat.pow_pos (by decide))) e3
    have a := b_addL (a := rowsD acc) (b := rowsD (acc.map (· ++ [n]))) (by simp only [List.length_map]; omega)
    refine run_asg (.lst (rowsD (acc ++ acc.map (· ++ [n])))) h ?_ (run_nx ⟨.inl rfl, r, acc ++ acc.map (· ++ [n]), _, rfl, rfl, e2, ?_, fun q hq => ?_⟩)
    · simp only [e_Bin, e_V, List.getElem?_cons_zero, List.getElem?_cons_succ, bind_ok, c, a, lift_some]
      rw [show rowsD (acc ++ acc.map (· ++ [n])) = rowsD acc ++ rowsD (acc.map (· ++ [n])) from List.map_append]
    · simp only [List.length_append, List.length_map, List.length_cons, Nat.pow_succ] at e3 ⊢
      rw [← Nat.two_mul, Nat.mul_comm 2, Nat.mul_assoc, Nat.mul_comm 2]
      exact e3
    · rcases List.mem_append.mp hq with hq | hq
      · have := e4 q hq
        simp only [List.length_cons] at this
        omega
      · obtain ⟨p, hp, rfl⟩ := List.mem_map.mp hq
        have := e4 p hp
        simp only [List.length_append, List.length_cons, List.length_nil] at this ⊢
        omega
  · rintro s ⟨rest, acc, z2, e1, rfl, e2, e3, e4⟩
    have : rest = [] := by cases rest with | nil => rfl | cons => cases e1
    subst this
    rw [subsG] at e2
    subst e2
    exact run_ret _ h rfl ⟨rfl, rfl⟩
/-! ### the profiles -/
def trip (s o i : List (List Nat)) : D := .tup [rowD s, rowD o, rowD i]
def allT (A B : List D) : List D := A.flatMap fun d => B.flatMap fun d' => B.map fun d'' => .tup [d, d', d'']
abbrev allP (fl ln : List (List Nat)) : List D := allT (rowsD (subs fl)) (rowsD (subs ln))
theorem flat_len {α β : Type} {f : α → List β} {c : Nat} : ∀ (l : List α), (∀ a ∈ l, (f a).length ≤ c) → (l.flatMap f).length ≤ l.length * c
  | [], _ => by simp
  | a :: l, h => by
    have h1 := h a List.mem_cons_self
    have h2 := flat_len l fun b hb => h b (List.mem_cons_of_mem _ hb)
    rw [List.flatMap_cons, List.length_append, List.length_cons, Nat.succ_mul]
    omega
theorem allT_len {A B : List D} (hA : A.length ≤ 8) (hB : B.length ≤ 8) : (allT A B).length ≤ 512 := by
  have h1 : ∀ d, (B.flatMap fun d' => B.map fun d'' => D.tup [d, d', d'']).length ≤ 64 := fun d => by
    have := flat_len (f := fun d' => B.map fun d'' => D.tup [d, d', d'']) (c := 8) B fun a _ => by simpa using hB
    omega
  have := flat_len (f := fun d => B.flatMap fun d' => B.map fun d'' => D.tup [d, d', d'']) (c := 64) A fun a _ => h1 a
  unfold allT
  omega
theorem allP_mem {fl ln : List (List Nat)} {x : D} (h : x ∈ allP fl ln) : ∃ s o i, List.Sublist s fl ∧ List.Sublist o ln ∧ List.Sublist i ln ∧ x = trip s o i := by
  simp only [allP, allT, List.mem_flatMap, List.mem_map] at h
  obtain ⟨_, ⟨s, hs, rfl⟩, _, ⟨o, ho, rfl⟩, _, ⟨i, hi, rfl⟩, rfl⟩ := h
  exact ⟨s, o, i, subs_mem hs, subs_mem ho, subs_mem hi, rfl⟩
theorem allP_ne {fl ln : List (List Nat)} (hf : fl.length ≤ 3) (hl : ln.length ≤ 3) : allP fl ln ≠ [] := by
  have h1 := (subs_len hf).2
  have h2 := (subs_len hl).2
  obtain ⟨s, hs⟩ : ∃ s, s ∈ subs fl := List.exists_mem_of_length_pos h1
  obtain ⟨o, ho⟩ : ∃ s, s ∈ subs ln := List.exists_mem_of_length_pos h2
  have : trip s o o ∈ allP fl ln := by
    simp only [allP, allT, List.mem_flatMap, List.mem_map]
    exact ⟨_, ⟨s, hs, rfl⟩, _, ⟨o, ho, rfl⟩, _, ⟨o, ho, rfl⟩, rfl⟩
  exact List.ne_nil_of_mem this
theorem alike_strs (a b : List (List Nat)) : PySem.W.alikeAll (pds (sL a)) (pds (sL b)) = true := by
  induction a generalizing b with
  | nil => simp [pds, PySem.W.alikeAll]
  | cons x a ih =>
    cases b with
    | nil => simp [pds, PySem.W.alikeAll]
    | cons y b =>
      show PySem.W.alikeAll (pd (.str x) :: pds (sL a)) (pd (.str y) :: pds (sL b)) = true
      rw [PySem.W.alikeAll, ih]
      simp [pd, PySem.W.alike]
theorem trip_eqN {s o i : List (List Nat)} (h1 : ∀ w ∈ s, cpOk w = true) (h2 : ∀ w ∈ o, cpOk w = true) (h3 : ∀ w ∈ i, cpOk w = true) : eqN 2 (trip s o i) = true := by
  show ((sL s).all (eqN 0) && ((sL o).all (eqN 0) && ((sL i).all (eqN 0) && true))) = true
  rw [eqN_strs h1, eqN_strs h2, eqN_strs h3]
  rfl
theorem sort_okP {fl ln : List (List Nat)} (G : GoodS fl ln) : sortOk (allP fl ln) = true := by
  have cp : ∀ x ∈ allP fl ln, eqN 2 x = true := fun x hx => by
    obtain ⟨s, o, i, hs, ho, hi, rfl⟩ := allP_mem hx
    exact trip_eqN (fun w hw => G.flcp w (hs.subset hw)) (fun w hw => G.lncp w (ho.subset hw)) (fun w hw => G.lncp w (hi.subset hw))
  unfold sortOk
  simp only [Bool.and_eq_true, Bool.or_eq_true, List.all_eq_true, decide_eq_true_eq]
  refine ⟨fun x hx => ?_, fun x hx y hy => ?_, .inl fun x hx => ?_⟩
  · obtain ⟨a, _, b⟩ := eqN_ok 2 x (cp x hx)
    exact ⟨a, Nat.le_trans b (by decide)⟩
  · obtain ⟨s, o, i, _, _, _, rfl⟩ := allP_mem hx
    obtain ⟨s', o', i', _, _, _, rfl⟩ := allP_mem hy
    show PySem.W.alike (.tuple [.tuple (pds (sL s)), .tuple (pds (sL o)), .tuple (pds (sL i))]) (.tuple [.tuple (pds (sL s')), .tuple (pds (sL o')), .tuple (pds (sL i'))]) = true
    simp only [PySem.W.alike, PySem.W.alikeAll, alike_strs, Bool.and_self]
  · obtain ⟨s, o, i, _, _, _, rfl⟩ := allP_mem hx
    rfl
abbrev due (fl ln : List (List Nat)) : List D := sortL (allP fl ln)
theorem due_mem {fl ln : List (List Nat)} {x : D} (h : x ∈ due fl ln) : ∃ s o i, List.Sublist s fl ∧ List.Sublist o ln ∧ List.Sublist i ln ∧ x = trip s o i := allP_mem (List.mem_mergeSort.mp h)
theorem due_len {fl ln : List (List Nat)} (hf : fl.length ≤ 3) (hl : ln.length ≤ 3) : (due fl ln).length ≤ 512 ∧ due fl ln ≠ [] := by
  constructor
  · rw [due, sortL, List.length_mergeSort]
    exact allT_len (A := rowsD (subs fl)) (B := rowsD (subs ln)) (by rw [List.length_map]; exact (subs_len hf).1) (by rw [List.length_map]; exact (subs_len hl).1)
  · intro z
    have : (due fl ln).length = 0 := by rw [z]; rfl
    rw [due, sortL, List.length_mergeSort] at this
    exact allP_ne hf hl (List.length_eq_zero_iff.mp this)
theorem loopB_ok {k : IG} {t : IT} {b : IB} {vs : List Nat} {ρ : Fns} {wg : List Sl} {h : List Ob} {f : D → List D} : ∀ ds : List D, (∀ d ∈ ds, ∃ s1 s2 s3, k d ⟨wg, h⟩ = some s1 ∧ t ρ s1 = .ok true s2 ∧ b ρ s2 = some (f d, s3) ∧ wipeS s3.g vs = wg ∧ s3.h = h) → loopB k t b vs ρ ds ⟨wg, h⟩ = some (ds.flatMap f, ⟨wg, h⟩)
  | [], _ => rfl
  | d :: ds, H => by
    obtain ⟨s1, s2, s3, h1, h2, h3, h4, h5⟩ := H d List.mem_cons_self
    have ih := loopB_ok (k := k) (t := t) (b := b) (vs := vs) (ρ := ρ) (wg := wg) (h := h) (f := f) ds fun d hd => H d (List.mem_cons_of_mem _ hd)
    simp only [loopB, h1, h2, h3, h4, h5, ih, List.flatMap_cons]
theorem flat_one {α β : Type} {f : α → β} (l : List α) : (l.flatMap fun x => [f x]) = l.map f := by
  induction l with
  | nil => rfl
  | cons a l ih => rw [List.flatMap_cons, ih]; rfl
def wProfiles (tf tl : List (Str × Ah)) : IS := (sSeq (sAsg (iCall "subsets" [.ix 0] (aCons (iAt tl (iV 0) "own_links") aNil) aNil) (gV 1))
  (sSeq (sRet (iSortH (aCons (iCompB (wSeq (iCall "subsets" [.ix 0] (aCons (iAt tf (iV 0) "own_flags") aNil) aNil)) (gV 2) tYes (bFor (wSeq (iV 1)) (gV 3) tYes (bFor (wSeq (iV 1)) (gV 4) tYes (bElt (iTup (aCons (iV 2) (aCons (iV 3) (aCons (iV 4) aNil))))) [4]) [3, 4]) [2, 3, 4]) aNil)))
  sNx))
def SubsOk (key : Str) (ρ : Fns) : Prop := ∀ (ns : List (List Nat)) (x : D) (h : List Ob), (x = .tup (sL ns) ∨ x = .lst (sL ns)) → ns.length ≤ 3 → ρ key [x] h = .ok (.lst (rowsD (subs ns))) h
theorem profiles_ok {ρ : Fns} {tf tl : List (Str × Ah)} (SO : SubsOk "subsets" ρ) (hf : tf.lookup ("Schema" : Str) = some Ah.fld) (hl : tl.lookup ("Schema" : Str) = some Ah.fld) {h : List Ob} {fl ln : List (List Nat)} (G : GoodS fl ln) :
    runD 5 (wProfiles tf tl) ρ [schD fl ln] h = .ok (.ref h.length) (h ++ [.lst (due fl ln)]) := by
  refine Does.eq (run_does (g := [.val (schD fl ln), .no, .no, .no, .no]) rfl ?_)
  unfold wProfiles
  have af : ∀ z1 : Sl, iAt tf (iV 0) "own_flags" ρ ⟨[.val (schD fl ln), z1, .no, .no, .no], h⟩ = .ok (.tup (sL fl)) ⟨[.val (schD fl ln), z1, .no, .no, .no], h⟩ := fun z1 => at_fld (c := "Schema") (ns := ["own_flags", "own_links"]) (ds := [.tup (sL fl), .tup (sL ln)]) rfl hf rfl
  have al : ∀ z1 : Sl, iAt tl (iV 0) "own_links" ρ ⟨[.val (schD fl ln), z1, .no, .no, .no], h⟩ = .ok (.tup (sL ln)) ⟨[.val (schD fl ln), z1, .no, .no, .no], h⟩ := fun z1 => at_fld (c := "Schema") (ns := ["own_flags", "own_links"]) (ds := [.tup (sL fl), .tup (sL ln)]) rfl hl rfl
  have e1 := SO fl (.tup (sL fl)) h (.inl rfl) G.f3
  have e2 := SO ln (.tup (sL ln)) h (.inl rfl) G.l3
  refine run_asg (.lst (rowsD (subs ln))) h ?_ ?_
  · simp only [e_Call, e_aCons, e_aNil, al, bind_ok, List.append_nil, List.nil_append, permD, List.getElem?_cons_zero, e2, e_ofF]
  simp only [List.set_cons_zero, List.set_cons_succ]
  obtain ⟨A, eA⟩ : ∃ A, A = rowsD (subs fl) := ⟨_, rfl⟩
  obtain ⟨B, eB⟩ : ∃ B, B = rowsD (subs ln) := ⟨_, rfl⟩
  rw [← eB]
  rw [← eA] at e1
  have z3 : ∀ x y z : D, ([x, y, z] : List D).length ≤ sizeLine := fun _ _ _ => sz (by simp)
  have l3 : ∀ d d', loopB (gV 4) tYes (bElt (iTup (aCons (iV 2) (aCons (iV 3) (aCons (iV 4) aNil))))) [4] ρ B ⟨[.val (schD fl ln), .val (.lst B), .val d, .val d', .no], h⟩ = some (B.map fun d'' => .tup [d, d', d''], ⟨[.val (schD fl ln), .val (.lst B), .val d, .val d', .no], h⟩) := fun d d' => by
    have := loopB_ok (k := gV 4) (t := tYes) (b := bElt (iTup (aCons (iV 2) (aCons (iV 3) (aCons (iV 4) aNil))))) (vs := [4]) (ρ := ρ) (wg := [.val (schD fl ln), .val (.lst B), .val d, .val d', .no]) (h := h) (f := fun d'' => [.tup [d, d', d'']]) B fun d'' _ => by
      refine ⟨⟨[.val (schD fl ln), .val (.lst B), .val d, .val d', .val d''], h⟩, ⟨[.val (schD fl ln), .val (.lst B), .val d, .val d', .val d''], h⟩, ⟨[.val (schD fl ln), .val (.lst B), .val d, .val d', .val d''], h⟩, rfl, rfl, ?_, rfl, rfl⟩
      simp only [bElt, e_Tup, e_aCons, e_aNil, e_V, List.getElem?_cons_zero, List.getElem?_cons_succ, bind_ok, z3, if_true, lift_some]
    rw [flat_one] at this
    exact this
  have l2 : ∀ d, loopB (gV 3) tYes (bFor (wSeq (iV 1)) (gV 4) tYes (bElt (iTup (aCons (iV 2) (aCons (iV 3) (aCons (iV 4) aNil))))) [4]) [3, 4] ρ B ⟨[.val (schD fl ln), .val (.lst B), .val d, .no, .no], h⟩ = some (B.flatMap fun d' => B.map fun d'' => .tup [d, d', d''], ⟨[.val (schD fl ln), .val (.lst B), .val d, .no, .no], h⟩) := fun d =>
    loopB_ok (wg := [.val (schD fl ln), .val (.lst B), .val d, .no, .no]) (h := h) (f := fun d' => B.map fun d'' => .tup [d, d', d'']) B fun d' _ => by
      refine ⟨⟨[.val (schD fl ln), .val (.lst B), .val d, .val d', .no], h⟩, ⟨[.val (schD fl ln), .val (.lst B), .val d, .val d', .no], h⟩, ⟨[.val (schD fl ln), .val (.lst B), .val d, .val d', .no], h⟩, rfl, rfl, ?_, rfl, rfl⟩
      exact l3 d d'
  have l1 : loopB (gV 2) tYes (bFor (wSeq (iV 1)) (gV 3) tYes (bFor (wSeq (iV 1)) (gV 4) tYes (bElt (iTup (aCons (iV 2) (aCons (iV 3) (aCons (iV 4) aNil))))) [4]) [3, 4]) [2, 3, 4] ρ A ⟨[.val (schD fl ln), .val (.lst B), .no, .no, .no], h⟩ = some (allT A B, ⟨[.val (schD fl ln), .val (.lst B), .no, .no, .no], h⟩) :=
    loopB_ok (wg := [.val (schD fl ln), .val (.lst B), .no, .no, .no]) (h := h) (f := fun d => B.flatMap fun d' => B.map fun d'' => .tup [d, d', d'']) A fun d _ => by
      refine ⟨⟨[.val (schD fl ln), .val (.lst B), .val d, .no, .no], h⟩, ⟨[.val (schD fl ln), .val (.lst B), .val d, .no, .no], h⟩, ⟨[.val (schD fl ln), .val (.lst B), .val d, .no, .no], h⟩, rfl, rfl, ?_, rfl, rfl⟩
      exact l2 d
  have hz : (allT A B).length ≤ sizeLine := by
    have := allT_len (A := A) (B := B) (by rw [eA, List.length_map]; exact (subs_len G.f3).1) (by rw [eB, List.length_map]; exact (subs_len G.l3).1)
    exact sz (by omega)
  have so : sortOk (allT A B) = true := by rw [eA, eB]; exact sort_okP G
  refine run_ret (.ref h.length) (h ++ [.lst (due fl ln)]) ?_ ⟨rfl, rfl⟩
  have c : iCompB (wSeq (iCall "subsets" [.ix 0] (aCons (iAt tf (iV 0) "own_flags") aNil) aNil)) (gV 2) tYes (bFor (wSeq (iV 1)) (gV 3) tYes (bFor (wSeq (iV 1)) (gV 4) tYes (bElt (iTup (aCons (iV 2) (aCons (iV 3) (aCons (iV 4) aNil))))) [4]) [3, 4]) [2, 3, 4] ρ ⟨[.val (schD fl ln), .val (.lst B), .no, .no, .no], h⟩ = .ok (.lst (allT A B)) ⟨[.val (schD fl ln), .val (.lst B), .no, .no, .no], h⟩ := by
    unfold iCompB
    simp only [e_wSeq, e_Call, e_aCons, e_aNil, af, bind_ok, List.append_nil, List.nil_append, permD, List.getElem?_cons_zero, e1, e_ofF]
    show (match loopB (gV 2) tYes _ [2, 3, 4] ρ A ⟨[.val (schD fl ln), .val (.lst B), .no, .no, .no], h⟩ with
      | some (ys, s') => if ys.length ≤ sizeLine then R.ok (D.lst ys) ⟨backS s'.g [.val (schD fl ln), .val (.lst B), .no, .no, .no] [2, 3, 4], s'.h⟩ else .bad
      | none => .bad) = _
    rw [l1]
    show (if (allT A B).length ≤ sizeLine then _ else _) = _
    rw [if_pos hz]
    rfl
  show ((aCons _ aNil ρ _).bind _) = _
  rw [e_aCons, c, bind_ok, e_aNil, bind_ok, bind_ok]
  show (if sortOk (allT A B) then R.ok (D.ref h.length) (⟨[.val (schD fl ln), .val (.lst B), .no, .no, .no], h ++ [Ob.lst (sortL (allT A B))]⟩ : S) else .bad) = _
  rw [if_pos so, eA, eB]
/-! the law's own profiles -/
def wLProf : IS := (sSeq (sPar 1 2 (iCall "_law_subsets" [.ix 0] (aCons (iIx (iV 0) (iC (.int 1))) aNil) aNil) (iLst aNil))
  (sSeq (sFor (wSeq (iCall "_law_subsets" [.ix 0] (aCons (iIx (iV 0) (iC (.int 0))) aNil) aNil)) (gV 3) (sSeq (sFor (wSeq (iV 1)) (gV 4) (sSeq (sAsg (iBin .Add (iV 2) (iComp (wSeq (iV 1)) (gV 5) tYes (iTup (aCons (iV 3) (aCons (iV 4) (aCons (iV 5) aNil)))) [5])) (gV 2))
  sNx))
  sNx))
  (sSeq (sRet (iBf sortC (aCons (iV 2) aNil)))
  sNx)))
theorem lprof_ok {ρ : Fns} (SO : SubsOk "_law_subsets" ρ) {h : List Ob} {fl ln : List (List Nat)} (G : GoodS fl ln) : runD 6 wLProf ρ [grD fl ln] h = .ok (.lst (due fl ln)) h := by
  refine Does.eq (run_does (g := [.val (grD fl ln), .no, .no, .no, .no, .no]) rfl ?_)
  unfold wLProf
  have g0 : ∀ h, ixD h (grD fl ln) (.int 0) = some (.lst (sL fl)) := fun h => rfl
  have g1 : ∀ h, ixD h (grD fl ln) (.int 1) = some (.lst (sL ln)) := fun h => rfl
  have e1 := SO fl (.lst (sL fl)) h (.inr rfl) G.f3
  have e2 := SO ln (.lst (sL ln)) h (.inr rfl) G.l3
  have z0 : ([] : List D).length ≤ sizeLine := sz (by simp)
  have z3 : ∀ x y z : D, ([x, y, z] : List D).length ≤ sizeLine := fun _ _ _ => sz (by simp)
  obtain ⟨A, eA⟩ : ∃ A, A = rowsD (subs fl) := ⟨_, rfl⟩
  obtain ⟨B, eB⟩ : ∃ B, B = rowsD (subs ln) := ⟨_, rfl⟩
  rw [← eA] at e1
  rw [← eB] at e2
  have lA : A.length ≤ 8 := by rw [eA, List.length_map]; exact (subs_len G.f3).1
  have lB : B.length ≤ 8 := by rw [eB, List.length_map]; exact (subs_len G.l3).1
  refine run_par (.lst B) (.lst []) h h ?_ ?_ ?_
  · simp only [e_Call, e_aCons, e_aNil, e_Ix, e_V, e_C, List.getElem?_cons_zero, bind_ok, g1, lift_some, List.append_nil, List.nil_append, permD, e2, e_ofF]
  · simp only [e_Lst, e_aNil, bind_ok, z0, if_true, lift_some]
  simp only [List.set_cons_zero, List.set_cons_succ]
  refine run_for (fun ds s => ∃ done z3 z4, A = done ++ ds ∧ s = ⟨[.val (grD fl ln), .val (.lst B), .val (.lst (allT done B)), z3, z4, .no], h⟩) A h ?_ ⟨[], .no, .no, rfl, rfl⟩ ?_ ?_
  · simp only [e_wSeq, e_Call, e_aCons, e_aNil, e_Ix, e_V, e_C, List.getElem?_cons_zero, bind_ok, g0, lift_some, List.append_nil, List.nil_append, permD, e1, e_ofF]
  · rintro d ds s ⟨done, y3, y4, ed, rfl⟩
    refine ⟨_, rfl, ?_⟩
    simp only [List.set_cons_zero, List.set_cons_succ]
    refine run_for (fun es s => ∃ dn z4, B = dn ++ es ∧ s = ⟨[.val (grD fl ln), .val (.lst B), .val (.lst (allT done B ++ dn.flatMap fun d' => B.map fun d'' => .tup [d, d', d''])), .val d, z4, .no], h⟩) B h (by simp) ⟨[], y4, rfl, by simp⟩ ?_ ?_
    · rintro e es s ⟨dn, y, eb, rfl⟩
      refine ⟨_, rfl, ?_⟩
      simp only [List.set_cons_zero, List.set_cons_succ]
      obtain ⟨acc, eacc⟩ : ∃ acc, acc = allT done B ++ dn.flatMap fun d' => B.map fun d'' => D.tup [d, d', d''] := ⟨_, rfl⟩
      rw [← eacc]
      have c := i_map (f := fun d'' => .tup [d, e, d'']) (ρ := ρ) (g := [.val (grD fl ln), .val (.lst B), .val (.lst acc), .val d, .val e, .no]) (h := h) (h1 := h) (vs := [5]) (k := gV 5)
        (w := wSeq (iV 1)) (e := iTup (aCons (iV 3) (aCons (iV 4) (aCons (iV 5) aNil)))) (ds := B) (by simp) (fun d'' hd => by
          refine ⟨_, ⟨[.val (grD fl ln), .val (.lst B), .val (.lst acc), .val d, .val e, .val d''], h⟩, rfl, ?_, rfl, rfl⟩
          simp only [wipeS, List.set_cons_zero, List.set_cons_succ, e_Tup, e_aCons, e_aNil, e_V, List.getElem?_cons_zero, List.getElem?_cons_succ, bind_ok, z3, if_true, lift_some]) rfl
      have la : acc.length ≤ 1024 := by
        rw [eacc, List.length_append]
        have h1 := allT_len (A := done) (B := B) (by rw [ed, List.length_append] at lA; omega) lB
        have h2 := flat_len (f := fun d' => B.map fun d'' => D.tup [d, d', d'']) (c := 8) dn fun a _ => by simpa using lB
        have h3 : dn.length ≤ 8 := by rw [eb, List.length_append] at lB; omega
        omega
      have a := b_addL (a := acc) (b := B.map fun d'' => .tup [d, e, d'']) (by rw [List.length_map]; omega)
      refine run_asg (.lst (acc ++ B.map fun d'' => .tup [d, e, d''])) h ?_ (run_nx ⟨.inl rfl, dn ++ [e], .val e, by rw [eb]; simp, ?_⟩)
      · simp only [e_Bin, e_V, List.getElem?_cons_zero, List.getElem?_cons_succ, bind_ok, c, a, lift_some]
      · rw [eacc]
        simp
    · rintro s ⟨dn, y, eb, rfl⟩
      rw [List.append_nil] at eb
      subst eb
      exact run_nx ⟨.inl rfl, done ++ [d], .val d, y, by rw [ed]; simp, by simp [allT, List.flatMap_append]⟩
  · rintro s ⟨done, y3, y4, ed, rfl⟩
    rw [List.append_nil] at ed
    subst ed
    have so : sortOk (allT A B) = true := by rw [eA, eB]; exact sort_okP G
    refine run_ret (.lst (due fl ln)) h ?_ ⟨rfl, rfl⟩
    have sc : ∀ h, sortC h [.lst (allT A B)] = some (.lst (due fl ln)) := fun h => by
      show (if sortOk (allT A B) then some (D.lst (sortL (allT A B))) else none) = _
      rw [if_pos so, eA, eB]
    simp only [e_Bf, e_aCons, e_aNil, e_V, List.getElem?_cons_zero, List.getElem?_cons_succ, bind_ok, sc, lift_some]
end B
end
section
set_option Elab.async false
set_option linter.all false
set_option maxRecDepth 100000
set_option maxHeartbeats 4000000
/-! slots, is_part, is_profile -/
namespace B
open PySem
theorem in_tL (w : List Nat) (ws : List (List Nat)) : cmpD .In (.str w) (.tup (sL ws)) = some (decide (w ∈ ws)) := in_sL w ws
/-! ### slots -/
def slot1 (o i : List (List Nat)) (l : List Nat) : List D := (if l ∈ o then [.tup [.str l, .bl true]] else []) ++ (if l ∈ i then [.tup [.str l, .bl false]] else [])
def slotL (ln o i : List (List Nat)) : List D := ln.flatMap (slot1 o i)
theorem slot1_len (o i : List (List Nat)) (l : List Nat) : (slot1 o i l).length ≤ 2 := by
  unfold slot1
  split <;> split <;> simp
theorem slotL_len {ln o i : List (List Nat)} (h : ln.length ≤ 3) : (slotL ln o i).length ≤ 6 := by
  have := flat_len (f := slot1 o i) (c := 2) ln fun l _ => slot1_len o i l
  unfold slotL
  omega
def wSlots (w : IL) : IS := (sSeq (sAsg (iLstH aNil) (gV 2))
  (sSeq (sFor w (gV 3) (sSeq (sIf (tCmpB .In (iV 3) (iIx (iV 1) (iC (.int 1)))) (sSeq (sDrop (iApp (iV 2) (iTup (aCons (iV 3) (aCons (iC (.bl true)) aNil)))))
  sNx) sNx)
  (sSeq (sIf (tCmpB .In (iV 3) (iIx (iV 1) (iC (.int 2)))) (sSeq (sDrop (iApp (iV 2) (iTup (aCons (iV 3) (aCons (iC (.bl false)) aNil)))))
  sNx) sNx)
  sNx)))
  (sSeq (sRet (iV 2))
  sNx)))
theorem app_last {a e : I} {ρ : Fns} {g : List Sl} {h : List Ob} {l : List D} {v : D} (ha : a ρ ⟨g, h ++ [.lst l]⟩ = .ok (.ref h.length) ⟨g, h ++ [.lst l]⟩) (he : e ρ ⟨g, h ++ [.lst l]⟩ = .ok v ⟨g, h ++ [.lst l]⟩) (hz : l.length < 1000000) : iApp a e ρ ⟨g, h ++ [.lst l]⟩ = .ok .non ⟨g, h ++ [.lst (l ++ [v])]⟩ := by
  have k : (h ++ [Ob.lst l])[h.length]? = some (.lst l) := by simp
  have hz' : l.length < sizeLine := Nat.lt_of_lt_of_le hz (by decide)
  unfold iApp
  simp only [ha, bind_ok, k, he, hz', if_true]
  simp
theorem slot_step {ρ : Fns} {x : D} {s o i p : List (List Nat)} {h : List Ob} {l : List Nat} {acc : List D} {j : Int} {b : Bool} {r : IS} {P : Fl → S → Prop} (hj : ∀ h, ixD h (trip s o i) (.int j) = some (rowD p)) (hz : acc.length < 1000)
    (hr : Runs r ρ ⟨[.val x, .val (trip s o i), .val (.ref h.length), .val (.str l)], h ++ [.lst (acc ++ if l ∈ p then [.tup [.str l, .bl b]] else [])]⟩ P) :
    Runs (sSeq (sIf (tCmpB .In (iV 3) (iIx (iV 1) (iC (.int j)))) (sSeq (sDrop (iApp (iV 2) (iTup (aCons (iV 3) (aCons (iC (.bl b)) aNil))))) sNx) sNx) r) ρ ⟨[.val x, .val (trip s o i), .val (.ref h.length), .val (.str l)], h ++ [.lst acc]⟩ P := by
  have z2 : ∀ x y : D, ([x, y] : List D).length ≤ sizeLine := fun _ _ => sz (by simp)
  refine run_if (decide (l ∈ p)) (h ++ [.lst acc]) ?_ ?_
  · simp only [e_CmpB, e_V, List.getElem?_cons_zero, List.getElem?_cons_succ, bind_ok, e_Ix, e_C, hj, lift_some, in_tL, liftT_some]
  by_cases hl : l ∈ p
  · rw [if_pos hl] at hr
    rw [decide_eq_true hl]
    refine run_drop .non _ (app_last (v := .tup [.str l, .bl b]) rfl ?_ (by omega)) (run_nx hr)
    simp only [e_Tup, e_aCons, e_aNil, e_V, e_C, List.getElem?_cons_zero, List.getElem?_cons_succ, bind_ok, z2, if_true, lift_some]
  · rw [if_neg hl, List.append_nil] at hr
    rw [decide_eq_false hl]
    exact run_nx hr
theorem slots_ok {ρ : Fns} {w : IL} {x : D} {h : List Ob} {ln s o i : List (List Nat)} (hw : w ρ ⟨[.val x, .val (trip s o i), .val (.ref h.length), .no], h ++ [.lst []]⟩ = .ok (sL ln) ⟨[.val x, .val (trip s o i), .val (.ref h.length), .no], h ++ [.lst []]⟩) (hl : ln.length ≤ 3) :
    runD 4 (wSlots w) ρ [x, trip s o i] h = .ok (.ref h.length) (h ++ [.lst (slotL ln o i)]) := by
  refine Does.eq (run_does (g := [.val x, .val (trip s o i), .no, .no]) rfl ?_)
  unfold wSlots
  have z0 : ([] : List D).length ≤ sizeLine := sz (by simp)
  refine run_asg (.ref h.length) (h ++ [.lst []]) ?_ ?_
  · unfold iLstH
    simp only [e_aNil, bind_ok, z0, if_true]
  simp only [List.set_cons_zero, List.set_cons_succ]
  refine run_for (fun ds st => ∃ dn rest z3, ln = dn ++ rest ∧ ds = sL rest ∧ st = ⟨[.val x, .val (trip s o i), .val (.ref h.length), z3], h ++ [.lst (slotL dn o i)]⟩) (sL ln) _ hw ⟨[], ln, .no, rfl, rfl, rfl⟩ ?_ ?_
  · rintro d ds st ⟨dn, rest, z3, e1, e2, rfl⟩
    obtain ⟨n, r, rfl, rfl, rfl⟩ := sL_cons e2
    refine ⟨_, rfl, ?_⟩
    simp only [List.set_cons_zero, List.set_cons_succ]
    have dl : (slotL dn o i).length ≤ 6 := slotL_len (by rw [e1, List.length_append] at hl; omega)
    refine slot_step (p := o) (fun _ => rfl) (by omega) (slot_step (p := i) (fun _ => rfl) ?_ (run_nx ⟨.inl rfl, dn ++ [n], r, .val (.str n), by rw [e1]; simp, rfl, ?_⟩))
    · rw [List.length_append]
      split <;> simp <;> omega
    · simp [slotL, slot1, List.flatMap_append]
  · rintro st ⟨dn, rest, z3, e1, e2, rfl⟩
    have : rest = [] := by cases rest with | nil => rfl | cons => cases e2
    subst this
    rw [List.append_nil] at e1
    subst e1
    exact run_ret _ _ rfl ⟨rfl, rfl⟩
/-! ### is_part -/
def isStr : D → Bool
  | .str _ => true
  | _ => false
def partB (ns : List (List Nat)) : D → Bool
  | .tup l => (match strL l with
    | some r => decide (r = ns.filter fun w => decide (w ∈ r))
    | none => false)
  | _ => false
def partOk : D → Bool
  | .tup l => l.all askable && (match strL l with
    | some r => r.all cpOk
    | none => true)
  | d => askable d
def wIsPart (tb : List (Str × Str)) : IS := (sSeq (sIf (tOr (tNot (tTru (iBi .isi (aCons (iV 0) (aCons (iC (.ty "tuple")) aNil))))) (tNot (tTru (iBi .all (aCons (iComp (wSeq (iV 0)) (gV 2) tYes (iBi .isi (aCons (iV 2) (aCons (iC (.ty "str")) aNil))) [2]) aNil))))) (sSeq (sRet (iC (.bl false)))
  sNx) sNx)
  (sSeq (sRet (iEqO tb false (iV 0) (iBi .tup (aCons (iComp (wSeq (iV 1)) (gV 3) (tCmpB .In (iV 3) (iV 0)) (iV 3) [3]) aNil))))
  sNx))
theorem strL_of : ∀ {l : List D}, l.all isStr = true → ∃ r, strL l = some r ∧ l = sL r
  | [], _ => ⟨[], rfl, rfl⟩
  | d :: l, h => by
    simp only [List.all_cons, Bool.and_eq_true] at h
    obtain ⟨r, e1, e2⟩ := strL_of h.2
    cases d <;> first | (cases h.1; done) | skip
    rename_i w
    refine ⟨w :: r, ?_, by rw [e2]; rfl⟩
    show (strL l).map (w :: ·) = _
    rw [e1]
    rfl
theorem strL_no : ∀ {l : List D}, l.all isStr = false → strL l = none
  | [], h => by cases h
  | d :: l, h => by
    simp only [List.all_cons, Bool.and_eq_false_iff] at h
    cases d <;> first | rfl | skip
    rename_i w
    rcases h with h | h
    · cases h
    · show (strL l).map (w :: ·) = _
      rw [strL_no h]
      rfl
theorem compF {k : IG} {t : IT} {e : I} {vs : List Nat} {ρ : Fns} {wg : List Sl} {h : List Ob} {p : D → Bool} : ∀ ds : List D, (∀ d ∈ ds, ∃ s1, k d ⟨wg, h⟩ = some s1 ∧ t ρ s1 = .ok (p d) s1 ∧ e ρ s1 = .ok d s1 ∧ wipeS s1.g vs = wg ∧ s1.h = h) → compL k t e vs ρ ds ⟨wg, h⟩ = some (ds.filter p, ⟨wg, h⟩)
  | [], _ => rfl
  | d :: ds, H => by
    obtain ⟨s1, h1, h2, h3, h4, h5⟩ := H d List.mem_cons_self
    have ih := compF (k := k) (t := t) (e := e) (vs := vs) (ρ := ρ) (wg := wg) (h := h) (p := p) ds fun d hd => H d (List.mem_cons_of_mem _ hd)
    cases hp : p d with
    | true =>
      rw [hp] at h2
      simp only [compL, h1, h2, h3, h4, h5, ih, List.filter_cons, hp, if_true]
    | false =>
      rw [hp] at h2
      simp [compL, h1, h2, h3, h4, h5, ih, List.filter_cons, hp]
theorem i_filter {w : IL} {k : IG} {t : IT} {e : I} {vs : List Nat} {ρ : Fns} {g : List Sl} {h : List Ob} {ds : List D} {p : D → Bool} (hw : w ρ ⟨g, h⟩ = .ok ds ⟨g, h⟩)
    (H : ∀ d ∈ ds, ∃ s1, k d ⟨wipeS g vs, h⟩ = some s1 ∧ t ρ s1 = .ok (p d) s1 ∧ e ρ s1 = .ok d s1 ∧ wipeS s1.g vs = wipeS g vs ∧ s1.h = h) (hg : backS (wipeS g vs) g vs = g) : iComp w k t e vs ρ ⟨g, h⟩ = .ok (.lst (ds.filter p)) ⟨g, h⟩ := by
  show (w ρ ⟨g, h⟩).bind (fun ds s => match compL k t e vs ρ ds ⟨wipeS s.g vs, s.h⟩ with
    | some (ys, s') => R.ok (D.lst ys) ⟨backS s'.g s.g vs, s'.h⟩
    | none => .bad) = _
  rw [hw, bind_ok]
  show (match compL k t e vs ρ ds ⟨wipeS g vs, h⟩ with
    | some (ys, s') => R.ok (D.lst ys) ⟨backS s'.g g vs, s'.h⟩
    | none => .bad) = _
  rw [compF ds H]
  show R.ok _ (⟨backS (wipeS g vs) g vs, h⟩ : S) = _
  rw [hg]
theorem isi_str {d : D} (h : askable d = true) (hh : List Ob) : biD .isi hh [d, .ty "str"] = some (.bl (isStr d)) := by
  cases d <;> first | rfl | cases h
theorem isi_tup {d : D} (h : askable d = true) (hh : List Ob) (hd : ∀ l, d ≠ .tup l) : biD .isi hh [d, .ty "tuple"] = some (.bl false) := by
  cases d <;> first | rfl | (cases h; done) | exact absurd rfl (hd _)
theorem all_map {α : Type} (l : List α) (f : α → Bool) (h : List Ob) : biD .all h [.lst (l.map fun d => D.bl (f d))] = some (.bl (l.all f)) := by
  have : ∀ l : List α, bools (l.map fun d => D.bl (f d)) = some (l.map f) := fun l => by
    induction l with
    | nil => rfl
    | cons a v ih =>
      show (bools (v.map _)).map _ = _
      rw [ih]
      rfl
  show (bools _).map (fun bs => D.bl (bs.all id)) = _
  rw [this]
  simp [List.all_map]
theorem ispart_ok {ρ : Fns} {tb : List (Str × Str)} {h : List Ob} {x : D} {ns : List (List Nat)} (hx : partOk x = true) (hc : ∀ w ∈ ns, cpOk w = true) : runD 4 (wIsPart tb) ρ [x, .tup (sL ns)] h = .ok (.bl (partB ns x)) h := by
  refine Does.eq (run_does (g := [.val x, .val (.tup (sL ns)), .no, .no]) rfl ?_)
  unfold wIsPart
  by_cases ht : ∃ l, x = .tup l
  · obtain ⟨l, rfl⟩ := ht
    have hx : (l.all askable && (match strL l with
      | some r => r.all cpOk
      | none => true)) = true := hx
    rw [Bool.and_eq_true] at hx
    obtain ⟨hx1, hx2⟩ := hx
    have c := i_map (f := fun d => .bl (isStr d)) (ρ := ρ) (g := [.val (.tup l), .val (.tup (sL ns)), .no, .no]) (h := h) (h1 := h) (vs := [2]) (k := gV 2)
      (w := wSeq (iV 0)) (e := iBi .isi (aCons (iV 2) (aCons (iC (.ty "str")) aNil))) (ds := l) (by simp) (fun d hd => by
        refine ⟨_, ⟨[.val (.tup l), .val (.tup (sL ns)), .val d, .no], h⟩, rfl, ?_, rfl, rfl⟩
        have := isi_str (List.all_eq_true.mp hx1 d hd) h
        simp only [wipeS, List.set_cons_zero, List.set_cons_succ, e_Bi, e_aCons, e_aNil, e_V, e_C, List.getElem?_cons_zero, List.getElem?_cons_succ, bind_ok, this, lift_some]) rfl
    have al := all_map l isStr h
    cases hs : l.all isStr with
    | false =>
      have pb : partB ns (.tup l) = false := by
        show (match strL l with
          | some r => decide (r = ns.filter fun w => decide (w ∈ r))
          | none => false) = false
        rw [strL_no hs]
      rw [hs] at al
      refine run_if true h ?_ (run_ret (.bl false) h rfl ⟨by rw [pb], rfl⟩)
      simp only [e_Or, e_Not, e_Tru, e_Bi, e_aCons, e_aNil, e_V, e_C, List.getElem?_cons_zero, List.getElem?_cons_succ, bind_ok, i_tup_tuple, lift_some, t_bl, liftT_some, Bool.not_true, c, al, Bool.not_false]
    | true =>
      obtain ⟨r, e1, e2⟩ := strL_of hs
      rw [e1] at hx2
      have cr : ∀ w ∈ r, cpOk w = true := fun w hw => List.all_eq_true.mp hx2 w hw
      have pb : partB ns (.tup l) = decide (r = ns.filter fun w => decide (w ∈ r)) := by
        show (match strL l with
          | some r => decide (r = ns.filter fun w => decide (w ∈ r))
          | none => false) = _
        rw [e1]
      rw [hs] at al
      refine run_ifF h ?_ ?_
      · simp only [e_Or, e_Not, e_Tru, e_Bi, e_aCons, e_aNil, e_V, e_C, List.getElem?_cons_zero, List.getElem?_cons_succ, bind_ok, i_tup_tuple, lift_some, t_bl, liftT_some, Bool.not_true, c, al]
      subst e2
      have f := i_filter (p := fun d => match d with | .str w => decide (w ∈ r) | _ => false) (ρ := ρ) (g := [.val (.tup (sL r)), .val (.tup (sL ns)), .no, .no]) (h := h) (vs := [3]) (k := gV 3) (t := tCmpB .In (iV 3) (iV 0)) (e := iV 3)
        (w := wSeq (iV 1)) (ds := sL ns) (by simp) (fun d hd => by
          obtain ⟨w, hw, rfl⟩ := List.mem_map.mp hd
          refine ⟨⟨[.val (.tup (sL r)), .val (.tup (sL ns)), .no, .val (.str w)], h⟩, rfl, ?_, rfl, rfl, rfl⟩
          simp only [e_CmpB, e_V, List.getElem?_cons_zero, List.getElem?_cons_succ, bind_ok, in_tL, liftT_some]) rfl
      have fe : (sL ns).filter (fun d => match d with | .str w => decide (w ∈ r) | _ => false) = sL (ns.filter fun w => decide (w ∈ r)) := by
        rw [sL, List.filter_map]
        rfl
      rw [fe] at f
      have tp : ∀ h, biD .tup h [.lst (sL (ns.filter fun w => decide (w ∈ r)))] = some (.tup (sL (ns.filter fun w => decide (w ∈ r)))) := fun _ => rfl
      have n1 : eqN 1 (.tup (sL r)) = true := eqN_strs (n := 0) cr
      have n2 : eqN 1 (.tup (sL (ns.filter fun w => decide (w ∈ r)))) = true := eqN_strs (n := 0) fun w hw => hc w (List.mem_filter.mp hw).1
      have q : ∀ s : S, eqOwn tb false ρ (.tup (sL r)) (.tup (sL (ns.filter fun w => decide (w ∈ r)))) s = .ok (.bl (decide (r = ns.filter fun w => decide (w ∈ r)))) s := fun s => by
        rw [o_data (n := 1) n1 n2 (by decide), eqD_t]
      refine run_ret (.bl (partB ns (.tup (sL r)))) h ?_ ⟨rfl, rfl⟩
      simp only [e_EqO, e_V, List.getElem?_cons_zero, List.getElem?_cons_succ, bind_ok, e_Bi, e_aCons, e_aNil, f, tp, lift_some, q, pb]
  · have hx' : askable x = true := by
      cases x <;> first | exact hx | exact absurd ⟨_, rfl⟩ ht
    have pb : partB ns x = false := by
      cases x <;> first | rfl | exact absurd ⟨_, rfl⟩ ht
    have it := isi_tup hx' h fun l e => ht ⟨l, e⟩
    refine run_if true h ?_ (run_ret (.bl false) h rfl ⟨by rw [pb], rfl⟩)
    simp only [e_Or, e_Not, e_Tru, e_Bi, e_aCons, e_aNil, e_V, e_C, List.getElem?_cons_zero, List.getElem?_cons_succ, bind_ok, it, lift_some, t_bl, liftT_some, Bool.not_false]
def PartsOk (ρ : Fns) : Prop := ∀ (x : D) (ns : List (List Nat)) (h : List Ob), partOk x = true → (∀ w ∈ ns, cpOk w = true) → ρ "is_part" [x, .tup (sL ns)] h = .ok (.bl (partB ns x)) h
/-! ### is_profile -/
def profB (fl ln : List (List Nat)) : D → Bool
  | .tup [a, b, c] => partB fl a && (partB ln b && partB ln c)
  | _ => false
def profOk : D → Bool
  | .tup [a, b, c] => partOk a && (partOk b && partOk c)
  | d => askable d
def wIsProf (tb : List (Str × Str)) (tf tl : List (Str × Ah)) : IS := (sSeq (sIf (tOr (tNot (tTru (iBi .isi (aCons (iV 1) (aCons (iC (.ty "tuple")) aNil))))) (tEqO tb true (iBi .len (aCons (iV 1) aNil)) (iC (.int 3)))) (sSeq (sRet (iC (.bl false)))
  sNx) sNx)
  (sSeq (sRet (iAnd (iCall "is_part" [.ix 0, .ix 1] (aCons (iIx (iV 1) (iC (.int 0))) (aCons (iAt tf (iV 0) "own_flags") aNil)) aNil) (iBi .all (aCons (iComp (wSeq (iSl (iV 1) (pInt (iC (.int 1))) pNo)) (gV 2) tYes (iCall "is_part" [.ix 0, .ix 1] (aCons (iV 2) (aCons (iAt tl (iV 0) "own_links") aNil)) aNil) [2]) aNil))))
  sNx))
theorem slice_fromT (l : List D) (n : Nat) (h : List Ob) : slD h (.tup l) (some (n : Int)) none = some (.tup (l.drop n)) := by
  show some (D.tup (cut l (some (n : Int)) none)) = _
  unfold cut
  rw [HT.sIx_none, HT.sIx_nat]
  by_cases hn : n ≤ l.length
  · rw [Nat.min_eq_left hn, List.take_of_length_le (by simp)]
  · rw [Nat.min_eq_right (by omega), List.drop_length, List.drop_of_length_le (by omega)]
    simp
theorem slice_toT (l : List D) (n : Nat) (h : List Ob) : slD h (.tup l) none (some (n : Int)) = some (.tup (l.take n)) := by
  show some (D.tup (cut l none (some (n : Int)))) = _
  unfold cut
  rw [HT.sIx_none, HT.sIx_nat]
  simp
theorem len3 {l : List D} (h : l.length = 3) : ∃ a b c, l = [a, b, c] := by
  match l, h with
  | [a, b, c], _ => exact ⟨a, b, c, rfl⟩
theorem isprof_ok {ρ : Fns} {tb : List (Str × Str)} {tf tl : List (Str × Ah)} (PO : PartsOk ρ) (hf : tf.lookup ("Schema" : Str) = some Ah.fld) (hl : tl.lookup ("Schema" : Str) = some Ah.fld) {h : List Ob} {fl ln : List (List Nat)} (G : GoodS fl ln) {x : D} (hx : profOk x = true) :
    runD 3 (wIsProf tb tf tl) ρ [schD fl ln, x] h = .ok (.bl (profB fl ln x)) h := by
  refine Does.eq (run_does (g := [.val (schD fl ln), .val x, .no]) rfl ?_)
  unfold wIsProf
  by_cases ht : ∃ l, x = .tup l
  · obtain ⟨l, rfl⟩ := ht
    have lt : ∀ h, biD .len h [.tup l] = some (.int l.length) := fun _ => rfl
    by_cases h3 : l.length = 3
    · obtain ⟨a, b, c, rfl⟩ := len3 h3
      have hx : (partOk a && (partOk b && partOk c)) = true := hx
      simp only [Bool.and_eq_true] at hx
      obtain ⟨ha, hb, hc⟩ := hx
      refine run_ifF h ?_ ?_
      · simp only [e_Or, e_Not, e_Tru, e_Bi, e_aCons, e_aNil, e_V, e_C, List.getElem?_cons_zero, List.getElem?_cons_succ, bind_ok, i_tup_tuple, lift_some, t_bl, liftT_some, Bool.not_true, e_EqT, lt, o_ne]
        rfl
      have af : ∀ z : Sl, iAt tf (iV 0) "own_flags" ρ ⟨[.val (schD fl ln), .val (.tup [a, b, c]), z], h⟩ = .ok (.tup (sL fl)) ⟨[.val (schD fl ln), .val (.tup [a, b, c]), z], h⟩ := fun z => at_fld (c := "Schema") (ns := ["own_flags", "own_links"]) (ds := [.tup (sL fl), .tup (sL ln)]) rfl hf rfl
      have al : ∀ z : Sl, iAt tl (iV 0) "own_links" ρ ⟨[.val (schD fl ln), .val (.tup [a, b, c]), z], h⟩ = .ok (.tup (sL ln)) ⟨[.val (schD fl ln), .val (.tup [a, b, c]), z], h⟩ := fun z => at_fld (c := "Schema") (ns := ["own_flags", "own_links"]) (ds := [.tup (sL fl), .tup (sL ln)]) rfl hl rfl
      have i0 : ∀ h, ixD h (.tup [a, b, c]) (.int 0) = some a := fun _ => rfl
      have sl : ∀ h, slD h (.tup [a, b, c]) (some 1) none = some (.tup [b, c]) := fun h => slice_fromT [a, b, c] 1 h
      have p1 := PO a fl h ha G.flcp
      have p2 : ∀ d ∈ [b, c], ρ "is_part" [d, .tup (sL ln)] h = .ok (.bl (partB ln d)) h := fun d hd => by
        simp only [List.mem_cons, List.not_mem_nil, or_false] at hd
        rcases hd with rfl | rfl
        · exact PO _ ln h hb G.lncp
        · exact PO _ ln h hc G.lncp
      have cc := i_map (f := fun d => .bl (partB ln d)) (ρ := ρ) (g := [.val (schD fl ln), .val (.tup [a, b, c]), .no]) (h := h) (h1 := h) (vs := [2]) (k := gV 2)
        (w := wSeq (iSl (iV 1) (pInt (iC (.int 1))) pNo)) (e := iCall "is_part" [.ix 0, .ix 1] (aCons (iV 2) (aCons (iAt tl (iV 0) "own_links") aNil)) aNil) (ds := [b, c]) (by simp only [e_wSeq, e_Sl, e_V, e_pInt, e_pNo, e_C, List.getElem?_cons_zero, List.getElem?_cons_succ, bind_ok, sl, lift_some]) (fun d hd => by
          refine ⟨_, ⟨[.val (schD fl ln), .val (.tup [a, b, c]), .val d], h⟩, rfl, ?_, rfl, rfl⟩
          have := p2 d hd
          simp only [wipeS, List.set_cons_zero, List.set_cons_succ, e_Call, e_aCons, e_aNil, e_V, List.getElem?_cons_zero, List.getElem?_cons_succ, bind_ok, al, List.append_nil, List.cons_append, List.nil_append, permD, this, e_ofF]) rfl
      have aa := all_map [b, c] (partB ln) h
      refine run_ret (.bl (profB fl ln (.tup [a, b, c]))) h ?_ ⟨rfl, rfl⟩
      cases hp : partB fl a with
      | false =>
        rw [hp] at p1
        simp only [e_iAnd, e_Call, e_aCons, e_aNil, e_Ix, e_V, e_C, List.getElem?_cons_zero, List.getElem?_cons_succ, bind_ok, i0, lift_some, af, List.append_nil, List.cons_append, List.nil_append, permD, p1, e_ofF, t_bl, profB, hp, Bool.false_and]
      | true =>
        rw [hp] at p1
        simp only [e_iAnd, e_Call, e_aCons, e_aNil, e_Ix, e_V, e_C, List.getElem?_cons_zero, List.getElem?_cons_succ, bind_ok, i0, lift_some, af, List.append_nil, List.cons_append, List.nil_append, permD, p1, e_ofF, t_bl, e_Bi, cc, aa, profB, hp, Bool.true_and, List.all_cons, List.all_nil, Bool.and_true]
    · have pb : profB fl ln (.tup l) = false := by
        unfold profB
        split
        · rename_i e
          cases e
          exact absurd rfl h3
        · rfl
      have h3' : ¬ (l.length : Int) = 3 := by omega
      refine run_if true h ?_ (run_ret (.bl false) h rfl ⟨by rw [pb], rfl⟩)
      simp only [e_Or, e_Not, e_Tru, e_Bi, e_aCons, e_aNil, e_V, e_C, List.getElem?_cons_zero, List.getElem?_cons_succ, bind_ok, i_tup_tuple, lift_some, t_bl, liftT_some, Bool.not_true, e_EqT, lt, o_ne, h3', decide_false, Bool.not_false]
  · have hx' : askable x = true := by
      cases x <;> first | exact hx | exact absurd ⟨_, rfl⟩ ht
    have pb : profB fl ln x = false := by
      cases x <;> first | rfl | exact absurd ⟨_, rfl⟩ ht
    have it := isi_tup hx' h fun l e => ht ⟨l, e⟩
    refine run_if true h ?_ (run_ret (.bl false) h rfl ⟨by rw [pb], rfl⟩)
    simp only [e_Or, e_Not, e_Tru, e_Bi, e_aCons, e_aNil, e_V, e_C, List.getElem?_cons_zero, List.getElem?_cons_succ, bind_ok, it, lift_some, t_bl, liftT_some, Bool.not_false]
/-! ### the drawn schema -/
def wLSchema : IS := (sSeq (sRet (iMake "Schema" "Schema.__init__" [.ix 0, .ix 1, .ix 2] true (aCons (iBi .list (aCons (iIx (iV 0) (iC (.int 0))) aNil)) (aCons (iBi .list (aCons (iIx (iV 0) (iC (.int 1))) aNil)) aNil)) aNil))
  sNx)
theorem lschema_ok {ρ : Fns} (SC : SchOk ρ) {h : List Ob} {fl ln : List (List Nat)} (G : GoodS fl ln) : runD 1 wLSchema ρ [grD fl ln] h = .ok (schD fl ln) h := by
  refine Does.eq (run_does (g := [.val (grD fl ln)]) rfl ?_)
  have g0 : ∀ h, ixD h (grD fl ln) (.int 0) = some (.lst (sL fl)) := fun h => rfl
  have g1 : ∀ h, ixD h (grD fl ln) (.int 1) = some (.lst (sL ln)) := fun h => rfl
  have b : ∀ l h, biD .list h [.lst l] = some (.lst l) := fun _ _ => rfl
  have m := SC.init h fl ln (.lst (sL fl)) (.lst (sL ln)) G rfl rfl
  refine run_ret (schD fl ln) h ?_ ⟨rfl, rfl⟩
  simp only [e_Make, e_aCons, e_aNil, e_Bi, e_Ix, e_V, e_C, bind_ok, List.getElem?_cons_zero, List.getElem?_cons_succ, g0, g1, b, lift_some, List.append_nil, List.cons_append, List.nil_append, permD, m, sch_made]
/-! ### plain facts -/
theorem sub_filter {s l : List (List Nat)} (h : List.Sublist s l) (nd : l.Nodup) : s = l.filter fun w => decide (w ∈ s) := by
  induction h with
  | slnil => rfl
  | @cons s l a h ih =>
    have nd' := List.nodup_cons.mp nd
    have : a ∉ s := fun z => nd'.1 (h.subset z)
    rw [List.filter_cons, if_neg (by simpa using this)]
    exact ih nd'.2
  | @cons_cons s l a h ih =>
    have nd' := List.nodup_cons.mp nd
    rw [List.filter_cons, if_pos (by simp)]
    congr 1
    have e : l.filter (fun w => decide (w ∈ a :: s)) = l.filter fun w => decide (w ∈ s) := List.filter_congr fun w hw => by
      have : w ≠ a := fun z => nd'.1 (z ▸ hw)
      simp [this]
    rw [e]
    exact ih nd'.2
theorem part_row {ns r : List (List Nat)} : partB ns (rowD r) = decide (r = ns.filter fun w => decide (w ∈ r)) := by
  show (match strL (sL r) with
    | some r => decide (r = ns.filter fun w => decide (w ∈ r))
    | none => false) = _
  rw [strL_strs]
theorem part_sub {ns r : List (List Nat)} (h : List.Sublist r ns) (nd : ns.Nodup) : partB ns (rowD r) = true := by
  rw [part_row]
  exact decide_eq_true (sub_filter h nd)
theorem part_same {ns r q : List (List Nat)} (h : List.Sublist r ns) (nd : ns.Nodup) (hq : ∀ w, w ∈ q ↔ w ∈ r) : partB ns (rowD q) = decide (q = r) := by
  rw [part_row]
  have e : ns.filter (fun w => decide (w ∈ q)) = r := by
    rw [show (fun w => decide (w ∈ q)) = fun w => decide (w ∈ r) from funext fun w => by simp [hq w]]
    exact (sub_filter h nd).symm
  rw [e]
theorem row_ok {r : List (List Nat)} (h : ∀ w ∈ r, cpOk w = true) : partOk (rowD r) = true := by
  show ((sL r).all askable && (match strL (sL r) with
    | some r => r.all cpOk
    | none => true)) = true
  rw [strL_strs]
  simp only [Bool.and_eq_true, List.all_eq_true]
  refine ⟨fun d hd => ?_, h⟩
  obtain ⟨w, _, rfl⟩ := List.mem_map.mp hd
  rfl
theorem eqD_ttt (a b c a' b' c' : List (List Nat)) : eqD (trip a b c) (trip a' b' c') = (decide (a = a') && (decide (b = b') && decide (c = c'))) := by
  show (PyData.eqvAll (pds (sL a)) (pds (sL a')) && (PyData.eqvAll (pds (sL b)) (pds (sL b')) && (PyData.eqvAll (pds (sL c)) (pds (sL c')) && true))) = _
  rw [eqD_strs, eqD_strs, eqD_strs, Bool.and_true]
end B
end
section
set_option Elab.async false
set_option linter.all false
set_option maxRecDepth 100000
set_option maxHeartbeats 4000000
/-! methods, calls by snapshot, == of a thing with itself -/
namespace B
open PySem
theorem meth_ok {tb : List (Str × Str × List Ai)} {o : I} {m c key : Str} {a b : IL} {ρ : Fns} {g : List Sl} {h h' : List Ob} {ns : List Str} {ds xs ys zs : List D} {pm : List Ai} {d : D} (ho : o ρ ⟨g, h⟩ = .ok (.ins c ns ds) ⟨g, h⟩) (ht : tb.lookup c = some (key, pm)) (hn : lookD m ns ds = none)
    (ha : a ρ ⟨g, h⟩ = .ok xs ⟨g, h⟩) (hb : b ρ ⟨g, h⟩ = .ok ys ⟨g, h⟩) (hp : permD pm (.ins c ns ds :: xs ++ ys) = some zs) (hr : ρ key zs h = .ok d h') : iMeth tb o m a b ρ ⟨g, h⟩ = .ok d ⟨g, h'⟩ := by
  show (o ρ ⟨g, h⟩).bind _ = _
  rw [ho, bind_ok]
  show (match tb.lookup c, lookD m ns ds with
    | some (key, pm), none => (a ρ ⟨g, h⟩).bind fun xs s => (b ρ s).bind fun ys s => match permD pm (D.ins c ns ds :: xs ++ ys) with
      | some zs => ofF s.g (ρ key zs s.h)
      | none => .bad
    | _, _ => .bad) = _
  rw [ht, hn]
  show ((a ρ ⟨g, h⟩).bind fun xs s => (b ρ s).bind fun ys s => match permD pm (.ins c ns ds :: xs ++ ys) with
      | some zs => ofF s.g (ρ key zs s.h)
      | none => .bad) = _
  rw [ha, bind_ok, hb, bind_ok, hp]
  show ofF g (ρ key zs h) = _
  rw [hr]
  rfl
theorem app_new {a e : I} {ρ : Fns} {g : List Sl} {h0 h : List Ob} {l : List D} {v : D} (ha : a ρ ⟨g, h0⟩ = .ok (.ref h.length) ⟨g, h ++ [.lst l]⟩) (he : e ρ ⟨g, h ++ [.lst l]⟩ = .ok v ⟨g, h ++ [.lst l]⟩) (hz : l.length < 1000000) : iApp a e ρ ⟨g, h0⟩ = .ok .non ⟨g, h ++ [.lst (l ++ [v])]⟩ := by
  have k : (h ++ [Ob.lst l])[h.length]? = some (.lst l) := by simp
  have hz' : l.length < sizeLine := Nat.lt_of_lt_of_le hz (by decide)
  unfold iApp
  simp only [ha, bind_ok, k, he, hz', if_true]
  simp
theorem okD_scp (k : Nat) : ∀ (n : Nat) (d : D), okD n d = true → scp k d = true := fun n => by
  have many : ∀ (n : Nat), (∀ d, okD n d = true → scp k d = true) → ∀ l : List D, l.all (okD n) = true → scps k l = true := fun n ih l => by
    induction l with
    | nil => intro _; rfl
    | cons d l il =>
      intro h
      simp only [List.all_cons, Bool.and_eq_true] at h
      show (scp k d && scps k l) = true
      rw [ih d h.1, il h.2]
      rfl
  induction n with
  | zero =>
    intro d h
    cases d <;> first | rfl | (cases h; done)
  | succ n ih =>
    intro d h
    cases d with
    | lst l => exact many n ih l h
    | tup l => exact many n ih l h
    | non => rfl
    | bl _ => rfl
    | int _ => rfl
    | str _ => rfl
    | _ => cases h
/-- _law_like of things that stand alike -/
theorem like_snap {ρ : Fns} {f : Str} {a b : I} {g : List Sl} {h h1 h2 : List Ob} {x y z : D} (ha : a ρ ⟨g, h⟩ = .ok x ⟨g, h1⟩) (hb : b ρ ⟨g, h1⟩ = .ok y ⟨g, h2⟩) (hx : snap1 h2 x = z) (hy : snap1 h2 y = z) (hz : scp 0 z = true) (hr : ρ f [z, z] [] = .ok (.bl true) []) :
    iCallG (fun ρ => snapF (ρ f)) [.ix 0, .ix 1] (aCons a (aCons b aNil)) aNil ρ ⟨g, h⟩ = .ok (.bl true) ⟨g, h2⟩ := by
  unfold iCallG
  simp only [e_aCons, e_aNil, ha, hb, bind_ok, List.append_nil, permD, List.getElem?_cons_zero, List.getElem?_cons_succ]
  show ofF g (snapF (ρ f) [x, y] h2) = _
  unfold snapF
  have e : [x, y].map (snap1 h2) = [z, z] := by simp [hx, hy]
  have sc : scps 0 [z, z] = true := by
    show (scp 0 z && (scp 0 z && true)) = true
    rw [hz]
    rfl
  rw [e, if_pos sc, hr]
  rfl
theorem HasBag.app {h r : List Ob} {b : Nat} (B : HasBag h b) : HasBag (h ++ r) b := by
  obtain ⟨l, e, q⟩ := B
  exact ⟨l, by rw [List.getElem?_append_left (List.getElem?_eq_some_iff.mp e).1]; exact e, q⟩
theorem eqD_refl : ∀ (n : Nat) (d : D), eqN n d = true → eqD d d = true := fun n => by
  have flat : ∀ (n : Nat) (d : D), (∀ l, d ≠ .lst l) → (∀ l, d ≠ .tup l) → eqN n d = true → eqD d d = true := fun n d h1 h2 h => by
    cases d with
    | str s => show PyData.eqv (pd (.str s)) (pd (.str s)) = true; rw [eqv_str]; simp
    | non => rfl
    | bl b => cases b <;> rfl
    | int i => simp [eqD, pd, PyData.eqv]
    | lst l => exact absurd rfl (h1 l)
    | tup l => exact absurd rfl (h2 l)
    | _ => cases n <;> cases h
  have many : ∀ (n : Nat), (∀ d, eqN n d = true → eqD d d = true) → ∀ l : List D, l.all (eqN n) = true → PyData.eqvAll (pds l) (pds l) = true := fun n ih l => by
    induction l with
    | nil => intro _; rfl
    | cons d l il =>
      intro h
      simp only [List.all_cons, Bool.and_eq_true] at h
      show (PyData.eqv (pd d) (pd d) && PyData.eqvAll (pds l) (pds l)) = true
      rw [show PyData.eqv (pd d) (pd d) = true from ih d h.1, il h.2]
      rfl
  induction n with
  | zero =>
    intro d h
    refine flat 0 d (fun l e => ?_) (fun l e => ?_) h
    · subst e; cases h
    · subst e; cases h
  | succ n ih =>
    intro d h
    cases d with
    | lst l => exact many n ih l h
    | tup l => exact many n ih l h
    | _ => exact flat (n + 1) _ (fun l e => by cases e) (fun l e => by cases e) h
theorem okD_strs {ws : List (List Nat)} {n : Nat} (h : ∀ w ∈ ws, cpOk w = true) : (sL ws).all (okD n) = true := by
  rw [List.all_eq_true]
  intro d hd
  obtain ⟨w, hw, rfl⟩ := List.mem_map.mp hd
  cases n <;> exact h w hw
theorem trip_okD {s o i : List (List Nat)} {n : Nat} (h1 : ∀ w ∈ s, cpOk w = true) (h2 : ∀ w ∈ o, cpOk w = true) (h3 : ∀ w ∈ i, cpOk w = true) : okD (n + 2) (trip s o i) = true := by
  show ((sL s).all (okD n) && ((sL o).all (okD n) && ((sL i).all (okD n) && true))) = true
  rw [okD_strs h1, okD_strs h2, okD_strs h3]
  rfl
theorem due_cp {fl ln : List (List Nat)} (G : GoodS fl ln) {x : D} (hx : x ∈ due fl ln) : eqN 2 x = true ∧ okD 5 x = true := by
  obtain ⟨s, o, i, hs, ho, hi, rfl⟩ := due_mem hx
  have a := fun w hw => G.flcp w (hs.subset hw)
  have b := fun w hw => G.lncp w (ho.subset hw)
  have c := fun w hw => G.lncp w (hi.subset hw)
  exact ⟨trip_eqN a b c, trip_okD (n := 3) a b c⟩
theorem due_okD {fl ln : List (List Nat)} (G : GoodS fl ln) : okD 6 (.lst (due fl ln)) = true := by
  show (due fl ln).all (okD 5) = true
  rw [List.all_eq_true]
  exact fun x hx => (due_cp G hx).2
theorem due_eqN {fl ln : List (List Nat)} (G : GoodS fl ln) : eqN 3 (.lst (due fl ln)) = true := by
  show (due fl ln).all (eqN 2) = true
  rw [List.all_eq_true]
  exact fun x hx => (due_cp G hx).1
theorem slot_okD {ln o i : List (List Nat)} (h : ∀ w ∈ ln, cpOk w = true) : okD 6 (.lst (slotL ln o i)) = true := by
  show (slotL ln o i).all (okD 5) = true
  rw [List.all_eq_true]
  intro d hd
  obtain ⟨l, hl, hd⟩ := List.mem_flatMap.mp hd
  have hc := h l hl
  have one : ∀ b, okD 5 (.tup [.str l, .bl b]) = true := fun b => by
    show (cpOk l && (true && true)) = true
    rw [hc]
    rfl
  unfold slot1 at hd
  rcases List.mem_append.mp hd with hd | hd
  · split at hd
    · rw [List.mem_singleton.mp hd]; exact one true
    · cases hd
  · split at hd
    · rw [List.mem_singleton.mp hd]; exact one false
    · cases hd
end B
end
section
set_option Elab.async false
set_option linter.all false
set_option maxRecDepth 100000
set_option maxHeartbeats 0
namespace B.K05
open PySem PySem.Spec PyProof.Rows L2
def c_LETTERS : D := (.str [97, 98, 99, 100, 101, 102, 103, 104, 105, 106, 107, 108, 109, 110, 111, 112, 113, 114, 115, 116, 117, 118, 119, 120, 121, 122])
def c_LONGEST_NAME : D := (.int 8)
def c_RESERVED : D := (.tup [(.str [116, 114, 117, 101]), (.str [110, 111, 116]), (.str [97, 110, 100]), (.str [111, 114]), (.str [102, 114, 111, 109]), (.str [116, 111]), (.str [105, 102]), (.str [101, 108, 115, 101]), (.str [101, 110, 100]), (.str [102, 97, 105, 108]), (.str [114, 101, 116, 117, 114, 110]), (.str [99, 97, 108, 108]), (.str [110, 101, 119]), (.str [99, 117, 116]), (.str [116, 105, 101]), (.str [115, 101, 116]), (.str [99, 108, 101, 97, 114]), (.str [100, 114, 111, 112]), (.str [115, 99, 114, 105, 112, 116]), (.str [114, 117, 108, 101]), (.str [103, 114, 97, 112, 104]), (.str [110, 111, 100, 101]), (.str [108, 105, 110, 107]), (.str [102, 108, 97, 103, 115]), (.str [108, 105, 110, 107, 115])])
def c_MOST_FLAGS : D := (.int 3)
def c_MOST_LINKS : D := (.int 3)
def k_Schema : ClsI := { c := "Schema", key := "Schema.__init__", fz := true, flds := ["own_flags", "own_links"], props := [("flags", "Schema.flags"), ("links", "Schema.links")], mths := [("profiles", "Schema.profiles", [(1, [], [.ix 0])]), ("slots", "Schema.slots", [(1, ["profile"], [.ix 0, .ix 1]), (2, [], [.ix 0, .ix 1])]), ("is_profile", "Schema.is_profile", [(2, [], [.ix 0, .ix 1]), (1, ["value"], [.ix 0, .ix 1])])], eq := (some "Schema.__eq__"), rp := (some "Schema.__repr__") }
def cl : List ClsI := [k_Schema]
def AT (f : Str) : List (Str × Ah) := cl.filterMap (ClsI.ah f)
def MT (m : Str) (n : Nat) (ks : List Str) : List (Str × Str × List Ai) := cl.filterMap (ClsI.mt m n ks)
def ST (f : Str) : List Str := cl.filterMap fun c => if f ∈ c.flds then some c.c else none
def eqs : List (Str × Str) := cl.filterMap fun c => c.eq.map fun k => (c.c, k)
def rps : List (Str × Str) := cl.filterMap fun c => c.rp.map fun k => (c.c, k)
def isT : List ((Str × Str) × Bool) := [(("Schema", "Schema"), true)]
def isL : List Str := ["Schema"]
def fb__wall : IS := (sSeq sBad
  sNx)
def fb_is_name : IS := (sSeq (sIf (tOr (tNot (tTru (iBi .isi (aCons (iV 0) (aCons (iC (.ty "str")) aNil))))) (tOr (tNot (tChB .LtE .LtE (iC (.int 1)) (iBi .len (aCons (iV 0) aNil)) (iC c_LONGEST_NAME))) (tCmpB .In (iV 0) (iC c_RESERVED)))) (sSeq (sRet (iC (.bl false)))
  sNx) sNx)
  (sSeq (sRet (iBi .all (aCons (iComp (wSeq (iV 0)) (gV 1) tYes (iCmp .In (iV 1) (iC c_LETTERS)) [1]) aNil)))
  sNx))
def fb_subsets : IS := (sSeq (sAsg (iLst (aCons (iTup aNil) aNil)) (gV 1))
  (sSeq (sFor (wSeq (iV 0)) (gV 2) (sSeq (sAsg (iBin .Add (iV 1) (iComp (wSeq (iV 1)) (gV 3) tYes (iBin .Add (iV 3) (iTup (aCons (iV 2) aNil))) [3])) (gV 1))
  sNx))
  (sSeq (sRet (iV 1))
  sNx)))
def fb_is_part : IS := (sSeq (sIf (tOr (tNot (tTru (iBi .isi (aCons (iV 0) (aCons (iC (.ty "tuple")) aNil))))) (tNot (tTru (iBi .all (aCons (iComp (wSeq (iV 0)) (gV 2) tYes (iBi .isi (aCons (iV 2) (aCons (iC (.ty "str")) aNil))) [2]) aNil))))) (sSeq (sRet (iC (.bl false)))
  sNx) sNx)
  (sSeq (sRet (iEqO eqs false (iV 0) (iBi .tup (aCons (iComp (wSeq (iV 1)) (gV 3) (tCmpB .In (iV 3) (iV 0)) (iV 3) [3]) aNil))))
  sNx))
def fb_Schema___init__ : IS := (sSeq (sAsg (iLst (aStar (iV 1) (aStar (iV 2) aNil))) (gV 3))
  (sSeq (sFor (wSeq (iV 3)) (gV 4) (sSeq (sIf (tNot (tTru (iCall "is_name" [.ix 0] (aCons (iV 4) aNil) aNil))) (sSeq sBad
  sNx) sNx)
  sNx))
  (sSeq (sFor (wEnum (aCons (iV 3) aNil)) (gT [5, 4]) (sSeq (sIf (tCmpB .In (iV 4) (iSl (iV 3) pNo (pInt (iV 5)))) (sSeq sBad
  sNx) sNx)
  sNx))
  (sSeq (sIf (tCmpB .Gt (iBi .len (aCons (iV 1) aNil)) (iC c_MOST_FLAGS)) (sSeq sBad
  sNx) sNx)
  (sSeq (sIf (tNot (tChB .LtE .LtE (iC (.int 1)) (iBi .len (aCons (iV 2) aNil)) (iC c_MOST_LINKS))) (sSeq sBad
  sNx) sNx)
  (sSeq (sAtt (ST "own_flags") (iV 0) "own_flags" (iBi .tup (aCons (iV 1) aNil)))
  (sSeq (sAtt (ST "own_links") (iV 0) "own_links" (iBi .tup (aCons (iV 2) aNil)))
  sNx)))))))
def fb_Schema_flags : IS := (sSeq (sRet (iAt (AT "own_flags") (iV 0) "own_flags"))
  sNx)
def fb_Schema_links : IS := (sSeq (sRet (iAt (AT "own_links") (iV 0) "own_links"))
  sNx)
def fb_Schema_profiles : IS := (sSeq (sAsg (iCall "subsets" [.ix 0] (aCons (iAt (AT "own_links") (iV 0) "own_links") aNil) aNil) (gV 1))
  (sSeq (sRet (iSortH (aCons (iCompB (wSeq (iCall "subsets" [.ix 0] (aCons (iAt (AT "own_flags") (iV 0) "own_flags") aNil) aNil)) (gV 2) tYes (bFor (wSeq (iV 1)) (gV 3) tYes (bFor (wSeq (iV 1)) (gV 4) tYes (bElt (iTup (aCons (iV 2) (aCons (iV 3) (aCons (iV 4) aNil))))) [4]) [3, 4]) [2, 3, 4]) aNil)))
  sNx))
def fb_Schema_slots : IS := (sSeq (sAsg (iLstH aNil) (gV 2))
  (sSeq (sFor (wSeq (iAt (AT "own_links") (iV 0) "own_links")) (gV 3) (sSeq (sIf (tCmpB .In (iV 3) (iIx (iV 1) (iC (.int 1)))) (sSeq (sDrop (iApp (iV 2) (iTup (aCons (iV 3) (aCons (iC (.bl true)) aNil)))))
  sNx) sNx)
  (sSeq (sIf (tCmpB .In (iV 3) (iIx (iV 1) (iC (.int 2)))) (sSeq (sDrop (iApp (iV 2) (iTup (aCons (iV 3) (aCons (iC (.bl false)) aNil)))))
  sNx) sNx)
  sNx)))
  (sSeq (sRet (iV 2))
  sNx)))
def fb_Schema_is_profile : IS := (sSeq (sIf (tOr (tNot (tTru (iBi .isi (aCons (iV 1) (aCons (iC (.ty "tuple")) aNil))))) (tEqO eqs true (iBi .len (aCons (iV 1) aNil)) (iC (.int 3)))) (sSeq (sRet (iC (.bl false)))
  sNx) sNx)
  (sSeq (sRet (iAnd (iCall "is_part" [.ix 0, .ix 1] (aCons (iIx (iV 1) (iC (.int 0))) (aCons (iAt (AT "own_flags") (iV 0) "own_flags") aNil)) aNil) (iBi .all (aCons (iComp (wSeq (iSl (iV 1) (pInt (iC (.int 1))) pNo)) (gV 2) tYes (iCall "is_part" [.ix 0, .ix 1] (aCons (iV 2) (aCons (iAt (AT "own_links") (iV 0) "own_links") aNil)) aNil) [2]) aNil))))
  sNx))
def fb_Schema___eq__ : IS := (sSeq (sIf (tNot (tTru (iBf (isC isT isL) (aCons (iV 1) (aCons (iC (.cls "Schema")) aNil))))) (sSeq (sRet (iC (.bl false)))
  sNx) sNx)
  (sSeq (sRet (iEqO eqs false (iTup (aCons (iAt (AT "own_flags") (iV 0) "own_flags") (aCons (iAt (AT "own_links") (iV 0) "own_links") aNil))) (iTup (aCons (iAt (AT "own_flags") (iV 1) "own_flags") (aCons (iAt (AT "own_links") (iV 1) "own_links") aNil)))))
  sNx))
def fb_Schema___repr__ : IS := (sSeq (sAsg (iOr (iMt .join (iC (.str [32])) (aCons (iAt (AT "own_flags") (iV 0) "own_flags") aNil)) (iC (.str [45]))) (gV 1))
  (sSeq (sRet (jsW [(iC (.str [83, 99, 104, 101, 109, 97, 40])), (iFmt (iV 1)), (iC (.str [58, 32])), (iFmt (iMt .join (iC (.str [32])) (aCons (iAt (AT "own_links") (iV 0) "own_links") aNil))), (iC (.str [41]))] []))
  sNx))
def fb__law_opened : IS := (sSeq (sRet (iLstH (aCons (iBi .list (aCons (iSl (iV 0) pNo (pInt (iC (.int 63)))) aNil)) (aCons (iC (.int 0)) (aCons (iC (.int 0)) (aCons (iC (.int 5744)) (aCons (iC (.int 0)) aNil)))))))
  sNx)
def fb__law_pull : IS := (sSeq (sIf (tAnd (tEqO eqs false (iIx (iV 0) (iC (.int 2))) (iC (.int 0))) (tCmpB .Lt (iIx (iV 0) (iC (.int 1))) (iBi .len (aCons (iIx (iV 0) (iC (.int 0))) aNil)))) (sSeq (sAsg (iIx (iIx (iV 0) (iC (.int 0))) (iIx (iV 0) (iC (.int 1)))) (gV 2))
  (sSeq (sSet (iV 0) (iC (.int 1)) (iBin .Add (iIx (iV 0) (iC (.int 1))) (iC (.int 1))))
  (sSeq (sIf (tCmpB .GtE (iV 2) (iBin .Pow (iC (.int 10)) (iC (.int 18)))) (sSeq (sSet (iV 0) (iC (.int 2)) (iV 2))
  sNx) (sSeq (sSet (iV 0) (iC (.int 3)) (iBin .Mod (iBi .int (aCons (iBin .Add (iBin .Add (iBin .Mult (iIx (iV 0) (iC (.int 3))) (iC (.int 46133))) (iBin .Mult (iBin .Mod (iBi .int (aCons (iV 2) aNil)) (iC (.int 2147483549))) (iC (.int 52963)))) (iC (.int 37))) aNil)) (iC (.int 2147483587))))
  sNx))
  sNx))) sNx)
  (sSeq (sIf (tCmpB .Gt (iIx (iV 0) (iC (.int 2))) (iC (.int 0))) (sSeq (sAsg (iBin .Mod (iBi .int (aCons (iIx (iV 0) (iC (.int 2))) aNil)) (iV 1)) (gV 3))
  (sSeq (sSet (iV 0) (iC (.int 2)) (iBin .FloorDiv (iIx (iV 0) (iC (.int 2))) (iV 1)))
  (sSeq (sRet (iV 3))
  sNx))) sNx)
  (sSeq (sSet (iV 0) (iC (.int 4)) (iBin .Add (iIx (iV 0) (iC (.int 4))) (iC (.int 1))))
  (sSeq (sAsg (iIx (iV 0) (iC (.int 3))) (gV 4))
  (sSeq (sSet (iV 0) (iC (.int 3)) (iBin .Mod (iBi .int (aCons (iBin .Add (iBin .Add (iBin .Add (iBin .Mult (iV 4) (iV 4)) (iBin .Mult (iV 4) (iC (.int 31013)))) (iBin .Mult (iIx (iV 0) (iC (.int 4))) (iC (.int 1299827)))) (iC (.int 87623))) aNil)) (iC (.int 2147483587))))
  (sSeq (sRet (iBin .Mod (iBi .int (aCons (iBin .Add (iBin .FloorDiv (iIx (iV 0) (iC (.int 3))) (iC (.int 73))) (iBin .Mult (iBin .Mod (iBi .int (aCons (iIx (iV 0) (iC (.int 3))) aNil)) (iC (.int 7907))) (iC (.int 61)))) aNil)) (iV 1)))
  sNx))))))
def fb__law_any : IS := (sSeq (sRet (iIx (iV 1) (iCall "_law_pull" [.ix 0, .ix 1] (aCons (iV 0) (aCons (iBi .len (aCons (iV 1) aNil)) aNil)) aNil)))
  sNx)
def fb__law_like : IS := (sSeq (sIf (tTru (iBi .isi (aCons (iV 1) (aCons (iTup (aCons (iC (.ty "list")) (aCons (iC (.ty "tuple")) aNil))) aNil)))) (sSeq (sIf (tOr (tEqO eqs true (iBi .isi (aCons (iV 0) (aCons (iC (.ty "list")) aNil))) (iBi .isi (aCons (iV 1) (aCons (iC (.ty "list")) aNil)))) (tEqO eqs true (iBi .isi (aCons (iV 0) (aCons (iC (.ty "tuple")) aNil))) (iBi .isi (aCons (iV 1) (aCons (iC (.ty "tuple")) aNil))))) (sSeq (sRet (iC (.bl false)))
  sNx) sNx)
  (sSeq (sRet (iAnd (iEqO eqs false (iBi .len (aCons (iV 0) aNil)) (iBi .len (aCons (iV 1) aNil))) (iBi .all (aCons (iComp (wZip (aCons (iV 0) (aCons (iV 1) aNil))) (gT [2, 3]) tYes (iCall "_law_like" [.ix 0, .ix 1] (aCons (iV 2) (aCons (iV 3) aNil)) aNil) [2, 3]) aNil))))
  sNx)) sNx)
  (sSeq (sIf (tOr (tCmpB .Is (iV 1) (iC .non)) (tCmpB .Is (iV 0) (iC .non))) (sSeq (sRet (iAnd (iCmp .Is (iV 1) (iC .non)) (iCmp .Is (iV 0) (iC .non))))
  sNx) sNx)
  (sSeq (sIf (tOr (tEqO eqs true (iBi .isi (aCons (iV 0) (aCons (iC (.ty "bool")) aNil))) (iBi .isi (aCons (iV 1) (aCons (iC (.ty "bool")) aNil)))) (tEqO eqs true (iBi .isi (aCons (iV 0) (aCons (iC (.ty "int")) aNil))) (iBi .isi (aCons (iV 1) (aCons (iC (.ty "int")) aNil))))) (sSeq (sRet (iC (.bl false)))
  sNx) sNx)
  (sSeq (sRet (iAnd (iEqO eqs false (iBi .isi (aCons (iV 0) (aCons (iC (.ty "str")) aNil))) (iBi .isi (aCons (iV 1) (aCons (iC (.ty "str")) aNil)))) (iEqO eqs false (iV 0) (iV 1))))
  sNx))))
def fb__law_names : IS := (sSeq (sAsg (iC (.str [97, 98, 99, 100, 101, 102, 103, 104, 105, 106, 107, 108, 109, 110, 111, 112, 113, 114, 115, 116, 117, 118, 119, 120, 121, 122])) (gV 2))
  (sSeq (sAsg (iMt .join (iC (.str [])) (aCons (iComp (wRange (aCons (iCall "_law_pull" [.ix 0, .ix 1] (aCons (iV 0) (aCons (iC (.int 7)) aNil)) aNil) aNil)) (gV 4) tYes (iCall "_law_any" [.ix 0, .ix 1] (aCons (iV 0) (aCons (iV 2) aNil)) aNil) [4]) aNil)) (gV 3))
  (sSeq (sAsg (iTup (aCons (iCall "_law_pull" [.ix 0, .ix 1] (aCons (iV 0) (aCons (iBin .Add (iBi .len (aCons (iV 3) aNil)) (iC (.int 1))) aNil)) aNil) (aCons (iCall "_law_pull" [.ix 0, .ix 1] (aCons (iV 0) (aCons (iC (.int 26)) aNil)) aNil) aNil))) (gT [5, 6]))
  (sSeq (sAsg (iComp (wRange (aCons (iV 1) aNil)) (gV 4) tYes (iBin .Add (iBin .Add (iSl (iV 3) pNo (pInt (iV 5))) (iIx (iV 2) (iBin .Mod (iBi .int (aCons (iBin .Add (iV 6) (iBin .Mult (iC (.int 5)) (iV 4))) aNil)) (iC (.int 26))))) (iSl (iV 3) (pInt (iV 5)) pNo)) [4]) (gV 7))
  (sSeq (sAsg (iLst (aCons (iC (.str [116, 114, 117, 101])) (aCons (iC (.str [110, 111, 116])) (aCons (iC (.str [97, 110, 100])) (aCons (iC (.str [111, 114])) (aCons (iC (.str [102, 114, 111, 109])) (aCons (iC (.str [116, 111])) (aCons (iC (.str [105, 102])) (aCons (iC (.str [101, 108, 115, 101])) (aCons (iC (.str [101, 110, 100])) (aCons (iC (.str [102, 97, 105, 108])) (aCons (iC (.str [114, 101, 116, 117, 114, 110])) (aCons (iC (.str [99, 97, 108, 108])) (aCons (iC (.str [110, 101, 119])) (aCons (iC (.str [99, 117, 116])) (aCons (iC (.str [116, 105, 101])) aNil)))))))))))))))) (gV 8))
  (sSeq (sAsg (iBin .Add (iV 8) (iLst (aCons (iC (.str [115, 101, 116])) (aCons (iC (.str [99, 108, 101, 97, 114])) (aCons (iC (.str [100, 114, 111, 112])) (aCons (iC (.str [115, 99, 114, 105, 112, 116])) (aCons (iC (.str [114, 117, 108, 101])) (aCons (iC (.str [103, 114, 97, 112, 104])) (aCons (iC (.str [110, 111, 100, 101])) (aCons (iC (.str [108, 105, 110, 107])) (aCons (iC (.str [102, 108, 97, 103, 115])) (aCons (iC (.str [108, 105, 110, 107, 115])) aNil)))))))))))) (gV 8))
  (sSeq (sRet (iComp (wSeq (iV 7)) (gV 9) tYes (iIf (tCmpB .In (iV 9) (iV 8)) (iBin .Add (iV 9) (iC (.str [120]))) (iV 9)) [9]))
  sNx)))))))
def fb__law_ground : IS := (sSeq (sPar 3 4 (iCall "_law_pull" [.ix 0, .ix 1] (aCons (iV 0) (aCons (iBin .Add (iV 1) (iC (.int 1))) aNil)) aNil) (iBin .Add (iC (.int 1)) (iCall "_law_pull" [.ix 0, .ix 1] (aCons (iV 0) (aCons (iV 2) aNil)) aNil)))
  (sSeq (sAsg (iCall "_law_names" [.ix 0, .ix 1] (aCons (iV 0) (aCons (iBin .Add (iV 3) (iV 4)) aNil)) aNil) (gV 5))
  (sSeq (sRet (iTup (aCons (iSl (iV 5) pNo (pInt (iV 3))) (aCons (iSl (iV 5) (pInt (iV 3)) pNo) aNil))))
  sNx)))
def fb__law_schema : IS := (sSeq (sRet (iMake "Schema" "Schema.__init__" [.ix 0, .ix 1, .ix 2] true (aCons (iBi .list (aCons (iIx (iV 0) (iC (.int 0))) aNil)) (aCons (iBi .list (aCons (iIx (iV 0) (iC (.int 1))) aNil)) aNil)) aNil))
  sNx)
def fb__law_subsets : IS := (sSeq (sAsg (iLst (aCons (iTup aNil) aNil)) (gV 1))
  (sSeq (sFor (wSeq (iV 0)) (gV 2) (sSeq (sAsg (iBin .Add (iV 1) (iComp (wSeq (iV 1)) (gV 3) tYes (iBin .Add (iV 3) (iTup (aCons (iV 2) aNil))) [3])) (gV 1))
  sNx))
  (sSeq (sRet (iV 1))
  sNx)))
def fb__law_profiles : IS := (sSeq (sPar 1 2 (iCall "_law_subsets" [.ix 0] (aCons (iIx (iV 0) (iC (.int 1))) aNil) aNil) (iLst aNil))
  (sSeq (sFor (wSeq (iCall "_law_subsets" [.ix 0] (aCons (iIx (iV 0) (iC (.int 0))) aNil) aNil)) (gV 3) (sSeq (sFor (wSeq (iV 1)) (gV 4) (sSeq (sAsg (iBin .Add (iV 2) (iComp (wSeq (iV 1)) (gV 5) tYes (iTup (aCons (iV 3) (aCons (iV 4) (aCons (iV 5) aNil)))) [5])) (gV 2))
  sNx))
  sNx))
  (sSeq (sRet (iBf sortC (aCons (iV 2) aNil)))
  sNx)))
def fb__law_slots : IS := (sSeq (sAsg (iLstH aNil) (gV 2))
  (sSeq (sFor (wSeq (iIx (iV 0) (iC (.int 1)))) (gV 3) (sSeq (sIf (tCmpB .In (iV 3) (iIx (iV 1) (iC (.int 1)))) (sSeq (sDrop (iApp (iV 2) (iTup (aCons (iV 3) (aCons (iC (.bl true)) aNil)))))
  sNx) sNx)
  (sSeq (sIf (tCmpB .In (iV 3) (iIx (iV 1) (iC (.int 2)))) (sSeq (sDrop (iApp (iV 2) (iTup (aCons (iV 3) (aCons (iC (.bl false)) aNil)))))
  sNx) sNx)
  sNx)))
  (sSeq (sRet (iV 2))
  sNx)))
def fb_law : IS := (sSeq (sAsg (iCall "_law_opened" [.ix 0] (aCons (iV 0) aNil) aNil) (gV 1))
  (sSeq (sAsg (iCall "_law_ground" [.ix 0, .ix 1, .ix 2] (aCons (iV 1) (aCons (iC (.int 3)) (aCons (iIf (tCmpB .Gt (iCall "_law_pull" [.ix 0, .ix 1] (aCons (iV 1) (aCons (iC (.int 3)) aNil)) aNil) (iC (.int 0))) (iC (.int 2)) (iC (.int 3))) aNil))) aNil) (gV 2))
  (sSeq (sPar 3 4 (iCall "_law_schema" [.ix 0] (aCons (iV 2) aNil) aNil) (iCall "_law_profiles" [.ix 0] (aCons (iV 2) aNil) aNil))
  (sSeq (sAsg (iMeth (MT "profiles" 0 []) (iV 3) "profiles" aNil aNil) (gV 5))
  (sSeq (sIf (tNot (tTru (iCallG (fun ρ => snapF (ρ "_law_like")) [.ix 0, .ix 1] (aCons (iV 5) (aCons (iV 4) aNil)) aNil))) (sSeq (sRet (iC (.bl false)))
  sNx) sNx)
  (sSeq (sDrop (iApp (iV 5) (iC .non)))
  (sSeq (sFor (wRange (aCons (iC (.int 6)) aNil)) (gV 6) (sSeq (sAsg (iCall "_law_any" [.ix 0, .ix 1] (aCons (iV 1) (aCons (iV 4) aNil)) aNil) (gV 7))
  (sSeq (sAsg (iCall "_law_slots" [.ix 0, .ix 1] (aCons (iV 2) (aCons (iV 7) aNil)) aNil) (gV 8))
  (sSeq (sIf (tOr (tNot (tTru (iCallG (fun ρ => snapF (ρ "_law_like")) [.ix 0, .ix 1] (aCons (iMeth (MT "slots" 1 []) (iV 3) "slots" (aCons (iV 7) aNil) aNil) (aCons (iV 8) aNil)) aNil))) (tCmpB .IsNot (iMeth (MT "is_profile" 1 []) (iV 3) "is_profile" (aCons (iV 7) aNil) aNil) (iC (.bl true)))) (sSeq (sRet (iC (.bl false)))
  sNx) sNx)
  (sSeq (sDrop (iApp (iMeth (MT "slots" 0 ["profile"]) (iV 3) "slots" aNil (aCons (iV 7) aNil)) (iC .non)))
  (sSeq (sPar 9 10 (iCall "_law_pull" [.ix 0, .ix 1] (aCons (iV 1) (aCons (iC (.int 3)) aNil)) aNil) (iCall "_law_any" [.ix 0, .ix 1] (aCons (iV 1) (aCons (iLst (aCons (iC .non) (aCons (iC (.str [65])) (aCons (iTup aNil) (aCons (iC (.int 3)) (aCons (iTup (aCons (iC (.str [65])) aNil)) (aCons (iTup (aCons (iC .non) aNil)) (aCons (iBi .list (aCons (iIx (iV 7) (iC (.int 0))) aNil)) (aCons (iIx (iIx (iV 2) (iC (.int 1))) (iC (.int 0))) aNil))))))))) aNil)) aNil))
  (sSeq (sAsg (iBin .Add (iBin .Add (iSl (iV 7) pNo (pInt (iV 9))) (iTup (aCons (iV 10) aNil))) (iSl (iV 7) (pInt (iBin .Add (iV 9) (iC (.int 1)))) pNo)) (gV 11))
  (sSeq (sIf (tAnd (tEqO eqs true (iV 10) (iTup aNil)) (tCmpB .IsNot (iMeth (MT "is_profile" 1 []) (iV 3) "is_profile" (aCons (iV 11) aNil) aNil) (iC (.bl false)))) (sSeq (sRet (iC (.bl false)))
  sNx) sNx)
  (sSeq (sAsg (iTup (aCons (iIx (iV 7) (iC (.int 0))) (aCons (iBin .Add (iIx (iV 7) (iC (.int 1))) (iIx (iV 7) (iC (.int 1)))) (aCons (iIx (iV 7) (iC (.int 2))) aNil)))) (gV 12))
  (sSeq (sAsg (iTup (aCons (iRevL (iIx (iV 7) (iC (.int 0)))) (aCons (iIx (iV 7) (iC (.int 1))) (aCons (iRevL (iIx (iV 7) (iC (.int 2)))) aNil)))) (gV 13))
  (sSeq (sAsg (iLst (aCons (iMeth (MT "is_profile" 0 ["value"]) (iV 3) "is_profile" aNil (aCons (iV 12) aNil)) (aCons (iMeth (MT "is_profile" 1 []) (iV 3) "is_profile" (aCons (iV 13) aNil) aNil) (aCons (iMeth (MT "is_profile" 1 []) (iV 3) "is_profile" (aCons (iBi .list (aCons (iV 7) aNil)) aNil) aNil) (aCons (iMeth (MT "is_profile" 1 []) (iV 3) "is_profile" (aCons (iSl (iV 7) pNo (pInt (iC (.int 2)))) aNil) aNil) aNil))))) (gV 14))
  (sSeq (sIf (tNot (tTru (iCallG (fun ρ => snapF (ρ "_law_like")) [.ix 0, .ix 1] (aCons (iV 14) (aCons (iLst (aCons (iEqO eqs false (iIx (iV 7) (iC (.int 1))) (iTup aNil)) (aCons (iEqO eqs false (iV 13) (iV 7)) (aCons (iC (.bl false)) (aCons (iC (.bl false)) aNil))))) aNil)) aNil))) (sSeq (sRet (iC (.bl false)))
  sNx) sNx)
  sNx))))))))))))
  (sSeq (sAsg (iTup (aCons (iBi .tup (aCons (iSl (iIx (iV 2) (iC (.int 1))) pNo (pInt (iC (.int 1)))) aNil)) (aCons (iTup aNil) (aCons (iTup aNil) aNil)))) (gV 15))
  (sSeq (sRet (iAnd (iCmp .Is (iMeth (MT "is_profile" 1 []) (iV 3) "is_profile" (aCons (iV 15) aNil) aNil) (iC (.bl false))) (iAnd (iCmp .Is (iMeth (MT "is_profile" 1 []) (iV 3) "is_profile" (aCons (iC .non) aNil) aNil) (iC (.bl false))) (iCmpS false (iMeth (MT "profiles" 0 []) (iV 3) "profiles" aNil aNil) (iV 4)))))
  sNx)))))))))
end B.K05
end
section
set_option Elab.async false
set_option linter.all false
set_option maxRecDepth 100000
set_option maxHeartbeats 0
namespace B.K05
open PySem PySem.Spec PyProof.Rows L2
def top (i : Nat) : Stmt := PySem.Challenge.pw_bothtied_k05_profiles_and_slots.main.body.getD i (.Pass ⟨0, 0, 0, 0⟩)
def e__wall : Ent := ⟨"_wall", .glo "_wall", "_wall", "_wall", ["k"], ["k"], [], defArgs (top 0), defBody (top 0), defScope (top 0), fb__wall, []⟩
def e_is_name : Ent := ⟨"is_name", .glo "is_name", "is_name", "is_name", ["value"], ["value", "sign"], [], defArgs (top 12), defBody (top 12), defScope (top 12), fb_is_name, [(1, [], [.ix 0])]⟩
def e_subsets : Ent := ⟨"subsets", .glo "subsets", "subsets", "subsets", ["names"], ["names", "found", "name", "row"], [], defArgs (top 13), defBody (top 13), defScope (top 13), fb_subsets, [(1, [], [.ix 0])]⟩
def e_is_part : Ent := ⟨"is_part", .glo "is_part", "is_part", "is_part", ["value", "names"], ["value", "names", "one", "name"], [], defArgs (top 14), defBody (top 14), defScope (top 14), fb_is_part, [(2, [], [.ix 0, .ix 1])]⟩
def e_Schema___init__ : Ent := ⟨"Schema.__init__", .met "Schema" "__init__", "__init__", "Schema.__init__", ["self", "flags", "links"], ["self", "flags", "links", "names", "name", "at"], [], defArgs (inClass (top 15) 0), defBody (inClass (top 15) 0), defScope (inClass (top 15) 0), fb_Schema___init__, [(3, [], [.ix 0, .ix 1, .ix 2])]⟩
def e_Schema_flags : Ent := ⟨"Schema.flags", .prp "Schema" "flags", "flags", "Schema.flags", ["self"], ["self"], [], defArgs (inClass (top 15) 1), defBody (inClass (top 15) 1), defScope (inClass (top 15) 1), fb_Schema_flags, []⟩
def e_Schema_links : Ent := ⟨"Schema.links", .prp "Schema" "links", "links", "Schema.links", ["self"], ["self"], [], defArgs (inClass (top 15) 2), defBody (inClass (top 15) 2), defScope (inClass (top 15) 2), fb_Schema_links, []⟩
def e_Schema_profiles : Ent := ⟨"Schema.profiles", .met "Schema" "profiles", "profiles", "Schema.profiles", ["self"], ["self", "ends", "some", "outs", "ins"], ["return"], defArgs (inClass (top 15) 3), defBody (inClass (top 15) 3), defScope (inClass (top 15) 3), fb_Schema_profiles, [(1, [], [.ix 0])]⟩
def e_Schema_slots : Ent := ⟨"Schema.slots", .met "Schema" "slots", "slots", "Schema.slots", ["self", "profile"], ["self", "profile", "found", "link"], ["found"], defArgs (inClass (top 15) 4), defBody (inClass (top 15) 4), defScope (inClass (top 15) 4), fb_Schema_slots, [(1, ["profile"], [.ix 0, .ix 1]), (2, [], [.ix 0, .ix 1])]⟩
def e_Schema_is_profile : Ent := ⟨"Schema.is_profile", .met "Schema" "is_profile", "is_profile", "Schema.is_profile", ["self", "value"], ["self", "value", "part"], [], defArgs (inClass (top 15) 5), defBody (inClass (top 15) 5), defScope (inClass (top 15) 5), fb_Schema_is_profile, [(2, [], [.ix 0, .ix 1]), (1, ["value"], [.ix 0, .ix 1])]⟩
def e_Schema___eq__ : Ent := ⟨"Schema.__eq__", .met "Schema" "__eq__", "__eq__", "Schema.__eq__", ["self", "other"], ["self", "other"], [], defArgs (inClass (top 15) 7), defBody (inClass (top 15) 7), defScope (inClass (top 15) 7), fb_Schema___eq__, []⟩
def e_Schema___repr__ : Ent := ⟨"Schema.__repr__", .met "Schema" "__repr__", "__repr__", "Schema.__repr__", ["self"], ["self", "flags"], [], defArgs (inClass (top 15) 8), defBody (inClass (top 15) 8), defScope (inClass (top 15) 8), fb_Schema___repr__, []⟩
def e__law_opened : Ent := ⟨"_law_opened", .glo "_law_opened", "_law_opened", "_law_opened", ["_law_script"], ["_law_script"], ["return"], defArgs (top 17), defBody (top 17), defScope (top 17), fb__law_opened, [(1, [], [.ix 0])]⟩
def e__law_pull : Ent := ⟨"_law_pull", .glo "_law_pull", "_law_pull", "_law_pull", ["_law_bag", "_law_many"], ["_law_bag", "_law_many", "_law_cell", "_law_digit", "_law_seed"], [], defArgs (top 18), defBody (top 18), defScope (top 18), fb__law_pull, [(2, [], [.ix 0, .ix 1])]⟩
def e__law_any : Ent := ⟨"_law_any", .glo "_law_any", "_law_any", "_law_any", ["_law_bag", "_law_things"], ["_law_bag", "_law_things"], [], defArgs (top 19), defBody (top 19), defScope (top 19), fb__law_any, [(2, [], [.ix 0, .ix 1])]⟩
def e__law_like : Ent := ⟨"_law_like", .glo "_law_like", "_law_like", "_law_like", ["_law_found", "_law_due"], ["_law_found", "_law_due", "_law_one", "_law_other"], [], defArgs (top 20), defBody (top 20), defScope (top 20), fb__law_like, [(2, [], [.ix 0, .ix 1])]⟩
def e__law_names : Ent := ⟨"_law_names", .glo "_law_names", "_law_names", "_law_names", ["_law_bag", "_law_many"], ["_law_bag", "_law_many", "_law_letters", "_law_stem", "_law_k", "_law_at", "_law_first", "_law_found", "_law_words", "_law_name"], [], defArgs (top 21), defBody (top 21), defScope (top 21), fb__law_names, [(2, [], [.ix 0, .ix 1])]⟩
def e__law_ground : Ent := ⟨"_law_ground", .glo "_law_ground", "_law_ground", "_law_ground", ["_law_bag", "_law_flags", "_law_links"], ["_law_bag", "_law_flags", "_law_links", "_law_many", "_law_more", "_law_names_here"], [], defArgs (top 22), defBody (top 22), defScope (top 22), fb__law_ground, [(3, [], [.ix 0, .ix 1, .ix 2])]⟩
def e__law_schema : Ent := ⟨"_law_schema", .glo "_law_schema", "_law_schema", "_law_schema", ["_law_ground_here"], ["_law_ground_here"], [], defArgs (top 23), defBody (top 23), defScope (top 23), fb__law_schema, [(1, [], [.ix 0])]⟩
def e__law_subsets : Ent := ⟨"_law_subsets", .glo "_law_subsets", "_law_subsets", "_law_subsets", ["_law_names_here"], ["_law_names_here", "_law_found", "_law_name", "_law_row"], [], defArgs (top 24), defBody (top 24), defScope (top 24), fb__law_subsets, [(1, [], [.ix 0])]⟩
def e__law_profiles : Ent := ⟨"_law_profiles", .glo "_law_profiles", "_law_profiles", "_law_profiles", ["_law_ground_here"], ["_law_ground_here", "_law_ends", "_law_found", "_law_some", "_law_outs", "_law_ins"], [], defArgs (top 25), defBody (top 25), defScope (top 25), fb__law_profiles, [(1, [], [.ix 0])]⟩
def e__law_slots : Ent := ⟨"_law_slots", .glo "_law_slots", "_law_slots", "_law_slots", ["_law_ground_here", "_law_profile_z"], ["_law_ground_here", "_law_profile_z", "_law_found", "_law_link"], ["_law_found"], defArgs (top 26), defBody (top 26), defScope (top 26), fb__law_slots, [(2, [], [.ix 0, .ix 1])]⟩
def e_law : Ent := ⟨"law", .glo "law", "law", "law", ["_law_script"], ["_law_script", "_law_bag", "_law_ground_here", "_law_schema_here", "_law_due", "_law_found", "_law_turn", "_law_one", "_law_slots_here", "_law_at", "_law_odd", "_law_bent", "_law_twice", "_law_turned", "_law_told", "_law_strange"], ["_law_like()"], defArgs (top 27), defBody (top 27), defScope (top 27), fb_law, []⟩
def sn : List Str := ["profiles"]
def T : Txt := { tab := [e__wall, e_is_name, e_subsets, e_is_part, e_Schema___init__, e_Schema_flags, e_Schema_links, e_Schema_profiles, e_Schema_slots, e_Schema_is_profile, e_Schema___eq__, e_Schema___repr__, e__law_opened, e__law_pull, e__law_any, e__law_like, e__law_names, e__law_ground, e__law_schema, e__law_subsets, e__law_profiles, e__law_slots, e_law], cs := [("LETTERS", c_LETTERS), ("LONGEST_NAME", c_LONGEST_NAME), ("RESERVED", c_RESERVED), ("MOST_FLAGS", c_MOST_FLAGS), ("MOST_LINKS", c_MOST_LINKS)], bf := ["len", "int", "list", "all", "isinstance", "range", "zip", "str", "bool", "tuple", "enumerate", "repr", "sorted"], cl := cl, isT := isT, isL := isL, sn := sn }
theorem ok__wall : e__wall.Ok T := ⟨⟨rfl, rfl, rfl, by decide +kernel, rfl, by decide +kernel, by decide +kernel⟩, by kernel_rfl, fun K f fd F => ⟨(fun q hq => by

    cases hq), F.bindsN fun _ _ _ _ _ _ us hl => match us, hl with | [_], _ => by kernel_rfl⟩⟩
theorem ok_is_name : e_is_name.Ok T := ⟨⟨rfl, rfl, rfl, by decide +kernel, rfl, by decide +kernel, by decide +kernel⟩, by kernel_rfl, fun K f fd F => ⟨(fun q hq => by
    rcases List.mem_cons.mp hq with rfl | hq
    · exact cb_perm [0] F rfl (by decide) fun _ _ _ _ _ _ us ws hu hw => match us, hu, ws, hw with | [_], _, [], _ => by kernel_rfl
    cases hq), F.bindsN fun _ _ _ _ _ _ us hl => match us, hl with | [_], _ => by kernel_rfl⟩⟩
theorem ok_subsets : e_subsets.Ok T := ⟨⟨rfl, rfl, rfl, by decide +kernel, rfl, by decide +kernel, by decide +kernel⟩, by kernel_rfl, fun K f fd F => ⟨(fun q hq => by
    rcases List.mem_cons.mp hq with rfl | hq
    · exact cb_perm [0] F rfl (by decide) fun _ _ _ _ _ _ us ws hu hw => match us, hu, ws, hw with | [_], _, [], _ => by kernel_rfl
    cases hq), F.bindsN fun _ _ _ _ _ _ us hl => match us, hl with | [_], _ => by kernel_rfl⟩⟩
theorem ok_is_part : e_is_part.Ok T := ⟨⟨rfl, rfl, rfl, by decide +kernel, rfl, by decide +kernel, by decide +kernel⟩, by kernel_rfl, fun K f fd F => ⟨(fun q hq => by
    rcases List.mem_cons.mp hq with rfl | hq
    · exact cb_perm [0, 1] F rfl (by decide) fun _ _ _ _ _ _ us ws hu hw => match us, hu, ws, hw with | [_, _], _, [], _ => by kernel_rfl
    cases hq), F.bindsN fun _ _ _ _ _ _ us hl => match us, hl with | [_, _], _ => by kernel_rfl⟩⟩
theorem ok_Schema___init__ : e_Schema___init__.Ok T := ⟨⟨rfl, rfl, rfl, by decide +kernel, rfl, by decide +kernel, by decide +kernel⟩, by kernel_rfl, fun K f fd F => ⟨(fun q hq => by
    rcases List.mem_cons.mp hq with rfl | hq
    · exact cb_perm [0, 1, 2] F rfl (by decide) fun _ _ _ _ _ _ us ws hu hw => match us, hu, ws, hw with | [_, _, _], _, [], _ => by kernel_rfl
    cases hq), F.bindsN fun _ _ _ _ _ _ us hl => match us, hl with | [_, _, _], _ => by kernel_rfl⟩⟩
theorem ok_Schema_flags : e_Schema_flags.Ok T := ⟨⟨rfl, rfl, rfl, by decide +kernel, rfl, by decide +kernel, by decide +kernel⟩, by kernel_rfl, fun K f fd F => ⟨(fun q hq => by

    cases hq), F.bindsN fun _ _ _ _ _ _ us hl => match us, hl with | [_], _ => by kernel_rfl⟩⟩
theorem ok_Schema_links : e_Schema_links.Ok T := ⟨⟨rfl, rfl, rfl, by decide +kernel, rfl, by decide +kernel, by decide +kernel⟩, by kernel_rfl, fun K f fd F => ⟨(fun q hq => by

    cases hq), F.bindsN fun _ _ _ _ _ _ us hl => match us, hl with | [_], _ => by kernel_rfl⟩⟩
theorem ok_Schema_profiles : e_Schema_profiles.Ok T := ⟨⟨rfl, rfl, rfl, by decide +kernel, rfl, by decide +kernel, by decide +kernel⟩, by kernel_rfl, fun K f fd F => ⟨(fun q hq => by
    rcases List.mem_cons.mp hq with rfl | hq
    · exact cb_perm [0] F rfl (by decide) fun _ _ _ _ _ _ us ws hu hw => match us, hu, ws, hw with | [_], _, [], _ => by kernel_rfl
    cases hq), F.bindsN fun _ _ _ _ _ _ us hl => match us, hl with | [_], _ => by kernel_rfl⟩⟩
theorem ok_Schema_slots : e_Schema_slots.Ok T := ⟨⟨rfl, rfl, rfl, by decide +kernel, rfl, by decide +kernel, by decide +kernel⟩, by kernel_rfl, fun K f fd F => ⟨(fun q hq => by
    rcases List.mem_cons.mp hq with rfl | hq
    · exact cb_perm [0, 1] F rfl (by decide) fun _ _ _ _ _ _ us ws hu hw => match us, hu, ws, hw with | [_], _, [_], _ => by kernel_rfl
    rcases List.mem_cons.mp hq with rfl | hq
    · exact cb_perm [0, 1] F rfl (by decide) fun _ _ _ _ _ _ us ws hu hw => match us, hu, ws, hw with | [_, _], _, [], _ => by kernel_rfl
    cases hq), F.bindsN fun _ _ _ _ _ _ us hl => match us, hl with | [_, _], _ => by kernel_rfl⟩⟩
theorem ok_Schema_is_profile : e_Schema_is_profile.Ok T := ⟨⟨rfl, rfl, rfl, by decide +kernel, rfl, by decide +kernel, by decide +kernel⟩, by kernel_rfl, fun K f fd F => ⟨(fun q hq => by
    rcases List.mem_cons.mp hq with rfl | hq
    · exact cb_perm [0, 1] F rfl (by decide) fun _ _ _ _ _ _ us ws hu hw => match us, hu, ws, hw with | [_, _], _, [], _ => by kernel_rfl
    rcases List.mem_cons.mp hq with rfl | hq
    · exact cb_perm [0, 1] F rfl (by decide) fun _ _ _ _ _ _ us ws hu hw => match us, hu, ws, hw with | [_], _, [_], _ => by kernel_rfl
    cases hq), F.bindsN fun _ _ _ _ _ _ us hl => match us, hl with | [_, _], _ => by kernel_rfl⟩⟩
theorem ok_Schema___eq__ : e_Schema___eq__.Ok T := ⟨⟨rfl, rfl, rfl, by decide +kernel, rfl, by decide +kernel, by decide +kernel⟩, by kernel_rfl, fun K f fd F => ⟨(fun q hq => by

    cases hq), F.bindsN fun _ _ _ _ _ _ us hl => match us, hl with | [_, _], _ => by kernel_rfl⟩⟩
theorem ok_Schema___repr__ : e_Schema___repr__.Ok T := ⟨⟨rfl, rfl, rfl, by decide +kernel, rfl, by decide +kernel, by decide +kernel⟩, by kernel_rfl, fun K f fd F => ⟨(fun q hq => by

    cases hq), F.bindsN fun _ _ _ _ _ _ us hl => match us, hl with | [_], _ => by kernel_rfl⟩⟩
theorem ok__law_opened : e__law_opened.Ok T := ⟨⟨rfl, rfl, rfl, by decide +kernel, rfl, by decide +kernel, by decide +kernel⟩, by kernel_rfl, fun K f fd F => ⟨(fun q hq => by
    rcases List.mem_cons.mp hq with rfl | hq
    · exact cb_perm [0] F rfl (by decide) fun _ _ _ _ _ _ us ws hu hw => match us, hu, ws, hw with | [_], _, [], _ => by kernel_rfl
    cases hq), F.bindsN fun _ _ _ _ _ _ us hl => match us, hl with | [_], _ => by kernel_rfl⟩⟩
theorem ok__law_pull : e__law_pull.Ok T := ⟨⟨rfl, rfl, rfl, by decide +kernel, rfl, by decide +kernel, by decide +kernel⟩, by kernel_rfl, fun K f fd F => ⟨(fun q hq => by
    rcases List.mem_cons.mp hq with rfl | hq
    · exact cb_perm [0, 1] F rfl (by decide) fun _ _ _ _ _ _ us ws hu hw => match us, hu, ws, hw with | [_, _], _, [], _ => by kernel_rfl
    cases hq), F.bindsN fun _ _ _ _ _ _ us hl => match us, hl with | [_, _], _ => by kernel_rfl⟩⟩
theorem ok__law_any : e__law_any.Ok T := ⟨⟨rfl, rfl, rfl, by decide +kernel, rfl, by decide +kernel, by decide +kernel⟩, by kernel_rfl, fun K f fd F => ⟨(fun q hq => by
    rcases List.mem_cons.mp hq with rfl | hq
    · exact cb_perm [0, 1] F rfl (by decide) fun _ _ _ _ _ _ us ws hu hw => match us, hu, ws, hw with | [_, _], _, [], _ => by kernel_rfl
    cases hq), F.bindsN fun _ _ _ _ _ _ us hl => match us, hl with | [_, _], _ => by kernel_rfl⟩⟩
theorem ok__law_like : e__law_like.Ok T := ⟨⟨rfl, rfl, rfl, by decide +kernel, rfl, by decide +kernel, by decide +kernel⟩, by kernel_rfl, fun K f fd F => ⟨(fun q hq => by
    rcases List.mem_cons.mp hq with rfl | hq
    · exact cb_perm [0, 1] F rfl (by decide) fun _ _ _ _ _ _ us ws hu hw => match us, hu, ws, hw with | [_, _], _, [], _ => by kernel_rfl
    cases hq), F.bindsN fun _ _ _ _ _ _ us hl => match us, hl with | [_, _], _ => by kernel_rfl⟩⟩
theorem ok__law_names : e__law_names.Ok T := ⟨⟨rfl, rfl, rfl, by decide +kernel, rfl, by decide +kernel, by decide +kernel⟩, by kernel_rfl, fun K f fd F => ⟨(fun q hq => by
    rcases List.mem_cons.mp hq with rfl | hq
    · exact cb_perm [0, 1] F rfl (by decide) fun _ _ _ _ _ _ us ws hu hw => match us, hu, ws, hw with | [_, _], _, [], _ => by kernel_rfl
    cases hq), F.bindsN fun _ _ _ _ _ _ us hl => match us, hl with | [_, _], _ => by kernel_rfl⟩⟩
theorem ok__law_ground : e__law_ground.Ok T := ⟨⟨rfl, rfl, rfl, by decide +kernel, rfl, by decide +kernel, by decide +kernel⟩, by kernel_rfl, fun K f fd F => ⟨(fun q hq => by
    rcases List.mem_cons.mp hq with rfl | hq
    · exact cb_perm [0, 1, 2] F rfl (by decide) fun _ _ _ _ _ _ us ws hu hw => match us, hu, ws, hw with | [_, _, _], _, [], _ => by kernel_rfl
    cases hq), F.bindsN fun _ _ _ _ _ _ us hl => match us, hl with | [_, _, _], _ => by kernel_rfl⟩⟩
theorem ok__law_schema : e__law_schema.Ok T := ⟨⟨rfl, rfl, rfl, by decide +kernel, rfl, by decide +kernel, by decide +kernel⟩, by kernel_rfl, fun K f fd F => ⟨(fun q hq => by
    rcases List.mem_cons.mp hq with rfl | hq
    · exact cb_perm [0] F rfl (by decide) fun _ _ _ _ _ _ us ws hu hw => match us, hu, ws, hw with | [_], _, [], _ => by kernel_rfl
    cases hq), F.bindsN fun _ _ _ _ _ _ us hl => match us, hl with | [_], _ => by kernel_rfl⟩⟩
theorem ok__law_subsets : e__law_subsets.Ok T := ⟨⟨rfl, rfl, rfl, by decide +kernel, rfl, by decide +kernel, by decide +kernel⟩, by kernel_rfl, fun K f fd F => ⟨(fun q hq => by
    rcases List.mem_cons.mp hq with rfl | hq
    · exact cb_perm [0] F rfl (by decide) fun _ _ _ _ _ _ us ws hu hw => match us, hu, ws, hw with | [_], _, [], _ => by kernel_rfl
    cases hq), F.bindsN fun _ _ _ _ _ _ us hl => match us, hl with | [_], _ => by kernel_rfl⟩⟩
theorem ok__law_profiles : e__law_profiles.Ok T := ⟨⟨rfl, rfl, rfl, by decide +kernel, rfl, by decide +kernel, by decide +kernel⟩, by kernel_rfl, fun K f fd F => ⟨(fun q hq => by
    rcases List.mem_cons.mp hq with rfl | hq
    · exact cb_perm [0] F rfl (by decide) fun _ _ _ _ _ _ us ws hu hw => match us, hu, ws, hw with | [_], _, [], _ => by kernel_rfl
    cases hq), F.bindsN fun _ _ _ _ _ _ us hl => match us, hl with | [_], _ => by kernel_rfl⟩⟩
theorem ok__law_slots : e__law_slots.Ok T := ⟨⟨rfl, rfl, rfl, by decide +kernel, rfl, by decide +kernel, by decide +kernel⟩, by kernel_rfl, fun K f fd F => ⟨(fun q hq => by
    rcases List.mem_cons.mp hq with rfl | hq
    · exact cb_perm [0, 1] F rfl (by decide) fun _ _ _ _ _ _ us ws hu hw => match us, hu, ws, hw with | [_, _], _, [], _ => by kernel_rfl
    cases hq), F.bindsN fun _ _ _ _ _ _ us hl => match us, hl with | [_, _], _ => by kernel_rfl⟩⟩
theorem ok_law : e_law.Ok T := ⟨⟨rfl, rfl, rfl, by decide +kernel, rfl, by decide +kernel, by decide +kernel⟩, by kernel_rfl, fun K f fd F => ⟨(fun q hq => by

    cases hq), F.bindsN fun _ _ _ _ _ _ us hl => match us, hl with | [_], _ => by kernel_rfl⟩⟩
theorem okc_Schema : k_Schema.sh T := fun m key sh h e he => by
  have hm := lookup_mem _ h
  rcases List.mem_cons.mp hm with z | hm
  · cases z
    have h1 : T.ent "Schema.profiles" = some e_Schema_profiles := by kernel_rfl
    rw [h1] at he
    cases he
    rfl
  rcases List.mem_cons.mp hm with z | hm
  · cases z
    have h1 : T.ent "Schema.slots" = some e_Schema_slots := by kernel_rfl
    rw [h1] at he
    cases he
    rfl
  rcases List.mem_cons.mp hm with z | hm
  · cases z
    have h1 : T.ent "Schema.is_profile" = some e_Schema_is_profile := by kernel_rfl
    rw [h1] at he
    cases he
    rfl
  cases hm
theorem ok_all : ∀ e ∈ T.tab, e.Ok T := fun e he => by
  rcases List.mem_cons.mp he with rfl | he
  · exact ok__wall
  rcases List.mem_cons.mp he with rfl | he
  · exact ok_is_name
  rcases List.mem_cons.mp he with rfl | he
  · exact ok_subsets
  rcases List.mem_cons.mp he with rfl | he
  · exact ok_is_part
  rcases List.mem_cons.mp he with rfl | he
  · exact ok_Schema___init__
  rcases List.mem_cons.mp he with rfl | he
  · exact ok_Schema_flags
  rcases List.mem_cons.mp he with rfl | he
  · exact ok_Schema_links
  rcases List.mem_cons.mp he with rfl | he
  · exact ok_Schema_profiles
  rcases List.mem_cons.mp he with rfl | he
  · exact ok_Schema_slots
  rcases List.mem_cons.mp he with rfl | he
  · exact ok_Schema_is_profile
  rcases List.mem_cons.mp he with rfl | he
  · exact ok_Schema___eq__
  rcases List.mem_cons.mp he with rfl | he
  · exact ok_Schema___repr__
  rcases List.mem_cons.mp he with rfl | he
  · exact ok__law_opened
  rcases List.mem_cons.mp he with rfl | he
  · exact ok__law_pull
  rcases List.mem_cons.mp he with rfl | he
  · exact ok__law_any
  rcases List.mem_cons.mp he with rfl | he
  · exact ok__law_like
  rcases List.mem_cons.mp he with rfl | he
  · exact ok__law_names
  rcases List.mem_cons.mp he with rfl | he
  · exact ok__law_ground
  rcases List.mem_cons.mp he with rfl | he
  · exact ok__law_schema
  rcases List.mem_cons.mp he with rfl | he
  · exact ok__law_subsets
  rcases List.mem_cons.mp he with rfl | he
  · exact ok__law_profiles
  rcases List.mem_cons.mp he with rfl | he
  · exact ok__law_slots
  rcases List.mem_cons.mp he with rfl | he
  · exact ok_law
  cases he
theorem ok_cls : ∀ c ∈ T.cl, c.sh T := fun c hc => by
  rcases List.mem_cons.mp hc with rfl | hc
  · exact okc_Schema
  cases hc
end B.K05
end
section
set_option Elab.async false
set_option linter.all false
set_option maxRecDepth 100000
set_option maxHeartbeats 0
namespace B.K05
open PySem PySem.Spec PyProof.Rows L2
def nm0 : List Str := ["_wall", "TiedError", "InvalidName", "InvalidNumber", "DuplicateName", "LETTERS", "LONGEST_NAME", "RESERVED", "MOST_FLAGS", "MOST_LINKS", "is_name", "subsets", "is_part", "Schema", "_law_opened", "_law_pull", "_law_any", "_law_like", "_law_names", "_law_ground", "_law_schema", "_law_subsets", "_law_profiles", "_law_slots"]
def names : List Str := nm0
abbrev R : PySem.W.OpenRow := PySem.W.OpenLaw.row PySem.Challenge.rw_bothtied_k05_profiles_and_slots
abbrev hk : PySem.W.Hook := T.hook 6
def ob (s : PySem.W.SharedT) : AlT := T.obsG 6 (HandSHeadRun.getT s)
theorem ob_eq (s : PySem.W.SharedT) : ob s = hk.obs s.abs := Txt.obsG_eq (HandSHeadRun.getT_eq s)
theorem run (w : World) : HandSHeadRun.RunEq R (PySem.W.view R.prog [27]) hk ob 3000 names w := by
  intro os
  kernel_rfl
theorem facts {P : Program} {w : World} {K : PySem.W.Frag} {h : Heap} {mg : Str → Option Value} {f : Addr} (X : K.In h) (G : h.Ns mainGlobals mg) (hfa : mg ("law" : Str) = some (.ref f)) (c : T.obs K = T.val) :
    ∃ fd : FuncData, (∀ (s : Shared) (v : Value), BindsTo s fd ⟨[v], []⟩ [("_law_script", v)]) ∧ ∀ base : Heap, K.In base → base.Ns mainGlobals mg → FnOk P w K mg base (L2.CX P w) (2 * 8) f fd ["_law_script"] (spI K 1 (T.rho 8 "law")) := by
  have O := txt_ok X G c ok_all ok_cls
  have hm : e_law ∈ T.tab := (Txt.ent_ok (x := "law") (by kernel_rfl)).1
  obtain ⟨fd, F, _⟩ := O.tab e_law hm
  have e := hfa.symm.trans (O.glo e_law hm rfl)
  cases e
  have b := FunD.bindsA (ps := ["_law_script"]) F fun _ _ _ _ _ _ us hl => match us, hl with | [_], _ => rfl
  refine ⟨fd, fun s v => b s [v] rfl, fun base _ _ => ?_⟩
  exact fnok_law (e := e_law) O (by kernel_rfl) F
end B.K05
end
section
set_option Elab.async false
set_option linter.all false
set_option maxRecDepth 100000
set_option maxHeartbeats 8000000
namespace B.K05
open PySem
/-- what is known of the defs that law calls -/
structure Known (ρ : Fns) : Prop where
  opened : ∀ (ns : List Int) (h : List Ob), ρ "_law_opened" [.rdl (ns.map .int)] h = .ok (.ref h.length) (h ++ [.lst (bagL (ns.take 63) 0 0 5744 0)])
  pull : PullOk ρ
  any_ : ∀ (h : List Ob) (b : Nat) (s : List D), HasBag h b → s ≠ [] → s.length < 1073741824 → ∃ c h', c ∈ s ∧ Pulled b h h' ∧ ρ "_law_any" [.ref b, .lst s] h = .ok c h'
  ground : GroundOk ρ
  like : ∀ (d : D) (h : List Ob), okD 6 d = true → ρ "_law_like" [d, d] h = .ok (.bl true) h
  lsch : ∀ fl ln h, GoodS fl ln → ρ "_law_schema" [grD fl ln] h = .ok (schD fl ln) h
  lprof : ∀ fl ln h, GoodS fl ln → ρ "_law_profiles" [grD fl ln] h = .ok (.lst (due fl ln)) h
  lslots : ∀ fl ln s o i h, GoodS fl ln → ρ "_law_slots" [grD fl ln, trip s o i] h = .ok (.ref h.length) (h ++ [.lst (slotL ln o i)])
  prof : ∀ fl ln h, GoodS fl ln → ρ "Schema.profiles" [schD fl ln] h = .ok (.ref h.length) (h ++ [.lst (due fl ln)])
  slots : ∀ fl ln s o i h, GoodS fl ln → ρ "Schema.slots" [schD fl ln, trip s o i] h = .ok (.ref h.length) (h ++ [.lst (slotL ln o i)])
  isp : ∀ fl ln x h, GoodS fl ln → profOk x = true → ρ "Schema.is_profile" [schD fl ln, x] h = .ok (.bl (profB fl ln x)) h
theorem known : Known (T.rho 7) where
  opened := fun ns h => by
    rw [rho_run (e := e__law_opened) (by kernel_rfl)]
    exact opened_ok
  pull := PullOk.of (e := e__law_pull) (by kernel_rfl) rfl (tb := eqs) rfl
  any_ := fun h b s B h0 h1 => by
    rw [rho_run (e := e__law_any) (by kernel_rfl)]
    exact any_lst (PullOk.of (e := e__law_pull) (by kernel_rfl) rfl (tb := eqs) rfl) B h0 h1
  ground := GroundOk.of (e := e__law_ground) (PullOk.of (e := e__law_pull) (by kernel_rfl) rfl (tb := eqs) rfl) (fun h b n B hn => by
    rw [rho_run (e := e__law_names) (by kernel_rfl)]
    exact names_ok (PullOk.of (e := e__law_pull) (by kernel_rfl) rfl (tb := eqs) rfl) (AnyOk.of (e := e__law_any) (PullOk.of (e := e__law_pull) (by kernel_rfl) rfl (tb := eqs) rfl) (by kernel_rfl) rfl rfl) B hn) (by kernel_rfl) rfl rfl
  like := fun d h hd => like_ok (e := e__law_like) (by kernel_rfl) rfl (tb := eqs) rfl 6 d h hd
  lsch := fun fl ln h G => by
    rw [rho_run (e := e__law_schema) (by kernel_rfl)]
    refine lschema_ok ⟨fun h fl ln x1 x2 G q1 q2 => ?_⟩ G
    rw [rho_run (e := e_Schema___init__) (by kernel_rfl)]
    exact sinit_ok (r1 := sBad) (r2 := sBad) (r3 := sBad) (r4 := sBad) (IsNameOk.of (e := e_is_name) (by kernel_rfl) rfl rfl) G q1 q2
  lprof := fun fl ln h G => by
    rw [rho_run (e := e__law_profiles) (by kernel_rfl)]
    refine lprof_ok (fun ns x h hx hn => ?_) G
    rw [rho_run (e := e__law_subsets) (by kernel_rfl)]
    exact subsets_ok hx hn
  lslots := fun fl ln s o i h G => by
    rw [rho_run (e := e__law_slots) (by kernel_rfl)]
    refine slots_ok (w := wSeq (iIx (iV 0) (iC (.int 1)))) ?_ G.l3
    have g1 : ∀ h, ixD h (grD fl ln) (.int 1) = some (.lst (sL ln)) := fun h => rfl
    simp only [e_wSeq, e_Ix, e_V, e_C, List.getElem?_cons_zero, bind_ok, g1, lift_some]
  prof := fun fl ln h G => by
    rw [rho_run (e := e_Schema_profiles) (by kernel_rfl)]
    refine profiles_ok (tf := AT "own_flags") (tl := AT "own_links") (fun ns x h hx hn => ?_) (by kernel_rfl) (by kernel_rfl) G
    rw [rho_run (e := e_subsets) (by kernel_rfl)]
    exact subsets_ok hx hn
  slots := fun fl ln s o i h G => by
    rw [rho_run (e := e_Schema_slots) (by kernel_rfl)]
    refine slots_ok (w := wSeq (iAt (AT "own_links") (iV 0) "own_links")) ?_ G.l3
    have a : iAt (AT "own_links") (iV 0) "own_links" (T.rho 6) ⟨[.val (schD fl ln), .val (trip s o i), .val (.ref h.length), .no], h ++ [.lst []]⟩ = .ok (.tup (sL ln)) ⟨[.val (schD fl ln), .val (trip s o i), .val (.ref h.length), .no], h ++ [.lst []]⟩ := at_fld (c := "Schema") (ns := ["own_flags", "own_links"]) (ds := [.tup (sL fl), .tup (sL ln)]) rfl (by kernel_rfl) rfl
    rw [e_wSeq, a, bind_ok]
  isp := fun fl ln x h G hx => by
    rw [rho_run (e := e_Schema_is_profile) (by kernel_rfl)]
    refine isprof_ok (tb := eqs) (tf := AT "own_flags") (tl := AT "own_links") (fun x ns h hx hc => ?_) (by kernel_rfl) (by kernel_rfl) G hx
    rw [rho_run (e := e_is_part) (by kernel_rfl)]
    exact ispart_ok hx hc
def oddL (s : List (List Nat)) (l0 : List Nat) : List D := [.non, .str [65], .tup [], .int 3, .tup [.str [65]], .tup [.non], .lst (sL s), .str l0]
theorem partA {ns : List (List Nat)} (h : ∀ w ∈ ns, IsN w) : partB ns (.tup [.str [65]]) = false := by
  have := part_row (ns := ns) (r := [[65]])
  rw [show (D.tup [.str [65]]) = rowD [[65]] from rfl, this]
  refine decide_eq_false fun e => ?_
  have : ([65] : List Nat) ∈ ns.filter fun w => decide (w ∈ [[65]]) := by rw [← e]; simp
  have hm := (List.mem_filter.mp this).1
  have := (h _ hm).let_ 65 (by simp)
  exact absurd this (by decide)
theorem odd_ok {fl ln s : List (List Nat)} {l0 : List Nat} {x : D} (G : GoodS fl ln) (hs : List.Sublist s fl) (h0 : l0 ∈ ln) (h : x ∈ oddL s l0) : partOk x = true ∧ eqN 2 x = true ∧ (x = .tup [] ∨ (eqD x (.tup []) = false ∧ partB fl x = false ∧ partB ln x = false)) := by
  simp only [oddL, List.mem_cons, List.not_mem_nil, or_false] at h
  rcases h with rfl | rfl | rfl | rfl | rfl | rfl | rfl | rfl
  · exact ⟨rfl, rfl, .inr ⟨rfl, rfl, rfl⟩⟩
  · exact ⟨rfl, by decide, .inr ⟨rfl, rfl, rfl⟩⟩
  · exact ⟨rfl, rfl, .inl rfl⟩
  · exact ⟨rfl, rfl, .inr ⟨rfl, rfl, rfl⟩⟩
  · exact ⟨by decide, by decide, .inr ⟨rfl, partA fun w hw => G.ok w (List.mem_append_left _ hw), partA fun w hw => G.ok w (List.mem_append_right _ hw)⟩⟩
  · exact ⟨rfl, rfl, .inr ⟨rfl, rfl, rfl⟩⟩
  · exact ⟨rfl, eqN_strs (n := 1) fun w hw => G.flcp w (hs.subset hw), .inr ⟨rfl, rfl, rfl⟩⟩
  · exact ⟨rfl, G.lncp _ h0, .inr ⟨rfl, rfl, rfl⟩⟩
/-- the state within law's loop -/
abbrev stL (ns : List Int) (fl ln : List (List Nat)) (z5 : Sl) (zs : List Sl) : List Sl := [.val (.rdl (ns.map .int)), .val (.ref 0), .val (grD fl ln), .val (schD fl ln), .val (.lst (due fl ln)), z5] ++ zs
theorem law_ok {ρ : Fns} (KN : Known ρ) (ns : List Int) : Does (runD 16 fb_law ρ [.rdl (ns.map .int)] []) fun d _ => d = .bl true := by
  obtain ⟨h0, hh0⟩ : ∃ h0, h0 = ([] : List Ob) ++ [.lst (bagL (ns.take 63) 0 0 5744 0)] := ⟨_, rfl⟩
  have e0 : ρ "_law_opened" [.rdl (ns.map .int)] [] = .ok (.ref 0) h0 := by
    rw [hh0]
    exact KN.opened ns []
  have B0 : HasBag h0 0 := ⟨_, by rw [hh0]; rfl, _, 0, 0, 5744, 0, rfl, by decide, by decide, by decide, by decide⟩
  obtain ⟨d0, hA, _, pA, eA⟩ := KN.pull.go (m := 3) B0 (by omega) (by omega)
  have BA := pA.bag B0
  obtain ⟨lk, elk⟩ : ∃ lk : Nat, lk = if (0 : Int) < (d0 : Int) then 2 else 3 := ⟨_, rfl⟩
  have lk1 : 1 ≤ lk ∧ lk ≤ 3 := by rw [elk]; split <;> omega
  obtain ⟨fl, ln, h1, G, _, _, p1, e1⟩ := KN.ground hA 0 3 lk BA (by decide) lk1.1 lk1.2
  have B1 := p1.bag BA
  have f3 := G.f3
  have l3 := G.l3
  obtain ⟨l0, lr, eln⟩ : ∃ l0 lr, ln = l0 :: lr := by
    cases ln with
    | nil => exact absurd G.l1 (by simp)
    | cons a b => exact ⟨a, b, rfl⟩
  have hl0 : l0 ∈ ln := by rw [eln]; exact List.mem_cons_self
  have nd := List.nodup_append.mp G.nd
  have g0 : ∀ h, ixD h (grD fl ln) (.int 0) = some (.lst (sL fl)) := fun h => rfl
  have g1 : ∀ h, ixD h (grD fl ln) (.int 1) = some (.lst (sL ln)) := fun h => rfl
  have g10 : ∀ h, ixD h (.lst (sL ln)) (.int 0) = some (.str l0) := fun h => by
    rw [eln]
    exact at_nat (l := sL (l0 :: lr)) (d := 0) (by simp)
  refine run_does (g := [.val (.rdl (ns.map .int)), .no, .no, .no, .no, .no, .no, .no, .no, .no, .no, .no, .no, .no, .no, .no]) rfl ?_
  unfold fb_law
  refine run_asg (.ref 0) h0 (by simp [permD, e0]) ?_
  simp only [List.set_cons_zero, List.set_cons_succ]
  refine run_asg (grD fl ln) h1 ?_ ?_
  · have e1' : ρ "_law_ground" [.ref 0, .int 3, .int (lk : Int)] hA = .ok (grD fl ln) h1 := e1
    have eA' : ρ "_law_pull" [.ref 0, .int 3] h0 = .ok (.int d0) hA := eA
    have ei : ∀ g : List Sl, g[1]? = some (.val (.ref 0)) → iIf (tCmpB .Gt (iCall "_law_pull" [.ix 0, .ix 1] (aCons (iV 1) (aCons (iC (.int 3)) aNil)) aNil) (iC (.int 0))) (iC (.int 2)) (iC (.int 3)) ρ ⟨g, h0⟩ = .ok (.int (lk : Int)) ⟨g, hA⟩ := fun g hg => by
      by_cases hd : (0 : Int) < (d0 : Int)
      · rw [if_pos hd] at elk
        rw [elk]
        simp only [e_If, e_CmpB, e_Call, e_aCons, e_V, e_C, hg, bind_ok, e_aNil, List.append_nil, permD, List.getElem?_cons_zero, List.getElem?_cons_succ, eA', e_ofF, c_gt, hd, decide_true, liftT_some]
        rfl
      · rw [if_neg hd] at elk
        rw [elk]
        simp only [e_If, e_CmpB, e_Call, e_aCons, e_V, e_C, hg, bind_ok, e_aNil, List.append_nil, permD, List.getElem?_cons_zero, List.getElem?_cons_succ, eA', e_ofF, c_gt, hd, decide_false, liftT_some]
        rfl
    simp only [e_Call, e_aCons, e_V, e_C, bind_ok, List.getElem?_cons_zero, List.getElem?_cons_succ, ei [.val (.rdl (ns.map .int)), .val (.ref 0), .no, .no, .no, .no, .no, .no, .no, .no, .no, .no, .no, .no, .no, .no] rfl, e_aNil, List.append_nil, permD, e1', e_ofF]
  simp only [List.set_cons_zero, List.set_cons_succ]
  refine run_par (schD fl ln) (.lst (due fl ln)) h1 h1 ?_ ?_ ?_
  · simp only [e_Call, e_aCons, e_V, bind_ok, List.getElem?_cons_zero, List.getElem?_cons_succ, e_aNil, List.append_nil, permD, KN.lsch fl ln h1 G, e_ofF]
  · simp only [e_Call, e_aCons, e_V, bind_ok, List.getElem?_cons_zero, List.getElem?_cons_succ, e_aNil, List.append_nil, permD, KN.lprof fl ln h1 G, e_ofF]
  simp only [List.set_cons_zero, List.set_cons_succ]
  have mP : ∀ (g : List Sl) (h : List Ob), g[3]? = some (.val (schD fl ln)) → iMeth (MT "profiles" 0 []) (iV 3) "profiles" aNil aNil ρ ⟨g, h⟩ = .ok (.ref h.length) ⟨g, h ++ [.lst (due fl ln)]⟩ := fun g h hg =>
    meth_ok (c := "Schema") (key := "Schema.profiles") (pm := [.ix 0]) (ns := ["own_flags", "own_links"]) (ds := [.tup (sL fl), .tup (sL ln)]) (xs := []) (ys := []) (zs := [schD fl ln]) (by rw [e_V, hg]; rfl) (by kernel_rfl) rfl rfl rfl rfl (KN.prof fl ln h G)
  have mI : ∀ (g : List Sl) (h : List Ob) (e : I) (x : D), g[3]? = some (.val (schD fl ln)) → e ρ ⟨g, h⟩ = .ok x ⟨g, h⟩ → profOk x = true → iMeth (MT "is_profile" 1 []) (iV 3) "is_profile" (aCons e aNil) aNil ρ ⟨g, h⟩ = .ok (.bl (profB fl ln x)) ⟨g, h⟩ := fun g h e x hg he hx =>
    meth_ok (c := "Schema") (key := "Schema.is_profile") (pm := [.ix 0, .ix 1]) (ns := ["own_flags", "own_links"]) (ds := [.tup (sL fl), .tup (sL ln)]) (xs := [x]) (ys := []) (zs := [schD fl ln, x]) (by rw [e_V, hg]; rfl) (by kernel_rfl) rfl (by rw [e_aCons, he]; rfl) rfl rfl (KN.isp fl ln x h G hx)
  have mV : ∀ (g : List Sl) (h : List Ob) (e : I) (x : D), g[3]? = some (.val (schD fl ln)) → e ρ ⟨g, h⟩ = .ok x ⟨g, h⟩ → profOk x = true → iMeth (MT "is_profile" 0 ["value"]) (iV 3) "is_profile" aNil (aCons e aNil) ρ ⟨g, h⟩ = .ok (.bl (profB fl ln x)) ⟨g, h⟩ := fun g h e x hg he hx =>
    meth_ok (c := "Schema") (key := "Schema.is_profile") (pm := [.ix 0, .ix 1]) (ns := ["own_flags", "own_links"]) (ds := [.tup (sL fl), .tup (sL ln)]) (xs := []) (ys := [x]) (zs := [schD fl ln, x]) (by rw [e_V, hg]; rfl) (by kernel_rfl) rfl rfl (by rw [e_aCons, he]; rfl) rfl (KN.isp fl ln x h G hx)
  refine run_asg (.ref h1.length) (h1 ++ [.lst (due fl ln)]) (mP _ _ rfl) ?_
  simp only [List.set_cons_zero, List.set_cons_succ]
  have sn : ∀ (h : List Ob) (l : List D), snap1 (h ++ [.lst l]) (.ref h.length) = .lst l := fun h l => by simp [snap1]
  refine run_ifF (h1 ++ [.lst (due fl ln)]) ?_ ?_
  · have q := like_snap (f := "_law_like") (a := iV 5) (b := iV 4) (ρ := ρ) (g := [.val (.rdl (ns.map .int)), .val (.ref 0), .val (grD fl ln), .val (schD fl ln), .val (.lst (due fl ln)), .val (.ref h1.length), .no, .no, .no, .no, .no, .no, .no, .no, .no, .no]) (h := h1 ++ [.lst (due fl ln)]) (h1 := h1 ++ [.lst (due fl ln)]) (h2 := h1 ++ [.lst (due fl ln)]) (x := .ref h1.length) (y := .lst (due fl ln)) (z := .lst (due fl ln)) rfl rfl (sn h1 _) rfl (okD_scp 0 6 _ (due_okD G)) (KN.like _ [] (due_okD G))
    simp only [e_Not, e_Tru, q, bind_ok, t_bl, liftT_some, Bool.not_true]
  have dl := due_len f3 l3
  refine run_drop .non _ (app_last rfl rfl (by omega)) ?_
  have B2 : HasBag (h1 ++ [.lst (due fl ln ++ [.non])]) 0 := B1.app
  refine run_for (fun _ st => ∃ z6 z7 z8 z9 z10 z11 z12 z13 z14 h, HasBag h 0 ∧ st = ⟨[.val (.rdl (ns.map .int)), .val (.ref 0), .val (grD fl ln), .val (schD fl ln), .val (.lst (due fl ln)), .val (.ref h1.length), z6, z7, z8, z9, z10, z11, z12, z13, z14, .no], h⟩) _ (h1 ++ [.lst (due fl ln ++ [.non])]) (wRange_nat (n := 6) (by simp) (sz (by omega))) ⟨.no, .no, .no, .no, .no, .no, .no, .no, .no, _, B2, rfl⟩ ?_ ?_
  · rintro d ds st ⟨z6, z7, z8, z9, z10, z11, z12, z13, z14, h, Bh, rfl⟩
    refine ⟨_, rfl, ?_⟩
    simp only [List.set_cons_zero, List.set_cons_succ]
    obtain ⟨one, hB, m1, pB, eB⟩ := KN.any_ h 0 (due fl ln) Bh dl.2 (by omega)
    have BB := pB.bag Bh
    obtain ⟨s, o, i, hs, ho, hi, rfl⟩ := due_mem m1
    have cs := fun w hw => G.flcp w (hs.subset hw)
    have co := fun w hw => G.lncp w (ho.subset hw)
    have ci := fun w hw => G.lncp w (hi.subset hw)
    have lens : s.length ≤ 3 ∧ o.length ≤ 3 ∧ i.length ≤ 3 := ⟨Nat.le_trans hs.length_le f3, Nat.le_trans ho.length_le l3, Nat.le_trans hi.length_le l3⟩
    have i0 : ∀ h, ixD h (trip s o i) (.int 0) = some (rowD s) := fun _ => rfl
    have i1 : ∀ h, ixD h (trip s o i) (.int 1) = some (rowD o) := fun _ => rfl
    have i2 : ∀ h, ixD h (trip s o i) (.int 2) = some (rowD i) := fun _ => rfl
    have pOne : profB fl ln (trip s o i) = true := by
      show (partB fl (rowD s) && (partB ln (rowD o) && partB ln (rowD i))) = true
      rw [part_sub hs nd.1, part_sub ho nd.2.1, part_sub hi nd.2.1]
      rfl
    have okT : ∀ {a b c : List (List Nat)}, (∀ w ∈ a, cpOk w = true) → (∀ w ∈ b, cpOk w = true) → (∀ w ∈ c, cpOk w = true) → profOk (trip a b c) = true := fun {a b c} h1 h2 h3 => by
      show (partOk (rowD a) && (partOk (rowD b) && partOk (rowD c))) = true
      rw [row_ok h1, row_ok h2, row_ok h3]
      rfl
    -- one
    refine run_asg (trip s o i) hB ?_ ?_
    · simp only [e_Call, e_aCons, e_V, bind_ok, List.getElem?_cons_zero, List.getElem?_cons_succ, e_aNil, List.append_nil, permD, eB, e_ofF]
    simp only [List.set_cons_zero, List.set_cons_succ]
    obtain ⟨sl, esl⟩ : ∃ sl, sl = slotL ln o i := ⟨_, rfl⟩
    have slk : okD 6 (.lst sl) = true := by rw [esl]; exact slot_okD G.lncp
    have sll : sl.length ≤ 6 := by rw [esl]; exact slotL_len l3
    have es1 : ∀ h, ρ "_law_slots" [grD fl ln, trip s o i] h = .ok (.ref h.length) (h ++ [.lst sl]) := fun h => by rw [esl]; exact KN.lslots fl ln s o i h G
    have es2 : ∀ h, ρ "Schema.slots" [schD fl ln, trip s o i] h = .ok (.ref h.length) (h ++ [.lst sl]) := fun h => by rw [esl]; exact KN.slots fl ln s o i h G
    have mS : ∀ (g : List Sl) (h : List Ob), g[3]? = some (.val (schD fl ln)) → g[7]? = some (.val (trip s o i)) → iMeth (MT "slots" 1 []) (iV 3) "slots" (aCons (iV 7) aNil) aNil ρ ⟨g, h⟩ = .ok (.ref h.length) ⟨g, h ++ [.lst sl]⟩ := fun g h hg hg7 =>
      meth_ok (c := "Schema") (key := "Schema.slots") (pm := [.ix 0, .ix 1]) (ns := ["own_flags", "own_links"]) (ds := [.tup (sL fl), .tup (sL ln)]) (xs := [trip s o i]) (ys := []) (zs := [schD fl ln, trip s o i]) (by rw [e_V, hg]; rfl) (by kernel_rfl) rfl (by rw [e_aCons, e_V, hg7]; rfl) rfl rfl (es2 h)
    have mK : ∀ (g : List Sl) (h : List Ob), g[3]? = some (.val (schD fl ln)) → g[7]? = some (.val (trip s o i)) → iMeth (MT "slots" 0 ["profile"]) (iV 3) "slots" aNil (aCons (iV 7) aNil) ρ ⟨g, h⟩ = .ok (.ref h.length) ⟨g, h ++ [.lst sl]⟩ := fun g h hg hg7 =>
      meth_ok (c := "Schema") (key := "Schema.slots") (pm := [.ix 0, .ix 1]) (ns := ["own_flags", "own_links"]) (ds := [.tup (sL fl), .tup (sL ln)]) (xs := []) (ys := [trip s o i]) (zs := [schD fl ln, trip s o i]) (by rw [e_V, hg]; rfl) (by kernel_rfl) rfl rfl (by rw [e_aCons, e_V, hg7]; rfl) rfl (es2 h)
    refine run_asg (.ref hB.length) (hB ++ [.lst sl]) ?_ ?_
    · simp only [e_Call, e_aCons, e_V, bind_ok, List.getElem?_cons_zero, List.getElem?_cons_succ, e_aNil, List.append_nil, permD, es1, e_ofF]
    simp only [List.set_cons_zero, List.set_cons_succ]
    obtain ⟨hC, ehC⟩ : ∃ hC, hC = hB ++ [Ob.lst sl] := ⟨_, rfl⟩
    rw [← ehC]
    have BC : HasBag hC 0 := by rw [ehC]; exact BB.app
    refine run_ifF (hC ++ [.lst sl]) ?_ ?_
    · have sn2 : snap1 (hC ++ [.lst sl]) (.ref hB.length) = .lst sl := by
        rw [ehC]
        simp [snap1]
      have q := like_snap (f := "_law_like") (a := iMeth (MT "slots" 1 []) (iV 3) "slots" (aCons (iV 7) aNil) aNil) (b := iV 8) (ρ := ρ) (g := [.val (.rdl (ns.map .int)), .val (.ref 0), .val (grD fl ln), .val (schD fl ln), .val (.lst (due fl ln)), .val (.ref h1.length), .val d, .val (trip s o i), .val (.ref hB.length), z9, z10, z11, z12, z13, z14, .no]) (h := hC) (h1 := hC ++ [.lst sl]) (h2 := hC ++ [.lst sl]) (x := .ref hC.length) (y := .ref hB.length) (z := .lst sl) (mS _ _ rfl rfl) rfl (sn hC sl) sn2 (okD_scp 0 6 _ slk) (KN.like _ [] slk)
      have p := mI [.val (.rdl (ns.map .int)), .val (.ref 0), .val (grD fl ln), .val (schD fl ln), .val (.lst (due fl ln)), .val (.ref h1.length), .val d, .val (trip s o i), .val (.ref hB.length), z9, z10, z11, z12, z13, z14, .no] (hC ++ [.lst sl]) (iV 7) (trip s o i) rfl rfl (okT cs co ci)
      rw [pOne] at p
      have c : cmpD .IsNot (.bl true) (.bl true) = some false := rfl
      simp only [e_Or, e_Not, e_Tru, q, bind_ok, t_bl, liftT_some, Bool.not_true, e_CmpB, p, e_C, c]
    obtain ⟨hD, ehD⟩ : ∃ hD, hD = hC ++ [Ob.lst sl] := ⟨_, rfl⟩
    rw [← ehD]
    have BD : HasBag hD 0 := by rw [ehD]; exact BC.app
    refine run_drop .non (hD ++ [.lst (sl ++ [.non])]) (app_new (mK _ _ rfl rfl) rfl (by omega)) ?_
    obtain ⟨hE, ehE⟩ : ∃ hE, hE = hD ++ [Ob.lst (sl ++ [.non])] := ⟨_, rfl⟩
    rw [← ehE]
    have BE : HasBag hE 0 := by rw [ehE]; exact BD.app
    -- odd
    obtain ⟨at_, hF, a3, pF, eF⟩ := KN.pull.go (m := 3) BE (by omega) (by omega)
    have BF := pF.bag BE
    obtain ⟨odd, hG, mo, pG, eG⟩ := KN.any_ hF 0 (oddL s l0) BF (by simp [oddL]) (by simp [oddL])
    have BG := pG.bag BF
    obtain ⟨od1, od2, od3⟩ := odd_ok G hs hl0 mo
    refine run_par (.int at_) odd hF hG ?_ ?_ ?_
    · have eF' : ρ "_law_pull" [.ref 0, .int 3] hE = .ok (.int at_) hF := eF
      simp only [e_Call, e_aCons, e_V, e_C, bind_ok, List.getElem?_cons_zero, List.getElem?_cons_succ, e_aNil, List.append_nil, permD, eF', e_ofF]
    · have z0 : ([] : List D).length ≤ sizeLine := sz (by simp)
      have z1 : ∀ x : D, ([x] : List D).length ≤ sizeLine := fun _ => sz (by simp)
      have z8' : (oddL s l0).length ≤ sizeLine := sz (by simp [oddL])
      have bl : ∀ h, biD .list h [rowD s] = some (.lst (sL s)) := fun _ => rfl
      have eG' : ρ "_law_any" [.ref 0, .lst (oddL s l0)] hF = .ok odd hG := eG
      simp only [e_Call, e_aCons, e_V, e_C, bind_ok, List.getElem?_cons_zero, List.getElem?_cons_succ, e_aNil, e_Lst, e_Tup, z0, z1, if_true, lift_some, e_Bi, e_Ix, i0, bl, g1, g10]
      rw [show [D.non, .str [65], .tup [], .int 3, .tup [.str [65]], .tup [.non], .lst (sL s), .str l0] = oddL s l0 from rfl]
      simp only [z8', if_true, lift_some, bind_ok, List.append_nil, permD, List.getElem?_cons_zero, List.getElem?_cons_succ, eG', e_ofF]
    simp only [List.set_cons_zero, List.set_cons_succ]
    -- bent
    obtain ⟨l, el⟩ : ∃ l, l = [rowD s, rowD o, rowD i] := ⟨_, rfl⟩
    have tl : trip s o i = .tup l := by rw [el]; rfl
    obtain ⟨bent, ebent⟩ : ∃ bent, bent = l.take at_ ++ [odd] ++ l.drop (at_ + 1) := ⟨_, rfl⟩
    refine run_asg (.tup bent) hG ?_ ?_
    · have sl1 : slD hG (trip s o i) none (some (at_ : Int)) = some (.tup (l.take at_)) := by rw [tl]; exact slice_toT l at_ hG
      have sl2 : slD hG (trip s o i) (some ((at_ : Int) + 1)) none = some (.tup (l.drop (at_ + 1))) := by rw [tl]; exact slice_fromT l (at_ + 1) hG
      have ll : l.length = 3 := by rw [el]; rfl
      have a1 := b_addT (a := l.take at_) (b := [odd]) (by simp; omega)
      have a2 := b_addT (a := l.take at_ ++ [odd]) (b := l.drop (at_ + 1)) (by simp; omega)
      have z1 : ∀ x : D, ([x] : List D).length ≤ sizeLine := fun _ => sz (by simp)
      simp only [e_Bin, e_Sl, e_V, e_C, e_pNo, e_pInt, bind_ok, List.getElem?_cons_zero, List.getElem?_cons_succ, sl1, lift_some, e_Tup, e_aCons, e_aNil, z1, if_true, a1, b_add, sl2, a2, ← ebent]
    simp only [List.set_cons_zero, List.set_cons_succ]
    have bt : profOk (.tup bent) = true ∧ (odd = .tup [] ∨ profB fl ln (.tup bent) = false) := by
      have : at_ = 0 ∨ at_ = 1 ∨ at_ = 2 := by omega
      rcases this with rfl | rfl | rfl
      · have e : bent = [odd, rowD o, rowD i] := by rw [ebent, el]; rfl
        rw [e]
        refine ⟨?_, ?_⟩
        · show (partOk odd && (partOk (rowD o) && partOk (rowD i))) = true
          rw [od1, row_ok co, row_ok ci]
          rfl
        · rcases od3 with z | ⟨_, z, _⟩
          · exact .inl z
          · refine .inr ?_
            show (partB fl odd && _) = false
            rw [z]
            rfl
      · have e : bent = [rowD s, odd, rowD i] := by rw [ebent, el]; rfl
        rw [e]
        refine ⟨?_, ?_⟩
        · show (partOk (rowD s) && (partOk odd && partOk (rowD i))) = true
          rw [od1, row_ok cs, row_ok ci]
          rfl
        · rcases od3 with z | ⟨_, _, z⟩
          · exact .inl z
          · refine .inr ?_
            show (partB fl (rowD s) && (partB ln odd && _)) = false
            rw [z, Bool.false_and, Bool.and_false]
      · have e : bent = [rowD s, rowD o, odd] := by rw [ebent, el]; rfl
        rw [e]
        refine ⟨?_, ?_⟩
        · show (partOk (rowD s) && (partOk (rowD o) && partOk odd)) = true
          rw [od1, row_ok cs, row_ok co]
          rfl
        · rcases od3 with z | ⟨_, _, z⟩
          · exact .inl z
          · refine .inr ?_
            show (partB fl (rowD s) && (partB ln (rowD o) && partB ln odd)) = false
            rw [z, Bool.and_false, Bool.and_false]
    have z0 : ([] : List D).length ≤ sizeLine := sz (by simp)
    refine run_ifF hG ?_ ?_
    · have p := mI [.val (.rdl (ns.map .int)), .val (.ref 0), .val (grD fl ln), .val (schD fl ln), .val (.lst (due fl ln)), .val (.ref h1.length), .val d, .val (trip s o i), .val (.ref hB.length), .val (.int at_), .val odd, .val (.tup bent), z12, z13, z14, .no] hG (iV 11) (.tup bent) rfl rfl bt.1
      have q : ∀ st : S, eqOwn eqs true ρ odd (.tup []) st = .ok (.bl (!eqD odd (.tup []))) st := fun st => o_dataN (n := 2) od2 rfl (by decide)
      have c : cmpD .IsNot (.bl false) (.bl false) = some false := rfl
      rcases od3 with z | ⟨z, _, _⟩
      · have e : eqD odd (.tup []) = true := by rw [z]; rfl
        simp only [e_And, e_EqT, e_V, e_Tup, e_aNil, bind_ok, List.getElem?_cons_zero, List.getElem?_cons_succ, z0, if_true, lift_some, q, e, Bool.not_true]
      · have pb : profB fl ln (.tup bent) = false := by
          rcases bt.2 with y | y
          · rw [y] at z; cases z
          · exact y
        rw [pb] at p
        simp only [e_And, e_EqT, e_V, e_Tup, e_aNil, bind_ok, List.getElem?_cons_zero, List.getElem?_cons_succ, z0, if_true, lift_some, q, z, Bool.not_false, e_CmpB, p, e_C, c, liftT_some]
    -- twice, turned
    have z3 : ∀ x y z : D, ([x, y, z] : List D).length ≤ sizeLine := fun _ _ _ => sz (by simp)
    refine run_asg (trip s (o ++ o) i) hG ?_ ?_
    · have a1 : binD .Add (rowD o) (rowD o) = some (rowD (o ++ o)) := by
        have := b_addT (a := sL o) (b := sL o) (by simp; omega)
        rw [this]
        simp [rowD]
      simp only [e_Tup, e_aCons, e_aNil, e_Ix, e_V, e_C, e_Bin, bind_ok, List.getElem?_cons_zero, List.getElem?_cons_succ, i0, i1, i2, lift_some, a1, z3, if_true]
      rfl
    simp only [List.set_cons_zero, List.set_cons_succ]
    refine run_asg (trip s.reverse o i.reverse) hG ?_ ?_
    · have r : ∀ (x : List (List Nat)) (h : List Ob), revD h (rowD x) = some (rowD x.reverse) := fun x h => by simp [revD, rowD]
      simp only [e_Tup, e_aCons, e_aNil, e_Ix, e_V, e_C, e_RevL, bind_ok, List.getElem?_cons_zero, List.getElem?_cons_succ, i0, i1, i2, lift_some, r, z3, if_true]
      rfl
    simp only [List.set_cons_zero, List.set_cons_succ]
    -- told
    obtain ⟨w1, ew1⟩ : ∃ w1, w1 = decide (o = []) := ⟨_, rfl⟩
    obtain ⟨w2, ew2⟩ : ∃ w2, w2 = (decide (s.reverse = s) && (decide (o = o) && decide (i.reverse = i))) := ⟨_, rfl⟩
    have k1 : profB fl ln (trip s (o ++ o) i) = w1 := by
      show (partB fl (rowD s) && (partB ln (rowD (o ++ o)) && partB ln (rowD i))) = w1
      rw [part_sub hs nd.1, part_same ho nd.2.1 (q := o ++ o) (fun w => by simp), part_sub hi nd.2.1, ew1, Bool.true_and, Bool.and_true]
      by_cases e : o = []
      · subst e; rfl
      · rw [decide_eq_false e]
        refine decide_eq_false fun z => e ?_
        have := congrArg List.length z
        rw [List.length_append] at this
        exact List.length_eq_zero_iff.mp (by omega)
    have k2 : profB fl ln (trip s.reverse o i.reverse) = w2 := by
      show (partB fl (rowD s.reverse) && (partB ln (rowD o) && partB ln (rowD i.reverse))) = w2
      rw [part_same hs nd.1 (q := s.reverse) (fun w => by simp), part_sub ho nd.2.1, part_same hi nd.2.1 (q := i.reverse) (fun w => by simp), ew2]
      simp
    have z4 : ∀ x y z w : D, ([x, y, z, w] : List D).length ≤ sizeLine := fun _ _ _ _ => sz (by simp)
    obtain ⟨g, eg⟩ : ∃ g, g = [.val (.rdl (ns.map .int)), .val (.ref 0), .val (grD fl ln), .val (schD fl ln), .val (.lst (due fl ln)), .val (.ref h1.length), .val d, .val (trip s o i), .val (.ref hB.length), .val (.int at_), .val odd, .val (.tup bent), .val (trip s (o ++ o) i), .val (trip s.reverse o i.reverse), z14, Sl.no] := ⟨_, rfl⟩
    have crev : ∀ {x : List (List Nat)}, (∀ w ∈ x, cpOk w = true) → ∀ w ∈ x.reverse, cpOk w = true := fun hx w hw => hx w (List.mem_reverse.mp hw)
    have coo : ∀ w ∈ o ++ o, cpOk w = true := fun w hw => co w (by simpa using hw)
    refine run_asg (.lst [.bl w1, .bl w2, .bl false, .bl false]) hG ?_ ?_
    · rw [← eg]
      have g3 : g[3]? = some (.val (schD fl ln)) := by rw [eg]; rfl
      have g7 : iV 7 ρ ⟨g, hG⟩ = .ok (trip s o i) ⟨g, hG⟩ := by rw [e_V, eg]; rfl
      have t1 := mV g hG (iV 12) (trip s (o ++ o) i) g3 (by rw [e_V, eg]; rfl) (okT cs coo ci)
      have t2 := mI g hG (iV 13) (trip s.reverse o i.reverse) g3 (by rw [e_V, eg]; rfl) (okT (crev cs) co (crev ci))
      have bl : ∀ h, biD .list h [trip s o i] = some (.lst [rowD s, rowD o, rowD i]) := fun _ => rfl
      have t3 := mI g hG (iBi .list (aCons (iV 7) aNil)) (.lst [rowD s, rowD o, rowD i]) g3 (by simp only [e_Bi, e_aCons, e_aNil, g7, bind_ok, bl, lift_some]) rfl
      have s2 : slD hG (trip s o i) none (some 2) = some (.tup [rowD s, rowD o]) := slice_toT [rowD s, rowD o, rowD i] 2 hG
      have t4 := mI g hG (iSl (iV 7) pNo (pInt (iC (.int 2)))) (.tup [rowD s, rowD o]) g3 (by simp only [e_Sl, e_pNo, e_pInt, e_C, g7, bind_ok, s2, lift_some]) rfl
      rw [k1] at t1
      rw [k2] at t2
      have f3' : profB fl ln (.lst [rowD s, rowD o, rowD i]) = false := rfl
      have f4' : profB fl ln (.tup [rowD s, rowD o]) = false := rfl
      rw [f3'] at t3
      rw [f4'] at t4
      simp only [e_Lst, e_aCons, e_aNil, t1, t2, t3, t4, bind_ok, z4, if_true, lift_some]
    simp only [List.set_cons_zero, List.set_cons_succ]
    refine run_ifF hG ?_ (run_nx ⟨.inl rfl, _, _, _, _, _, _, _, _, _, hG, BG, rfl⟩)
    have n1 : eqN 1 (rowD o) = true := eqN_strs (n := 0) co
    have q1 : ∀ st : S, eqOwn eqs false ρ (rowD o) (.tup []) st = .ok (.bl w1) st := fun st => by
      rw [o_data (n := 1) n1 rfl (by decide)]
      have := eqD_t o []
      rw [show (D.tup []) = .tup (sL []) from rfl, this, ew1]
    have q2 : ∀ st : S, eqOwn eqs false ρ (trip s.reverse o i.reverse) (trip s o i) st = .ok (.bl w2) st := fun st => by
      rw [o_data (n := 2) (trip_eqN (crev cs) co (crev ci)) (trip_eqN cs co ci) (by decide), eqD_ttt, ew2]
    have okl : okD 6 (.lst [.bl w1, .bl w2, .bl false, .bl false]) = true := rfl
    have q := like_snap (f := "_law_like") (a := iV 14) (b := iLst (aCons (iEqO eqs false (iIx (iV 7) (iC (.int 1))) (iTup aNil)) (aCons (iEqO eqs false (iV 13) (iV 7)) (aCons (iC (.bl false)) (aCons (iC (.bl false)) aNil))))) (ρ := ρ) (g := [.val (.rdl (ns.map .int)), .val (.ref 0), .val (grD fl ln), .val (schD fl ln), .val (.lst (due fl ln)), .val (.ref h1.length), .val d, .val (trip s o i), .val (.ref hB.length), .val (.int at_), .val odd, .val (.tup bent), .val (trip s (o ++ o) i), .val (trip s.reverse o i.reverse), .val (.lst [.bl w1, .bl w2, .bl false, .bl false]), .no]) (h := hG) (h1 := hG) (h2 := hG) (x := .lst [.bl w1, .bl w2, .bl false, .bl false]) (y := .lst [.bl w1, .bl w2, .bl false, .bl false]) (z := .lst [.bl w1, .bl w2, .bl false, .bl false]) rfl (by
      simp only [e_Lst, e_aCons, e_aNil, e_EqO, e_Ix, e_V, e_C, e_Tup, bind_ok, List.getElem?_cons_zero, List.getElem?_cons_succ, i1, lift_some, z0, if_true, q1, q2, z4]) rfl rfl (okD_scp 0 6 _ okl) (KN.like _ [] okl)
    simp only [e_Not, e_Tru, q, bind_ok, t_bl, liftT_some, Bool.not_true]
  -- the end
  rintro st ⟨z6, z7, z8, z9, z10, z11, z12, z13, z14, h, Bh, rfl⟩
  have z0 : ([] : List D).length ≤ sizeLine := sz (by simp)
  have z3 : ∀ x y z : D, ([x, y, z] : List D).length ≤ sizeLine := fun _ _ _ => sz (by simp)
  refine run_asg (trip [l0] [] []) h ?_ ?_
  · have s1 : ∀ h, slD h (.lst (sL ln)) none (some 1) = some (.lst [.str l0]) := fun h => by
      have : slD h (.lst (sL ln)) none (some 1) = some (.lst ((sL ln).take 1)) := slice_toL (α := Unit) (sL ln) 1 h
      rw [this, eln]
      rfl
    have b : ∀ h, biD .tup h [.lst [.str l0]] = some (rowD [l0]) := fun _ => rfl
    simp only [e_Tup, e_aCons, e_aNil, e_Bi, e_Sl, e_pNo, e_pInt, e_Ix, e_V, e_C, bind_ok, List.getElem?_cons_zero, List.getElem?_cons_succ, g1, lift_some, s1, b, z0, if_true, z3]
    rfl
  simp only [List.set_cons_zero, List.set_cons_succ]
  obtain ⟨g, eg⟩ : ∃ g, g = [.val (.rdl (ns.map .int)), .val (.ref 0), .val (grD fl ln), .val (schD fl ln), .val (.lst (due fl ln)), .val (.ref h1.length), z6, z7, z8, z9, z10, z11, z12, z13, z14, Sl.val (trip [l0] [] [])] := ⟨_, rfl⟩
  have g3 : g[3]? = some (.val (schD fl ln)) := by rw [eg]; rfl
  have g4 : ∀ h, iV 4 ρ ⟨g, h⟩ = .ok (.lst (due fl ln)) ⟨g, h⟩ := fun h => by rw [e_V, eg]; rfl
  rw [← eg]
  refine run_ret (.bl true) (h ++ [.lst (due fl ln)]) ?_ rfl
  have t1 := mI g h (iV 15) (trip [l0] [] []) g3 (by rw [e_V, eg]; rfl) (by
    show (partOk (rowD [l0]) && true) = true
    rw [row_ok fun w hw => by rw [List.mem_singleton.mp hw]; exact G.lncp l0 hl0]
    rfl)
  have p1 : profB fl ln (trip [l0] [] []) = false := by
    show (partB fl (rowD [l0]) && _) = false
    have : partB fl (rowD [l0]) = false := by
      rw [part_row]
      refine decide_eq_false fun e => ?_
      have hm : l0 ∈ fl.filter fun w => decide (w ∈ [l0]) := by rw [← e]; simp
      exact nd.2.2 l0 (List.mem_filter.mp hm).1 l0 hl0 rfl
    rw [this]
    rfl
  rw [p1] at t1
  have t2 := mI g h (iC .non) .non g3 rfl rfl
  have p2 : profB fl ln .non = false := rfl
  rw [p2] at t2
  have c : cmpD .Is (.bl false) (.bl false) = some true := rfl
  have t3 : iCmpS false (iMeth (MT "profiles" 0 []) (iV 3) "profiles" aNil aNil) (iV 4) ρ ⟨g, h⟩ = .ok (.bl true) ⟨g, h ++ [.lst (due fl ln)]⟩ := by
    unfold iCmpS
    simp only [mP g h g3, bind_ok, g4]
    have a1 : snap (h ++ [.lst (due fl ln)]) (.ref h.length) = .lst (due fl ln) := sn h _
    have a2 : snap (h ++ [.lst (due fl ln)]) (.lst (due fl ln)) = .lst (due fl ln) := by
      show D.lst ((due fl ln).map (snap1 _)) = _
      congr 1
      have : ∀ x ∈ due fl ln, snap1 (h ++ [.lst (due fl ln)]) x = x := fun x hx => by
        obtain ⟨s, o, i, _, _, _, rfl⟩ := due_mem hx
        rfl
      rw [List.map_congr_left this]
      simp
    rw [a1, a2]
    have e : cmpD (opOf false) (.lst (due fl ln)) (.lst (due fl ln)) = some true := by
      show cmpD .Eq _ _ = _
      rw [c_eqD (due_eqN G) (due_eqN G) (by decide), eqD_refl 3 _ (due_eqN G)]
    rw [e]
    rfl
  have cm : ∀ (a b : I) (s : S), iCmp .Is a b ρ s = (a ρ s).bind fun x s => (b ρ s).bind fun y s => lift ((cmpD .Is x y).map .bl) s := fun _ _ _ => rfl
  simp only [e_iAnd, cm, t1, bind_ok, e_C, c, Option.map_some, lift_some, t_bl, t2, t3]
theorem plain (ns : List Int) (hl : ns.length ≤ 63) : ∃ h', T.rho 8 "law" [.rdl (ns.map .int)] [] = .ok (.bl true) h' := by
  rw [rho_run (e := e_law) (by kernel_rfl)]
  obtain ⟨d, h', e, rfl⟩ := law_ok known ns
  exact ⟨h', e⟩
end B.K05
end
section
set_option Elab.async false
set_option linter.all false
set_option maxRecDepth 100000
set_option maxHeartbeats 0
open PySem PySem.W PySem.Calls PyProof.Rows
theorem PySem.Challenge.cw_bothtied_k05_profiles_and_slots_holds : PySem.Challenge.rw_bothtied_k05_profiles_and_slots.Holds := by
  w_on; o_law
  refine HandSHeadRun.head_any (r := OpenLaw.row PySem.Challenge.rw_bothtied_k05_profiles_and_slots) (q := view (OpenLaw.row PySem.Challenge.rw_bothtied_k05_profiles_and_slots).prog [27]) (H := B.K05.hk) (ob := B.K05.ob) (M := 3000) (loose := B.K05.names) (d := HandSHeadRun.topDef (OpenLaw.row PySem.Challenge.rw_bothtied_k05_profiles_and_slots).prog 27) (kwd := []) B.K05.ob_eq
    (by kernel_rfl) (fun s => by kernel_rfl) B.K05.run (by kernel_rfl) (by kernel_rfl) (by kernel_rfl) (by rfl) (by first | assumption | decide +kernel) (by decide +kernel) ⟨rfl, rfl, rfl, rfl, rfl, by decide +kernel⟩ ?hw ?hc
  case hw => w_witness2
  case hc =>
    refine B.walk_ofW (l := PySem.Challenge.rw_bothtied_k05_profiles_and_slots) (n := 63) (k := 2 * 8) (x := "_law_script") (CX := L2.CX (PySem.Challenge.rw_bothtied_k05_profiles_and_slots).prog) rfl (by decide) (by kernel_rfl) ⟨rfl, by decide, by decide⟩ ?F B.cx_no
    intro w mg fa h Y G hmg0
    obtain ⟨K, KX, c⟩ := Y
    have hmg : mg ("law" : PySem.Str) = some (.ref fa) := by
      have e : (HandSHeadRun.topDef (OpenLaw.row PySem.Challenge.rw_bothtied_k05_profiles_and_slots).prog 27).name = ("law" : PySem.Str) := by kernel_rfl
      rw [← e]
      exact hmg0
    obtain ⟨fd, hb, hF⟩ := B.K05.facts (P := (PySem.Challenge.rw_bothtied_k05_profiles_and_slots).prog) (w := w) KX G hmg c
    refine ⟨K, fd, _, KX, hb, fun H a ns hl hO hS => ?_, hF⟩
    obtain ⟨h', e⟩ := B.K05.plain ns hl
    exact B.law_sp hO hS hl e
end
