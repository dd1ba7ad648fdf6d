import PyProof.Rows.All
import HandS.ForMost
import HandS.ForExc
import HandS.SortOrd
import HandS.Deep
import HandS.TupAny
import HandS.TupLe
import HandS.IsInst
import HandS.Wide
import HandS.Flow
import HandS.EndBits
import HandS.Codes
import KE.KDictKeyed
import KE.KDictWalk
import KE.DataMinMax
import KE.DataEq
import KE.DataCmp
import KE.SortData
import PyProof.DictTruth
import PyProof.Rows.SeqRoads
import KE.KIsAll
import HandS.ExcOwn
import HandS.Records
import HandS.Zip
import HandS.TryMany
import HandS.Text
import KE.LtSeq
import KE.KSortTup
import HandS.SortInts
import HandS.SortKw
import KE.KDictCopyH
import KE.KDictSum
import HandS.TupSets
import HandS.Head0
import HandS.Head1
import HandS.Head2
import HandS.HeadEnd
import HandS.HeadHook1
import HandS.HeadHook2
import HandS.Words
import HandS.WordsExc
import HandS.Defaults
import PyProof.ExcBaseAll.ValueError
import HandS.HeadHook3
import HandS.HeadHook4
import PySem.Challenge.RW_kindlore_k11_asked_facts_and_goals
set_option linter.all false
set_option autoImplicit false
set_option Elab.async false
set_option maxRecDepth 100000
set_option maxHeartbeats 0
/-! The small language: data, stores, the evaluator. -/
namespace Kd
open PySem
/-- a value; lists, dicts and instances stand in the store -/
inductive D where
  | non | bl (b : Bool) | int (i : Int) | str (x : Str) | tup (ds : List D) | loc (l : Nat) | rol (ns : List Int)
mutual
def D.beq : D → D → Bool
  | .non, .non => true
  | .bl a, .bl b => a == b
  | .int a, .int b => a == b
  | .str a, .str b => a == b
  | .tup a, .tup b => D.beqs a b
  | .loc a, .loc b => a == b
  | .rol a, .rol b => a == b
  | .non, .bl _ | .non, .int _ | .non, .str _ | .non, .tup _ | .non, .loc _ | .non, .rol _ => false
  | .bl _, .non | .bl _, .int _ | .bl _, .str _ | .bl _, .tup _ | .bl _, .loc _ | .bl _, .rol _ => false
  | .int _, .non | .int _, .bl _ | .int _, .str _ | .int _, .tup _ | .int _, .loc _ | .int _, .rol _ => false
  | .str _, .non | .str _, .bl _ | .str _, .int _ | .str _, .tup _ | .str _, .loc _ | .str _, .rol _ => false
  | .tup _, .non | .tup _, .bl _ | .tup _, .int _ | .tup _, .str _ | .tup _, .loc _ | .tup _, .rol _ => false
  | .loc _, .non | .loc _, .bl _ | .loc _, .int _ | .loc _, .str _ | .loc _, .tup _ | .loc _, .rol _ => false
  | .rol _, .non | .rol _, .bl _ | .rol _, .int _ | .rol _, .str _ | .rol _, .tup _ | .rol _, .loc _ => false
def D.beqs : List D → List D → Bool
  | [], [] => true
  | a :: as, b :: bs => D.beq a b && D.beqs as bs
  | [], _ :: _ => false
  | _ :: _, [] => false
end
mutual
theorem D.beq_self : ∀ a : D, D.beq a a = true
  | .non => rfl
  | .bl b => by simp [D.beq]
  | .int i => by simp [D.beq]
  | .str x => by simp [D.beq]
  | .tup ds => by simp [D.beq, D.beqs_self ds]
  | .loc l => by simp [D.beq]
  | .rol l => by simp [D.beq]
theorem D.beqs_self : ∀ a : List D, D.beqs a a = true
  | [] => rfl
  | a :: as => by simp [D.beqs, D.beq_self a, D.beqs_self as]
end
mutual
theorem D.eq_of_beq : ∀ a b : D, D.beq a b = true → a = b
  | .non, b, h => by cases b <;> simp [D.beq] at h <;> rfl
  | .bl a, b, h => by cases b <;> simp [D.beq] at h <;> subst h <;> rfl
  | .int a, b, h => by cases b <;> simp [D.beq] at h <;> subst h <;> rfl
  | .str a, b, h => by cases b <;> simp [D.beq] at h <;> subst h <;> rfl
  | .loc a, b, h => by cases b <;> simp [D.beq] at h <;> subst h <;> rfl
  | .rol a, b, h => by cases b <;> simp [D.beq] at h <;> subst h <;> rfl
  | .tup a, b, h => by
    cases b with
    | tup b => simp only [D.beq] at h; rw [D.eqs_of_beqs a b h]
    | _ => simp [D.beq] at h
theorem D.eqs_of_beqs : ∀ a b : List D, D.beqs a b = true → a = b
  | [], b, h => by cases b <;> simp [D.beqs] at h <;> rfl
  | a :: as, b, h => by
    cases b with
    | nil => simp [D.beqs] at h
    | cons b bs =>
      simp only [D.beqs, Bool.and_eq_true] at h
      rw [D.eq_of_beq a b h.1, D.eqs_of_beqs as bs h.2]
end
instance : DecidableEq D := fun a b => if h : D.beq a b = true then .isTrue (D.eq_of_beq a b h) else .isFalse fun e => h (e ▸ D.beq_self a)
inductive Ob where
  | lst (ds : List D) | dct (kvs : List (D × D)) | ins (c : Nat) (fs : List (Str × D))
  deriving DecidableEq
abbrev Sto := List Ob
inductive R (α : Type) where
  | ok (a : α) (S : Sto)
  | exc (c : Nat) (d : Option D) (S : Sto)
  | bad
structure M (α : Type) where
  run : Sto → R α
namespace M
instance {α : Type} : CoeFun (M α) fun _ => Sto → R α := ⟨M.run⟩
def pure {α : Type} (a : α) : M α := ⟨.ok a⟩
def bind {α β : Type} (x : M α) (f : α → M β) : M β := .mk fun S => match x S with
  | .ok a S1 => f a S1
  | .exc c d S1 => .exc c d S1
  | .bad => .bad
def bad {α : Type} : M α := ⟨fun _ => .bad⟩
end M
instance : Bind M := ⟨M.bind⟩
theorem bindE {α β : Type} (x : M α) (f : α → M β) (S : Sto) : (x >>= f) S = match x S with
  | .ok a S1 => f a S1
  | .exc c d S1 => .exc c d S1
  | .bad => .bad := rfl
/-- what an expression gives: a value, or a list that nobody else holds -/
inductive X where
  | dv (d : D) | tl (ds : List D)
  deriving DecidableEq
def push (o : Ob) : M Nat := .mk fun S => .ok S.length (S ++ [o])
/-- a list that nobody holds becomes one of the store -/
def force : X → M D
  | .dv d => M.pure d
  | .tl ds => push (.lst ds) >>= fun l => M.pure (.loc l)
/-- the items of a list or tuple -/
def items : X → M (List D)
  | .tl ds => M.pure ds
  | .dv (.tup ds) => M.pure ds
  | .dv (.rol ns) => M.pure (ns.map .int)
  | .dv (.loc l) => .mk fun S => match S[l]? with
    | some (.lst ds) => .ok ds S
    | _ => .bad
  | _ => M.bad
/-- the items of a list alone -/
def litems : X → M (List D)
  | .tl ds => M.pure ds
  | .dv (.rol ns) => M.pure (ns.map .int)
  | .dv (.loc l) => .mk fun S => match S[l]? with
    | some (.lst ds) => .ok ds S
    | _ => .bad
  | _ => M.bad
/-- .. of one that may be written -/
def olitems : X → M (List D)
  | .tl ds => M.pure ds
  | .dv (.loc l) => .mk fun S => match S[l]? with
    | some (.lst ds) => .ok ds S
    | _ => .bad
  | _ => M.bad
/-! ### data as the library has it -/
mutual
/-- no list, no truth value within: == is equality -/
def D.sim : D → Bool
  | .non | .int _ | .str _ => true
  | .tup ds => D.sims ds
  | .bl _ | .loc _ | .rol _ => false
def D.sims : List D → Bool
  | [] => true
  | d :: ds => d.sim && D.sims ds
end
mutual
def D.dep : D → Nat
  | .tup ds => D.deps ds + 1
  | _ => 0
def D.deps : List D → Nat
  | [] => 0
  | d :: ds => max d.dep (D.deps ds)
end
mutual
def D.py : D → Option PyData
  | .non => some .none
  | .bl b => some (.bool b)
  | .int i => some (.int i)
  | .str x => some (.str x)
  | .tup ds => (D.pys ds).map .tuple
  | .loc _ => none
  | .rol ns => some (.list (ns.map .int))
def D.pys : List D → Option (List PyData)
  | [] => some []
  | d :: ds => match d.py, D.pys ds with
    | some x, some xs => some (x :: xs)
    | _, _ => none
end
def X.py (S : Sto) : X → Option PyData
  | .tl ds => (D.pys ds).map .list
  | .dv (.loc l) => match S[l]? with
    | some (.lst ds) => (D.pys ds).map .list
    | _ => none
  | .dv d => d.py
/-- == -/
def eqX (x y : X) : M Bool := .mk fun S => match x.py S, y.py S with
  | some a, some b => if min a.depth b.depth ≤ 60 then .ok (PyData.eqv a b) S else .bad
  | _, _ => .bad
mutual
/-- <, where it is defined: the first places that differ decide -/
def D.lt : D → D → Option Bool
  | .int i, .int j => some (decide (i < j))
  | .str x, .str y => some (decide (x.cps.toList < y.cps.toList))
  | .tup xs, .tup ys => D.ltL xs ys
  | _, _ => none
def D.ltL : List D → List D → Option Bool
  | [], [] => some false
  | [], _ :: _ => some true
  | _ :: _, [] => some false
  | x :: xs, y :: ys => if x = y then D.ltL xs ys else D.lt x y
end
def ltX (x y : X) : M Bool := match x, y with
  | .dv (.int i), .dv (.int j) => M.pure (decide (i < j))
  | .dv (.str i), .dv (.str j) => M.pure (decide (i.cps.toList < j.cps.toList))
  | _, _ => M.bad
/-- a dict's entries -/
def isDct (S : Sto) : X → Option (List (D × D))
  | .dv (.loc l) => match S[l]? with
    | some (.dct kvs) => some kvs
    | _ => none
  | _ => none
def look (kvs : List (D × D)) (k : D) : Option D := (kvs.find? fun p => decide (p.1 = k)).map (·.2)
/-- may it be a key beside these: all scalars, or all tuples nested to depth 8 -/
def scalD : D → Bool
  | .int _ => true
  | .str _ => true
  | _ => false
def tupK : D → Bool
  | .tup ds => D.sims ds && decide (D.deps ds ≤ 7)
  | _ => false
def keyOk (kvs : List (D × D)) (k : D) : Bool := (scalD k && kvs.all fun p => scalD p.1) || (tupK k && kvs.all fun p => tupK p.1)
/-- texts: y in x -/
def strIn (y x : Str) : Bool := !(Builtin.Str.occurrences x y 0 x.length 1).isEmpty
def ofO {α : Type} (o : Option α) (S : Sto) : R α := match o with
  | some a => .ok a S
  | none => .bad
/-- is one of the items == it -/
def seqIn (ds : List D) (p : Option PyData) : Option Bool := match D.pys ds, p with
  | some xs, some d => if d.depth ≤ 60 then some (xs.any fun z => PyData.eqv z d) else none
  | _, _ => none
/-- in -/
def inX (x y : X) : M Bool := .mk fun S => match y with
  | .dv (.str z) => (match x with
    | .dv (.str c) => .ok (strIn c z) S
    | _ => .bad)
  | .dv (.loc l) => (match S[l]?, x with
    | some (.dct kvs), .dv k => if keyOk kvs k then .ok (look kvs k).isSome S else .bad
    | some (.lst ds), _ => ofO (seqIn ds (x.py S)) S
    | _, _ => .bad)
  | .tl ds => ofO (seqIn ds (x.py S)) S
  | .dv (.tup ds) => ofO (seqIn ds (x.py S)) S
  | _ => .bad
/-! ### the syntax -/
inductive Bop where | add | sub | mul | fdiv | mod | pow
  deriving DecidableEq
inductive Cop where | eq | ne | lt | le | gt | ge | is_ | isn | in_ | nin
  deriving DecidableEq
/-- the built-in types that isinstance asks for -/
inductive Ty where | int | bool | str | tuple | list | dict
  deriving DecidableEq
inductive Bi where | len | all | any | tuple | list | int | str | abs | max | min | sum | sorted | sortset | lenset
  deriving DecidableEq
inductive Mt where | append | extend | pop | reverse | index | get | setdefault | join | split | upper | count
  deriving DecidableEq
/-- what is walked -/
inductive Ik where | seq | range | enum | zip | items | keys
  deriving DecidableEq
inductive Tg where | nm (i : Nat) | tp (is : List Nat)
  deriving DecidableEq
inductive Ex where
  | cint (i : Int) | cstr (x : Str) | cnon | cbl (b : Bool)
  | var (i : Nat)
  | glb (g : Nat)
  | tup (es : List Ex)
  | lst (es : List Ex)
  | dct0
  | bin (o : Bop) (a b : Ex)
  | neg (a : Ex)
  | not_ (a : Ex)
  | and_ (a b : Ex)
  | or_ (a b : Ex)
  | cmp (o : Cop) (a b : Ex)
  | chn (o1 o2 : Cop) (a b c : Ex)
  | ite (c a b : Ex)
  | call (f : Nat) (es : List Ex)
  | callk (f : Nat) (es ks : List Ex) (perm : List Nat)
  | isi (e : Ex) (t : Ty)
  | blt (b : Bi) (es : List Ex)
  | mth (m : Mt) (o : Ex) (es : List Ex)
  | idx (a i : Ex)
  | slc (a : Ex) (lo hi : List Ex)
  | rev (a : Ex)
  | frc (a : Ex)
  | fld (a : Ex) (f : Str)
  | lc (elt : Ex) (tg : Tg) (k : Ik) (es ifs : List Ex) (own : List Nat)
inductive St where
  | set (i : Nat) (e : Ex)
  | setT (is : List Nat) (e : Ex)
  | par (i j : Nat) (a b : Ex)
  | sub (o i e : Ex)
  | fld (o : Ex) (f : Str) (e : Ex)
  | aug (i : Nat) (o : Bop) (e : Ex)
  | exp (e : Ex)
  | if_ (c : Ex) (a b : List St)
  | for_ (tg : Tg) (k : Ik) (es : List Ex) (body : List St)
  | whl (c : Ex) (body : List St)
  | brk | cnt | pass
  | ret (e : Ex)
  | ret0
  | rai (c : Nat) (es : List Ex)
  | try_ (body : List St) (cs : List (Nat × Option Nat)) (hs : List (List St))
/-! ### the operations -/
def isTy (S : Sto) : D → Ty → Option Bool
  | .non, _ => some false
  | .bl _, t => some (t = .bool || t = .int)
  | .int _, t => some (t = .int)
  | .str _, t => some (t = .str)
  | .tup _, t => some (t = .tuple)
  | .rol _, t => some (t = .list)
  | .loc l, t => match S[l]? with
    | some (.lst _) => some (t = .list)
    | some (.dct _) => some (t = .dict)
    | some (.ins _ _) => some false
    | none => none
def truX (x : X) : M Bool := .mk fun S => match x with
  | .tl ds => .ok (!ds.isEmpty) S
  | .dv .non => .ok false S
  | .dv (.bl b) => .ok b S
  | .dv (.int i) => .ok (i != 0) S
  | .dv (.str x) => if x.length ≤ sizeLine then .ok (x.length != 0) S else .bad
  | .dv (.tup ds) => .ok (!ds.isEmpty) S
  | .dv (.rol ns) => .ok (!ns.isEmpty) S
  | .dv (.loc l) => match S[l]? with
    | some (.lst ds) => .ok (!ds.isEmpty) S
    | some (.dct kvs) => .ok (!kvs.isEmpty) S
    | _ => .bad
/-- the whole numbers whose product the model makes -/
def mulOk (i j : Int) : Bool := decide (i.natAbs.log2 + j.natAbs.log2 < 100000000)
def binX (o : Bop) (x y : X) : M X := match o, x, y with
  | .add, .dv (.int i), .dv (.int j) => M.pure (.dv (.int (i + j)))
  | .add, .dv (.str a), .dv (.str b) => if a.length + b.length ≤ sizeLine then M.pure (.dv (.str (a ++ b))) else M.bad
  | .add, .dv (.tup a), .dv (.tup b) => if a.length + b.length ≤ sizeLine then M.pure (.dv (.tup (a ++ b))) else M.bad
  | .add, x, y => litems x >>= fun a => litems y >>= fun b => if a.length + b.length ≤ sizeLine then M.pure (.tl (a ++ b)) else M.bad
  | .sub, .dv (.int i), .dv (.int j) => M.pure (.dv (.int (i - j)))
  | .mul, .dv (.int i), .dv (.int j) => if mulOk i j then M.pure (.dv (.int (i * j))) else M.bad
  | .mul, x, .dv (.int k) => olitems x >>= fun a => if -(2 ^ 63) ≤ k ∧ k < 2 ^ 63 ∧ a.length * k.toNat ≤ sizeLine then M.pure (.tl (List.replicate k.toNat a).flatten) else M.bad
  | .fdiv, .dv (.int i), .dv (.int j) => if 0 < j ∧ j.natAbs.log2 < 9000 then M.pure (.dv (.int (i / j))) else M.bad
  | .mod, .dv (.int i), .dv (.int j) => if 0 < j then M.pure (.dv (.int (i % j))) else M.bad
  | .pow, .dv (.int i), .dv (.int j) => if 0 ≤ j ∧ j ≤ 1000000 ∧ i.natAbs < 2 ^ 64 then M.pure (.dv (.int (i ^ j.toNat))) else M.bad
  | _, _, _ => M.bad
def isX (x y : X) : M Bool := match x, y with
  | .dv d, .dv .non => M.pure (decide (d = .non))
  | .dv (.bl a), .dv (.bl b) => M.pure (decide (a = b))
  | _, _ => M.bad
def cmpX (o : Cop) (x y : X) : M Bool := match o with
  | .eq => eqX x y
  | .ne => eqX x y >>= fun b => M.pure (!b)
  | .lt => ltX x y
  | .gt => ltX y x
  | .le => ltX y x >>= fun b => M.pure (!b)
  | .ge => ltX x y >>= fun b => M.pure (!b)
  | .is_ => isX x y
  | .isn => isX x y >>= fun b => M.pure (!b)
  | .in_ => inX x y
  | .nin => inX x y >>= fun b => M.pure (!b)
/-- the place that an index names -/
def ixAt (n : Nat) (i : Int) : Option Nat := if 0 ≤ i then (if i < n then some i.toNat else none) else if -(n : Int) ≤ i then some (i + n).toNat else none
def at_ {α : Type} (ds : List α) (i : Int) : Option α := (ixAt ds.length i).bind fun j => ds[j]?
def seqIx (x : X) (i : Int) : M X := match x with
  | .dv (.str z) => (match at_ z.cps.toList i with
    | some c => if z.length ≤ sizeLine then M.pure (.dv (.str ⟨#[c]⟩)) else M.bad
    | none => M.bad)
  | x => items x >>= fun ds => match at_ ds i with
    | some d => M.pure (.dv d)
    | none => M.bad
def idxX (x y : X) : M X := .mk fun S => match isDct S x with
  | some kvs => (match y with
    | .dv k => if keyOk kvs k then (match look kvs k with
      | some d => .ok (.dv d) S
      | none => .bad) else .bad
    | _ => .bad)
  | none => (match y with
    | .dv (.int i) => seqIx x i S
    | _ => .bad)
/-- a slice's end: within 0 .. n -/
def slEnd (n : Nat) (dflt : Nat) : Option Int → Nat
  | none => dflt
  | some i => if i < 0 then (i + (n : Int)).toNat else min i.toNat n
def cutD {α : Type} (ds : List α) (lo hi : Option Int) : List α := (ds.drop (slEnd ds.length 0 lo)).take (slEnd ds.length ds.length hi - slEnd ds.length 0 lo)
def slcX (x : X) (lo hi : Option Int) : M X := match x with
  | .dv (.tup ds) => M.pure (.dv (.tup (cutD ds lo hi)))
  | .dv (.str z) => if z.length ≤ sizeLine then M.pure (.dv (.str ⟨(cutD z.cps.toList lo hi).toArray⟩)) else M.bad
  | x => litems x >>= fun ds => M.pure (.tl (cutD ds lo hi))
/-- sorted -/
def isStrD : D → Bool
  | .str _ => true
  | _ => false
def isIntD : D → Bool
  | .int _ => true
  | _ => false
def isTupD : D → Bool
  | .tup _ => true
  | _ => false
/-- a tuple whose first item is so -/
def headD (p : D → Bool) : D → Bool
  | .tup (x :: _) => p x
  | _ => false
/-- may be sorted: of one kind, any two comparable -/
def sortOk (ds : List D) : Bool :=
  (ds.all isStrD || ds.all isIntD || ds.all (headD isStrD) || ds.all (headD isIntD) || ds.all (headD isTupD)) && D.sims ds && decide (D.deps ds ≤ 60) && ds.all fun a => ds.all fun b => (a.lt b).isSome
def insD (x : D) : List D → List D
  | [] => [x]
  | y :: ys => if (y.lt x).getD false then y :: insD x ys else x :: y :: ys
def sortD (ds : List D) : List D := ds.foldr insD []
def strsD : List D → Option (List Str)
  | [] => some []
  | .str x :: ds => (strsD ds).map (x :: ·)
  | _ => none
def intsD : List D → Option (List Int)
  | [] => some []
  | .int x :: ds => (intsD ds).map (x :: ·)
  | _ => none
def blsD : List D → Option (List Bool)
  | [] => some []
  | .bl x :: ds => (blsD ds).map (x :: ·)
  | _ => none
/-- the distinct ones, in the sequence of their first standing -/
def nub : List D → List D
  | [] => []
  | d :: ds => d :: (nub ds).filter fun e => decide (e ≠ d)
/-- may a set be made of it -/
def setOk (ds : List D) : Bool := ds.all scalD && decide (ds.length + 1 < scanBound)
def bltX (b : Bi) (xs : List X) : M X := match b, xs with
  | .len, [.dv (.str z)] => if z.length ≤ sizeLine then M.pure (.dv (.int z.length)) else M.bad
  | .len, [x] => .mk fun S => match isDct S x with
    | some kvs => .ok (.dv (.int kvs.length)) S
    | none => (items x >>= fun ds => M.pure (.dv (.int ds.length))) S
  | .all, [x] => litems x >>= fun ds => match blsD ds with
    | some bs => M.pure (.dv (.bl (bs.all id)))
    | none => M.bad
  | .any, [x] => litems x >>= fun ds => match blsD ds with
    | some bs => M.pure (.dv (.bl (bs.any id)))
    | none => M.bad
  | .tuple, [x] => items x >>= fun ds => M.pure (.dv (.tup ds))
  | .list, [x] => items x >>= fun ds => M.pure (.tl ds)
  | .int, [.dv (.int i)] => M.pure (.dv (.int i))
  | .abs, [.dv (.int i)] => M.pure (.dv (.int (if i < 0 then -i else i)))
  | .max, [.dv (.int i), .dv (.int j)] => M.pure (.dv (.int (if i < j then j else i)))
  | .min, [.dv (.int i), .dv (.int j)] => M.pure (.dv (.int (if j < i then j else i)))
  | .sorted, [x] => .mk fun S => match isDct S x with
    | some kvs => if sortOk (kvs.map (·.1)) then .ok (.tl (sortD (kvs.map (·.1)))) S else .bad
    | none => (litems x >>= fun ds => if sortOk ds then M.pure (.tl (sortD ds)) else M.bad) S
  | .sortset, [x] => litems x >>= fun ds => if setOk ds && sortOk (nub ds) then M.pure (.tl (sortD (nub ds))) else M.bad
  | .lenset, [x] => litems x >>= fun ds => if setOk ds then M.pure (.dv (.int (nub ds).length)) else M.bad
  | _, _ => M.bad
/-- a list's new content -/
def putL (l : Nat) (o : Ob) : M Unit := .mk fun S => if l < S.length then .ok () (S.set l o) else .bad
def putD (kvs : List (D × D)) (k v : D) : List (D × D) := if kvs.any fun p => decide (p.1 = k) then kvs.map (fun p => if p.1 = k then (p.1, v) else p) else kvs ++ [(k, v)]
def subX (o i : X) (d : D) : M Unit := match o, i with
  | .dv (.loc l), .dv k => .mk fun S => match S[l]? with
    | some (.dct kvs) => if keyOk kvs k && decide (kvs.length < sizeLine) then putL l (.dct (putD kvs k d)) S else .bad
    | some (.lst ds) => (match k with
      | .int i => (match ixAt ds.length i with
        | some j => putL l (.lst (ds.set j d)) S
        | none => .bad)
      | _ => .bad)
    | _ => .bad
  | _, _ => M.bad
def Mt.ty : Mt → Ty
  | .join | .split | .upper | .count => .str
  | .get | .setdefault => .dict
  | _ => .list
/-- may the method be asked of it -/
def recv (m : Mt) (x : X) : M Unit := .mk fun S => match x with
  | .dv d => if isTy S d m.ty = some true then .ok () S else .bad
  | .tl _ => .bad
def mthX (m : Mt) (o : X) (xs : List X) : M X := match m, o, xs with
  | .append, .dv (.loc l), [.dv d] => .mk fun S => match S[l]? with
    | some (.lst ds) => if ds.length < sizeLine then (putL l (.lst (ds ++ [d])) >>= fun _ => M.pure (.dv .non)) S else .bad
    | _ => .bad
  | .extend, .dv (.loc l), [x] => items x >>= fun es => .mk fun S => match S[l]? with
    | some (.lst ds) => if ds.length + es.length ≤ sizeLine then (putL l (.lst (ds ++ es)) >>= fun _ => M.pure (.dv .non)) S else .bad
    | _ => .bad
  | .pop, .dv (.loc l), [] => .mk fun S => match S[l]? with
    | some (.lst ds) => (match ds.getLast? with
      | some d => (putL l (.lst ds.dropLast) >>= fun _ => M.pure (.dv d)) S
      | none => .bad)
    | _ => .bad
  | .reverse, .dv (.loc l), [] => .mk fun S => match S[l]? with
    | some (.lst ds) => (putL l (.lst ds.reverse) >>= fun _ => M.pure (.dv .non)) S
    | _ => .bad
  | .join, .dv (.str s), [x] => items x >>= fun ds => match strsD ds with
    | some ys => if (ys.map (·.length)).sum + ys.length * s.length ≤ 16777216 then M.pure (.dv (.str (Txt.join s ys))) else M.bad
    | none => M.bad
  | .get, .dv (.loc l), .dv k :: r => .mk fun S => match S[l]? with
    | some (.dct kvs) => if keyOk kvs k then (match r with
        | [] => .ok (.dv ((look kvs k).getD .non)) S
        | [.dv d] => .ok (.dv ((look kvs k).getD d)) S
        | _ => .bad) else .bad
    | _ => .bad
  | _, _, _ => M.bad
/-! ### the evaluator -/
abbrev Env := List (Option D)
structure Ctx where
  cal : Nat → List D → M D
  gl : Nat → Option D
def wipeE (ρ : Env) : List Nat → Env
  | [] => ρ
  | v :: vs => (wipeE ρ vs).set v none
def unpack (d : D) (n : Nat) : M (List D) := .mk fun S => match d with
  | .tup ds => if ds.length = n then .ok ds S else .bad
  | .loc l => (match S[l]? with
    | some (.lst ds) => if ds.length = n then .ok ds S else .bad
    | _ => .bad)
  | _ => .bad
def setAll (ρ : Env) : List Nat → List D → Env
  | i :: is, d :: ds => setAll (ρ.set i (some d)) is ds
  | _, _ => ρ
def bindT (tg : Tg) (d : D) (ρ : Env) : M Env := match tg with
  | .nm i => M.pure (ρ.set i (some d))
  | .tp is => match d with
    | .tup ds => if ds.length = is.length then M.pure (setAll ρ is ds) else M.bad
    | _ => M.bad
/-- the items, and the lists that must not change meanwhile -/
def seqG : X → M (List D × List (Nat × List D))
  | .dv (.loc l) => .mk fun S => match S[l]? with
    | some (.lst ds) => .ok (ds, [(l, ds)]) S
    | _ => .bad
  | x => items x >>= fun ds => M.pure (ds, [])
def tupX : X → Bool
  | .dv (.tup _) => true
  | _ => false
def enumD : Nat → List D → List D
  | _, [] => []
  | i, d :: ds => .tup [.int (i : Nat), d] :: enumD (i + 1) ds
def zipD (ds es : List D) : List D := List.zipWith (fun a b => D.tup [a, b]) ds es
/-- what is walked -/
def walk (k : Ik) (xs : List X) : M (List D × List (Nat × List D)) := match k, xs with
  | .seq, [.dv (.str z)] => if z.length ≤ sizeLine then M.pure (z.cps.toList.map fun c => D.str ⟨#[c]⟩, []) else M.bad
  | .seq, [x] => seqG x
  | .range, [.dv (.int n)] => if n ≤ sizeLine ∧ -(2 ^ 62) ≤ n then M.pure ((List.range n.toNat).map fun (i : Nat) => D.int (i : Int), []) else M.bad
  | .range, [.dv (.int a), .dv (.int b)] => if a < 2 ^ 62 ∧ -(2 ^ 62) ≤ a ∧ b < 2 ^ 62 ∧ -(2 ^ 62) ≤ b ∧ b - a ≤ sizeLine then M.pure ((List.range (b - a).toNat).map fun (i : Nat) => D.int (a + (i : Int)), []) else M.bad
  | .enum, [x] => if tupX x then M.bad else seqG x >>= fun ig => if ig.1.length ≤ sizeLine then M.pure (enumD 0 ig.1, ig.2) else M.bad
  | .zip, [x, y] => if tupX x = tupX y then seqG x >>= fun ig => seqG y >>= fun jg => if ig.1.length ≤ sizeLine then M.pure (zipD ig.1 jg.1, ig.2 ++ jg.2) else M.bad else M.bad
  | _, _ => M.bad
def still (g : List (Nat × List D)) (S : Sto) : Bool := g.all fun p => decide (S[p.1]? = some (.lst p.2))
/-- the elements of a comprehension -/
def lcRun (g : List (Nat × List D)) (bd : D → M Env) (c : Env → M Bool) (e : Env → M D) : List D → List D → M (List D)
  | [], acc => .mk fun S => if still g S then .ok acc.reverse S else .bad
  | d :: ds, acc => .mk fun S => if still g S then (bd d >>= fun ρ => c ρ >>= fun b => if b then e ρ >>= fun y => lcRun g bd c e ds (y :: acc) else lcRun g bd c e ds acc) S else .bad
/-- no exception leaves -/
def calm {α : Type} (x : M α) : M α := .mk fun S => match x S with
  | .exc _ _ _ => .bad
  | r => r
/-- as a test: by its truth -/
def asT (t : Bool) (x : M X) : M X := if t then x >>= fun v => truX v >>= fun b => M.pure (.dv (.bl b)) else x
/-- a slice's end, or none -/
def partX : List X → M (Option Int)
  | [] => M.pure none
  | [.dv (.int i)] => M.pure (some i)
  | _ => M.bad
def theB : X → M Bool
  | .dv (.bl b) => M.pure b
  | _ => M.bad
mutual
/-- t: as a test -/
def ev (C : Ctx) : Ex → Bool → Env → M X
  | .cint i, t, _ => asT t (M.pure (.dv (.int i)))
  | .cstr x, t, _ => asT t (M.pure (.dv (.str x)))
  | .cnon, t, _ => asT t (M.pure (.dv .non))
  | .cbl b, t, _ => asT t (M.pure (.dv (.bl b)))
  | .var i, t, ρ => asT t (match ρ[i]? with
    | some (some d) => M.pure (.dv d)
    | _ => M.bad)
  | .glb g, t, _ => asT t (match C.gl g with
    | some d => M.pure (.dv d)
    | none => M.bad)
  | .tup es, t, ρ => asT t (evs C es ρ >>= fun ds => M.pure (.dv (.tup ds)))
  | .lst es, t, ρ => asT t (evs C es ρ >>= fun ds => M.pure (.tl ds))
  | .dct0, t, _ => asT t (push (.dct []) >>= fun l => M.pure (.dv (.loc l)))
  | .bin o a b, t, ρ => asT t (ev C a false ρ >>= fun x => ev C b false ρ >>= fun y => binX o x y)
  | .neg a, t, ρ => asT t (ev C a false ρ >>= fun x => match x with
    | .dv (.int i) => M.pure (.dv (.int (-i)))
    | _ => M.bad)
  | .not_ a, t, ρ => ev C a t ρ >>= (fun x => if t then theB x else truX x) >>= fun b => M.pure (.dv (.bl (!b)))
  | .and_ a b, t, ρ => ev C a t ρ >>= theB >>= fun k => if k then ev C b t ρ else M.pure (.dv (.bl false))
  | .or_ a b, t, ρ => ev C a t ρ >>= theB >>= fun k => if k then M.pure (.dv (.bl true)) else ev C b t ρ
  | .cmp o a b, _, ρ => ev C a false ρ >>= fun x => ev C b false ρ >>= fun y => cmpX o x y >>= fun b => M.pure (.dv (.bl b))
  | .chn o1 o2 a b c, _, ρ => ev C a false ρ >>= fun x => ev C b false ρ >>= fun y => cmpX o1 x y >>= fun k =>
      if k then ev C c false ρ >>= fun z => cmpX o2 y z >>= fun b => M.pure (.dv (.bl b)) else M.pure (.dv (.bl false))
  | .ite c a b, t, ρ => ev C c true ρ >>= theB >>= fun k => if k then ev C a t ρ else ev C b t ρ
  | .call f es, t, ρ => asT t (evs C es ρ >>= fun ds => C.cal f ds >>= fun d => M.pure (.dv d))
  | .callk f es ks perm, t, ρ => asT t (evs C es ρ >>= fun ds => evs C ks ρ >>= fun ts => match perm.mapM (fun i => (ds ++ ts)[i]?) with
    | some us => C.cal f us >>= fun d => M.pure (.dv d)
    | none => M.bad)
  | .isi e ty, _, ρ => ev C e false ρ >>= fun x => match x with
    | .dv d => .mk fun S => (match isTy S d ty with
      | some b => .ok (.dv (.bl b)) S
      | none => .bad)
    | .tl _ => M.pure (.dv (.bl (ty = .list)))
  | .blt b es, t, ρ => asT t (evx C es ρ >>= fun xs => bltX b xs)
  | .mth m o es, t, ρ => asT t (ev C o false ρ >>= fun x => recv m x >>= fun _ => evx C es ρ >>= fun xs => mthX m x xs)
  | .idx a i, t, ρ => asT t (ev C a false ρ >>= fun x => ev C i false ρ >>= fun y => idxX x y)
  | .slc a lo hi, t, ρ => asT t (ev C a false ρ >>= fun x => (evx C lo ρ >>= partX) >>= fun l => (evx C hi ρ >>= partX) >>= fun h => slcX x l h)
  | .rev a, t, ρ => asT t (ev C a false ρ >>= fun x => match x with
    | .dv (.tup ds) => M.pure (.dv (.tup ds.reverse))
    | _ => M.bad)
  | .frc a, t, ρ => asT t ((ev C a false ρ >>= force) >>= fun d => M.pure (.dv d))
  | .fld a f, t, ρ => asT t (ev C a false ρ >>= fun x => match x with
    | .dv (.loc l) => .mk fun S => (match S[l]? with
      | some (.ins _ fs) => (match fs.lookup f with
        | some d => .ok (.dv d) S
        | none => .bad)
      | _ => .bad)
    | _ => M.bad)
  | .lc elt tg k es ifs own, t, ρ => asT t (evx C es ρ >>= fun xs => walk k xs >>= fun ig =>
      calm (lcRun ig.2 (fun d => bindT tg d (wipeE ρ own)) (fun ρ' => evc C ifs ρ') (fun ρ' => ev C elt false ρ' >>= force) ig.1 []) >>= fun ds => M.pure (.tl ds))
def evs (C : Ctx) : List Ex → Env → M (List D)
  | [], _ => M.pure []
  | e :: es, ρ => (ev C e false ρ >>= force) >>= fun d => evs C es ρ >>= fun ds => M.pure (d :: ds)
def evx (C : Ctx) : List Ex → Env → M (List X)
  | [], _ => M.pure []
  | e :: es, ρ => ev C e false ρ >>= fun x => evx C es ρ >>= fun xs => M.pure (x :: xs)
/-- the tests of a comprehension, one after another -/
def evc (C : Ctx) : List Ex → Env → M Bool
  | [], _ => M.pure true
  | e :: es, ρ => ev C e true ρ >>= theB >>= fun k => if k then evc C es ρ else M.pure false
end
/-! ### statements -/
inductive Fl where | nx | brk | cnt | ret (d : D)
/-- a loop over items -/
def forRun (g : List (Nat × List D)) (bd : D → Env → M Env) (b : Env → M (Fl × Env)) : List D → Env → M (Fl × Env)
  | [], ρ => .mk fun S => if still g S then .ok (.nx, ρ) S else .bad
  | d :: ds, ρ => .mk fun S => if still g S then (bd d ρ >>= fun ρ1 => b ρ1 >>= fun r => match r.1 with
    | .nx => forRun g bd b ds r.2
    | .cnt => forRun g bd b ds r.2
    | .brk => M.pure (.nx, r.2)
    | .ret d => M.pure (.ret d, r.2)) S else .bad
/-- a while loop of at most n turns -/
def whlN (c : Env → M Bool) (b : Env → M (Fl × Env)) : Nat → Env → Sto → Option (R (Fl × Env))
  | 0, _, _ => none
  | n + 1, ρ, S => match c ρ S with
    | .ok false S1 => some (.ok (.nx, ρ) S1)
    | .ok true S1 => (match b ρ S1 with
      | .ok (.nx, ρ2) S2 => whlN c b n ρ2 S2
      | .ok (.cnt, ρ2) S2 => whlN c b n ρ2 S2
      | .ok (.brk, ρ2) S2 => some (.ok (.nx, ρ2) S2)
      | .ok (.ret d, ρ2) S2 => some (.ok (.ret d, ρ2) S2)
      | .exc c d S2 => some (.exc c d S2)
      | .bad => some .bad)
    | .exc c d S1 => some (.exc c d S1)
    | .bad => some .bad
open Classical in
noncomputable def whl (c : Env → M Bool) (b : Env → M (Fl × Env)) (ρ : Env) : M (Fl × Env) := .mk fun S =>
  if h : ∃ n r, whlN c b n ρ S = some r then Classical.choose (Classical.choose_spec h) else .bad
def fldX (o : X) (f : Str) (d : D) : M Unit := match o with
  | .dv (.loc l) => .mk fun S => match S[l]? with
    | some (.ins c fs) => putL l (.ins c (if (fs.lookup f).isSome then fs.map (fun p => if p.1 = f then (p.1, d) else p) else fs ++ [(f, d)])) S
    | _ => .bad
  | _ => M.bad
/-- which suite takes an exception; c is the class, up its bases -/
def catch_ (up : Nat → Nat → Bool) (c : Nat) : List (Nat × Option Nat) → Nat → Option (Nat × Option Nat)
  | [], _ => none
  | (k, n) :: r, i => if up c k then some (i, n) else catch_ up c r (i + 1)
mutual
noncomputable def exS (C : Ctx) (up : Nat → Nat → Bool) : St → Env → M (Fl × Env)
  | .set i e, ρ => (ev C e false ρ >>= force) >>= fun d => M.pure (.nx, ρ.set i (some d))
  | .setT is e, ρ => (ev C e false ρ >>= force) >>= fun d => unpack d is.length >>= fun ds => M.pure (.nx, setAll ρ is ds)
  | .par i j a b, ρ => (ev C a false ρ >>= force) >>= fun d => (ev C b false ρ >>= force) >>= fun e => M.pure (.nx, (ρ.set i (some d)).set j (some e))
  | .sub o i e, ρ => (ev C e false ρ >>= force) >>= fun d => ev C o false ρ >>= fun x => ev C i false ρ >>= fun y => subX x y d >>= fun _ => M.pure (.nx, ρ)
  | .fld o f e, ρ => (ev C e false ρ >>= force) >>= fun d => ev C o false ρ >>= fun x => fldX x f d >>= fun _ => M.pure (.nx, ρ)
  | .aug i o e, ρ => match ρ[i]? with
    | some (some x) => ev C e false ρ >>= fun y => (binX o (.dv x) y >>= force) >>= fun d => M.pure (.nx, ρ.set i (some d))
    | _ => M.bad
  | .exp e, ρ => ev C e false ρ >>= fun _ => M.pure (.nx, ρ)
  | .if_ c a b, ρ => ev C c true ρ >>= theB >>= fun k => if k then exL C up a ρ else exL C up b ρ
  | .for_ tg k es body, ρ => evx C es ρ >>= fun xs => walk k xs >>= fun ig => forRun ig.2 (fun d ρ1 => bindT tg d ρ1) (fun ρ1 => exL C up body ρ1) ig.1 ρ
  | .whl c body, ρ => whl (fun ρ1 => ev C c true ρ1 >>= theB) (fun ρ1 => exL C up body ρ1) ρ
  | .brk, ρ => M.pure (.brk, ρ)
  | .cnt, ρ => M.pure (.cnt, ρ)
  | .pass, ρ => M.pure (.nx, ρ)
  | .ret e, ρ => (ev C e false ρ >>= force) >>= fun d => M.pure (.ret d, ρ)
  | .ret0, ρ => M.pure (.ret .non, ρ)
  | .rai c es, ρ => (evs C es ρ) >>= fun ds => .mk fun S => match ds with
    | [] => .exc c none S
    | [d] => .exc c (some d) S
    | _ => .bad
  | .try_ body cs hs, ρ => .mk fun S => match exL C up body ρ S with
    | .exc c d S1 => (match catch_ up c cs 0 with
      | some (i, none) => calm (exH C up hs i ρ) S1
      | some (_, some _) => .bad
      | none => .exc c d S1)
    | r => r
noncomputable def exL (C : Ctx) (up : Nat → Nat → Bool) : List St → Env → M (Fl × Env)
  | [], ρ => M.pure (.nx, ρ)
  | s :: ss, ρ => exS C up s ρ >>= fun r => match r.1 with
    | .nx => exL C up ss r.2
    | f => M.pure (f, r.2)
noncomputable def exH (C : Ctx) (up : Nat → Nat → Bool) : List (List St) → Nat → Env → M (Fl × Env)
  | [], _, _ => M.bad
  | h :: _, 0, ρ => exL C up h ρ
  | _ :: hs, i + 1, ρ => exH C up hs i ρ
end
/-! ### defs -/
structure Fn where
  np : Nat
  nl : Nat
  body : List St
mutual
def D.und (n : Nat) : D → Bool
  | .loc l => decide (l < n)
  | .tup ds => D.unds n ds
  | _ => true
def D.unds (n : Nat) : List D → Bool
  | [] => true
  | d :: ds => d.und n && D.unds n ds
end
def Ob.und (n : Nat) : Ob → Bool
  | .lst ds => D.unds n ds
  | .dct kvs => D.unds n (kvs.map (·.1)) && D.unds n (kvs.map (·.2))
  | .ins _ fs => D.unds n (fs.map (·.2))
/-- what the def has made is let go, where nothing that stays knows it -/
def tidy (S : Sto) (d : D) (S' : Sto) : Sto :=
  if d.und S.length && (List.range S.length).all fun i => match S[i]?, S'[i]? with
    | some a, some b => decide (a = b) || b.und S.length
    | _, _ => false then S'.take S.length else S'
noncomputable def runFn (C : Ctx) (up : Nat → Nat → Bool) (f : Fn) (ds : List D) : M D := .mk fun S =>
  if ds.length = f.np then match exL C up f.body (ds.map some ++ List.replicate (f.nl - f.np) none) S with
    | .ok (.ret d, _) S' => .ok d (tidy S d S')
    | .ok (.nx, _) S' => .ok .non (tidy S .non S')
    | .ok _ _ => .bad
    | .exc c d S' => .exc c d (tidy S (d.getD .non) S')
    | .bad => .bad
  else .bad
structure Prg where
  fn : Nat → Option Fn
  gl : Nat → Option D
  up : Nat → Nat → Bool
noncomputable def Prg.call (P : Prg) : Nat → Nat → List D → M D
  | 0, _, _ => M.bad
  | k + 1, f, ds => match P.fn f with
    | some fn => runFn ⟨P.call k, P.gl⟩ P.up fn ds
    | none => M.bad
end Kd
/-! How the small language's values and stores stand in the abstract heap. -/
namespace Kd
open PySem PySem.Spec PyProof.Rows L2
def TupAt (K : PySem.W.Frag) (H : Hp) (a : Addr) (vs : List V) : Prop := H a = some (.tup vs) ∨
  ∃ (o : Obj) (its : Array Value) (n : Nat), K.lookup a = some o ∧ o.cls = .type "tuple" ∧ o.data = .seq its n ∧ its.size ≤ sizeLine ∧ Vals vs its.toList
def RolAt (K : PySem.W.Frag) (H : Hp) (a : Addr) (vs : List V) : Prop := (∃ o, H a = some (.frz o (.lst vs))) ∨
  ∃ (o : Obj) (its : Array Value) (n : Nat), K.lookup a = some o ∧ o.cls = .type "list" ∧ o.dict = none ∧ o.data = .seq its n ∧ its.size ≤ sizeLine ∧ Vals vs its.toList
theorem TupAt.sq {K : PySem.W.Frag} {H : Hp} {a : Addr} {vs : List V} (h : TupAt K H a vs) : SqT K H a vs := h.elim (fun h => .inl (.inl h)) .inr
theorem RolAt.sq {K : PySem.W.Frag} {H : Hp} {a : Addr} {vs : List V} (h : RolAt K H a vs) : SqL K H a vs := h.elim (fun h => .inl (.inr h)) .inr
theorem RolAt.of {K : PySem.W.Frag} {H : Hp} {a : Addr} {vs : List V} (ho : ∀ vs, H a ≠ some (.lst vs)) (h : SqL K H a vs) : RolAt K H a vs :=
  h.elim (fun h => h.elim (fun h => (ho _ h).elim) .inl) .inr
mutual
def RelD (K : PySem.W.Frag) (m : List Addr) (H : Hp) : D → V → Prop
  | .non, v => v = .non
  | .bl b, v => v = .bl b
  | .int i, v => v = .int i
  | .str x, v => v = .str x
  | .tup ds, v => ∃ a vs, v = .ref a ∧ TupAt K H a vs ∧ RelDs K m H ds vs
  | .loc l, v => ∃ a, v = .ref a ∧ m[l]? = some a
  | .rol ns, v => ∃ a, v = .ref a ∧ RolAt K H a (ns.map V.int)
def RelDs (K : PySem.W.Frag) (m : List Addr) (H : Hp) : List D → List V → Prop
  | [], vs => vs = []
  | d :: ds, vs => ∃ v r, vs = v :: r ∧ RelD K m H d v ∧ RelDs K m H ds r
end
/-- from m, H on: new objects, the others as they were -/
structure Ext (m : List Addr) (H : Hp) (m' : List Addr) (H' : Hp) : Prop where
  more : ∃ m2, m' = m ++ m2 ∧ ∀ b ∈ m2, H b = none
  keep : ∀ a o, a ∉ m → H a = some o → H' a = some o
  tups : ∀ a xs, H a = some (.tup xs) → H' a = some (.tup xs)
  frzs : ∀ a o xs, H a = some (.frz o (.lst xs)) → H' a = some (.frz o (.lst xs))
  there : ∀ a, H a ≠ none → H' a ≠ none
section
variable {K : PySem.W.Frag} {m m' m'' : List Addr} {H H' H'' : Hp}
theorem Ext.refl : Ext m H m H := ⟨⟨[], by simp, by simp⟩, fun _ _ _ h => h, fun _ _ h => h, fun _ _ _ h => h, fun _ h => h⟩
theorem Ext.trans (a : Ext m H m' H') (b : Ext m' H' m'' H'') : Ext m H m'' H'' := by
  obtain ⟨m2, e2, n2⟩ := a.more
  obtain ⟨m3, e3, n3⟩ := b.more
  refine ⟨⟨m2 ++ m3, by rw [e3, e2, List.append_assoc], fun x hx => ?_⟩, fun x o hx e => b.keep x o (fun z => ?_) (a.keep x o hx e), fun x xs e => b.tups x xs (a.tups x xs e), fun x o xs e => b.frzs x o xs (a.frzs x o xs e), fun x e => b.there x (a.there x e)⟩
  · rcases List.mem_append.mp hx with h | h
    · exact n2 x h
    · cases q : H x with
      | none => rfl
      | some o => exact absurd (n3 x h) (a.there x (by rw [q]; simp))
  · rw [e2] at z
    rcases List.mem_append.mp z with h | h
    · exact hx h
    · rw [n2 x h] at e; cases e
theorem Ext.len (a : Ext m H m' H') : m.length ≤ m'.length := by
  obtain ⟨m2, e2, _⟩ := a.more
  rw [e2, List.length_append]; omega
theorem Ext.get (a : Ext m H m' H') {i : Nat} {x : Addr} (h : m[i]? = some x) : m'[i]? = some x := by
  obtain ⟨m2, e2, _⟩ := a.more
  rw [e2]
  have hl : i < m.length := (List.getElem?_eq_some_iff.mp h).1
  rw [List.getElem?_append_left hl]; exact h
theorem Ext.notin (a : Ext m H m' H') {p : Addr} {o : HO} (h : p ∉ m) (e : H p = some o) : p ∉ m' := by
  obtain ⟨m2, e2, n2⟩ := a.more
  rw [e2]
  intro z
  rcases List.mem_append.mp z with q | q
  · exact h q
  · rw [n2 p q] at e; cases e
theorem TupAt.ext {a : Addr} {vs : List V} (e : Ext m H m' H') (h : TupAt K H a vs) : TupAt K H' a vs := h.elim (fun h => .inl (e.tups _ _ h)) .inr
theorem RolAt.ext {a : Addr} {vs : List V} (e : Ext m H m' H') (h : RolAt K H a vs) : RolAt K H' a vs := h.elim (fun ⟨o, h⟩ => .inl ⟨o, e.frzs _ _ _ h⟩) .inr
mutual
theorem RelD.ext (e : Ext m H m' H') : ∀ (d : D) (v : V), RelD K m H d v → RelD K m' H' d v
  | .non, _, h => h
  | .bl _, _, h => h
  | .int _, _, h => h
  | .str _, _, h => h
  | .tup ds, _, h => by
    simp only [RelD] at h ⊢
    obtain ⟨a, vs, rfl, h1, h2⟩ := h
    exact ⟨a, vs, rfl, h1.ext e, RelDs.ext e ds vs h2⟩
  | .loc l, _, h => by
    simp only [RelD] at h ⊢
    obtain ⟨a, rfl, h1⟩ := h
    exact ⟨a, rfl, e.get h1⟩
  | .rol ns, _, h => by
    simp only [RelD] at h ⊢
    obtain ⟨a, rfl, h1⟩ := h
    exact ⟨a, rfl, h1.ext e⟩
theorem RelDs.ext (e : Ext m H m' H') : ∀ (ds : List D) (vs : List V), RelDs K m H ds vs → RelDs K m' H' ds vs
  | [], _, h => h
  | d :: ds, _, h => by
    simp only [RelDs] at h ⊢
    obtain ⟨v, r, rfl, h1, h2⟩ := h
    exact ⟨v, r, rfl, RelD.ext e d v h1, RelDs.ext e ds r h2⟩
end
/-- what knows no new list stands without the new ones -/
theorem und_get {n : Nat} {x : Addr} (hp : m' = m ++ m'') (hn : n ≤ m.length) {l : Nat} (hl : l < n) (h : m'[l]? = some x) : m[l]? = some x := by
  rw [hp, List.getElem?_append_left (by omega)] at h; exact h
mutual
theorem RelD.less {n : Nat} (hp : m' = m ++ m'') (hn : n ≤ m.length) : ∀ (d : D) (v : V), d.und n = true → RelD K m' H d v → RelD K m H d v
  | .non, _, _, h => h
  | .bl _, _, _, h => h
  | .int _, _, _, h => h
  | .str _, _, _, h => h
  | .tup ds, _, u, h => by
    simp only [RelD] at h ⊢
    obtain ⟨a, vs, rfl, h1, h2⟩ := h
    exact ⟨a, vs, rfl, h1, RelDs.less hp hn ds vs (by simpa only [D.und] using u) h2⟩
  | .loc l, _, u, h => by
    simp only [RelD] at h ⊢
    obtain ⟨a, rfl, h1⟩ := h
    simp only [D.und, decide_eq_true_eq] at u
    exact ⟨a, rfl, und_get hp hn u h1⟩
  | .rol ns, _, _, h => h
theorem RelDs.less {n : Nat} (hp : m' = m ++ m'') (hn : n ≤ m.length) : ∀ (ds : List D) (vs : List V), D.unds n ds = true → RelDs K m' H ds vs → RelDs K m H ds vs
  | [], _, _, h => h
  | d :: ds, _, u, h => by
    simp only [RelDs] at h ⊢
    obtain ⟨v, r, rfl, h1, h2⟩ := h
    simp only [D.unds, Bool.and_eq_true] at u
    exact ⟨v, r, rfl, RelD.less hp hn d v u.1 h1, RelDs.less hp hn ds r u.2 h2⟩
end
mutual
theorem RelD.und : ∀ (d : D) (v : V), RelD K m H d v → d.und m.length = true
  | .non, _, _ => rfl
  | .bl _, _, _ => rfl
  | .int _, _, _ => rfl
  | .str _, _, _ => rfl
  | .tup ds, _, h => by
    simp only [RelD] at h
    obtain ⟨a, vs, rfl, h1, h2⟩ := h
    simp only [D.und]
    exact RelDs.und ds vs h2
  | .loc l, _, h => by
    simp only [RelD] at h
    obtain ⟨a, rfl, h1⟩ := h
    simp only [D.und, decide_eq_true_eq]
    exact (List.getElem?_eq_some_iff.mp h1).1
  | .rol ns, _, _ => rfl
theorem RelDs.und : ∀ (ds : List D) (vs : List V), RelDs K m H ds vs → D.unds m.length ds = true
  | [], _, _ => rfl
  | d :: ds, _, h => by
    simp only [RelDs] at h
    obtain ⟨v, r, rfl, h1, h2⟩ := h
    simp only [D.unds, Bool.and_eq_true]
    exact ⟨RelD.und d v h1, RelDs.und ds r h2⟩
end
theorem RelDs.length : ∀ {ds : List D} {vs : List V}, RelDs K m H ds vs → ds.length = vs.length
  | [], _, h => by simp only [RelDs] at h; subst h; rfl
  | d :: ds, _, h => by
    simp only [RelDs] at h
    obtain ⟨v, r, rfl, h1, h2⟩ := h
    simp [RelDs.length h2]
theorem RelDs.app : ∀ {ds es : List D} {vs us : List V}, RelDs K m H ds vs → RelDs K m H es us → RelDs K m H (ds ++ es) (vs ++ us)
  | [], _, _, _, h, q => by simp only [RelDs] at h; subst h; exact q
  | d :: ds, _, _, _, h, q => by
    simp only [RelDs] at h
    obtain ⟨v, r, rfl, h1, h2⟩ := h
    exact ⟨v, r ++ _, rfl, h1, RelDs.app h2 q⟩
theorem RelDs.get : ∀ {ds : List D} {vs : List V} {i : Nat} {d : D}, RelDs K m H ds vs → ds[i]? = some d → ∃ v, vs[i]? = some v ∧ RelD K m H d v
  | [], _, _, _, _, e => by simp at e
  | d :: ds, _, 0, _, h, e => by
    simp only [RelDs] at h
    obtain ⟨v, r, rfl, h1, h2⟩ := h
    simp at e; subst e
    exact ⟨v, rfl, h1⟩
  | d :: ds, _, i + 1, _, h, e => by
    simp only [RelDs] at h
    obtain ⟨v, r, rfl, h1, h2⟩ := h
    obtain ⟨v', e', h'⟩ := RelDs.get (i := i) h2 (by simpa using e)
    exact ⟨v', by simpa using e', h'⟩
theorem RelDs.getV {ds : List D} {vs : List V} {i : Nat} {v : V} (h : RelDs K m H ds vs) (e : vs[i]? = some v) : ∃ d, ds[i]? = some d ∧ RelD K m H d v := by
  have hl := h.length
  have hi : i < ds.length := by rw [hl]; exact (List.getElem?_eq_some_iff.mp e).1
  obtain ⟨v', e', h'⟩ := h.get (List.getElem?_eq_getElem hi)
  rw [e] at e'; cases e'
  exact ⟨_, List.getElem?_eq_getElem hi, h'⟩
theorem RelDs.of_get : ∀ {ds : List D} {vs : List V}, ds.length = vs.length → (∀ (i : Nat) d v, ds[i]? = some d → vs[i]? = some v → RelD K m H d v) → RelDs K m H ds vs
  | [], [], _, _ => rfl
  | [], _ :: _, h, _ => by simp at h
  | _ :: _, [], h, _ => by simp at h
  | d :: ds, v :: vs, h, q => by
    exact ⟨v, vs, rfl, q 0 d v rfl rfl, RelDs.of_get (by simpa using h) fun i d' v' h1 h2 => q (i + 1) d' v' (by simpa using h1) (by simpa using h2)⟩
theorem RelDs.take {ds : List D} {vs : List V} (h : RelDs K m H ds vs) (n : Nat) : RelDs K m H (ds.take n) (vs.take n) := by
  refine RelDs.of_get (by simp [h.length]) fun i d v h1 h2 => ?_
  rw [List.getElem?_take] at h1 h2
  split at h1
  · rename_i hi
    rw [if_pos hi] at h2
    obtain ⟨v', e, r⟩ := h.get h1
    rw [h2] at e; cases e; exact r
  · cases h1
theorem RelDs.drop {ds : List D} {vs : List V} (h : RelDs K m H ds vs) (n : Nat) : RelDs K m H (ds.drop n) (vs.drop n) := by
  refine RelDs.of_get (by simp [h.length]) fun i d v h1 h2 => ?_
  rw [List.getElem?_drop] at h1 h2
  obtain ⟨v', e, r⟩ := h.get h1
  rw [h2] at e; cases e; exact r
theorem RelDs.reverse {ds : List D} {vs : List V} (h : RelDs K m H ds vs) : RelDs K m H ds.reverse vs.reverse := by
  refine RelDs.of_get (by simp [h.length]) fun i d v h1 h2 => ?_
  have hi : i < ds.length := by simpa using (List.getElem?_eq_some_iff.mp h1).1
  rw [List.getElem?_reverse hi] at h1
  rw [List.getElem?_reverse (by rw [← h.length]; exact hi), ← h.length] at h2
  obtain ⟨v', e, r⟩ := h.get h1
  rw [h2] at e; cases e; exact r
theorem RelDs.set {ds : List D} {vs : List V} {d : D} {v : V} (h : RelDs K m H ds vs) (r : RelD K m H d v) (i : Nat) : RelDs K m H (ds.set i d) (vs.set i v) := by
  refine RelDs.of_get (by simp [h.length]) fun j d' v' h1 h2 => ?_
  by_cases e : i = j
  · subst e
    have hi : i < ds.length := by simpa using (List.getElem?_eq_some_iff.mp h1).1
    rw [List.getElem?_set_self hi] at h1
    rw [List.getElem?_set_self (by rw [← h.length]; exact hi)] at h2
    cases h1; cases h2; exact r
  · rw [List.getElem?_set_ne e] at h1 h2
    obtain ⟨v'', e2, r2⟩ := h.get h1
    rw [h2] at e2; cases e2; exact r2
theorem RelDs.one {d : D} {v : V} (h : RelD K m H d v) : RelDs K m H [d] [v] := ⟨v, [], rfl, h, rfl⟩
theorem RelDs.map_int : ∀ ns : List Int, RelDs K m H (ns.map D.int) (ns.map V.int)
  | [] => rfl
  | n :: ns => ⟨.int n, _, rfl, rfl, RelDs.map_int ns⟩
end
/-! ### objects -/
/-- a dict by its very entries -/
def RawD (a : Addr) (es : List DictEntry) : HO := .ext fun h => ∃ o ep, h.get? a = some o ∧ o.ExactDict ∧ o.data = .dict es.toArray ep
mutual
/-- a key as the library has it -/
def D.key : D → NestedKey
  | .non => .none
  | .int i => .num i
  | .str x => .text x
  | .tup ds => .tup (D.keys ds)
  | _ => .none
def D.keys : List D → List NestedKey
  | [] => []
  | d :: ds => d.key :: D.keys ds
end
/-- the written part, the program, the world -/
structure Gd where
  K : PySem.W.Frag
  P : Program
  w : World
/-- a scalar key -/
def kD : Key → D
  | .inl i => .int i
  | .inr x => .str x
/-- an entry whose key is a scalar -/
def RelEs (K : PySem.W.Frag) (m : List Addr) (H : Hp) (p : D × D) (q : Key × Value) : Prop := p.1 = kD q.1 ∧ ∃ v, RelV v q.2 ∧ RelD K m H p.2 v
/-- an entry whose key is a tuple -/
def RelEt (K : PySem.W.Frag) (m : List Addr) (H : Hp) (p : D × D) (x : NestedKey × Addr × Value) : Prop := x.1 = p.1.key ∧ tupK p.1 = true ∧ RelD K m H p.1 (.ref x.2.1) ∧ ∃ v, RelV v x.2.2 ∧ RelD K m H p.2 v
structure DctS (G : Gd) (m : List Addr) (H : Hp) (kvs : List (D × D)) (es : List DictEntry) (vs : List (Key × Value)) : Prop where
  keys : PySem.KeysOf (mixKind G.P G.w) es.toArray
  pairs : PySem.Pairs (mixKind G.P G.w) es vs
  nd : (vs.map (·.1)).Nodup
  rel : Paired (RelEs G.K m H) kvs vs
structure DctT (G : Gd) (m : List Addr) (H : Hp) (kvs : List (D × D)) (es : List DictEntry) (xs : List (NestedKey × Addr × Value)) : Prop where
  ents : es = xs.map (entryOfKey (nestedKind G.P G.w))
  nd : (xs.map (·.1)).Nodup
  rel : Paired (RelEt G.K m H) kvs xs
def RelOb (G : Gd) (m : List Addr) (H : Hp) (a : Addr) : Ob → Prop
  | .lst ds => ∃ vs, H a = some (.lst vs) ∧ RelDs G.K m H ds vs ∧ ds.length ≤ sizeLine
  | .dct kvs => ∃ es, H a = some (RawD a es) ∧ (a == sysModules) = false ∧ kvs.length ≤ sizeLine ∧ ((∃ vs, DctS G m H kvs es vs) ∨ ∃ xs, DctT G m H kvs es xs)
  | .ins c fs => False
structure RelS (G : Gd) (m : List Addr) (H : Hp) (S : Sto) : Prop where
  len : m.length = S.length
  nd : m.Nodup
  ob : ∀ (i : Nat) a ob, m[i]? = some a → S[i]? = some ob → RelOb G m H a ob
def RelX (K : PySem.W.Frag) (m : List Addr) (H : Hp) : X → V → Prop
  | .dv d, v => RelD K m H d v
  | .tl ds, v => ∃ a vs, v = .ref a ∧ H a = some (.lst vs) ∧ a ∉ m ∧ RelDs K m H ds vs ∧ ds.length ≤ sizeLine
def RelXs (K : PySem.W.Frag) (m : List Addr) (H : Hp) : List X → List V → Prop
  | [], vs => vs = []
  | d :: ds, vs => ∃ v r, vs = v :: r ∧ RelX K m H d v ∧ RelXs K m H ds r
structure RelE (K : PySem.W.Frag) (m : List Addr) (H : Hp) (ρ : Env) (σ : L2.St) : Prop where
  len : ρ.length = σ.length
  at_ : ∀ (i : Nat) d, ρ[i]? = some (some d) → ∃ v, σ[i]? = some (some v) ∧ RelD K m H d v
end Kd
/-! Steps of the store; what an evaluation wants. -/
namespace Kd
open PySem PySem.Spec PyProof.Rows L2
section
variable {G : Gd} {m m' m'' : List Addr} {H H' H'' : Hp} {S S' : Sto}
theorem DctS.ext {kvs : List (D × D)} {es : List DictEntry} {vs : List (Key × Value)} (x : Ext m H m' H') (h : DctS G m H kvs es vs) : DctS G m' H' kvs es vs :=
  ⟨h.keys, h.pairs, h.nd, Paired.mapP h.rel fun _ _ ⟨e, v, r, q⟩ => ⟨e, v, r, q.ext x⟩⟩
theorem DctT.ext {kvs : List (D × D)} {es : List DictEntry} {xs : List (NestedKey × Addr × Value)} (x : Ext m H m' H') (h : DctT G m H kvs es xs) : DctT G m' H' kvs es xs :=
  ⟨h.ents, h.nd, Paired.mapP h.rel fun _ _ ⟨e, t, k, v, r, q⟩ => ⟨e, t, k.ext x, v, r, q.ext x⟩⟩
theorem RelOb.ext {a : Addr} {ob : Ob} (x : Ext m H m' H') (e : H' a = H a) (h : RelOb G m H a ob) : RelOb G m' H' a ob := by
  cases ob with
  | lst ds => obtain ⟨vs, h1, h2, h3⟩ := h; exact ⟨vs, e.trans h1, h2.ext x, h3⟩
  | dct kvs => obtain ⟨es, h1, h2, h3, h4⟩ := h; exact ⟨es, e.trans h1, h2, h3, h4.imp (fun ⟨vs, q⟩ => ⟨vs, q.ext x⟩) fun ⟨xs, q⟩ => ⟨xs, q.ext x⟩⟩
  | ins c fs => exact h
theorem RelOb.there {a : Addr} {ob : Ob} (h : RelOb G m H a ob) : ∃ o, H a = some o := by
  cases ob with
  | lst ds => obtain ⟨vs, h1, _⟩ := h; exact ⟨_, h1⟩
  | dct kvs => obtain ⟨es, h1, _⟩ := h; exact ⟨_, h1⟩
  | ins c fs => exact h.elim
/-- what stands in the store may be written: it is no tuple, nothing locked -/
theorem RelOb.mut {a : Addr} {ob : Ob} (h : RelOb G m H a ob) : Mut (H a) := by
  cases ob with
  | lst ds => obtain ⟨vs, h1, _⟩ := h; rw [h1]; trivial
  | dct kvs => obtain ⟨es, h1, _⟩ := h; rw [h1]; trivial
  | ins c fs => exact h.elim
theorem RelX.ext : ∀ {x : X} {v : V}, Ext m H m' H' → RelX G.K m H x v → RelX G.K m' H' x v
  | .dv _, _, e, h => RelD.ext e _ _ h
  | .tl _, _, e, ⟨a, vs, h0, h1, h2, h3, h4⟩ => ⟨a, vs, h0, e.keep a _ h2 h1, e.notin h2 h1, h3.ext e, h4⟩
theorem RelXs.ext (e : Ext m H m' H') : ∀ {xs : List X} {vs : List V}, RelXs G.K m H xs vs → RelXs G.K m' H' xs vs
  | [], _, h => h
  | x :: xs, _, ⟨v, r, h0, h1, h2⟩ => ⟨v, r, h0, h1.ext e, RelXs.ext e h2⟩
theorem RelXs.length : ∀ {xs : List X} {vs : List V}, RelXs G.K m H xs vs → xs.length = vs.length
  | [], _, h => by cases h; rfl
  | x :: xs, _, ⟨v, r, h0, h1, h2⟩ => by subst h0; simp [RelXs.length h2]
theorem RelE.ext {ρ : Env} {σ : L2.St} (e : Ext m H m' H') (h : RelE G.K m H ρ σ) : RelE G.K m' H' ρ σ :=
  ⟨h.len, fun i d hd => let ⟨v, h1, h2⟩ := h.at_ i d hd; ⟨v, h1, h2.ext e⟩⟩
theorem RelE.set {ρ : Env} {σ : L2.St} {d : D} {v : V} (h : RelE G.K m H ρ σ) (r : RelD G.K m H d v) (i : Nat) : RelE G.K m H (ρ.set i (some d)) (σ.set i (some v)) := by
  refine ⟨by simp [h.len], fun j e hj => ?_⟩
  by_cases q : i = j
  · subst q
    have hi : i < ρ.length := by simpa using (List.getElem?_eq_some_iff.mp hj).1
    rw [List.getElem?_set_self hi] at hj
    cases hj
    exact ⟨v, by rw [List.getElem?_set_self (by rw [← h.len]; exact hi)], r⟩
  · rw [List.getElem?_set_ne q] at hj
    obtain ⟨u, h1, h2⟩ := h.at_ j e hj
    exact ⟨u, by rw [List.getElem?_set_ne q]; exact h1, h2⟩
theorem RelE.wipe {ρ : Env} {σ : L2.St} (h : RelE G.K m H ρ σ) : ∀ vs : List Nat, RelE G.K m H (wipeE ρ vs) (L2.wipe σ vs)
  | [] => h
  | i :: vs => by
    have ih := RelE.wipe h vs
    refine ⟨by simp [wipeE, L2.wipe, ih.len], fun j e hj => ?_⟩
    by_cases q : i = j
    · subst q
      simp only [wipeE] at hj
      have hi : i < (wipeE ρ vs).length := by simpa using (List.getElem?_eq_some_iff.mp hj).1
      rw [List.getElem?_set_self hi] at hj
      cases hj
    · simp only [wipeE] at hj
      rw [List.getElem?_set_ne q] at hj
      obtain ⟨u, h1, h2⟩ := ih.at_ j e hj
      exact ⟨u, by simp only [L2.wipe]; rw [List.getElem?_set_ne q]; exact h1, h2⟩
theorem RelS.there (R : RelS G m H S) {a : Addr} (h : a ∈ m) : ∃ o, H a = some o ∧ Mut (H a) := by
  obtain ⟨i, hi⟩ := List.mem_iff_getElem?.mp h
  have hl : i < S.length := by rw [← R.len]; exact (List.getElem?_eq_some_iff.mp hi).1
  have q := R.ob i a _ hi (List.getElem?_eq_getElem hl)
  obtain ⟨o, ho⟩ := q.there
  exact ⟨o, ho, q.mut⟩
theorem RelS.at_ (R : RelS G m H S) {i : Nat} {a : Addr} (h : m[i]? = some a) : ∃ ob, S[i]? = some ob ∧ RelOb G m H a ob := by
  have hl : i < S.length := by rw [← R.len]; exact (List.getElem?_eq_some_iff.mp h).1
  exact ⟨_, List.getElem?_eq_getElem hl, R.ob i a _ h (List.getElem?_eq_getElem hl)⟩
theorem RelS.new {p : Addr} (R : RelS G m H S) (h : H p = none) : p ∉ m := fun z => by
  obtain ⟨o, e, _⟩ := R.there z
  rw [h] at e; cases e
/-- an object that nobody of the store knows -/
theorem ext_new {p : Addr} {o : HO} (h : H p = none) : Ext m H m (upd H p o) := by
  have hk : ∀ a o', H a = some o' → upd H p o a = some o' := fun a o' e => by rw [upd_ne (ne_of_none e h)]; exact e
  exact ⟨⟨[], by simp, by simp⟩, fun a o' _ e => hk a o' e, fun a xs e => hk a _ e, fun a o' xs e => hk a _ e, fun a e => by
    cases q : H a with
    | none => exact absurd q e
    | some o' => rw [hk a o' q]; simp⟩
/-- .. which joins the store -/
theorem ext_push {p : Addr} {o : HO} (h : H p = none) : Ext m H (m ++ [p]) (upd H p o) :=
  let e := ext_new (m := m) (o := o) h
  ⟨⟨[p], rfl, fun b hb => by rw [List.mem_singleton.mp hb]; exact h⟩, e.keep, e.tups, e.frzs, e.there⟩
/-- a list that nobody held joins the store -/
theorem ext_join {p : Addr} : Ext m H m H := Ext.refl
theorem RelS.same (R : RelS G m H S) (x : Ext m H m H') (e : ∀ a ∈ m, H' a = H a) : RelS G m H' S :=
  ⟨R.len, R.nd, fun i a ob h1 h2 => (R.ob i a ob h1 h2).ext x (e a (List.mem_of_getElem? h1))⟩
theorem RelS.laid {p : Addr} {o : HO} (R : RelS G m H S) (h : H p = none) : RelS G m (upd H p o) S :=
  R.same (ext_new h) fun a ha => upd_ne fun z => R.new h (z ▸ ha)
theorem RelS.push {p : Addr} {ob : Ob} (R : RelS G m H S) (hp : p ∉ m) (x : Ext m H (m ++ [p]) H) (new : RelOb G (m ++ [p]) H p ob) : RelS G (m ++ [p]) H (S ++ [ob]) := by
  refine ⟨by simp [R.len], ?_, fun i a ob' h1 h2 => ?_⟩
  · rw [List.nodup_append]
    exact ⟨R.nd, by simp, fun a ha b hb z => by rw [List.mem_singleton.mp hb] at z; exact hp (z ▸ ha)⟩
  · by_cases hi : i < m.length
    · rw [List.getElem?_append_left hi] at h1
      rw [List.getElem?_append_left (by rw [← R.len]; exact hi)] at h2
      exact (R.ob i a ob' h1 h2).ext x rfl
    · have hl : i < (m ++ [p]).length := (List.getElem?_eq_some_iff.mp h1).1
      rw [List.length_append, List.length_singleton] at hl
      have e : i = m.length := by omega
      subst e
      rw [List.getElem?_concat_length] at h1
      rw [R.len, List.getElem?_concat_length] at h2
      cases h1; cases h2
      exact new
/-- an object of the store is written -/
theorem ext_write {a : Addr} {o o' : HO} (ha : a ∈ m) (e : H a = some o) (mu : Mut (H a)) : Ext m H m (upd H a o') := by
  have nt : ∀ b u, H b = some u → ¬ Mut (some u) → b ≠ a := fun b u q nm z => by subst z; rw [q] at mu; exact nm mu
  refine ⟨⟨[], by simp, by simp⟩, fun b u hb q => by rw [upd_ne (show b ≠ a from fun z => hb (by rw [z]; exact ha))]; exact q, fun b xs q => by rw [upd_ne (nt b _ q fun z => z)]; exact q, fun b u xs q => by rw [upd_ne (nt b _ q fun z => z)]; exact q, fun b q => ?_⟩
  by_cases z : b = a
  · subst z; rw [upd_same]; simp
  · rw [upd_ne z]; exact q
theorem RelS.write {a : Addr} {i : Nat} {o' : HO} {ob' : Ob} (R : RelS G m H S) (hi : m[i]? = some a) (new : RelOb G m (upd H a o') a ob') : RelS G m (upd H a o') (S.set i ob') := by
  have ha : a ∈ m := List.mem_of_getElem? hi
  obtain ⟨o, e, mu⟩ := R.there ha
  have x := ext_write (o' := o') ha e mu
  refine ⟨by simp [R.len], R.nd, fun j b ob h1 h2 => ?_⟩
  by_cases q : i = j
  · subst q
    rw [hi] at h1; cases h1
    have hl : i < S.length := by rw [← R.len]; exact (List.getElem?_eq_some_iff.mp hi).1
    rw [List.getElem?_set_self hl] at h2
    cases h2
    exact new
  · rw [List.getElem?_set_ne q] at h2
    refine (R.ob j b ob h1 h2).ext x (upd_ne fun z => q ?_)
    subst z
    have l1 := (List.getElem?_eq_some_iff.mp hi).1
    have l2 := (List.getElem?_eq_some_iff.mp h1).1
    exact (List.getElem_inj R.nd).mp ((List.getElem?_eq_some_iff.mp hi).2.trans (List.getElem?_eq_some_iff.mp h1).2.symm)
/-! ### what an evaluation wants: Y of an exception (its class, the kept value, its class's value, its own dict), k of a value -/
/-- the classes of exceptions: the class's value, the field that keeps a value -/
structure Cls' where
  cls : Nat → Value
  fld : Nat → Str
def RelXc (K : PySem.W.Frag) (T : Cls') (m : List Addr) (H : Hp) (c : Nat) : Option D → Value → Option Addr → Prop
  | none, cl, dx => cl = T.cls c ∧ dx = none
  | some d, cl, dx => cl = T.cls c ∧ ∃ a v, dx = some a ∧ H a = some (.xd [(T.fld c, v)]) ∧ RelD K m H d v
section
variable (G) (T : Cls') (Y : XK)
def Pst {α : Type} (m : List Addr) (H : Hp) (r : R α) (k : List Addr → Hp → Sto → α → Prop) : Prop :=
  match r with
  | .ok a S' => ∀ m' H', Ext m H m' H' → RelS G m' H' S' → k m' H' S' a
  | .exc c d S' => ∀ m' H' cl dx, Ext m H m' H' → RelS G m' H' S' → RelXc G.K T m' H' c d cl dx → Y cl dx H'
  | .bad => False
end
section
variable {T : Cls'} {Y : XK}
theorem Pst.shift {α : Type} {r : R α} {k : List Addr → Hp → Sto → α → Prop} (x : Ext m H m' H') (h : Pst G T Y m H r k) : Pst G T Y m' H' r k := by
  cases r with
  | ok a S' => exact fun m2 H2 e R => h m2 H2 (x.trans e) R
  | exc c d S' => exact fun m2 H2 cl dx e R => h m2 H2 cl dx (x.trans e) R
  | bad => exact h
theorem Pst.imp {α : Type} {r : R α} {k k' : List Addr → Hp → Sto → α → Prop} (h : Pst G T Y m H r k) (q : ∀ m' H' S' a, Ext m H m' H' → RelS G m' H' S' → k m' H' S' a → k' m' H' S' a) : Pst G T Y m H r k' := by
  cases r with
  | ok a S' => exact fun m2 H2 e R => q _ _ _ _ e R (h m2 H2 e R)
  | exc c d S' => exact h
  | bad => exact h
theorem Pst.bind {α β : Type} {x : M α} {f : α → M β} {k : List Addr → Hp → Sto → β → Prop} (h : Pst G T Y m H ((x >>= f) S) k) : Pst G T Y m H (x S) fun _ _ S1 a => Pst G T Y m H (f a S1) k := by
  rw [bindE] at h
  cases e : x S with
  | ok a S1 => rw [e] at h; exact fun m1 H1 x1 R1 => h
  | exc c d S1 => rw [e] at h; exact h
  | bad => rw [e] at h; exact h
theorem Pst.pure {α : Type} {a : α} {k : List Addr → Hp → Sto → α → Prop} (h : Pst G T Y m H (M.pure a S) k) (R : RelS G m H S) : k m H S a := h m H Ext.refl R
theorem Pst.ok {α : Type} {a : α} {k : List Addr → Hp → Sto → α → Prop} (h : Pst G T Y m H (R.ok a S) k) (R : RelS G m H S) : k m H S a := h m H Ext.refl R
end
end
end Kd
/-! The operators: what the library does at values is what the small language says. -/
set_option maxHeartbeats 1000000
namespace Kd
open PySem PySem.Spec PyProof.Rows L2
abbrev gd (X : Cx) : Gd := ⟨X.K, X.prog, X.w⟩
/-- a list that nobody holds is new since H -/
def FreshX (H : Hp) : X → V → Prop
  | .tl _, .ref p => H p = none
  | _, _ => True
abbrev kQ (G : Gd) (H : Hp) (Q : VK) : List Addr → Hp → Sto → X → Prop := fun m' H' _ z => ∀ v, RelX G.K m' H' z v → FreshX H z v → Q v H'
abbrev kB (Q : VK) : List Addr → Hp → Sto → Bool → Prop := fun _ H' _ b => Q (.bl b) H'
def rOp (G : Gd) (f : X → X → M X) : R2 := fun v u H Q => ∃ (T : Cls') (Y : XK) (m : List Addr) (S : Sto) (x y : X), RelS G m H S ∧ RelX G.K m H x v ∧ RelX G.K m H y u ∧ Pst G T Y m H (f x y S) (kQ G H Q)
def rCm (G : Gd) (f : X → X → M Bool) : R2 := fun v u H Q => ∃ (T : Cls') (Y : XK) (m : List Addr) (S : Sto) (x y : X), RelS G m H S ∧ RelX G.K m H x v ∧ RelX G.K m H y u ∧ Pst G T Y m H (f x y S) (kB Q)
section
variable {G : Gd} {T : Cls'} {Y : XK} {m m' : List Addr} {H H' : Hp} {S : Sto} {Q : VK}
theorem fin_val {x : X} {v : V} (h : Pst G T Y m H (.ok x S) (kQ G H Q)) (R : RelS G m H S) (r : RelX G.K m H x v) (f : FreshX H x v := by exact trivial) : Q v H := h m H Ext.refl R v r f
theorem fin_tup {ds : List D} {vs : List V} {p : Addr} (h : Pst G T Y m H (.ok (.dv (.tup ds)) S) (kQ G H Q)) (R : RelS G m H S) (hp : H p = none) (r : RelDs G.K m H ds vs) : Q (.ref p) (upd H p (.tup vs)) :=
  h m _ (ext_new hp) (R.laid hp) (.ref p) ⟨p, vs, rfl, .inl upd_same, r.ext (ext_new hp)⟩ trivial
theorem fin_lst {ds : List D} {vs : List V} {p : Addr} (h : Pst G T Y m H (.ok (.tl ds) S) (kQ G H Q)) (R : RelS G m H S) (hp : H p = none) (r : RelDs G.K m H ds vs) (z : ds.length ≤ sizeLine) : Q (.ref p) (upd H p (.lst vs)) :=
  h m _ (ext_new hp) (R.laid hp) (.ref p) ⟨p, vs, rfl, upd_same, R.new hp, r.ext (ext_new hp), z⟩ hp
/-- a list's items -/
theorem litems_ok {β : Type} {x : X} {v : V} {f : List D → M β} {k : List Addr → Hp → Sto → β → Prop} (h : Pst G T Y m H ((litems x >>= f) S) k) (R : RelS G m H S) (r : RelX G.K m H x v) :
    ∃ ds a vs, v = .ref a ∧ SqL G.K H a vs ∧ RelDs G.K m H ds vs ∧ Pst G T Y m H (f ds S) k ∧ litems x S = .ok ds S := by
  rw [bindE] at h
  cases x with
  | tl ds =>
    obtain ⟨a, vs, rfl, h1, h2, h3, h4⟩ := r
    exact ⟨ds, a, vs, rfl, .inl (.inl h1), h3, h, rfl⟩
  | dv d =>
    cases d with
    | rol ns =>
      simp only [RelX, RelD] at r
      obtain ⟨a, rfl, h1⟩ := r
      exact ⟨_, a, _, rfl, h1.sq, RelDs.map_int ns, h, rfl⟩
    | loc l =>
      simp only [RelX, RelD] at r
      obtain ⟨a, rfl, h1⟩ := r
      obtain ⟨ob, e, q⟩ := R.at_ h1
      cases ob with
      | lst ds =>
        obtain ⟨vs, h2, h3, h4⟩ := q
        have el : litems (.dv (.loc l)) S = .ok ds S := by simp only [litems, e]
        rw [el] at h
        exact ⟨ds, a, vs, rfl, .inl (.inl h2), h3, h, el⟩
      | dct kvs => have el : litems (.dv (.loc l)) S = .bad := by simp only [litems, e]
                   rw [el] at h; exact h.elim
      | ins c fs => exact q.elim
    | _ => exact h.elim
/-- a list's or a tuple's -/
theorem items_ok {β : Type} {x : X} {v : V} {f : List D → M β} {k : List Addr → Hp → Sto → β → Prop} (h : Pst G T Y m H ((items x >>= f) S) k) (R : RelS G m H S) (r : RelX G.K m H x v) :
    ∃ ds a vs, v = .ref a ∧ ((SqL G.K H a vs) ∨ (x = .dv (.tup ds) ∧ TupAt G.K H a vs)) ∧ RelDs G.K m H ds vs ∧ Pst G T Y m H (f ds S) k := by
  by_cases q : ∃ ds, x = .dv (.tup ds)
  · obtain ⟨ds, rfl⟩ := q
    simp only [RelX, RelD] at r
    obtain ⟨a, vs, rfl, h1, h2⟩ := r
    exact ⟨ds, a, vs, rfl, .inr ⟨rfl, h1⟩, h2, h⟩
  · have e : items x = litems x := by
      cases x with
      | tl ds => rfl
      | dv d => cases d <;> first | rfl | exact (q ⟨_, rfl⟩).elim
    rw [e] at h
    obtain ⟨ds, a, vs, h1, h2, h3, h4, _⟩ := litems_ok h R r
    exact ⟨ds, a, vs, h1, .inl h2, h3, h4⟩
end
/-! ### data as the library reads it -/
section
variable {G : Gd} {m : List Addr} {H : Hp} {S : Sto}
mutual
theorem py_dp : ∀ (d : D) (v : V) (p : PyData), RelD G.K m H d v → d.py = some p → Dp G.K H v p ∧ p.plain = true
  | .non, _, _, r, e => by
    simp only [RelD] at r; subst r
    simp only [D.py, Option.some.injEq] at e; subst e
    exact ⟨.non, rfl⟩
  | .bl b, _, _, r, e => by
    simp only [RelD] at r; subst r
    simp only [D.py, Option.some.injEq] at e; subst e
    exact ⟨.bl b, rfl⟩
  | .int b, _, _, r, e => by
    simp only [RelD] at r; subst r
    simp only [D.py, Option.some.injEq] at e; subst e
    exact ⟨.int b, rfl⟩
  | .str b, _, _, r, e => by
    simp only [RelD] at r; subst r
    simp only [D.py, Option.some.injEq] at e; subst e
    exact ⟨.str b, rfl⟩
  | .tup ds, _, p, r, e => by
    simp only [RelD] at r
    obtain ⟨a, vs, rfl, h1, h2⟩ := r
    simp only [D.py, Option.map_eq_some_iff] at e
    obtain ⟨xs, e1, rfl⟩ := e
    obtain ⟨q1, q2⟩ := pys_dp ds vs xs h2 e1
    exact ⟨.tup h1.sq q1, by simpa only [PyData.plain] using q2⟩
  | .loc l, _, _, _, e => by simp [D.py] at e
  | .rol ns, _, _, r, e => by
    simp only [RelD] at r
    obtain ⟨a, rfl, h1⟩ := r
    simp only [D.py, Option.some.injEq] at e; subst e
    refine ⟨.lst h1.sq ?_, ?_⟩
    · clear h1
      induction ns with
      | nil => exact .nil
      | cons n ns ih => exact .cons (.int n) ih
    · simp only [PyData.plain]
      clear h1
      induction ns with
      | nil => rfl
      | cons n ns ih => simpa [PyData.plainAll, PyData.plain] using ih
theorem pys_dp : ∀ (ds : List D) (vs : List V) (ps : List PyData), RelDs G.K m H ds vs → D.pys ds = some ps → DpAll G.K H vs ps ∧ PyData.plainAll ps = true
  | [], _, _, r, e => by
    simp only [RelDs] at r; subst r
    simp only [D.pys, Option.some.injEq] at e; subst e
    exact ⟨.nil, rfl⟩
  | d :: ds, _, _, r, e => by
    simp only [RelDs] at r
    obtain ⟨v, vs, rfl, h1, h2⟩ := r
    simp only [D.pys] at e
    cases e1 : d.py with
    | none => rw [e1] at e; simp at e
    | some x =>
      cases e2 : D.pys ds with
      | none => rw [e1, e2] at e; simp at e
      | some xs =>
        rw [e1, e2] at e
        simp only [Option.some.injEq] at e
        subst e
        obtain ⟨q1, q2⟩ := py_dp d v x h1 e1
        obtain ⟨q3, q4⟩ := pys_dp ds vs xs h2 e2
        exact ⟨.cons q1 q3, by simp only [PyData.plainAll, q2, q4, Bool.and_self]⟩
end
theorem xpy_dp {x : X} {v : V} {p : PyData} (R : RelS G m H S) (r : RelX G.K m H x v) (e : x.py S = some p) : Dp G.K H v p ∧ p.plain = true := by
  have hl : ∀ {a : Addr} {ds : List D} {vs : List V} {p : PyData}, SqL G.K H a vs → RelDs G.K m H ds vs → (D.pys ds).map .list = some p → Dp G.K H (.ref a) p ∧ p.plain = true := fun {a ds vs p} h1 h2 e => by
    simp only [Option.map_eq_some_iff] at e
    obtain ⟨xs, e1, rfl⟩ := e
    obtain ⟨q1, q2⟩ := pys_dp ds vs xs h2 e1
    exact ⟨.lst h1 q1, by simpa only [PyData.plain] using q2⟩
  cases x with
  | tl ds =>
    obtain ⟨a, vs, rfl, h1, h2, h3, h4⟩ := r
    exact hl (.inl (.inl h1)) h3 e
  | dv d =>
    cases d with
    | loc l =>
      simp only [RelX, RelD] at r
      obtain ⟨a, rfl, h1⟩ := r
      obtain ⟨ob, e1, q⟩ := R.at_ h1
      simp only [X.py, e1] at e
      cases ob with
      | lst ds => obtain ⟨vs, h2, h3, h4⟩ := q; exact hl (.inl (.inl h2)) h3 e
      | dct kvs => simp at e
      | ins c fs => simp at e
    | _ => exact py_dp _ v p r e
end
section
variable {X : Cx}
theorem Inv.reads {pins : List (Addr × Obj)} {σ : L2.St} {H : Hp} {s : Shared} {v : V} {u : Value} {p : PyData} (I : Inv X pins σ H s) (h : Dp X.K H v p) (r : RelV v u) : ∃ as, Reads s.heap u p as := Dp.reads I p v u h r
theorem op_eqK (hu : X.A.units + 64 < cLine) : OpR X (compareOp .Eq) (rCm (gd X) eqX) := by
  intro pins s σ H v u v' u' Q I rv ru ⟨T, Y, m, S, x, y, R, rx, ry, h⟩
  simp only [eqX] at h
  cases ex : x.py S with
  | none => rw [ex] at h; exact h.elim
  | some a =>
    cases ey : y.py S with
    | none => rw [ex, ey] at h; exact h.elim
    | some b =>
      rw [ex, ey] at h
      obtain ⟨dx, px⟩ := xpy_dp R rx ex
      obtain ⟨dy, py⟩ := xpy_dp R ry ey
      by_cases hd : min a.depth b.depth ≤ 60
      · simp only [if_pos hd] at h
        obtain ⟨as, ra⟩ := Inv.reads I dx rv
        obtain ⟨bs, rb⟩ := Inv.reads I dy ru
        exact SeqAt.eq_plain ra rb px py (by omega) ⟨.bl _, H, I, rfl, h m H Ext.refl R⟩
      · simp only [if_neg hd] at h; exact h.elim
theorem op_neK (hu : X.A.units + 64 < cLine) : OpR X (compareOp .NotEq) (rCm (gd X) fun x y => eqX x y >>= fun b => M.pure (!b)) := by
  intro pins s σ H v u v' u' Q I rv ru ⟨T, Y, m, S, x, y, R, rx, ry, h⟩
  have h := h.bind
  simp only [eqX] at h
  cases ex : x.py S with
  | none => rw [ex] at h; exact h.elim
  | some a =>
    cases ey : y.py S with
    | none => rw [ex, ey] at h; exact h.elim
    | some b =>
      rw [ex, ey] at h
      obtain ⟨dx, px⟩ := xpy_dp R rx ex
      obtain ⟨dy, py⟩ := xpy_dp R ry ey
      by_cases hd : min a.depth b.depth ≤ 60
      · simp only [if_pos hd] at h
        obtain ⟨as, ra⟩ := Inv.reads I dx rv
        obtain ⟨bs, rb⟩ := Inv.reads I dy ru
        exact SeqAt.ne_plain ra rb px py (by omega) ⟨.bl _, H, I, rfl, (h m H Ext.refl R).pure R⟩
      · simp only [if_neg hd] at h; exact h.elim
/-! ### arithmetic, + -/
theorem op_catL : OpR X (binaryOp .Add) (fun x y H Q => ∃ l b xs zs, x = .ref l ∧ y = .ref b ∧ SqL X.K H l xs ∧ SqL X.K H b zs ∧ xs.length + zs.length ≤ sizeLine ∧ ∀ p, H p = none → Q (.ref p) (upd H p (.lst (xs ++ zs)))) := by
  intro pins s σ H x y v u Q I rx ry h
  obtain ⟨l, b, xs, zs, rfl, rfl, hH, hB, hz, q⟩ := h
  cases rx
  cases ry
  obtain ⟨its, r, ⟨⟨c1, d1, dt1, sl1⟩, n, e, ec, ed, ei⟩, z⟩ := I.list hH
  obtain ⟨its2, r2, ⟨⟨c2, d2, dt2, sl2⟩, n2, e2, ec2, ed2, ei2⟩, z2⟩ := I.list hB
  have hl := r.length
  have hl2 := r2.length
  simp only at ec ed ei ec2 ed2 ei2
  subst ec ed ei ec2 ed2 ei2
  have ea : its.toArray ++ its2.toArray = (its ++ its2).toArray := by simp
  refine concat_meets ⟨_, e, rfl⟩ ⟨_, e2, rfl⟩ noFill_list_add seq_list_add PySem.F.slot_list_add PySem.F.entry_list_add (PySem.F.args_list_add_2 _ _)
    (list_addW l b its.toArray its2.toArray n n2 none none sl1 sl2 (by rw [List.size_toArray, List.size_toArray]; omega)) ⟨e, e2, ?_⟩
  rw [ea]
  exact ⟨.ref _, _, I.lnew (t' := s.toks) (r.append r2) (by rw [List.length_append]; omega), rfl, q _ I.fresh⟩
theorem bin_add_cases (x y : Kd.X) : (∃ i j, x = .dv (.int i) ∧ y = .dv (.int j)) ∨ (∃ i j, x = .dv (.str i) ∧ y = .dv (.str j)) ∨ (∃ i j, x = .dv (.tup i) ∧ y = .dv (.tup j)) ∨
    binX .add x y = (litems x >>= fun a => litems y >>= fun b => if a.length + b.length ≤ sizeLine then M.pure (.tl (a ++ b)) else M.bad) := by
  cases x with
  | tl ds => exact .inr (.inr (.inr rfl))
  | dv d =>
    cases y with
    | tl es => cases d <;> exact .inr (.inr (.inr rfl))
    | dv e =>
      cases d <;> cases e <;> first
        | exact .inl ⟨_, _, rfl, rfl⟩
        | exact .inr (.inl ⟨_, _, rfl, rfl⟩)
        | exact .inr (.inr (.inl ⟨_, _, rfl, rfl⟩))
        | exact .inr (.inr (.inr rfl))
theorem op_addK : OpR X (binaryOp .Add) (rOp (gd X) (binX .add)) := by
  intro pins s σ H v u v' u' Q I rv ru ⟨T, Y, m, S, x, y, R, rx, ry, h⟩
  rcases bin_add_cases x y with ⟨i, j, rfl, rfl⟩ | ⟨i, j, rfl, rfl⟩ | ⟨i, j, rfl, rfl⟩ | e
  · simp only [RelX, RelD] at rx ry
    subst rx ry
    exact op_add pins s σ H _ _ v' u' Q I rv ru ⟨i, j, rfl, rfl, fin_val (x := .dv (.int (i + j))) h R rfl⟩
  · simp only [RelX, RelD] at rx ry
    subst rx ry
    simp only [binX] at h
    by_cases hz : i.length + j.length ≤ sizeLine
    · rw [if_pos hz] at h
      exact op_add_str pins s σ H _ _ v' u' Q I rv ru ⟨i, j, rfl, rfl, hz, fin_val (x := .dv (.str (i ++ j))) h R rfl⟩
    · rw [if_neg hz] at h; exact h.elim
  · simp only [RelX, RelD] at rx ry
    obtain ⟨a, xs, rfl, ha, hxs⟩ := rx
    obtain ⟨b, ys, rfl, hb, hys⟩ := ry
    simp only [binX] at h
    by_cases hz : i.length + j.length ≤ sizeLine
    · rw [if_pos hz] at h
      have l1 := hxs.length
      have l2 := hys.length
      refine op_catA pins s σ H _ _ v' u' Q I rv ru ⟨a, b, xs, ys, rfl, rfl, ha.sq, hb.sq, by omega, fun e => ?_, fun _ e => ?_, fun _ _ p hp => ?_⟩
      · subst e
        have : i = [] := List.length_eq_zero_iff.mp (by simpa using l1)
        subst this
        exact fin_val (x := .dv (.tup ([] ++ j))) h R (by simp only [RelX, RelD, List.nil_append]; exact ⟨b, ys, rfl, hb, hys⟩)
      · subst e
        have : j = [] := List.length_eq_zero_iff.mp (by simpa using l2)
        subst this
        exact fin_val (x := .dv (.tup (i ++ []))) h R (by simp only [RelX, RelD, List.append_nil]; exact ⟨a, xs, rfl, ha, hxs⟩)
      · exact fin_tup h R hp (hxs.app hys)
    · rw [if_neg hz] at h; exact h.elim
  · rw [e] at h
    obtain ⟨ds, a, vs, rfl, h1, h2, h3, _⟩ := litems_ok h R rx
    obtain ⟨es, b, us, rfl, h4, h5, h6, _⟩ := litems_ok h3 R ry
    by_cases hz : ds.length + es.length ≤ sizeLine
    · rw [if_pos hz] at h6
      have l1 := h2.length
      have l2 := h5.length
      exact op_catL pins s σ H _ _ v' u' Q I rv ru ⟨a, b, vs, us, rfl, rfl, h1, h4, by omega, fun p hp => fin_lst h6 R hp (h2.app h5) (by rw [List.length_append]; omega)⟩
    · rw [if_neg hz] at h6; exact h6.elim
theorem op_subK : OpR X (binaryOp .Sub) (rOp (gd X) (binX .sub)) := by
  intro pins s σ H v u v' u' Q I rv ru ⟨T, Y, m, S, x, y, R, rx, ry, h⟩
  have : (∃ i j, x = .dv (.int i) ∧ y = .dv (.int j)) ∨ binX .sub x y = M.bad := by
    cases x with
    | tl ds => exact .inr rfl
    | dv d =>
      cases y with
      | tl es => cases d <;> exact .inr rfl
      | dv e => cases d <;> cases e <;> first | exact .inl ⟨_, _, rfl, rfl⟩ | exact .inr rfl
  rcases this with ⟨i, j, rfl, rfl⟩ | e
  · simp only [RelX, RelD] at rx ry
    subst rx ry
    exact op_sub pins s σ H _ _ v' u' Q I rv ru ⟨i, j, rfl, rfl, fin_val (x := .dv (.int (i - j))) h R rfl⟩
  · rw [e] at h; exact h.elim
theorem mulOk_ok {i j : Int} (h : mulOk i j = true) : IntMulOk i j := by
  simp only [mulOk, decide_eq_true_eq] at h
  have b : ∀ x : Int, Builtin.Int.intBits x ≤ x.natAbs.log2 + 1 := fun x => by
    unfold Builtin.Int.intBits
    split <;> omega
  exact IntMulOk.of_le (b i) (b j) (by omega)
theorem op_mulI : OpR X (binaryOp .Mult) (rI (fun i j => mulOk i j = true) fun i j => .int (i * j)) := opI fun _ _ _ _ _ _ _ hc q => mul_int q (mulOk_ok hc)
theorem olitems_ok {G : Gd} {T : Cls'} {Y : XK} {m : List Addr} {H : Hp} {S : Sto} {β : Type} {x : Kd.X} {v : V} {f : List D → M β} {k : List Addr → Hp → Sto → β → Prop}
    (h : Pst G T Y m H ((olitems x >>= f) S) k) (R : RelS G m H S) (r : RelX G.K m H x v) :
    ∃ ds a vs, v = .ref a ∧ H a = some (.lst vs) ∧ RelDs G.K m H ds vs ∧ Pst G T Y m H (f ds S) k := by
  rw [bindE] at h
  cases x with
  | tl ds =>
    obtain ⟨a, vs, rfl, h1, h2, h3, h4⟩ := r
    exact ⟨ds, a, vs, rfl, h1, h3, h⟩
  | dv d =>
    cases d with
    | loc l =>
      simp only [RelX, RelD] at r
      obtain ⟨a, rfl, h1⟩ := r
      obtain ⟨ob, e, q⟩ := R.at_ h1
      cases ob with
      | lst ds =>
        obtain ⟨vs, h2, h3, h4⟩ := q
        have el : olitems (.dv (.loc l)) S = .ok ds S := by simp only [olitems, e]
        rw [el] at h
        exact ⟨ds, a, vs, rfl, h2, h3, h⟩
      | dct kvs => have el : olitems (.dv (.loc l)) S = .bad := by simp only [olitems, e]
                   rw [el] at h; exact h.elim
      | ins c fs => exact q.elim
    | _ => exact h.elim
theorem rep_rel {G : Gd} {m : List Addr} {H : Hp} {ds : List D} {vs : List V} (h : RelDs G.K m H ds vs) : ∀ n, RelDs G.K m H (List.replicate n ds).flatten (List.replicate n vs).flatten
  | 0 => rfl
  | n + 1 => by
    rw [List.replicate_succ, List.replicate_succ, List.flatten_cons, List.flatten_cons]
    exact h.app (rep_rel h n)
theorem op_mulK : OpR X (binaryOp .Mult) (rOp (gd X) (binX .mul)) := by
  intro pins s σ H v u v' u' Q I rv ru ⟨T, Y, m, S, x, y, R, rx, ry, h⟩
  have : (∃ i j, x = .dv (.int i) ∧ y = .dv (.int j)) ∨ (∃ k, y = .dv (.int k) ∧ binX .mul x y = (olitems x >>= fun a => if -(2 ^ 63) ≤ k ∧ k < 2 ^ 63 ∧ a.length * k.toNat ≤ sizeLine then M.pure (.tl (List.replicate k.toNat a).flatten) else M.bad)) ∨ binX .mul x y = M.bad := by
    cases x with
    | tl ds =>
      cases y with
      | tl es => exact .inr (.inr rfl)
      | dv e => cases e <;> first | exact .inr (.inl ⟨_, rfl, rfl⟩) | exact .inr (.inr rfl)
    | dv d =>
      cases y with
      | tl es => cases d <;> exact .inr (.inr rfl)
      | dv e => cases d <;> cases e <;> first | exact .inl ⟨_, _, rfl, rfl⟩ | exact .inr (.inl ⟨_, rfl, rfl⟩) | exact .inr (.inr rfl)
  rcases this with ⟨i, j, rfl, rfl⟩ | ⟨k, rfl, e⟩ | e
  · simp only [RelX, RelD] at rx ry
    subst rx ry
    simp only [binX] at h
    by_cases hz : mulOk i j = true
    · rw [if_pos hz] at h
      exact op_mulI pins s σ H _ _ v' u' Q I rv ru ⟨i, j, rfl, rfl, hz, fin_val (x := .dv (.int (i * j))) h R rfl⟩
    · rw [if_neg hz] at h; exact h.elim
  · rw [e] at h
    simp only [RelX, RelD] at ry
    subst ry
    obtain ⟨ds, a, vs, rfl, h1, h2, h3⟩ := olitems_ok h R rx
    by_cases hz : -(2 ^ 63) ≤ k ∧ k < 2 ^ 63 ∧ ds.length * k.toNat ≤ sizeLine
    · rw [if_pos hz] at h3
      have l1 := h2.length
      refine op_rep pins s σ H _ _ v' u' Q I rv ru ⟨a, k, vs, rfl, rfl, h1, hz.1, hz.2.1, by rw [← l1]; exact hz.2.2, fun p hp => fin_lst h3 R hp (rep_rel h2 _) ?_⟩
      rw [List.length_flatten, List.map_replicate, List.sum_replicate_nat, Nat.mul_comm]
      exact hz.2.2
    · rw [if_neg hz] at h3; exact h3.elim
  · rw [e] at h; exact h.elim
theorem bin_int_cases (o : Bop) (ho : o = .fdiv ∨ o = .mod ∨ o = .pow) (x y : Kd.X) : (∃ i j, x = .dv (.int i) ∧ y = .dv (.int j)) ∨ binX o x y = M.bad := by
  cases x with
  | tl ds => rcases ho with rfl | rfl | rfl <;> exact .inr rfl
  | dv d =>
    cases y with
    | tl es => rcases ho with rfl | rfl | rfl <;> cases d <;> exact .inr rfl
    | dv e => rcases ho with rfl | rfl | rfl <;> cases d <;> cases e <;> first | exact .inl ⟨_, _, rfl, rfl⟩ | exact .inr rfl
theorem op_fdivK : OpR X (binaryOp .FloorDiv) (rOp (gd X) (binX .fdiv)) := by
  intro pins s σ H v u v' u' Q I rv ru ⟨T, Y, m, S, x, y, R, rx, ry, h⟩
  rcases bin_int_cases .fdiv (.inl rfl) x y with ⟨i, j, rfl, rfl⟩ | e
  · simp only [RelX, RelD] at rx ry
    subst rx ry
    simp only [binX] at h
    by_cases hz : 0 < j ∧ j.natAbs.log2 < 9000
    · rw [if_pos hz] at h
      exact op_fdivW pins s σ H _ _ v' u' Q I rv ru ⟨i, j, rfl, rfl, hz, fin_val (x := .dv (.int (i / j))) h R rfl⟩
    · rw [if_neg hz] at h; exact h.elim
  · rw [e] at h; exact h.elim
theorem op_modK : OpR X (binaryOp .Mod) (rOp (gd X) (binX .mod)) := by
  intro pins s σ H v u v' u' Q I rv ru ⟨T, Y, m, S, x, y, R, rx, ry, h⟩
  rcases bin_int_cases .mod (.inr (.inl rfl)) x y with ⟨i, j, rfl, rfl⟩ | e
  · simp only [RelX, RelD] at rx ry
    subst rx ry
    simp only [binX] at h
    by_cases hz : 0 < j
    · rw [if_pos hz] at h
      exact op_mod pins s σ H _ _ v' u' Q I rv ru ⟨i, j, rfl, rfl, hz, fin_val (x := .dv (.int (i % j))) h R rfl⟩
    · rw [if_neg hz] at h; exact h.elim
  · rw [e] at h; exact h.elim
theorem op_powK : OpR X (binaryOp .Pow) (rOp (gd X) (binX .pow)) := by
  intro pins s σ H v u v' u' Q I rv ru ⟨T, Y, m, S, x, y, R, rx, ry, h⟩
  rcases bin_int_cases .pow (.inr (.inr rfl)) x y with ⟨i, j, rfl, rfl⟩ | e
  · simp only [RelX, RelD] at rx ry
    subst rx ry
    simp only [binX] at h
    by_cases hz : 0 ≤ j ∧ j ≤ 1000000 ∧ i.natAbs < 2 ^ 64
    · rw [if_pos hz] at h
      exact op_pow pins s σ H _ _ v' u' Q I rv ru ⟨i, j, rfl, rfl, hz, fin_val (x := .dv (.int (i ^ j.toNat))) h R rfl⟩
    · rw [if_neg hz] at h; exact h.elim
  · rw [e] at h; exact h.elim
/-! ### is -/
theorem rel_none {G : Gd} {m : List Addr} {H : Hp} {d : D} {v : V} (r : RelD G.K m H d v) : decide (v = V.non) = decide (d = D.non) := by
  have : v = V.non ↔ d = D.non := by
    cases d <;> simp only [RelD] at r
    · subst r; simp
    · subst r; simp
    · subst r; simp
    · subst r; simp
    · obtain ⟨a, vs, rfl, _⟩ := r; simp
    · obtain ⟨a, rfl, _⟩ := r; simp
    · obtain ⟨a, rfl, _⟩ := r; simp
  exact decide_eq_decide.mpr this
theorem is_cases (x y : Kd.X) : (∃ d, x = .dv d ∧ y = .dv .non) ∨ (∃ a b, x = .dv (.bl a) ∧ y = .dv (.bl b)) ∨ isX x y = M.bad := by
  cases x with
  | tl ds => exact .inr (.inr rfl)
  | dv d =>
    cases y with
    | tl es => cases d <;> exact .inr (.inr rfl)
    | dv e => cases d <;> cases e <;> first | exact .inl ⟨_, rfl, rfl⟩ | exact .inr (.inl ⟨_, _, rfl, rfl⟩) | exact .inr (.inr rfl)
theorem op_isK' : OpR X (compareOp .Is) (rCm (gd X) isX) := by
  intro pins s σ H v u v' u' Q I rv ru ⟨T, Y, m, S, x, y, R, rx, ry, h⟩
  rcases is_cases x y with ⟨d, rfl, rfl⟩ | ⟨a, b, rfl, rfl⟩ | e
  · have e : isX (.dv d) (.dv .non) = M.pure (decide (d = .non)) := by cases d <;> rfl
    rw [e] at h
    simp only [RelX, RelD] at ry
    subst ry
    exact op_isN pins s σ H _ _ v' u' Q I rv ru ⟨rfl, by rw [rel_none (G := gd X) rx]; exact h.pure R⟩
  · simp only [RelX, RelD] at rx ry
    subst rx ry
    exact op_is_bl pins s σ H _ _ v' u' Q I rv ru ⟨a, b, rfl, rfl, h.pure R⟩
  · rw [e] at h; exact h.elim
theorem op_isnK : OpR X (compareOp .IsNot) (rCm (gd X) fun x y => isX x y >>= fun b => M.pure (!b)) := by
  intro pins s σ H v u v' u' Q I rv ru ⟨T, Y, m, S, x, y, R, rx, ry, h⟩
  have h := h.bind
  rcases is_cases x y with ⟨d, rfl, rfl⟩ | ⟨a, b, rfl, rfl⟩ | e
  · have e : isX (.dv d) (.dv .non) = M.pure (decide (d = .non)) := by cases d <;> rfl
    rw [e] at h
    simp only [RelX, RelD] at ry
    subst ry
    exact op_notN pins s σ H _ _ v' u' Q I rv ru ⟨rfl, by rw [rel_none (G := gd X) rx]; exact (h.pure R).pure R⟩
  · simp only [RelX, RelD] at rx ry
    subst rx ry
    exact op_isnot_bl pins s σ H _ _ v' u' Q I rv ru ⟨a, b, rfl, rfl, (h.pure R).pure R⟩
  · rw [e] at h; exact h.elim
end
end Kd
/-! Dicts. -/
set_option maxHeartbeats 1000000
namespace Kd
open PySem PySem.Spec PyProof.Rows L2
/-! ### keys -/
mutual
theorem key_inj : ∀ d e : D, d.sim = true → e.sim = true → d.key = e.key → d = e
  | .non, e, _, h, q => by cases e <;> simp [D.key, D.sim] at q h <;> rfl
  | .int i, e, _, h, q => by cases e <;> simp [D.key, D.sim] at q h <;> rw [q]
  | .str x, e, _, h, q => by cases e <;> simp [D.key, D.sim] at q h <;> rw [q]
  | .tup ds, e, g, h, q => by
    cases e with
    | tup es =>
      simp only [D.key, NestedKey.tup.injEq] at q
      simp only [D.sim] at g h
      rw [keys_inj ds es g h q]
    | _ => simp [D.key] at q
  | .bl _, _, g, _, _ => by simp [D.sim] at g
  | .loc _, _, g, _, _ => by simp [D.sim] at g
  | .rol _, _, g, _, _ => by simp [D.sim] at g
theorem keys_inj : ∀ d e : List D, D.sims d = true → D.sims e = true → D.keys d = D.keys e → d = e
  | [], e, _, _, q => by cases e <;> simp [D.keys] at q <;> rfl
  | d :: ds, e, g, h, q => by
    cases e with
    | nil => simp [D.keys] at q
    | cons e es =>
      simp only [D.keys, List.cons.injEq] at q
      simp only [D.sims, Bool.and_eq_true] at g h
      rw [key_inj d e g.1 h.1 q.1, keys_inj ds es g.2 h.2 q.2]
end
mutual
theorem key_depth : ∀ d : D, d.key.depth ≤ d.dep
  | .non => Nat.le_refl _
  | .int _ => Nat.le_refl _
  | .str _ => Nat.le_refl _
  | .tup ds => by simp only [D.key, NestedKey.depth, D.dep]; have := keys_depth ds; omega
  | .bl _ => Nat.le_refl _
  | .loc _ => Nat.le_refl _
  | .rol _ => Nat.le_refl _
theorem keys_depth : ∀ ds : List D, NestedKey.depthAll (D.keys ds) ≤ D.deps ds
  | [] => Nat.le_refl _
  | d :: ds => by simp only [D.keys, NestedKey.depthAll, D.deps]; have := key_depth d; have := keys_depth ds; omega
end
theorem tupK_key {k : D} (h : tupK k = true) : k.sim = true ∧ k.key.depth ≤ 8 ∧ ∃ ds, k = .tup ds := by
  cases k with
  | tup ds =>
    simp only [tupK, Bool.and_eq_true, decide_eq_true_eq] at h
    refine ⟨by simpa only [D.sim] using h.1, ?_, ds, rfl⟩
    have := keys_depth ds
    simp only [D.key, NestedKey.depth]
    omega
  | _ => simp [tupK] at h
theorem scalD_key {k : D} (h : scalD k = true) : ∃ q, k = kD q := by
  cases k with
  | int i => exact ⟨.inl i, rfl⟩
  | str x => exact ⟨.inr x, rfl⟩
  | _ => simp [scalD] at h
theorem kD_inj {a b : Key} (h : kD a = kD b) : a = b := by
  cases a <;> cases b <;> simp [kD] at h <;> rw [h]
section
variable {X : Cx} {pins : List (Addr × Obj)} {σ : L2.St} {H : Hp} {s : Shared} {m : List Addr}
mutual
theorem nested_is (I : Inv X pins σ H s) : ∀ (d : D) (v : V) (u : Value), d.sim = true → RelD X.K m H d v → RelV v u → NestedIs s.heap d.key u
  | .non, _, _, _, r, q => by simp only [RelD] at r; subst r; cases q; exact .none
  | .int i, _, _, _, r, q => by simp only [RelD] at r; subst r; obtain ⟨t, rfl⟩ := q; exact .int i t
  | .str i, _, _, _, r, q => by simp only [RelD] at r; subst r; obtain ⟨t, rfl⟩ := q; exact .text i t
  | .bl _, _, _, g, _, _ => by simp [D.sim] at g
  | .loc _, _, _, g, _, _ => by simp [D.sim] at g
  | .rol _, _, _, g, _, _ => by simp [D.sim] at g
  | .tup ds, _, _, g, r, q => by
    simp only [RelD] at r
    obtain ⟨a, vs, rfl, h1, h2⟩ := r
    cases q
    obtain ⟨its, rv, ⟨o, ho, hc, n, hd⟩, z⟩ := I.tuple h1.sq
    simp only [D.sim] at g
    exact .tup ho hc hd (by simpa using nested_all I ds vs its g h2 rv)
theorem nested_all (I : Inv X pins σ H s) : ∀ (ds : List D) (vs : List V) (us : List Value), D.sims ds = true → RelDs X.K m H ds vs → Vals vs us → NestedAll s.heap (D.keys ds) us
  | [], _, _, _, r, q => by simp only [RelDs] at r; subst r; cases q; exact .nil
  | d :: ds, _, _, g, r, q => by
    simp only [RelDs] at r
    obtain ⟨v, vs, rfl, h1, h2⟩ := r
    simp only [D.sims, Bool.and_eq_true] at g
    cases q with
    | cons r1 r2 => exact .cons (nested_is I d v _ g.1 h1 r1) (nested_all I ds vs _ g.2 h2 r2)
end
theorem key_is (I : Inv X pins σ H s) {d : D} {b : Addr} (ht : tupK d = true) (r : RelD X.K m H d (.ref b)) : (nestedKind X.prog X.w).is s.heap d.key b :=
  ⟨nested_is I d (.ref b) (.ref b) (tupK_key ht).1 r rfl, (tupK_key ht).2.1⟩
theorem raw_of (I : Inv X pins σ H s) {a : Addr} {es : List DictEntry} (e : H a = some (RawD a es)) : ∃ o ep, s.heap.get? a = some o ∧ o.ExactDict ∧ o.data = .dict es.toArray ep := (I.hok a _ e).1
theorem dct_s (I : Inv X pins σ H s) {a : Addr} {kvs : List (D × D)} {es : List DictEntry} {vs : List (Key × Value)} (e : H a = some (RawD a es)) (h : DctS (gd X) m H kvs es vs) : s.heap.DictOf (mixKind X.prog X.w) a vs := by
  obtain ⟨o, ep, h1, h2, h3⟩ := raw_of I e
  exact ⟨o, es.toArray, ep, h1, h2, h3, h.keys, by simpa using h.pairs, h.nd⟩
theorem dct_t (I : Inv X pins σ H s) {a : Addr} {kvs : List (D × D)} {es : List DictEntry} {xs : List (NestedKey × Addr × Value)} (e : H a = some (RawD a es)) (h : DctT (gd X) m H kvs es xs) : s.heap.DictOfH (nestedKind X.prog X.w) a xs := by
  obtain ⟨o, ep, h1, h2, h3⟩ := raw_of I e
  refine ⟨o, es.toArray, ep, h1, h2, h3, by simpa using h.ents, fun x hx => ?_, h.nd⟩
  have all : ∀ {l : List (D × D)} {n : List (NestedKey × Addr × Value)}, Paired (RelEt X.K m H) l n → ∀ x ∈ n, (nestedKind X.prog X.w).is s.heap x.1 x.2.1 := by
    intro l n q
    induction q with
    | nil => intro x hx; exact nomatch hx
    | @cons p q ps qs hq t ih =>
      intro x hx
      rcases List.mem_cons.mp hx with e | hx
      · subst e
        obtain ⟨e1, e2, e3, _⟩ := hq
        rw [e1]
        exact key_is I e2 e3
      · exact ih x hx
  exact all h.rel x hx
end
/-! ### looking -/
/-- what is looked up -/
def RelL (K : PySem.W.Frag) (m : List Addr) (H : Hp) : Option D → Option Value → Prop
  | none, none => True
  | some d, some u => ∃ v, RelV v u ∧ RelD K m H d v
  | _, _ => False
section
variable {K : PySem.W.Frag} {m : List Addr} {H : Hp}
theorem look_s {kvs : List (D × D)} {vs : List (Key × Value)} (r : Paired (RelEs K m H) kvs vs) (k : Key) : RelL K m H (look kvs (kD k)) (valueAt vs k) := by
  induction r with
  | nil => trivial
  | @cons p q ps qs h t ih =>
    obtain ⟨h1, h2⟩ := h
    by_cases e : q.1 = k
    · have a : look (p :: ps) (kD k) = some p.2 := by simp [look, h1, e]
      have b : valueAt (q :: qs) k = some q.2 := by simp [valueAt, e]
      rw [a, b]; exact h2
    · have e' : ¬ p.1 = kD k := fun z => e (kD_inj (h1.symm.trans z))
      have a : look (p :: ps) (kD k) = look ps (kD k) := by simp [look, e']
      have b : valueAt (q :: qs) k = valueAt qs k := by simp [valueAt, e]
      rw [a, b]; exact ih
theorem look_t {kvs : List (D × D)} {xs : List (NestedKey × Addr × Value)} (r : Paired (RelEt K m H) kvs xs) {k : D} (hk : tupK k = true) : RelL K m H (look kvs k) (valueAt (pairsH xs) k.key) := by
  induction r with
  | nil => trivial
  | @cons p q ps qs h t ih =>
    obtain ⟨h1, h2, h3, h4⟩ := h
    by_cases e : p.1 = k
    · have a : look (p :: ps) k = some p.2 := by simp [look, e]
      have b : valueAt (pairsH (q :: qs)) k.key = some q.2.2 := by simp [valueAt, pairsH, h1, e]
      rw [a, b]; exact h4
    · have e' : ¬ q.1 = k.key := fun z => e (key_inj _ _ (tupK_key h2).1 (tupK_key hk).1 (h1.symm.trans z))
      have a : look (p :: ps) k = look ps k := by simp [look, e]
      have b : valueAt (pairsH (q :: qs)) k.key = valueAt (pairsH qs) k.key := by simp [valueAt, pairsH, e']
      rw [a, b]; exact ih
theorem RelL.isSome {o : Option D} {u : Option Value} (h : RelL K m H o u) : o.isSome = u.isSome := by
  cases o <;> cases u <;> first | rfl | exact h.elim
end
/-! ### storing -/
theorem put_len (kvs : List (D × D)) (k d : D) : (putD kvs k d).length ≤ kvs.length + 1 := by
  unfold putD; split <;> simp
section
variable {K : PySem.W.Frag} {m : List Addr} {H : Hp}
theorem any_s {kvs : List (D × D)} {vs : List (Key × Value)} (r : Paired (RelEs K m H) kvs vs) (k : Key) : (kvs.any fun p => decide (p.1 = kD k)) = vs.any fun q => decide (q.1 = k) := by
  induction r with
  | nil => rfl
  | @cons p q ps qs h t ih =>
    rw [List.any_cons, List.any_cons, ih, h.1]
    congr 1
    exact decide_eq_decide.mpr ⟨fun e => kD_inj e, fun e => by rw [e]⟩
theorem put_s {kvs : List (D × D)} {vs : List (Key × Value)} (r : Paired (RelEs K m H) kvs vs) (k : Key) {d : D} {v : V} {u : Value} (rd : RelD K m H d v) (ru : RelV v u) :
    Paired (RelEs K m H) (putD kvs (kD k) d) (stored vs k u) := by
  unfold putD stored
  rw [any_s r k]
  by_cases q : (vs.any fun q => decide (q.1 = k)) = true
  · rw [if_pos q, if_pos q]
    clear q
    induction r with
    | nil => exact .nil
    | @cons p q ps qs h t ih =>
      rw [List.map_cons, List.map_cons]
      refine .cons ?_ ih
      by_cases e : q.1 = k
      · have e' : p.1 = kD k := by rw [h.1, e]
        rw [if_pos e, if_pos e']
        exact ⟨h.1, v, ru, rd⟩
      · have e' : ¬ p.1 = kD k := fun z => e (kD_inj (h.1.symm.trans z))
        rw [if_neg e, if_neg e']
        exact h
  · rw [if_neg q, if_neg q]
    exact Paired.snoc r ⟨rfl, v, ru, rd⟩
theorem any_t {kvs : List (D × D)} {xs : List (NestedKey × Addr × Value)} (r : Paired (RelEt K m H) kvs xs) {k : D} (hk : tupK k = true) : (kvs.any fun p => decide (p.1 = k)) = (atKey xs k.key).isSome := by
  induction r with
  | nil => rfl
  | @cons p q ps qs h t ih =>
    obtain ⟨h1, h2, h3, h4⟩ := h
    rw [List.any_cons, ih]
    by_cases e : p.1 = k
    · have e' : q.1 = k.key := by rw [h1, e]
      simp [atKey, List.find?_cons, e, e']
    · have e' : ¬ q.1 = k.key := fun z => e (key_inj _ _ (tupK_key h2).1 (tupK_key hk).1 (h1.symm.trans z))
      simp [atKey, List.find?_cons, e, e']
theorem put_t {kvs : List (D × D)} {xs : List (NestedKey × Addr × Value)} (r : Paired (RelEt K m H) kvs xs) {k : D} (hk : tupK k = true) {b : Addr} (rk : RelD K m H k (.ref b)) {d : D} {v : V} {u : Value} (rd : RelD K m H d v) (ru : RelV v u) :
    Paired (RelEt K m H) (putD kvs k d) (storedH xs k.key b u) := by
  unfold putD storedH
  rw [any_t r hk]
  by_cases q : (atKey xs k.key).isSome = true
  · rw [if_pos q, if_pos q]
    clear q
    induction r with
    | nil => exact .nil
    | @cons p q ps qs h t ih =>
      rw [List.map_cons, List.map_cons]
      refine .cons ?_ ih
      obtain ⟨h1, h2, h3, h4⟩ := h
      unfold putAt
      by_cases e : p.1 = k
      · have e' : q.1 = k.key := by rw [h1, e]
        rw [if_pos e, if_pos e']
        exact ⟨h1, h2, h3, v, ru, rd⟩
      · have e' : ¬ q.1 = k.key := fun z => e (key_inj _ _ (tupK_key h2).1 (tupK_key hk).1 (h1.symm.trans z))
        rw [if_neg e, if_neg e']
        exact ⟨h1, h2, h3, h4⟩
  · rw [if_neg q, if_neg q]
    exact Paired.snoc r ⟨rfl, hk, rk, v, ru, rd⟩
/-- of which kind a key is, beside those that stand -/
theorem all_s {kvs : List (D × D)} {vs : List (Key × Value)} (r : Paired (RelEs K m H) kvs vs) : (kvs.all fun p => scalD p.1) = true := by
  induction r with
  | nil => rfl
  | @cons p q ps qs h t ih =>
    rw [List.all_cons, ih, h.1]
    cases q.1 <;> rfl
theorem all_t {kvs : List (D × D)} {xs : List (NestedKey × Addr × Value)} (r : Paired (RelEt K m H) kvs xs) : (kvs.all fun p => tupK p.1) = true := by
  induction r with
  | nil => rfl
  | @cons p q ps qs h t ih => rw [List.all_cons, ih, h.2.1]; rfl
theorem scal_tup {k : D} (h : scalD k = true) : tupK k = false := by cases k <;> first | rfl | simp [scalD] at h
end
section
variable {G : Gd} {m : List Addr} {H : Hp} {a : Addr} {kvs : List (D × D)}
/-- the empty dict is of either kind -/
theorem dct_nil_s {es : List DictEntry} {xs : List (NestedKey × Addr × Value)} (h : DctT G m H [] es xs) : es = [] := by
  have := h.rel
  cases this
  exact h.ents
theorem dct_nil_t {es : List DictEntry} {vs : List (Key × Value)} (h : DctS G m H [] es vs) : es = [] := by
  have := h.rel
  cases this
  have := h.pairs
  cases this
  rfl
theorem dctS_nil : DctS G m H [] [] [] := ⟨fun e he => by simp at he, .nil, .nil, .nil⟩
theorem dctT_nil : DctT G m H [] [] [] := ⟨rfl, .nil, .nil⟩
/-- a dict and a key that may be asked for -/
theorem dct_kind {es : List DictEntry} {k : D} (hk : keyOk kvs k = true) (h : (∃ vs, DctS G m H kvs es vs) ∨ ∃ xs, DctT G m H kvs es xs) :
    (∃ q vs, k = kD q ∧ DctS G m H kvs es vs) ∨ (tupK k = true ∧ ∃ xs, DctT G m H kvs es xs) := by
  simp only [keyOk, Bool.or_eq_true, Bool.and_eq_true] at hk
  rcases h with ⟨vs, h⟩ | ⟨xs, h⟩
  · rcases hk with ⟨h1, h2⟩ | ⟨h1, h2⟩
    · obtain ⟨q, rfl⟩ := scalD_key h1
      exact .inl ⟨q, vs, rfl, h⟩
    · cases kvs with
      | nil => have e := dct_nil_t h; subst e; exact .inr ⟨h1, [], dctT_nil⟩
      | cons p ps =>
        have := all_s h.rel
        simp only [List.all_cons, Bool.and_eq_true] at this h2
        rw [scal_tup this.1] at h2
        exact absurd h2.1 Bool.false_ne_true
  · rcases hk with ⟨h1, h2⟩ | ⟨h1, h2⟩
    · cases kvs with
      | nil => have e := dct_nil_s h; subst e; obtain ⟨q, rfl⟩ := scalD_key h1; exact .inl ⟨q, [], rfl, dctS_nil⟩
      | cons p ps =>
        have := all_t h.rel
        simp only [List.all_cons, Bool.and_eq_true] at this h2
        rw [scal_tup h2.1] at this
        exact absurd this.1 Bool.false_ne_true
    · exact .inr ⟨h1, xs, h⟩
end
theorem kD_rel {K : PySem.W.Frag} {m : List Addr} {H : Hp} {q : Key} {v : V} (r : RelD K m H (kD q) v) : v = kV q := by cases q <;> exact r
theorem tupK_rel {K : PySem.W.Frag} {m : List Addr} {H : Hp} {k : D} {v : V} (h : tupK k = true) (r : RelD K m H k v) : ∃ b, v = .ref b := by
  obtain ⟨_, _, ds, rfl⟩ := tupK_key h
  simp only [RelD] at r
  obtain ⟨a, vs, rfl, _⟩ := r
  exact ⟨a, rfl⟩
section
variable {X : Cx} {pins : List (Addr × Obj)} {σ : L2.St} {H : Hp} {s : Shared} {m : List Addr} {a : Addr} {kvs : List (D × D)} {es : List DictEntry} {k : D} {v : V} {u : Value} {A : Around} {E : Value → Shared → Prop}
abbrev Dcts (G : Gd) (m : List Addr) (H : Hp) (kvs : List (D × D)) (es : List DictEntry) : Prop := (∃ vs, DctS G m H kvs es vs) ∨ ∃ xs, DctT G m H kvs es xs
theorem room_n (hu : A.units + 20 < cLine) : (nestedKind X.prog X.w).room A.in1 := by show A.units + 1 + 8 < cLine; omega
/-- d[k], there -/
theorem kd_getItem (hu : A.units + 20 < cLine) (I : Inv X pins σ H s) (e : H a = some (RawD a es)) (d : Dcts (gd X) m H kvs es) (hk : keyOk kvs k = true) {x : D} (hl : look kvs k = some x) (rk : RelD X.K m H k v) (ru : RelV v u) {Q : Value → Shared → Prop}
    (h : ∀ y u' s', Inv X pins σ H s' → RelV y u' → RelD X.K m H x y → Q u' s') : wpAny (model X.prog X.w) A (getItem (.ref a) u) Q E s := by
  rcases dct_kind hk d with ⟨q, vs, rfl, d⟩ | ⟨ht, xs, d⟩
  · cases kD_rel rk
    have l := look_s d.rel q
    rw [hl] at l
    cases ev : valueAt vs q with
    | none => rw [ev] at l; exact l.elim
    | some u' =>
      rw [ev] at l
      obtain ⟨y, r1, r2⟩ := l
      exact wpAny_getItem_of (kV_is ru) (dct_s I e d).mapOf ev (h y u' _ (I.tok _) r1 r2)
  · obtain ⟨b, rfl⟩ := tupK_rel ht rk
    cases ru
    have l := look_t d.rel ht
    rw [hl] at l
    cases ev : valueAt (pairsH xs) k.key with
    | none => rw [ev] at l; exact l.elim
    | some u' =>
      rw [ev] at l
      obtain ⟨y, r1, r2⟩ := l
      exact getItem_keyed (room_n hu) (key_is I ht rk) ⟨xs, dct_t I e d, rfl⟩ ev (h y u' _ (I.tok _) r1 r2)
theorem kd_in (hu : A.units + 20 < cLine) (I : Inv X pins σ H s) (e : H a = some (RawD a es)) (ha : (a == sysModules) = false) (d : Dcts (gd X) m H kvs es) (hk : keyOk kvs k = true) (rk : RelD X.K m H k v) (ru : RelV v u) {Q : Value → Shared → Prop}
    (h : ∀ s', Inv X pins σ H s' → Q (.bool (look kvs k).isSome) s') : wpAny (model X.prog X.w) A (compareOp .In u (.ref a)) Q E s := by
  rcases dct_kind hk d with ⟨q, vs, rfl, d⟩ | ⟨ht, xs, d⟩
  · cases kD_rel rk
    refine wpAny_in_of (kV_is ru) ha (dct_s I e d).mapOf ?_
    rw [← (look_s d.rel q).isSome]
    exact h _ (I.tok _)
  · obtain ⟨b, rfl⟩ := tupK_rel ht rk
    cases ru
    refine in_keyed (room_n hu) (key_is I ht rk) ha ⟨xs, dct_t I e d, rfl⟩ ?_
    rw [← (look_t d.rel ht).isSome]
    exact h _ (I.tok _)
theorem kd_notIn (hu : A.units + 20 < cLine) (I : Inv X pins σ H s) (e : H a = some (RawD a es)) (ha : (a == sysModules) = false) (d : Dcts (gd X) m H kvs es) (hk : keyOk kvs k = true) (rk : RelD X.K m H k v) (ru : RelV v u) {Q : Value → Shared → Prop}
    (h : ∀ s', Inv X pins σ H s' → Q (.bool (!(look kvs k).isSome)) s') : wpAny (model X.prog X.w) A (compareOp .NotIn u (.ref a)) Q E s := by
  rcases dct_kind hk d with ⟨q, vs, rfl, d⟩ | ⟨ht, xs, d⟩
  · cases kD_rel rk
    refine wpAny_notIn_of (kV_is ru) ha (dct_s I e d).mapOf ?_
    rw [← (look_s d.rel q).isSome]
    exact h _ (I.tok _)
  · obtain ⟨b, rfl⟩ := tupK_rel ht rk
    cases ru
    refine notIn_keyed (room_n hu) (key_is I ht rk) ha ⟨xs, dct_t I e d, rfl⟩ ?_
    rw [← (look_t d.rel ht).isSome]
    exact h _ (I.tok _)
/-- a raw dict is written -/
theorem kd_write {h' : Heap} {t' : Nat} {es' : List DictEntry} {ep : Nat} {o : Obj} (I : Inv X pins σ H s) (e : H a = some (RawD a es)) (hs : Heap.SameBut a s.heap h') (h1 : h'.get? a = some o) (h2 : o.ExactDict) (h3 : o.data = .dict es'.toArray ep) :
    Inv X pins σ (upd H a (RawD a es')) { s with heap := h', toks := t' } := by
  refine I.write (x := a) (e := a) (by rw [e]; trivial) (.inl rfl) (fun b q hb z => (hs.2 b hb).trans z) ⟨o, h1⟩ ⟨⟨o, ep, h1, h2, h3⟩, ⟨o, h1⟩, ?_⟩
  rintro g1 g2 ⟨o', ep', q1, q2, q3⟩ k
  exact ⟨o', ep', k o' q1, q2, q3⟩
/-- d[k] = x -/
theorem kd_setItem (hu : A.units + 20 < cLine) (I : Inv X pins σ H s) (e : H a = some (RawD a es)) (d : Dcts (gd X) m H kvs es) (hz : kvs.length < sizeLine) (hk : keyOk kvs k = true) (rk : RelD X.K m H k v) (ru : RelV v u) {x : D} {y : V} {r : Value} (rx : RelD X.K m H x y) (ry : RelV y r)
    (ha : a ∈ m) {Q : Unit → Shared → Prop} (h : ∀ es' s', Inv X pins σ (upd H a (RawD a es')) s' → Dcts (gd X) m (upd H a (RawD a es')) (putD kvs k x) es' → Q () s') : wpAny (model X.prog X.w) A (setItem (.ref a) u r) Q E s := by
  have ext : ∀ es', Ext m H m (upd H a (RawD a es')) := fun es' => ext_write ha e (by rw [e]; trivial)
  rcases dct_kind hk d with ⟨q, vs, rfl, d⟩ | ⟨ht, xs, d⟩
  · cases kD_rel rk
    have hz' : vs.length ≤ sizeLine := by rw [← Paired.length d.rel]; omega
    refine wpAny_setItem_pairs (hsz := hz') (kV_is ru) (dct_s I e d) fun h' dd' hs => ?_
    obtain ⟨o, es', ep, h1, h2, h3, h4, h5, h6⟩ := dd'
    refine h es'.toList _ (kd_write I e hs h1 h2 (by simpa using h3)) (.inl ⟨_, by simpa using h4, h5, h6, ?_⟩)
    exact Paired.mapP (put_s d.rel q rx ry) fun _ _ ⟨z1, z2, z3, z4⟩ => ⟨z1, z2, z3, z4.ext (ext _)⟩
  · obtain ⟨b, rfl⟩ := tupK_rel ht rk
    cases ru
    have hz' : xs.length ≤ sizeLine := by rw [← Paired.length d.rel]; omega
    refine wpAny_setItem_heap (hsz := hz') (room_n hu) (key_is I ht rk) (dct_t I e d) fun h' dd' hs => ?_
    obtain ⟨o, es', ep, h1, h2, h3, h4, h5, h6⟩ := dd'
    refine h es'.toList _ (kd_write I e hs h1 h2 (by simpa using h3)) (.inr ⟨_, h4, h6, ?_⟩)
    exact Paired.mapP (put_t d.rel ht rk rx ry) fun _ _ ⟨z1, z2, z3, z4, z5, z6⟩ => ⟨z1, z2, z3.ext (ext _), z4, z5, z6.ext (ext _)⟩
end
end Kd
/-! len, truth, get, {} of dicts. -/
set_option maxHeartbeats 1000000
namespace Kd
open PySem PySem.Spec PyProof.Rows L2
section
variable {prog : Program} {w : World} {A : Around} {E : Value → Shared → Prop} {s : Shared} {d : Addr} {kvs : List (NestedKey × Value)}
theorem len_run {Q : Value → Shared → Prop} (hd : (d == sysModules) = false) (hm : s.heap.DictKeyed (nestedKind prog w) d kvs) (hfit : (kvs.length : Int) < 2 ^ 63) (h : ∀ t t', Q (.int kvs.length t) { s with toks := t' }) :
    wpAny (model prog w) A (Builtin.«len» ⟨[.ref d], []⟩) (fun f s' => ∃ r, f = .done (.ret r) ∧ Q r s') E s := by
  have two : wpAny (model prog w) A (call (.builtin "dict.__len__") [.ref d]) (fun r s' => r = .int kvs.length s.toks ∧ s' = { s with toks := s.toks + 1 }) E s := len_keyed hd hm ⟨rfl, rfl⟩
  unfold Builtin.«len»
  apply wpAny_bind (m := oneArg "len" _)
  apply wpAny_pure
  apply wpAny_bind (m := callSpecial? (.ref d) (Str.ofString "__len__"))
  apply wpAny_callSpecial?_slot (name := Str.ofString "__len__") hm.typeIs F.slot_dict_len
  refine wpAny_mono two (fun r s' q => ?_) fun _ _ e => e
  obtain ⟨rfl, rfl⟩ := q
  apply wpAny_bind
  apply wpAny_holding
  apply wpAny_pure
  apply wpAny_bind
  apply wpAny_letGo
  have n0 : ¬ ((kvs.length : Nat) : Int) < 0 := by omega
  have n1 : ¬ ((kvs.length : Nat) : Int) ≥ 2 ^ 63 := by omega
  simp only [n0, n1, if_false]
  apply wpAny_bind
  apply wpAny_mkInt
  exact wpAny_pure ⟨_, rfl, h _ _⟩
theorem len_callT {Q : Value → Shared → Prop} (hd : (d == sysModules) = false) (hm : s.heap.DictKeyed (nestedKind prog w) d kvs) (hfit : (kvs.length : Int) < 2 ^ 63) (h : ∀ t t', Q (.int kvs.length t) { s with toks := t' }) :
    wpAny (model prog w) A (call (.builtin "len") [.ref d]) Q E s := Calls.call_function_entry kind_len plain_len entry_len (args_len1 _) (len_run hd hm hfit h)
theorem truth_callT {Q : Bool → Shared → Prop} (hd : (d == sysModules) = false) (hm : s.heap.DictKeyed (nestedKind prog w) d kvs) (hfit : (kvs.length : Int) < 2 ^ 63) (h : ∀ t', Q (!kvs.isEmpty) { s with toks := t' }) :
    wpAny (model prog w) A (truthy (.ref d)) Q E s := by
  have e0 : ((kvs.length : Int) != 0) = !kvs.isEmpty := by cases kvs <;> simp <;> omega
  have one : wpAny (model prog w) A (runValue (.builtin "len" ⟨[.ref d], []⟩)) (fun r s' => (∃ t, r = .int kvs.length t) ∧ Q (!kvs.isEmpty) s') E s := by
    apply wpAny_runValue
    apply codeAny_builtin entry_len
    rw [Around.under_plainId plain_len _]
    refine wpAny_mono (len_run (Q := fun r s' => (∃ t, r = .int kvs.length t) ∧ Q (!kvs.isEmpty) s') hd hm hfit fun t t' => ⟨⟨t, rfl⟩, h t'⟩) (fun f s' q => ?_) fun _ _ e => e
    obtain ⟨r, rfl, q⟩ := q
    exact q
  unfold truthy
  refine wpAny_bind ?_
  refine wpAny_callSpecial?_none (name := Str.ofString "__bool__") hm.typeIs noBool_dict ?_
  refine wpAny_bind ?_
  refine wpAny_specialOf (name := Str.ofString "__len__") hm.typeIs F.slot_dict_len.lookup ?_
  refine wpAny_bind (wpAny_mono one (fun r s' q => ?_) fun _ _ e => e)
  obtain ⟨⟨t, rfl⟩, q⟩ := q
  exact wpAny_pure (e0 ▸ q)
end
section
variable {X : Cx} {pins : List (Addr × Obj)} {σ : L2.St} {H : Hp} {s : Shared} {m : List Addr} {a : Addr} {kvs : List (D × D)} {es : List DictEntry} {k : D} {v : V} {u : Value} {A : Around} {E : Value → Shared → Prop}
theorem fit63 {n : Nat} (h : n ≤ sizeLine) : (n : Int) < 2 ^ 63 := by rw [sizeLine_eq] at h; omega
theorem kd_len (I : Inv X pins σ H s) (e : H a = some (RawD a es)) (ha : (a == sysModules) = false) (hz : kvs.length ≤ sizeLine) (d : Dcts (gd X) m H kvs es) {Q : Value → Shared → Prop} (h : ∀ t s', Inv X pins σ H s' → Q (.int kvs.length t) s') :
    wpAny (model X.prog X.w) A (call (.builtin "len") [.ref a]) Q E s := by
  rcases d with ⟨vs, d⟩ | ⟨xs, d⟩
  · have hl : kvs.length = vs.length := Paired.length d.rel
    refine call_len_dict ha (dct_s I e d) (by rw [← hl]; exact fit63 hz) ?_
    rw [← hl]
    exact h _ _ (I.tok _)
  · have hl : kvs.length = (pairsH xs).length := (Paired.length d.rel).trans (pairsH_length xs).symm
    refine len_callT ha ⟨xs, dct_t I e d, rfl⟩ (by rw [← hl]; exact fit63 hz) fun t t' => ?_
    rw [← hl]
    exact h _ _ (I.tok _)
theorem kd_truth (I : Inv X pins σ H s) (e : H a = some (RawD a es)) (ha : (a == sysModules) = false) (hz : kvs.length ≤ sizeLine) (d : Dcts (gd X) m H kvs es) {Q : Bool → Shared → Prop} (h : ∀ s', Inv X pins σ H s' → Q (!kvs.isEmpty) s') :
    wpAny (model X.prog X.w) A (truthy (.ref a)) Q E s := by
  rcases d with ⟨vs, d⟩ | ⟨xs, d⟩
  · have hl : kvs.length = vs.length := Paired.length d.rel
    have hb : kvs.isEmpty = vs.isEmpty := by cases d.rel <;> rfl
    refine wpAny_truthy_dict ha (dct_s I e d) (by rw [← hl]; exact fit63 hz) ?_
    rw [← hb]
    exact h _ (I.tok _)
  · have hl : kvs.length = (pairsH xs).length := (Paired.length d.rel).trans (pairsH_length xs).symm
    have hb : kvs.isEmpty = (pairsH xs).isEmpty := by cases d.rel <;> rfl
    refine truth_callT ha ⟨xs, dct_t I e d, rfl⟩ (by rw [← hl]; exact fit63 hz) fun t' => ?_
    rw [← hb]
    exact h _ (I.tok _)
theorem RelL.getD {K : PySem.W.Frag} {m : List Addr} {H : Hp} {o : Option D} {o' : Option Value} (l : RelL K m H o o') {x : D} {y : V} {r : Value} (rx : RelD K m H x y) (ry : RelV y r) : ∃ z, RelV z (o'.getD r) ∧ RelD K m H (o.getD x) z := by
  cases o <;> cases o' <;> first
    | exact ⟨y, ry, rx⟩
    | exact l.elim
    | exact l
/-- d.get(k, x) -/
theorem kd_get2 (hu : A.units + 20 < cLine) (I : Inv X pins σ H s) (e : H a = some (RawD a es)) (ha : (a == sysModules) = false) (d : Dcts (gd X) m H kvs es) (hk : keyOk kvs k = true) (rk : RelD X.K m H k v) (ru : RelV v u) {x : D} {y : V} {r : Value} (rx : RelD X.K m H x y) (ry : RelV y r) {Q : Value → Shared → Prop}
    (h : ∀ y u' s', Inv X pins σ H s' → RelV y u' → RelD X.K m H ((look kvs k).getD x) y → Q u' s') : wpAny (model X.prog X.w) A (call (.builtin "dict.get") [.ref a, u, r]) Q E s := by
  rcases dct_kind hk d with ⟨q, vs, rfl, d⟩ | ⟨ht, xs, d⟩
  · cases kD_rel rk
    obtain ⟨z, r1, r2⟩ := (look_s d.rel q).getD rx ry
    have dd := dct_s I e d
    exact call_meetsIn PySem.F.slot_dict_get dd.typeIs PySem.F.entry_dict_get (PySem.F.args_dict_get_3 _ _ _) (meets_dict_get_default (mixKind X.prog X.w) a (kV_is ru) ha r) ⟨_, dd.mapOf, h z _ _ (I.tok _) r1 r2⟩
  · obtain ⟨b, rfl⟩ := tupK_rel ht rk
    cases ru
    obtain ⟨z, r1, r2⟩ := (look_t d.rel ht).getD rx ry
    exact getOr_keyed (room_n hu) (key_is I ht rk) ha ⟨xs, dct_t I e d, rfl⟩ (h z _ _ (I.tok _) r1 r2)
theorem kd_get1 (hu : A.units + 20 < cLine) (I : Inv X pins σ H s) (e : H a = some (RawD a es)) (ha : (a == sysModules) = false) (d : Dcts (gd X) m H kvs es) (hk : keyOk kvs k = true) (rk : RelD X.K m H k v) (ru : RelV v u) {Q : Value → Shared → Prop}
    (h : ∀ y u' s', Inv X pins σ H s' → RelV y u' → RelD X.K m H ((look kvs k).getD .non) y → Q u' s') : wpAny (model X.prog X.w) A (call (.builtin "dict.get") [.ref a, u]) Q E s := by
  rcases dct_kind hk d with ⟨q, vs, rfl, d⟩ | ⟨ht, xs, d⟩
  · cases kD_rel rk
    obtain ⟨z, r1, r2⟩ := (look_s d.rel q).getD (x := .non) (y := .non) (r := .none) rfl rfl
    have dd := dct_s I e d
    exact call_meetsIn PySem.F.slot_dict_get dd.typeIs PySem.F.entry_dict_get (PySem.F.args_dict_get_2 _ _) (meets_dict_get (mixKind X.prog X.w) a (kV_is ru) ha) ⟨_, dd.mapOf, h z _ _ (I.tok _) r1 r2⟩
  · obtain ⟨b, rfl⟩ := tupK_rel ht rk
    cases ru
    obtain ⟨z, r1, r2⟩ := (look_t d.rel ht).getD (x := .non) (y := .non) (r := .none) rfl rfl
    exact get_keyed (room_n hu) (key_is I ht rk) ha ⟨xs, dct_t I e d, rfl⟩ (h z _ _ (I.tok _) r1 r2)
/-- {} -/
theorem kd_new {Q : VK} (I : Inv X pins σ H s) (h : ∀ p, H p = none → (p == sysModules) = false → Q (.ref p) (upd H p (RawD p []))) {pos : Pos} : wpAny (model X.prog X.w) X.A (eval (.Dict [] [] pos) X.env) (EP X pins σ Q) X.xe s := by
  have hb : (s.heap.objs.size == sysModules) = false := beq_eq_false_iff_ne.mpr (Nat.ne_of_gt I.big)
  refine wpAny_Dict_empty ⟨.ref s.heap.objs.size, _, I.laid (a := s.heap.objs.size) (o := RawD s.heap.objs.size []) (t' := s.toks) (fun _ _ q => Heap.get?_push_of_some _ q) (Nat.le_refl _) ?_, rfl, h _ (I.hok.fresh (Nat.le_refl _)) hb⟩
  refine ⟨⟨_, 0, Heap.get?_push_size _ rfl, ⟨rfl, rfl, rfl⟩, rfl⟩, ⟨_, Heap.get?_push_size _ rfl⟩, ?_⟩
  rintro g1 g2 ⟨o', ep', q1, q2, q3⟩ k
  exact ⟨o', ep', k o' q1, q2, q3⟩
end
section
variable {X : Cx}
/-! ### truth -/
def rTr (G : Gd) : V → Hp → (Bool → Hp → Prop) → Prop := fun v H Q => ∃ (T : Cls') (Y : XK) (m : List Addr) (S : Sto) (x : Kd.X), RelS G m H S ∧ RelX G.K m H x v ∧ Pst G T Y m H (truX x S) (fun _ H' _ b => Q b H')
theorem tru_okK : TruR X (rTr (gd X)) := by
  intro pins s σ H v v' Q I rv ⟨T, Y, m, S, x, R, rx, h⟩
  have go : ∀ {k : Bool}, TruV X.K v H k → Q k H → wpAny (model X.prog X.w) X.A (truthy v') (TP X pins σ Q) X.xe s := fun {k} t q => tru_ok pins s σ H v v' Q I rv ⟨k, t, q⟩
  have hb : ∀ {ds : List D} {vs : List V}, RelDs X.K m H ds vs → (!ds.isEmpty) = !vs.isEmpty := fun {ds vs} r => by
    cases ds <;> cases vs <;> first | rfl | (have := r.length; simp at this)
  cases x with
  | tl ds =>
    obtain ⟨a, vs, rfl, h1, h2, h3, h4⟩ := rx
    exact go (k := !ds.isEmpty) (.inl ⟨vs, .inl (.inl h1), hb h3⟩) (h m H Ext.refl R)
  | dv d =>
    cases d with
    | non => cases (show v = .non from rx); exact go (k := false) rfl (h m H Ext.refl R)
    | bl b => cases (show v = .bl b from rx); exact go (k := b) rfl (h m H Ext.refl R)
    | int i => cases (show v = .int i from rx); exact go (k := i != 0) rfl (h m H Ext.refl R)
    | str z =>
      cases (show v = .str z from rx)
      simp only [truX] at h
      by_cases hz : z.length ≤ sizeLine
      · rw [if_pos hz] at h; exact go (k := z.length != 0) ⟨hz, by rw [Bool.eq_iff_iff]; simp⟩ (h m H Ext.refl R)
      · rw [if_neg hz] at h; exact h.elim
    | tup ds =>
      simp only [RelX, RelD] at rx
      obtain ⟨a, vs, rfl, h1, h2⟩ := rx
      exact go (k := !ds.isEmpty) (.inr (.inl ⟨vs, h1.sq, hb h2⟩)) (h m H Ext.refl R)
    | rol ns =>
      simp only [RelX, RelD] at rx
      obtain ⟨a, rfl, h1⟩ := rx
      exact go (k := !ns.isEmpty) (.inl ⟨_, h1.sq, by cases ns <;> rfl⟩) (h m H Ext.refl R)
    | loc l =>
      simp only [RelX, RelD] at rx
      obtain ⟨a, rfl, h1⟩ := rx
      obtain ⟨ob, e, q⟩ := R.at_ h1
      simp only [truX, e] at h
      cases ob with
      | lst ds =>
        obtain ⟨vs, h2, h3, h4⟩ := q
        exact go (k := !ds.isEmpty) (.inl ⟨vs, .inl (.inl h2), hb h3⟩) (h m H Ext.refl R)
      | dct kvs =>
        obtain ⟨es, h2, h3, h4, h5⟩ := q
        have ev : v' = .ref a := rv
        subst ev
        exact kd_truth I h2 h3 h4 h5 fun s' I' => ⟨H, I', h m H Ext.refl R⟩
      | ins c fs => exact q.elim
end
end Kd
/-! in, subscripts, slices, methods, built-ins. -/
set_option maxHeartbeats 1000000
namespace Kd
open PySem PySem.Spec PyProof.Rows L2
section
variable {G : Gd} {T : Cls'} {Y : XK} {m m' : List Addr} {H H' : Hp} {S : Sto} {Q : VK}
theorem items_sq {β : Type} {x : Kd.X} {v : V} {f : List D → M β} {k : List Addr → Hp → Sto → β → Prop} (h : Pst G T Y m H ((items x >>= f) S) k) (R : RelS G m H S) (r : RelX G.K m H x v) :
    ∃ ds a vs, v = .ref a ∧ (SqL G.K H a vs ∨ SqT G.K H a vs) ∧ RelDs G.K m H ds vs ∧ Pst G T Y m H (f ds S) k := by
  obtain ⟨ds, a, vs, h1, h2, h3, h4⟩ := items_ok h R r
  exact ⟨ds, a, vs, h1, h2.imp (fun z => z) (fun z => z.2.sq), h3, h4⟩
/-- a dict of the store -/
theorem isDct_rel {x : Kd.X} {v : V} {kvs : List (D × D)} (e : isDct S x = some kvs) (R : RelS G m H S) (r : RelX G.K m H x v) : ∃ l a es, x = .dv (.loc l) ∧ m[l]? = some a ∧ v = .ref a ∧ S[l]? = some (.dct kvs) ∧ H a = some (RawD a es) ∧ (a == sysModules) = false ∧ kvs.length ≤ sizeLine ∧ Dcts G m H kvs es := by
  cases x with
  | tl ds => simp [isDct] at e
  | dv d =>
    cases d with
    | loc l =>
      simp only [RelX, RelD] at r
      obtain ⟨a, rfl, h1⟩ := r
      obtain ⟨ob, e1, q⟩ := R.at_ h1
      simp only [isDct, e1] at e
      cases ob with
      | dct kvs' =>
        simp only [Option.some.injEq] at e
        subst e
        obtain ⟨es, h2, h3, h4, h5⟩ := q
        exact ⟨l, a, es, rfl, h1, rfl, e1, h2, h3, h4, h5⟩
      | lst ds => simp at e
      | ins c fs => simp at e
    | _ => simp [isDct] at e
theorem at_rel {ds : List D} {vs : List V} {i : Int} {d : D} (r : RelDs G.K m H ds vs) (e : Kd.at_ ds i = some d) : ∃ v, L2.atI vs i = some v ∧ RelD G.K m H d v := by
  unfold Kd.at_ at e
  unfold L2.atI
  have : Kd.ixAt = L2.ixN := rfl
  rw [this, r.length] at e
  cases q : L2.ixN vs.length i with
  | none => rw [q] at e; cases e
  | some j =>
    rw [q] at e
    exact r.get e
end
section
variable {X : Cx}
/-! ### in -/
theorem in_seq {pins : List (Addr × Obj)} {σ : L2.St} {H : Hp} {s : Shared} {v u : V} {v' u' : Value} {p c : PyData} {xs : List PyData} {neg : Bool} {A : Around} {E : Value → Shared → Prop} {Q : Value → Shared → Prop} (hu : A.units + 64 < cLine)
    (I : Inv X pins σ H s) (rv : RelV v v') (ru : RelV u u') (dx : Dp X.K H v p) (pp : p.plain = true) (hd : p.depth ≤ 60) (dc : Dp X.K H u c) (pc : PyData.plainAll xs = true) (hc : c = .list xs ∨ c = .tuple xs)
    (h : Q (.bool (xor neg (xs.any fun z => PyData.eqv z p))) s) : wpAny (model X.prog X.w) A (compareOp (if neg then .NotIn else .In) v' u') Q E s := by
  obtain ⟨as, ra⟩ := Inv.reads I dx rv
  obtain ⟨bs, rb⟩ := Inv.reads I dc ru
  have hl : A.units + 1 + min (PyData.depthAll xs) p.depth < cLine := by omega
  rcases hc with rfl | rfl <;> cases neg
  · exact SeqAt.in_list_data rb ra pc pp hl (by simpa using h)
  · exact SeqAt.notIn_list_data rb ra pc pp hl (by simpa using h)
  · exact SeqAt.in_tuple_data rb ra pc pp hl (by simpa using h)
  · exact SeqAt.notIn_tuple_data rb ra pc pp hl (by simpa using h)
/-- both at once -/
theorem in_both (neg : Bool) (hu : X.A.units + 64 < cLine) {pins : List (Addr × Obj)} {s : Shared} {σ : L2.St} {H : Hp} {v u : V} {v' u' : Value} {Q : VK} (I : Inv X pins σ H s) (rv : RelV v v') (ru : RelV u u')
    {T : Cls'} {Y : XK} {m : List Addr} {S : Sto} {x y : Kd.X} (R : RelS (gd X) m H S) (rx : RelX X.K m H x v) (ry : RelX X.K m H y u) (h : Pst (gd X) T Y m H (inX x y S) fun _ H' _ b => Q (.bl (xor neg b)) H') :
    wpAny (model X.prog X.w) X.A (compareOp (if neg then .NotIn else .In) v' u') (EP X pins σ Q) X.xe s := by
  have seqs : ∀ {ds : List D} {vs : List V} {a : Addr} {mk : List PyData → PyData}, (∀ {ps}, DpAll X.K H vs ps → Dp X.K H (.ref a) (mk ps)) → (mk = .list ∨ mk = .tuple) → u = .ref a → RelDs X.K m H ds vs →
      Pst (gd X) T Y m H (ofO (seqIn ds (x.py S)) S) (fun _ H' _ b => Q (.bl (xor neg b)) H') → wpAny (model X.prog X.w) X.A (compareOp (if neg then .NotIn else .In) v' u') (EP X pins σ Q) X.xe s := by
    intro ds vs a mk hm hk eu rds h
    subst eu
    simp only [seqIn] at h
    cases e1 : D.pys ds with
    | none => rw [e1] at h; exact h.elim
    | some xs =>
      cases e2 : x.py S with
      | none => rw [e1, e2] at h; exact h.elim
      | some d =>
        rw [e1, e2] at h
        by_cases hd : d.depth ≤ 60
        · simp only [if_pos hd] at h
          obtain ⟨q1, q2⟩ := pys_dp (G := gd X) ds vs xs rds e1
          obtain ⟨dx, px⟩ := xpy_dp R rx e2
          exact in_seq hu I rv ru dx px hd (hm q1) q2 (by rcases hk with rfl | rfl; exact .inl rfl; exact .inr rfl) ⟨.bl _, H, I, rfl, h m H Ext.refl R⟩
        · simp only [if_neg hd] at h; exact h.elim
  cases y with
  | tl ds =>
    obtain ⟨a, vs, rfl, h1, h2, h3, h4⟩ := ry
    exact seqs (mk := .list) (fun q => .lst (.inl (.inl h1)) q) (.inl rfl) rfl h3 h
  | dv d =>
    cases d with
    | tup ds =>
      simp only [RelX, RelD] at ry
      obtain ⟨a, vs, rfl, h1, h2⟩ := ry
      exact seqs (mk := .tuple) (fun q => .tup h1.sq q) (.inr rfl) rfl h2 h
    | str z =>
      cases (show u = .str z from ry)
      cases x with
      | tl ds => exact h.elim
      | dv d =>
        cases d with
        | str c =>
          cases (show v = .str c from rx)
          cases neg
          · exact op_in_str pins s σ H _ _ v' u' Q I rv ru ⟨c, z, rfl, rfl, by simpa [strIn] using h m H Ext.refl R⟩
          · exact op_notin_str pins s σ H _ _ v' u' Q I rv ru ⟨c, z, rfl, rfl, by simpa [strIn] using h m H Ext.refl R⟩
        | _ => exact h.elim
    | loc l =>
      have ry' := ry
      simp only [RelX, RelD] at ry
      obtain ⟨a, rfl, h1⟩ := ry
      obtain ⟨ob, e, q⟩ := R.at_ h1
      cases ob with
      | lst ds =>
        obtain ⟨vs, h2, h3, h4⟩ := q
        refine seqs (mk := .list) (fun q => .lst (.inl (.inl h2)) q) (.inl rfl) rfl h3 ?_
        simp only [inX, e] at h
        exact h
      | dct kvs =>
        obtain ⟨es, h2, h3, h4, h5⟩ := q
        cases x with
        | tl ds => simp only [inX, e] at h; exact h.elim
        | dv k =>
          simp only [inX, e] at h
          by_cases hk : keyOk kvs k = true
          · rw [if_pos hk] at h
            cases (show u' = .ref a from ru)
            cases neg
            · exact kd_in (by omega) I h2 h3 h5 hk rx rv fun s' I' => ⟨.bl _, H, I', rfl, by simpa using h m H Ext.refl R⟩
            · exact kd_notIn (by omega) I h2 h3 h5 hk rx rv fun s' I' => ⟨.bl _, H, I', rfl, by simpa using h m H Ext.refl R⟩
          · rw [if_neg hk] at h; exact h.elim
      | ins c fs => exact q.elim
    | _ => exact h.elim
theorem op_inK (hu : X.A.units + 64 < cLine) : OpR X (compareOp .In) (rCm (gd X) inX) := fun pins s σ H v u v' u' Q I rv ru ⟨T, Y, m, S, x, y, R, rx, ry, h⟩ =>
  in_both false hu I rv ru R rx ry (h.imp fun _ _ _ b _ _ q => by simpa using q)
theorem op_ninK (hu : X.A.units + 64 < cLine) : OpR X (compareOp .NotIn) (rCm (gd X) fun x y => inX x y >>= fun b => M.pure (!b)) := fun pins s σ H v u v' u' Q I rv ru ⟨T, Y, m, S, x, y, R, rx, ry, h⟩ =>
  in_both true hu I rv ru R rx ry (h.bind.imp fun m' H' S' b x' R' q => by simpa using (q m' H' x' R'))
/-! ### subscripts -/
theorem ix_K (hu : X.A.units + 64 < cLine) : IxR X (rOp (gd X) idxX) := by
  intro value slice pins s σ H v u v' u' Q I rv ru ⟨T, Y, m, S, x, y, R, rx, ry, h⟩ hs
  simp only [idxX] at h
  cases ed : isDct S x with
  | some kvs =>
    rw [ed] at h
    obtain ⟨l, a, es, rfl, h1, rfl, h2, h3, h4, h5, h6⟩ := isDct_rel ed R rx
    cases y with
    | tl ds => exact h.elim
    | dv k =>
      simp only at h
      by_cases hk : keyOk kvs k = true
      · rw [if_pos hk] at h
        cases el : look kvs k with
        | none => rw [el] at h; exact h.elim
        | some d =>
          rw [el] at h
          cases (show v' = .ref a from rv)
          have ht : s.TypeIs (.ref a) "dict" := by
            obtain ⟨o, ep, q1, q2, q3⟩ := raw_of I h3
            exact ⟨o, q1, q2.1⟩
          exact tail_any ht slot_dict_getitem.lookup (kd_getItem (by omega) I h3 h6 hk el ry ru fun y u'' s' I' r1 r2 => ⟨y, H, I', r1, fin_val (x := .dv d) h R r2⟩) hs
      · rw [if_neg hk] at h; exact h.elim
  | none =>
    rw [ed] at h
    cases y with
    | tl ds => exact h.elim
    | dv k =>
      cases k with
      | int i =>
        cases (show u = .int i from ry)
        have h : Pst (gd X) T Y m H (seqIx x i S) (kQ (gd X) H Q) := h
        by_cases hx : ∃ z, x = .dv (.str z)
        · obtain ⟨z, rfl⟩ := hx
          cases (show v = .str z from rx)
          simp only [seqIx] at h
          cases ea : Kd.at_ z.cps.toList i with
          | none => rw [ea] at h; exact h.elim
          | some c =>
            rw [ea] at h
            simp only at h
            by_cases hz : z.length ≤ sizeLine
            · rw [if_pos hz] at h
              exact ix_str value slice pins s σ H _ _ v' u' Q I rv ru ⟨z, i, c, rfl, rfl, hz, ea, fin_val (x := .dv (.str ⟨#[c]⟩)) h R rfl⟩ hs
            · rw [if_neg hz] at h; exact h.elim
        · have es : seqIx x i = (items x >>= fun ds => match Kd.at_ ds i with
            | some d => M.pure (.dv d)
            | none => M.bad) := by
            cases x with
            | tl ds => rfl
            | dv d => cases d <;> first | rfl | exact (hx ⟨_, rfl⟩).elim
          rw [es] at h
          obtain ⟨ds, a, vs, rfl, h1, h2, h3⟩ := items_sq h R rx
          cases ea : Kd.at_ ds i with
          | none => rw [ea] at h3; exact h3.elim
          | some d =>
            rw [ea] at h3
            obtain ⟨w', e1, e2⟩ := at_rel (G := gd X) h2 ea
            have q := fin_val (x := .dv d) h3 R e2
            rcases h1 with h1 | h1
            · exact ix_list value slice pins s σ H _ _ v' u' Q I rv ru ⟨a, vs, i, w', rfl, rfl, h1, e1, q⟩ hs
            · exact ix_tup value slice pins s σ H _ _ v' u' Q I rv ru ⟨a, vs, i, w', rfl, rfl, h1, e1, q⟩ hs
      | _ => exact h.elim
end
end Kd
/-! Slices, methods of lists and texts, stores, built-ins. -/
set_option maxHeartbeats 1000000
namespace Kd
open PySem PySem.Spec PyProof.Rows L2
def rSl (G : Gd) (f : Kd.X → Option Int → Option Int → M Kd.X) : V → Option Int → Option Int → Hp → VK → Prop := fun v lo hi H Q => ∃ (T : Cls') (Y : XK) (m : List Addr) (S : Sto) (x : Kd.X), RelS G m H S ∧ RelX G.K m H x v ∧ Pst G T Y m H (f x lo hi S) (kQ G H Q)
def rMt (G : Gd) (f : Kd.X → List Kd.X → M Kd.X) : V → List V → Hp → VK → Prop := fun v vs H Q => ∃ (T : Cls') (Y : XK) (m : List Addr) (S : Sto) (x : Kd.X) (xs : List Kd.X), RelS G m H S ∧ RelX G.K m H x v ∧ RelXs G.K m H xs vs ∧ Pst G T Y m H (f x xs S) (kQ G H Q)
def rBl (G : Gd) (f : List Kd.X → M Kd.X) : List V → Hp → VK → Prop := fun vs H Q => ∃ (T : Cls') (Y : XK) (m : List Addr) (S : Sto) (xs : List Kd.X), RelS G m H S ∧ RelXs G.K m H xs vs ∧ Pst G T Y m H (f xs S) (kQ G H Q)
def rSt (G : Gd) (f : Kd.X → Kd.X → D → M Unit) : V → V → V → Hp → (Hp → Prop) → Prop := fun o i v H Q => ∃ (T : Cls') (Y : XK) (m : List Addr) (S : Sto) (x y : Kd.X) (d : D), RelS G m H S ∧ RelX G.K m H x o ∧ RelX G.K m H y i ∧ RelD G.K m H d v ∧ Pst G T Y m H (f x y d S) (fun _ H' _ _ => Q H')
theorem slEnd_eq (n d : Nat) (o : Option Int) : slEnd n d o = HT.sIx n d o := by cases o <;> rfl
section
variable {G : Gd} {T : Cls'} {Y : XK} {m m' : List Addr} {H H' : Hp} {S : Sto} {Q : VK}
theorem cut_rel {ds : List D} {vs : List V} (r : RelDs G.K m H ds vs) (lo hi : Option Int) : RelDs G.K m H (cutD ds lo hi) (cutV vs lo hi) := by
  unfold cutD cutV
  rw [slEnd_eq, slEnd_eq, r.length]
  exact (r.drop _).take _
theorem cut_len (ds : List D) (lo hi : Option Int) : (cutD ds lo hi).length ≤ ds.length := by
  unfold cutD
  rw [List.length_take, List.length_drop]
  omega
/-- a list of the store, and what is written there -/
theorem own_list {l : Nat} {v : V} {ds : List D} (e : S[l]? = some (.lst ds)) (R : RelS G m H S) (r : RelX G.K m H (.dv (.loc l)) v) : ∃ a vs, v = .ref a ∧ m[l]? = some a ∧ H a = some (.lst vs) ∧ RelDs G.K m H ds vs ∧ ds.length ≤ sizeLine ∧ l < S.length := by
  simp only [RelX, RelD] at r
  obtain ⟨a, rfl, h1⟩ := r
  obtain ⟨ob, e1, q⟩ := R.at_ h1
  rw [e] at e1
  cases e1
  obtain ⟨vs, h2, h3, h4⟩ := q
  exact ⟨a, vs, rfl, h1, h2, h3, h4, (List.getElem?_eq_some_iff.mp e).1⟩
theorem fin_put {l : Nat} {a : Addr} {vs vs' : List V} {ds' : List D} {d : D} {v : V} (hl : m[l]? = some a) (e : H a = some (.lst vs)) (R : RelS G m H S) (r : RelDs G.K m H ds' vs') (z : ds'.length ≤ sizeLine) (rd : RelD G.K m H d v) (hS : l < S.length)
    (h : Pst G T Y m H ((putL l (.lst ds') >>= fun _ => M.pure (.dv d)) S) (kQ G H Q)) : Q v (upd H a (.lst vs')) := by
  have x : Ext m H m (upd H a (.lst vs')) := ext_write (List.mem_of_getElem? hl) e (by rw [e]; trivial)
  have R' := R.write (o' := .lst vs') (ob' := .lst ds') hl ⟨vs', upd_same, r.ext x, z⟩
  have e2 : (putL l (.lst ds') >>= fun _ => M.pure (X.dv d)) S = .ok (.dv d) (S.set l (.lst ds')) := by
    rw [bindE]
    simp only [putL, if_pos hS]
    rfl
  rw [e2] at h
  exact h m _ x R' v (rd.ext x) trivial
theorem RelXs.one {vs : List V} {x : Kd.X} (h : RelXs G.K m H [x] vs) : ∃ v, vs = [v] ∧ RelX G.K m H x v := by
  obtain ⟨v, r, rfl, h1, h2⟩ := h
  cases h2
  exact ⟨v, rfl, h1⟩
theorem RelXs.nil {vs : List V} (h : RelXs G.K m H [] vs) : vs = [] := h
theorem RelXs.two {vs : List V} {x y : Kd.X} (h : RelXs G.K m H [x, y] vs) : ∃ v u, vs = [v, u] ∧ RelX G.K m H x v ∧ RelX G.K m H y u := by
  obtain ⟨v, r, rfl, h1, v2, r2, rfl, h2, h3⟩ := h
  cases h3
  exact ⟨v, v2, rfl, h1, h2⟩
theorem blsD_rel : ∀ {ds : List D} {vs : List V} {bs : List Bool}, RelDs G.K m H ds vs → blsD ds = some bs → vs = bs.map V.bl
  | [], _, _, r, e => by simp only [RelDs] at r; subst r; simp only [blsD, Option.some.injEq] at e; subst e; rfl
  | d :: ds, _, _, r, e => by
    simp only [RelDs] at r
    obtain ⟨v, vs, rfl, h1, h2⟩ := r
    cases d with
    | bl b =>
      simp only [blsD, Option.map_eq_some_iff] at e
      obtain ⟨bs, e1, rfl⟩ := e
      cases (show v = .bl _ from h1)
      rw [blsD_rel h2 e1]
      rfl
    | _ => simp [blsD] at e
theorem strsD_rel : ∀ {ds : List D} {vs : List V} {bs : List Str}, RelDs G.K m H ds vs → strsD ds = some bs → vs = bs.map V.str
  | [], _, _, r, e => by simp only [RelDs] at r; subst r; simp only [strsD, Option.some.injEq] at e; subst e; rfl
  | d :: ds, _, _, r, e => by
    simp only [RelDs] at r
    obtain ⟨v, vs, rfl, h1, h2⟩ := r
    cases d with
    | str b =>
      simp only [strsD, Option.map_eq_some_iff] at e
      obtain ⟨bs, e1, rfl⟩ := e
      cases (show v = .str _ from h1)
      rw [strsD_rel h2 e1]
      rfl
    | _ => simp [strsD] at e
end
/-- extend by a tuple -/
theorem ext_tupW (l b : Addr) (xs ys : Array Value) (n n2 : Nat) (dd2 : Option Addr) (sl2 : Array (Option Value)) (h0 : ¬(!xs.isEmpty && Builtin.List.listTooLong (xs.size + ys.size)) = true) (h1 : xs.size ≤ sizeLine) (h2 : xs.size + ys.size ≤ sizeLine + 1) :
    Meets (Builtin.«list.extend» ⟨[.ref l, .ref b], []⟩) (fun _ R s => s.heap.get? l = some { cls := .type "list", dict := none, data := .seq xs n, slots := #[] } ∧
      s.heap.get? b = some { cls := .type "tuple", dict := dd2, data := .seq ys n2, slots := sl2 } ∧ R (.ok (.ret Value.none)) { s with heap := s.heap.update l (Obj.mapSeq fun x => x ++ ys) }) :=
  .of_wp fun prog w A R s h => by
    obtain ⟨hp, g, d, tk, os⟩ := s
    obtain ⟨q1, q2, h⟩ := h
    have f1 := AutoSeq1.idx_int
    have f2 := AutoSeq1.sub_tuple_tuple
    have f3 := AutoSeq1.sub_list_list
    have f4 := AutoSeq1.sub_tuple_list
    have f5 := AutoSeq1.sub_list_tuple
    have h3 : (xs ++ ys).size ≤ sizeLine + 1 := by rw [Array.size_append]; exact h2
    wp_walk using (wpAny_updateSeq q1 rfl (hz := h1) (_hz' := h3)), AutoSeq1.wpAny_loadPart' q1, AutoSeq1.wpAny_loadPart' q2
    exact ⟨_, rfl, h⟩
/-- extend by a list -/
theorem ext_lstW (l b : Addr) (xs ys : Array Value) (n n2 : Nat) (dd2 : Option Addr) (sl2 : Array (Option Value)) (h0 : ¬(!xs.isEmpty && Builtin.List.listTooLong (xs.size + ys.size)) = true) (h1 : xs.size ≤ sizeLine) (h2 : xs.size + ys.size ≤ sizeLine + 1) :
    Meets (Builtin.«list.extend» ⟨[.ref l, .ref b], []⟩) (fun _ R s => s.heap.get? l = some { cls := .type "list", dict := none, data := .seq xs n, slots := #[] } ∧
      s.heap.get? b = some { cls := .type "list", dict := dd2, data := .seq ys n2, slots := sl2 } ∧ R (.ok (.ret Value.none)) { s with heap := s.heap.update l (Obj.mapSeq fun x => x ++ ys) }) :=
  .of_wp fun prog w A R s h => by
    obtain ⟨hp, g, d, tk, os⟩ := s
    obtain ⟨q1, q2, h⟩ := h
    have f1 := AutoSeq1.idx_int
    have f2 := AutoSeq1.sub_tuple_tuple
    have f3 := AutoSeq1.sub_list_list
    have f4 := AutoSeq1.sub_tuple_list
    have f5 := AutoSeq1.sub_list_tuple
    have h3 : (xs ++ ys).size ≤ sizeLine + 1 := by rw [Array.size_append]; exact h2
    wp_walk using (wpAny_updateSeq q1 rfl (hz := h1) (_hz' := h3)), AutoSeq1.wpAny_loadPart' q1, AutoSeq1.wpAny_loadPart' q2
    exact ⟨_, rfl, h⟩
section
variable {X : Cx}
theorem sl_K : SlR X (rSl (gd X) slcX) := by
  intro pins s σ H v v' vl vu lo hi sl Q I rv hs pl pu ⟨T, Y, m, S, x, R, rx, h⟩
  by_cases h1 : ∃ ds, x = .dv (.tup ds)
  · obtain ⟨ds, rfl⟩ := h1
    simp only [RelX, RelD] at rx
    obtain ⟨a, vs, rfl, h1, h2⟩ := rx
    refine sl_tupA pins s σ H _ v' vl vu lo hi sl Q I rv hs pl pu ⟨a, vs, rfl, h1.sq, fun hw => ?_, fun _ p hp => fin_tup h R hp (cut_rel (G := gd X) h2 lo hi)⟩
    have e : cutD ds lo hi = ds := by
      unfold cutD
      rw [slEnd_eq, slEnd_eq, RelDs.length (K := X.K) h2, hw.1, hw.2]
      rw [← RelDs.length (K := X.K) h2]
      simp
    have h' : Pst (gd X) T Y m H (.ok (.dv (.tup (cutD ds lo hi))) S) (kQ (gd X) H Q) := h
    rw [e] at h'
    exact fin_val (x := .dv (.tup ds)) h' R ⟨a, vs, rfl, h1, h2⟩
  · by_cases h2 : ∃ z, x = .dv (.str z)
    · obtain ⟨z, rfl⟩ := h2
      cases (show v = .str z from rx)
      simp only [slcX] at h
      by_cases hz : z.length ≤ sizeLine
      · rw [if_pos hz] at h
        refine sl_str pins s σ H _ v' vl vu lo hi sl Q I rv hs pl pu ⟨z, rfl, hz, ?_⟩
        have e : cutS z lo hi = ⟨(cutD z.cps.toList lo hi).toArray⟩ := by
          unfold cutS cutD
          rw [slEnd_eq, slEnd_eq]
          simp only [Str.length, Array.length_toList]
        rw [e]
        exact fin_val (x := .dv (.str _)) h R rfl
      · rw [if_neg hz] at h; exact h.elim
    · have e : slcX x lo hi = (litems x >>= fun ds => M.pure (.tl (cutD ds lo hi))) := by
        cases x with
        | tl ds => rfl
        | dv d => cases d <;> first | rfl | exact (h1 ⟨_, rfl⟩).elim | exact (h2 ⟨_, rfl⟩).elim
      rw [e] at h
      obtain ⟨ds, a, vs, rfl, h3, h4, h5, _⟩ := litems_ok h R rx
      obtain ⟨its, r, pl', hz⟩ := I.list h3
      exact sl_list pins s σ H _ v' vl vu lo hi sl Q I rv hs pl pu ⟨a, vs, rfl, h3, fun p hp => fin_lst h5 R hp (cut_rel (G := gd X) h4 lo hi) (Nat.le_trans (cut_len ds lo hi) (by rw [RelDs.length (K := X.K) h4]; exact hz))⟩
/-! ### methods of lists -/
theorem mt_appendK : MtR X "list.append" (rMt (gd X) (mthX .append)) := by
  intro pins s σ H v vs v' us Q I rv ru ⟨T, Y, m, S, x, xs, R, rx, rxs, h⟩
  have : (∃ l d, x = .dv (.loc l) ∧ xs = [.dv d]) ∨ mthX .append x xs = M.bad := by
    cases x with
    | tl ds => exact .inr rfl
    | dv e =>
      cases e <;> first
        | exact .inr rfl
        | (cases xs with
           | nil => exact .inr rfl
           | cons y r => cases y <;> cases r <;> first | exact .inl ⟨_, _, rfl, rfl⟩ | exact .inr rfl)
  rcases this with ⟨l, d, rfl, rfl⟩ | e
  · simp only [mthX] at h
    obtain ⟨y, rfl, ry⟩ := RelXs.one (G := gd X) rxs
    cases e : S[l]? with
    | none => rw [e] at h; exact h.elim
    | some ob =>
      cases ob with
      | lst ds =>
        rw [e] at h
        simp only at h
        by_cases hz : ds.length < sizeLine
        · rw [if_pos hz] at h
          obtain ⟨a, ws, rfl, h1, h2, h3, h4, h5⟩ := own_list e R rx
          refine mt_append pins s σ H _ _ v' us Q I rv ru ⟨a, ws, y, rfl, rfl, h2, by rw [← RelDs.length (K := X.K) h3]; exact hz, ?_⟩
          exact fin_put h1 h2 R (h3.app (RelDs.one ry)) (by rw [List.length_append, List.length_singleton]; omega) (d := .non) (v := .non) rfl h5 h
        · rw [if_neg hz] at h; exact h.elim
      | _ => rw [e] at h; exact h.elim
  · rw [e] at h; exact h.elim
theorem mt_extendK : MtR X "list.extend" (rMt (gd X) (mthX .extend)) := by
  intro pins s σ H v vs v' us Q I rv ru ⟨T, Y, m, S, x, xs, R, rx, rxs, h⟩
  have : (∃ l y, x = .dv (.loc l) ∧ xs = [y]) ∨ mthX .extend x xs = M.bad := by
    cases x with
    | tl ds => exact .inr rfl
    | dv e =>
      cases e <;> first
        | exact .inr rfl
        | (cases xs with
           | nil => exact .inr rfl
           | cons y r => cases r <;> first | exact .inl ⟨_, _, rfl, rfl⟩ | exact .inr rfl)
  rcases this with ⟨l, y, rfl, rfl⟩ | e
  · simp only [mthX] at h
    obtain ⟨u, rfl, ry⟩ := RelXs.one (G := gd X) rxs
    obtain ⟨es, b, ws, rfl, h1, h2, h⟩ := items_sq h R ry
    simp only at h
    cases e : S[l]? with
    | none => rw [e] at h; exact h.elim
    | some ob =>
      cases ob with
      | lst ds =>
        rw [e] at h
        simp only at h
        by_cases hz : ds.length + es.length ≤ sizeLine
        · rw [if_pos hz] at h
          obtain ⟨a, zs, rfl, h3, h4, h5, h6, h7⟩ := own_list e R rx
          have q := fin_put h3 h4 R (h5.app h2) (by rw [List.length_append]; exact hz) (d := .non) (v := .non) rfl h7 h
          have l1 : ds.length = zs.length := RelDs.length (K := X.K) h5
          have l2 : es.length = ws.length := RelDs.length (K := X.K) h2
          cases (show v' = .ref a from rv)
          obtain ⟨u', rfl, r1⟩ := ru.one
          cases (show u' = .ref b from r1)
          obtain ⟨z, its, n, r, hl, e0⟩ := I.lstM h4
          have fin : ∀ its2 : List Value, Vals ws its2 → EP X pins σ Q .none { s with heap := s.heap.update a (Obj.mapSeq fun x => x ++ its2.toArray) } := fun its2 r2 =>
            ⟨.non, _, I.lset (t' := s.toks) (its' := its ++ its2) h4 e0 (by simp) (r.append r2) (by rw [List.length_append]; omega), rfl, q⟩
          rcases h1 with h1 | h1
          · obtain ⟨its2, r2, ⟨⟨c2, d2, dt2, sl2⟩, n2, e2, ec2, ed2, ei2⟩, z2⟩ := I.list h1
            simp only at ec2 ed2 ei2
            subst ec2 ed2 ei2
            have hl2 := r2.length
            have hsz : its.toArray.size + its2.toArray.size ≤ sizeLine := by rw [List.size_toArray, List.size_toArray]; omega
            have hlong : ¬ (!its.toArray.isEmpty && Builtin.List.listTooLong (its.toArray.size + its2.toArray.size)) = true := by
              rw [notLongL hsz, Bool.and_false]
              exact Bool.false_ne_true
            exact call_meets F.slot_list_extend ⟨_, e0, rfl⟩ F.entry_list_extend (F.args_list_extend_2 _ _) (ext_lstW a b its.toArray its2.toArray n n2 none sl2 hlong (by omega) (by omega)) ⟨e0, e2, fin its2 r2⟩
          · obtain ⟨its2, r2, ⟨⟨c2, d2, dt2, sl2⟩, e2, ec2, n2, ei2⟩, z2⟩ := I.tuple h1
            simp only at ec2 ei2
            subst ec2 ei2
            have hl2 := r2.length
            have hsz : its.toArray.size + its2.toArray.size ≤ sizeLine := by rw [List.size_toArray, List.size_toArray]; omega
            have hlong : ¬ (!its.toArray.isEmpty && Builtin.List.listTooLong (its.toArray.size + its2.toArray.size)) = true := by
              rw [notLongL hsz, Bool.and_false]
              exact Bool.false_ne_true
            exact call_meets F.slot_list_extend ⟨_, e0, rfl⟩ F.entry_list_extend (F.args_list_extend_2 _ _) (ext_tupW a b its.toArray its2.toArray n n2 d2 sl2 hlong (by omega) (by omega)) ⟨e0, e2, fin its2 r2⟩
        · rw [if_neg hz] at h; exact h.elim
      | _ => rw [e] at h; exact h.elim
  · rw [e] at h; exact h.elim
theorem mt_popK : MtR X "list.pop" (rMt (gd X) (mthX .pop)) := by
  intro pins s σ H v vs v' us Q I rv ru ⟨T, Y, m, S, x, xs, R, rx, rxs, h⟩
  have : (∃ l, x = .dv (.loc l) ∧ xs = []) ∨ mthX .pop x xs = M.bad := by
    cases x with
    | tl ds => exact .inr rfl
    | dv e => cases e <;> cases xs <;> first | exact .inl ⟨_, rfl, rfl⟩ | exact .inr rfl
  rcases this with ⟨l, rfl, rfl⟩ | e
  · simp only [mthX] at h
    cases RelXs.nil (G := gd X) rxs
    cases e : S[l]? with
    | none => rw [e] at h; exact h.elim
    | some ob =>
      cases ob with
      | lst ds =>
        rw [e] at h
        simp only at h
        cases eg : ds.getLast? with
        | none => rw [eg] at h; exact h.elim
        | some d =>
          rw [eg] at h
          obtain ⟨a, ws, rfl, h1, h2, h3, h4, h5⟩ := own_list e R rx
          have eg' : ds[ds.length - 1]? = some d := by rw [← List.getLast?_eq_getElem?]; exact eg
          obtain ⟨y, e1, e2⟩ := h3.get eg'
          have hd : ∀ {α : Type} (l : List α), l.dropLast = l.take (l.length - 1) := fun l => List.dropLast_eq_take ..
          refine mt_pop pins s σ H _ _ v' us Q I rv ru ⟨a, ws, y, rfl, rfl, h2, by rw [← RelDs.length (K := X.K) h3]; exact e1, ?_⟩
          have rd : RelDs X.K m H ds.dropLast ws.dropLast := by
            rw [hd ds, hd ws, ← RelDs.length (K := X.K) h3]
            exact h3.take _
          exact fin_put h1 h2 R rd (by rw [List.length_dropLast]; omega) e2 h5 h
      | _ => rw [e] at h; exact h.elim
  · rw [e] at h; exact h.elim
theorem mt_reverseK : MtR X "list.reverse" (rMt (gd X) (mthX .reverse)) := by
  intro pins s σ H v vs v' us Q I rv ru ⟨T, Y, m, S, x, xs, R, rx, rxs, h⟩
  have : (∃ l, x = .dv (.loc l) ∧ xs = []) ∨ mthX .reverse x xs = M.bad := by
    cases x with
    | tl ds => exact .inr rfl
    | dv e => cases e <;> cases xs <;> first | exact .inl ⟨_, rfl, rfl⟩ | exact .inr rfl
  rcases this with ⟨l, rfl, rfl⟩ | e
  · simp only [mthX] at h
    cases RelXs.nil (G := gd X) rxs
    cases e : S[l]? with
    | none => rw [e] at h; exact h.elim
    | some ob =>
      cases ob with
      | lst ds =>
        rw [e] at h
        simp only at h
        obtain ⟨a, ws, rfl, h1, h2, h3, h4, h5⟩ := own_list e R rx
        refine mt_reverse pins s σ H _ _ v' us Q I rv ru ⟨a, ws, rfl, rfl, h2, ?_⟩
        exact fin_put h1 h2 R h3.reverse (by rw [List.length_reverse]; exact h4) (d := .non) (v := .non) rfl h5 h
      | _ => rw [e] at h; exact h.elim
  · rw [e] at h; exact h.elim
theorem mt_joinK : MtR X "str.join" (rMt (gd X) (mthX .join)) := by
  intro pins s σ H v vs v' us Q I rv ru ⟨T, Y, m, S, x, xs, R, rx, rxs, h⟩
  have : (∃ z y, x = .dv (.str z) ∧ xs = [y]) ∨ mthX .join x xs = M.bad := by
    cases x with
    | tl ds => exact .inr rfl
    | dv e =>
      cases e <;> first
        | exact .inr rfl
        | (cases xs with
           | nil => exact .inr rfl
           | cons y r => cases r <;> first | exact .inl ⟨_, _, rfl, rfl⟩ | exact .inr rfl)
  rcases this with ⟨z, y, rfl, rfl⟩ | e
  · simp only [mthX] at h
    obtain ⟨u, rfl, ry⟩ := RelXs.one (G := gd X) rxs
    obtain ⟨es, b, ws, rfl, h1, h2, h⟩ := items_sq h R ry
    cases e : strsD es with
    | none => rw [e] at h; exact h.elim
    | some ys =>
      rw [e] at h
      simp only at h
      by_cases hz : (ys.map (·.length)).sum + ys.length * z.length ≤ 16777216
      · rw [if_pos hz] at h
        cases (show v = .str z from rx)
        have ew := strsD_rel (G := gd X) h2 e
        subst ew
        exact mt_join pins s σ H _ _ v' us Q I rv ru ⟨z, b, ys, rfl, rfl, h1, hz, fin_val (x := .dv (.str _)) h R rfl⟩
      · rw [if_neg hz] at h; exact h.elim
  · rw [e] at h; exact h.elim
end
end Kd
/-! Stores into lists and dicts; built-ins; isinstance. -/
set_option maxHeartbeats 1000000
namespace Kd
open PySem PySem.Spec PyProof.Rows L2
section
variable {G : Gd} {T : Cls'} {Y : XK} {m m' : List Addr} {H H' : Hp} {S : Sto} {Q : VK}
theorem put_run {l : Nat} {o : Ob} (hS : l < S.length) : putL l o S = .ok () (S.set l o) := by simp only [putL, if_pos hS]
end
section
variable {X : Cx}
/-- o[i] = d -/
theorem set_K (hu : X.A.units + 64 < cLine) : PSet X (rSt (gd X) subX) := by
  intro pins s σ H o i v ov iv u Q I ro ri rv ⟨T, Y, m, S, x, y, d, R, rx, ry, rd, h⟩
  have : (∃ l k, x = .dv (.loc l) ∧ y = .dv k) ∨ subX x y d = M.bad := by
    cases x with
    | tl ds => exact .inr rfl
    | dv e => cases e <;> cases y <;> first | exact .inl ⟨_, _, rfl, rfl⟩ | exact .inr rfl
  rcases this with ⟨l, k, rfl, rfl⟩ | e
  · simp only [subX] at h
    cases e : S[l]? with
    | none => rw [e] at h; exact h.elim
    | some ob =>
      rw [e] at h
      cases ob with
      | ins c fs => exact h.elim
      | lst ds =>
        cases k with
        | int j =>
          simp only at h
          cases ei : ixAt ds.length j with
          | none => rw [ei] at h; exact h.elim
          | some n =>
            rw [ei] at h
            obtain ⟨a, vs, rfl, h1, h2, h3, h4, h5⟩ := own_list e R rx
            cases (show i = .int j from ry)
            simp only [put_run h5] at h
            have hx := ext_write (o' := .lst (vs.set n v)) (List.mem_of_getElem? h1) h2 (by rw [h2]; trivial)
            refine set_list pins s σ H _ _ v ov iv u Q I ro ri rv ⟨a, vs, j, n, rfl, rfl, h2, ?_, ?_⟩
            · have e0 : L2.ixN = Kd.ixAt := rfl
              rw [e0, ← RelDs.length (K := X.K) h3]
              exact ei
            · exact h m _ hx (R.write h1 ⟨_, upd_same, (h3.set rd n).ext hx, by rw [List.length_set]; exact h4⟩)
        | _ => exact h.elim
      | dct kvs =>
        simp only at h
        by_cases hk : (keyOk kvs k && decide (kvs.length < sizeLine)) = true
        · rw [if_pos hk] at h
          simp only [Bool.and_eq_true, decide_eq_true_eq] at hk
          simp only [RelX, RelD] at rx
          obtain ⟨a, rfl, h1⟩ := rx
          obtain ⟨ob, e1, q⟩ := R.at_ h1
          rw [e] at e1
          cases e1
          obtain ⟨es, h2, h3, h4, h5⟩ := q
          have hS : l < S.length := (List.getElem?_eq_some_iff.mp e).1
          rw [put_run hS] at h
          cases (show ov = .ref a from ro)
          have am := List.mem_of_getElem? h1
          refine kd_setItem (by omega) I h2 h5 hk.2 hk.1 ry ri rd rv am fun es' s' I' d' => ⟨_, I', ?_⟩
          have hx := ext_write (o' := RawD a es') am h2 (by rw [h2]; trivial)
          exact h m _ hx (R.write h1 ⟨es', upd_same, h3, by have := put_len kvs k d; omega, d'⟩)
        · rw [if_neg hk] at h; exact h.elim
  · rw [e] at h; exact h.elim
/-! ### built-ins -/
theorem cr_lenK : CallR X (.builtin "len") (rBl (gd X) (bltX .len)) := by
  intro pins s σ H vs us Q I rv ⟨T, Y, m, S, xs, R, rxs, h⟩
  cases xs with
  | nil => exact h.elim
  | cons x r =>
    cases r with
    | cons y r =>
      have : bltX .len (x :: y :: r) = M.bad := by
        cases x with
        | tl ds => rfl
        | dv d => cases d <;> rfl
      rw [this] at h
      exact h.elim
    | nil =>
      obtain ⟨v, rfl, rx⟩ := RelXs.one (G := gd X) rxs
      by_cases hs : ∃ z, x = .dv (.str z)
      · obtain ⟨z, rfl⟩ := hs
        cases (show v = .str z from rx)
        simp only [bltX] at h
        by_cases hz : z.length ≤ sizeLine
        · rw [if_pos hz] at h
          exact call_len_str pins s σ H _ us Q I rv ⟨z, rfl, hz, fin_val (x := .dv (.int z.length)) h R rfl⟩
        · rw [if_neg hz] at h; exact h.elim
      · have e : bltX .len [x] = .mk fun S => match isDct S x with
          | some kvs => .ok (.dv (.int kvs.length)) S
          | none => (items x >>= fun ds => M.pure (.dv (.int ds.length))) S := by
          cases x with
          | tl ds => rfl
          | dv d => cases d <;> first | rfl | exact (hs ⟨_, rfl⟩).elim
        rw [e] at h
        cases ed : isDct S x with
        | some kvs =>
          simp only [ed] at h
          obtain ⟨l, a, es, rfl, h1, rfl, h2, h3, h4, h5, h6⟩ := isDct_rel ed R rx
          obtain ⟨u', rfl, r1⟩ := rv.one
          cases (show u' = .ref a from r1)
          exact kd_len I h3 h4 h5 h6 fun t s' I' => ⟨.int kvs.length, H, I', ⟨t, rfl⟩, fin_val (x := .dv (.int kvs.length)) h R rfl⟩
        | none =>
          simp only [ed] at h
          obtain ⟨ds, a, ws, rfl, h1, h2, h3⟩ := items_sq h R rx
          refine call_len_seq pins s σ H _ us Q I rv ⟨a, ws, rfl, h1, ?_⟩
          rw [← RelDs.length (K := X.K) h2]
          exact fin_val (x := .dv (.int ds.length)) h3 R rfl
theorem one_case {b : Bi} (hb : b = .all ∨ b = .any ∨ b = .tuple ∨ b = .list) {xs : List Kd.X} : (∃ x, xs = [x]) ∨ bltX b xs = M.bad := by
  cases xs with
  | nil => rcases hb with rfl | rfl | rfl | rfl <;> exact .inr rfl
  | cons x r =>
    cases r with
    | nil => exact .inl ⟨_, rfl⟩
    | cons y r => rcases hb with rfl | rfl | rfl | rfl <;> exact .inr rfl
theorem cr_allK (hc : X.calm = true) : CallR X (.builtin "all") (rBl (gd X) (bltX .all)) := by
  intro pins s σ H vs us Q I rv ⟨T, Y, m, S, xs, R, rxs, h⟩
  rcases one_case (b := .all) (.inl rfl) (xs := xs) with ⟨x, rfl⟩ | e
  · obtain ⟨v, rfl, rx⟩ := RelXs.one (G := gd X) rxs
    simp only [bltX] at h
    obtain ⟨ds, a, ws, rfl, h1, h2, h3, _⟩ := litems_ok h R rx
    cases e : blsD ds with
    | none => rw [e] at h3; exact h3.elim
    | some bs =>
      rw [e] at h3
      have ew := blsD_rel (G := gd X) h2 e
      subst ew
      exact cr_all hc pins s σ H _ us Q I rv ⟨a, bs, rfl, h1, fin_val (x := .dv (.bl _)) h3 R rfl⟩
  · rw [e] at h; exact h.elim
theorem cr_anyK (hc : X.calm = true) : CallR X (.builtin "any") (rBl (gd X) (bltX .any)) := by
  intro pins s σ H vs us Q I rv ⟨T, Y, m, S, xs, R, rxs, h⟩
  rcases one_case (b := .any) (.inr (.inl rfl)) (xs := xs) with ⟨x, rfl⟩ | e
  · obtain ⟨v, rfl, rx⟩ := RelXs.one (G := gd X) rxs
    simp only [bltX] at h
    obtain ⟨ds, a, ws, rfl, h1, h2, h3, _⟩ := litems_ok h R rx
    cases e : blsD ds with
    | none => rw [e] at h3; exact h3.elim
    | some bs =>
      rw [e] at h3
      have ew := blsD_rel (G := gd X) h2 e
      subst ew
      exact cr_any hc pins s σ H _ us Q I rv ⟨a, bs, rfl, h1, fin_val (x := .dv (.bl _)) h3 R rfl⟩
  · rw [e] at h; exact h.elim
theorem cr_tupleK : CallR X (.type "tuple") (rBl (gd X) (bltX .tuple)) := by
  intro pins s σ H vs us Q I rv ⟨T, Y, m, S, xs, R, rxs, h⟩
  rcases one_case (b := .tuple) (.inr (.inr (.inl rfl))) (xs := xs) with ⟨x, rfl⟩ | e
  · obtain ⟨v, rfl, rx⟩ := RelXs.one (G := gd X) rxs
    simp only [bltX] at h
    obtain ⟨ds, a, ws, rfl, h1, h2, h3⟩ := items_ok h R rx
    refine call_tuple_of pins s σ H _ us Q I rv ⟨a, ws, rfl, ?_⟩
    rcases h1 with h1 | ⟨rfl, h1⟩
    · exact .inl ⟨h1, fun p hp => fin_tup h3 R hp h2⟩
    · exact .inr ⟨h1.sq, fin_val (x := .dv (.tup ds)) h3 R ⟨a, ws, rfl, h1, h2⟩⟩
  · rw [e] at h; exact h.elim
theorem cr_listK : CallR X (.type "list") (rBl (gd X) (bltX .list)) := by
  intro pins s σ H vs us Q I rv ⟨T, Y, m, S, xs, R, rxs, h⟩
  rcases one_case (b := .list) (.inr (.inr (.inr rfl))) (xs := xs) with ⟨x, rfl⟩ | e
  · obtain ⟨v, rfl, rx⟩ := RelXs.one (G := gd X) rxs
    simp only [bltX] at h
    obtain ⟨ds, a, ws, rfl, h1, h2, h3⟩ := items_sq h R rx
    have hz : ds.length ≤ sizeLine := by
      rw [RelDs.length (K := X.K) h2]
      rcases h1 with h1 | h1
      · obtain ⟨_, _, _, q⟩ := I.list h1
        exact q
      · obtain ⟨_, _, _, q⟩ := I.tuple h1
        exact q
    exact call_list_of pins s σ H _ us Q I rv ⟨a, ws, rfl, h1, fun p hp => fin_lst h3 R hp h2 hz⟩
  · rw [e] at h; exact h.elim
theorem cr_intK : CallR X (.type "int") (rBl (gd X) (bltX .int)) := by
  intro pins s σ H vs us Q I rv ⟨T, Y, m, S, xs, R, rxs, h⟩
  have : (∃ i, xs = [.dv (.int i)]) ∨ bltX .int xs = M.bad := by
    cases xs with
    | nil => exact .inr rfl
    | cons x r =>
      cases x with
      | tl ds => exact .inr rfl
      | dv d => cases d <;> cases r <;> first | exact .inl ⟨_, rfl⟩ | exact .inr rfl
  rcases this with ⟨i, rfl⟩ | e
  · obtain ⟨v, rfl, rx⟩ := RelXs.one (G := gd X) rxs
    cases (show v = .int i from rx)
    exact call_int1 pins s σ H _ us Q I rv (.inl ⟨i, rfl, fin_val (x := .dv (.int i)) h R rfl⟩)
  · rw [e] at h; exact h.elim
theorem cr_absK : CallR X (.builtin "abs") (rBl (gd X) (bltX .abs)) := by
  intro pins s σ H vs us Q I rv ⟨T, Y, m, S, xs, R, rxs, h⟩
  have : (∃ i, xs = [.dv (.int i)]) ∨ bltX .abs xs = M.bad := by
    cases xs with
    | nil => exact .inr rfl
    | cons x r =>
      cases x with
      | tl ds => exact .inr rfl
      | dv d => cases d <;> cases r <;> first | exact .inl ⟨_, rfl⟩ | exact .inr rfl
  rcases this with ⟨i, rfl⟩ | e
  · obtain ⟨v, rfl, rx⟩ := RelXs.one (G := gd X) rxs
    cases (show v = .int i from rx)
    exact call_abs pins s σ H _ us Q I rv ⟨i, rfl, fin_val (x := .dv (.int _)) h R rfl⟩
  · rw [e] at h; exact h.elim
theorem two_int {b : Bi} (hb : b = .max ∨ b = .min) {xs : List Kd.X} : (∃ i j, xs = [.dv (.int i), .dv (.int j)]) ∨ bltX b xs = M.bad := by
  cases xs with
  | nil => rcases hb with rfl | rfl <;> exact .inr rfl
  | cons x r =>
    cases x with
    | tl ds => rcases hb with rfl | rfl <;> exact .inr rfl
    | dv d =>
      cases r with
      | nil => rcases hb with rfl | rfl <;> cases d <;> exact .inr rfl
      | cons y r =>
        cases y with
        | tl ds => rcases hb with rfl | rfl <;> cases d <;> exact .inr rfl
        | dv e => rcases hb with rfl | rfl <;> cases d <;> cases e <;> cases r <;> first | exact .inl ⟨_, _, rfl⟩ | exact .inr rfl
theorem cr_maxK (hc : X.calm = true) : CallR X (.builtin "max") (rBl (gd X) (bltX .max)) := by
  intro pins s σ H vs us Q I rv ⟨T, Y, m, S, xs, R, rxs, h⟩
  rcases two_int (b := .max) (.inl rfl) (xs := xs) with ⟨i, j, rfl⟩ | e
  · obtain ⟨v, u, rfl, rx, ry⟩ := RelXs.two (G := gd X) rxs
    cases (show v = .int i from rx)
    cases (show u = .int j from ry)
    exact call_max2 hc pins s σ H _ us Q I rv ⟨i, j, rfl, fin_val (x := .dv (.int _)) h R rfl⟩
  · rw [e] at h; exact h.elim
theorem cr_minK (hc : X.calm = true) : CallR X (.builtin "min") (rBl (gd X) (bltX .min)) := by
  intro pins s σ H vs us Q I rv ⟨T, Y, m, S, xs, R, rxs, h⟩
  rcases two_int (b := .min) (.inr rfl) (xs := xs) with ⟨i, j, rfl⟩ | e
  · obtain ⟨v, u, rfl, rx, ry⟩ := RelXs.two (G := gd X) rxs
    cases (show v = .int i from rx)
    cases (show u = .int j from ry)
    exact call_min2 hc pins s σ H _ us Q I rv ⟨i, j, rfl, fin_val (x := .dv (.int _)) h R rfl⟩
  · rw [e] at h; exact h.elim
/-! ### isinstance -/
def tyN : Ty → String
  | .int => "int"
  | .bool => "bool"
  | .str => "str"
  | .tuple => "tuple"
  | .list => "list"
  | .dict => "dict"
def tyOfN (S : Sto) : Kd.X → String
  | .tl _ => "list"
  | .dv d => match d with
    | .non => "NoneType"
    | .bl _ => "bool"
    | .int _ => "int"
    | .str _ => "str"
    | .tup _ => "tuple"
    | .rol _ => "list"
    | .loc l => match S[l]? with
      | some (.dct _) => "dict"
      | _ => "list"
theorem kit_all (K : PySem.W.Frag) (n : String) (hn : n ∈ ["NoneType", "bool", "int", "str", "tuple", "list", "dict"]) (t : Ty) :
    PySem.W.kitOne K (.type n) (.type (tyN t)) = some (decide (n = tyN t) || decide (n = "bool" ∧ t = .int)) := by
  simp only [List.mem_cons, List.mem_nil_iff, or_false] at hn
  rcases hn with rfl | rfl | rfl | rfl | rfl | rfl | rfl <;> cases t <;> exact kit_ty (by decide +kernel)
def isiX (t : Ty) (x : Kd.X) : M Kd.X := match x with
  | .dv d => .mk fun S => (match isTy S d t with
    | some b => .ok (.dv (.bl b)) S
    | none => .bad)
  | .tl _ => M.pure (.dv (.bl (t = .list)))
theorem cr_isiK (t : Ty) : CallR X (.builtin "isinstance") (fun vs H Q => ∃ (T : Cls') (Y : XK) (m : List Addr) (S : Sto) (x : Kd.X) (v : V), vs = [v, .ty (tyN t)] ∧ RelS (gd X) m H S ∧ RelX X.K m H x v ∧ Pst (gd X) T Y m H (isiX t x S) (kQ (gd X) H Q)) := by
  intro pins s σ H vs us Q I rv ⟨T, Y, m, S, x, v, ev, R, rx, h⟩
  subst ev
  obtain ⟨u1, u2, rfl, r1, r2⟩ := vals2 rv
  cases (show u2 = .type (tyN t) from r2)
  have go : ∀ {n : String} {b : Bool}, n ∈ ["NoneType", "bool", "int", "str", "tuple", "list", "dict"] → (decide (n = tyN t) || decide (n = "bool" ∧ t = .int)) = b → (∃ P : Heap → Prop, PySem.W.KitX X.K u1 (.type n) P ∧ P s.heap ∧ u1 ≠ .builtin "__main__.__loader__#opaque") →
      Q (.bl b) H → wpAny (model X.prog X.w) X.A (call (.builtin "isinstance") [u1, .type (tyN t)]) (EP X pins σ Q) X.xe s := by
    intro n b hn hb ⟨P, Z, p, hx⟩ q
    exact PySem.W.kia_one Z I.kIn p ((kit_all X.K n hn t).trans (congrArg some hb)) hx fun tk => ⟨.bl b, H, I.tok tk, rfl, q⟩
  have kof : ∀ {n : String}, TyX X.K H v (.type n) → ∃ P : Heap → Prop, PySem.W.KitX X.K u1 (.type n) P ∧ P s.heap ∧ u1 ≠ .builtin "__main__.__loader__#opaque" := fun ty => kit_of I r1 ty
  cases x with
  | tl ds =>
    obtain ⟨a, ws, rfl, h1, h2, h3, h4⟩ := rx
    exact go (n := "list") (b := decide (t = .list)) (by simp) (by cases t <;> decide) (kof (.base (.lst h1))) (h m H Ext.refl R _ rfl trivial)
  | dv d =>
    cases d with
    | non => cases (show v = .non from rx); exact go (n := "NoneType") (b := false) (by simp) (by cases t <;> decide) (kof (.base .non)) (h m H Ext.refl R _ rfl trivial)
    | bl b => cases (show v = .bl b from rx); exact go (n := "bool") (b := decide (t = .bool ∨ t = .int)) (by simp) (by cases t <;> decide) (kof (.base (.bl b))) (by have := h m H Ext.refl R _ rfl trivial; cases t <;> exact this)
    | int i => cases (show v = .int i from rx); exact go (n := "int") (b := decide (t = .int)) (by simp) (by cases t <;> decide) (kof (.base (.int i))) (h m H Ext.refl R _ rfl trivial)
    | str z => cases (show v = .str z from rx); exact go (n := "str") (b := decide (t = .str)) (by simp) (by cases t <;> decide) (kof (.base (.str z))) (h m H Ext.refl R _ rfl trivial)
    | tup ds =>
      simp only [RelX, RelD] at rx
      obtain ⟨a, ws, rfl, h1, h2⟩ := rx
      refine go (n := "tuple") (b := decide (t = .tuple)) (by simp) (by cases t <;> decide) (kof ?_) (h m H Ext.refl R _ rfl trivial)
      rcases h1 with h1 | ⟨o, its, n, h1, h3, _⟩
      · exact .base (.tup h1)
      · exact .kTuple h1 h3
    | rol ns =>
      simp only [RelX, RelD] at rx
      obtain ⟨a, rfl, h1⟩ := rx
      refine go (n := "list") (b := decide (t = .list)) (by simp) (by cases t <;> decide) (kof ?_) (h m H Ext.refl R _ rfl trivial)
      rcases h1 with ⟨o, h1⟩ | ⟨o, its, n, h1, h3, _⟩
      · exact .base (.frz h1)
      · exact .kList h1 h3
    | loc l =>
      simp only [RelX, RelD] at rx
      obtain ⟨a, rfl, h1⟩ := rx
      obtain ⟨ob, e, q⟩ := R.at_ h1
      simp only [isiX, isTy, e] at h
      cases ob with
      | lst ds =>
        obtain ⟨ws, h2, h3, h4⟩ := q
        exact go (n := "list") (b := decide (t = .list)) (by simp) (by cases t <;> decide) (kof (.base (.lst h2))) (h m H Ext.refl R _ rfl trivial)
      | dct kvs =>
        obtain ⟨es, h2, h3, h4, h5⟩ := q
        obtain ⟨o, ep, q1, q2, q3⟩ := raw_of I h2
        cases (show u1 = .ref a from r1)
        exact go (n := "dict") (b := decide (t = .dict)) (by simp) (by cases t <;> decide) ⟨_, PySem.W.kitx_dict, ⟨o, q1, q2.1⟩, fun z => nomatch z⟩ (h m H Ext.refl R _ rfl trivial)
      | ins c fs => exact q.elim
end
end Kd
/-! Expressions: what the small language's evaluator says, the library's judgements have. -/
set_option maxHeartbeats 1000000
namespace Kd
open PySem PySem.Spec PyProof.Rows L2
/-! ### a list joins the store -/
section
variable {K : PySem.W.Frag} {G : Gd} {m m' : List Addr} {H : Hp} {S : Sto}
mutual
theorem RelD.more (hm : ∀ (i : Nat) (x : Addr), m[i]? = some x → m'[i]? = some x) : ∀ (d : D) (v : V), RelD K m H d v → RelD K m' H d v
  | .non, _, h => h
  | .bl _, _, h => h
  | .int _, _, h => h
  | .str _, _, h => h
  | .tup ds, _, h => by
    simp only [RelD] at h ⊢
    obtain ⟨a, vs, rfl, h1, h2⟩ := h
    exact ⟨a, vs, rfl, h1, RelDs.more hm ds vs h2⟩
  | .loc l, _, h => by
    simp only [RelD] at h ⊢
    obtain ⟨a, rfl, h1⟩ := h
    exact ⟨a, rfl, hm _ _ h1⟩
  | .rol ns, _, h => h
theorem RelDs.more (hm : ∀ (i : Nat) (x : Addr), m[i]? = some x → m'[i]? = some x) : ∀ (ds : List D) (vs : List V), RelDs K m H ds vs → RelDs K m' H ds vs
  | [], _, h => h
  | d :: ds, _, h => by
    simp only [RelDs] at h ⊢
    obtain ⟨v, r, rfl, h1, h2⟩ := h
    exact ⟨v, r, rfl, RelD.more hm d v h1, RelDs.more hm ds r h2⟩
end
theorem RelOb.more (hm : ∀ (i : Nat) (x : Addr), m[i]? = some x → m'[i]? = some x) {a : Addr} {ob : Ob} (h : RelOb G m H a ob) : RelOb G m' H a ob := by
  cases ob with
  | lst ds => obtain ⟨vs, h1, h2, h3⟩ := h; exact ⟨vs, h1, RelDs.more hm _ _ h2, h3⟩
  | dct kvs =>
    obtain ⟨es, h1, h2, h3, h4⟩ := h
    refine ⟨es, h1, h2, h3, h4.imp (fun ⟨vs, q⟩ => ⟨vs, ⟨q.keys, q.pairs, q.nd, Paired.mapP q.rel fun _ _ ⟨e, v, r, z⟩ => ⟨e, v, r, RelD.more hm _ _ z⟩⟩⟩) fun ⟨xs, q⟩ => ⟨xs, ⟨q.ents, q.nd, Paired.mapP q.rel fun _ _ ⟨e, t, k, v, r, z⟩ => ⟨e, t, RelD.more hm _ _ k, v, r, RelD.more hm _ _ z⟩⟩⟩⟩
  | ins c fs => exact h
theorem app_get {p : Addr} : ∀ (i : Nat) (x : Addr), m[i]? = some x → (m ++ [p])[i]? = some x := fun i x h => by
  have hl : i < m.length := (List.getElem?_eq_some_iff.mp h).1
  rw [List.getElem?_append_left hl]; exact h
theorem RelS.join {p : Addr} {ob : Ob} (R : RelS G m H S) (hp : p ∉ m) (new : RelOb G (m ++ [p]) H p ob) : RelS G (m ++ [p]) H (S ++ [ob]) := by
  refine ⟨by simp [R.len], ?_, fun i a ob' h1 h2 => ?_⟩
  · rw [List.nodup_append]
    exact ⟨R.nd, by simp, fun a ha b hb z => by rw [List.mem_singleton.mp hb] at z; exact hp (z ▸ ha)⟩
  · by_cases hi : i < m.length
    · rw [List.getElem?_append_left hi] at h1
      rw [List.getElem?_append_left (by rw [← R.len]; exact hi)] at h2
      exact (R.ob i a ob' h1 h2).more app_get
    · have hl : i < (m ++ [p]).length := (List.getElem?_eq_some_iff.mp h1).1
      rw [List.length_append, List.length_singleton] at hl
      have e : i = m.length := by omega
      subst e
      rw [List.getElem?_concat_length] at h1
      rw [R.len, List.getElem?_concat_length] at h2
      cases h1; cases h2
      exact new
end
/-! ### the transformers -/
section
variable (X : Cx) (T : Cls') (W : WX)
def tV (f : Env → M Kd.X) : TE := fun σ H Q => ∃ (m : List Addr) (S : Sto) (ρ : Env), RelE X.K m H ρ σ ∧ RelS (gd X) m H S ∧ Pst (gd X) T (WE W σ) m H (f ρ S) (kQ (gd X) H Q)
def tF (f : Env → M D) : TE := fun σ H Q => ∃ (m : List Addr) (S : Sto) (ρ : Env), RelE X.K m H ρ σ ∧ RelS (gd X) m H S ∧ Pst (gd X) T (WE W σ) m H (f ρ S) (fun m' H' _ d => ∀ v, RelD X.K m' H' d v → Q v H')
def tB (f : Env → M Bool) : TT := fun σ H Q => ∃ (m : List Addr) (S : Sto) (ρ : Env), RelE X.K m H ρ σ ∧ RelS (gd X) m H S ∧ Pst (gd X) T (WE W σ) m H (f ρ S) (fun _ H' _ b => Q b H')
def tXs (f : Env → M (List Kd.X)) : TA := fun σ H Q => ∃ (m : List Addr) (S : Sto) (ρ : Env), RelE X.K m H ρ σ ∧ RelS (gd X) m H S ∧ Pst (gd X) T (WE W σ) m H (f ρ S) (fun m' H' _ xs => ∀ vs, RelXs X.K m' H' xs vs → Q vs H')
def tDs (f : Env → M (List D)) : TA := fun σ H Q => ∃ (m : List Addr) (S : Sto) (ρ : Env), RelE X.K m H ρ σ ∧ RelS (gd X) m H S ∧ Pst (gd X) T (WE W σ) m H (f ρ S) (fun m' H' _ ds => ∀ vs, RelDs X.K m' H' ds vs → Q vs H')
end
theorem pe_mono {X : Cx} {e : Expr} {t t' : TE} (h : PE X e t) (q : ∀ σ H Q, t' σ H Q → t σ H Q) : PE X e t' := ⟨fun pins s σ H Q I z => h.run pins s σ H Q I (q σ H Q z)⟩
theorem pt_mono {X : Cx} {e : Expr} {t t' : TT} (h : PT X e t) (q : ∀ σ H Q, t' σ H Q → t σ H Q) : PT X e t' := ⟨fun pins s σ H Q I z => h.run pins s σ H Q I (q σ H Q z)⟩
theorem pw_mono {X : Cx} {e : Expr} {t t' : TT} (h : PW X e t) (q : ∀ σ H Q, t' σ H Q → t σ H Q) : PW X e t' := ⟨fun w pins s σ H Q I z => h.run w pins s σ H Q I (q σ H Q z)⟩
theorem pa_mono {X : Cx} {es : List Expr} {t t' : TA} (h : PA X es t) (q : ∀ σ H Q, t' σ H Q → t σ H Q) : PA X es t' := ⟨fun p pins s σ H Q I z => h.run p pins s σ H Q I (q σ H Q z)⟩
theorem ps_mono {X : Cx} {e : Stmt} {t t' : L2.TS} (h : PS X e t) (q : ∀ D σ H, t' D σ H → t D σ H) : PS X e t' := ⟨fun pins s σ H D I z => h.run pins s σ H D I (q D σ H z)⟩
theorem pss_mono {X : Cx} {e : List Stmt} {t t' : L2.TS} (h : PSs X e t) (q : ∀ D σ H, t' D σ H → t D σ H) : PSs X e t' := ⟨fun pins s σ H D I z => h.run pins s σ H D I (q D σ H z)⟩
theorem fresh_back {G : Gd} {m m' : List Addr} {H H' : Hp} {x : Kd.X} {v : V} (e : Ext m H m' H') (h : FreshX H' x v) : FreshX H x v := by
  cases x with
  | dv d => trivial
  | tl ds =>
    cases v with
    | ref p =>
      simp only [FreshX] at h ⊢
      cases q : H p with
      | none => rfl
      | some o => exact absurd h (e.there p (by rw [q]; simp))
    | _ => trivial
section
variable {X : Cx} {T : Cls'} {W : WX} {m : List Addr} {H : Hp} {S : Sto} {ρ : Env} {σ : L2.St} {Q : VK}
/-- the base moves on -/
theorem Pst.kq {Y : XK} {m' : List Addr} {H' : Hp} {r : Kd.R Kd.X} (e : Ext m H m' H') (h : Pst (gd X) T Y m H r (kQ (gd X) H Q)) : Pst (gd X) T Y m' H' r (kQ (gd X) H' Q) :=
  (h.shift e).imp fun _ _ _ _ _ _ q v rv fv => q v rv (fresh_back (G := gd X) e fv)
theorem tV_bind {β : Type} {f : Env → M Kd.X} {g : Kd.X → M β} {k : List Addr → Hp → Sto → β → Prop} (E : RelE X.K m H ρ σ) (R : RelS (gd X) m H S) (h : Pst (gd X) T (WE W σ) m H ((f ρ >>= g) S) k)
    (q : ∀ v m1 H1 S1 x, Ext m H m1 H1 → RelE X.K m1 H1 ρ σ → RelS (gd X) m1 H1 S1 → RelX X.K m1 H1 x v → FreshX H x v → Pst (gd X) T (WE W σ) m H (g x S1) k → Q v H1) : tV X T W f σ H Q :=
  ⟨m, S, ρ, E, R, h.bind.imp fun m1 H1 S1 x e R1 z v rv fv => q v m1 H1 S1 x e (RelE.ext (G := gd X) e E) R1 rv fv z⟩
theorem tV_imp {f : Env → M Kd.X} {Q' : VK} (h : tV X T W f σ H Q) (q : ∀ v H1, Q v H1 → Q' v H1) : tV X T W f σ H Q' :=
  let ⟨m, S, ρ, E, R, h⟩ := h
  ⟨m, S, ρ, E, R, h.imp fun _ _ _ _ _ _ z v rv fv => q _ _ (z v rv fv)⟩
/-- a value is forced: a list nobody holds joins the store -/
theorem pe_force {e : Expr} {f : Env → M Kd.X} (h : PE X e (tV X T W f)) : PE X e (tF X T W fun ρ => f ρ >>= force) := by
  refine pe_mono h fun σ H Q ⟨m, S, ρ, E, R, z⟩ => tV_bind E R z fun v m1 H1 S1 x e E1 R1 rv fv q => ?_
  cases x with
  | dv d => exact q m1 H1 e R1 v rv
  | tl ds =>
    obtain ⟨p, vs, rfl, h1, h2, h3, h4⟩ := rv
    have e2 : Ext m H (m1 ++ [p]) H1 := by
      obtain ⟨m2, e1, n2⟩ := e.more
      refine ⟨⟨m2 ++ [p], by rw [e1, List.append_assoc], fun b hb => ?_⟩, e.keep, e.tups, e.frzs, e.there⟩
      rcases List.mem_append.mp hb with hb | hb
      · exact n2 b hb
      · rw [List.mem_singleton.mp hb]; exact fv
    have R2 := R1.join (ob := .lst ds) h2 ⟨vs, h1, RelDs.more app_get _ _ h3, h4⟩
    exact q (m1 ++ [p]) H1 e2 R2 (.ref p) ⟨p, rfl, by rw [← R1.len]; exact List.getElem?_concat_length⟩
theorem pe_frc {e : Expr} {f : Env → M Kd.X} (h : PE X e (tV X T W f)) : PE X e (tV X T W fun ρ => (f ρ >>= force) >>= fun d => M.pure (.dv d)) :=
  pe_mono (pe_force h) fun σ H Q ⟨m, S, ρ, E, R, z⟩ => ⟨m, S, ρ, E, R, z.bind.imp fun m1 H1 S1 d e R1 q v rv => q m1 H1 e R1 v rv trivial⟩
theorem pa_nilX : PA X [] (tXs X T W fun _ => M.pure []) := pa_mono pa_nil fun σ H Q ⟨m, S, ρ, E, R, z⟩ => z.pure R [] rfl
theorem pa_nilD : PA X [] (tDs X T W fun _ => M.pure []) := pa_mono pa_nil fun σ H Q ⟨m, S, ρ, E, R, z⟩ => z.pure R [] rfl
def noStar : Expr → Bool
  | .Starred _ _ => false
  | _ => true
theorem star1 {e : Expr} {es : List Expr} {env : PySem.Env} (h : noStar e = true) : starEach (e :: es) env = (false, eval e env) :: starEach es env := by cases e <;> first | rfl | cases h
theorem star_plain {pos : Pos} {env : PySem.Env} : ∀ {es : List Expr}, es.all noStar = true → (backTo pos (starEach es env)).any (·.1) = false
  | [], _ => rfl
  | e :: es, h => by
    simp only [List.all_cons, Bool.and_eq_true] at h
    rw [star1 h.1]
    show (false || (backTo pos (starEach es env)).any (·.1)) = false
    rw [star_plain h.2]
    rfl
theorem pa_consX {e : Expr} {es : List Expr} {f : Env → M Kd.X} {g : Env → M (List Kd.X)} (ns : noStar e = true) (h : PE X e (tV X T W f)) (h2 : PA X es (tXs X T W g)) :
    PA X (e :: es) (tXs X T W fun ρ => f ρ >>= fun x => g ρ >>= fun xs => M.pure (x :: xs)) := by
  refine pa_mono (pa_cons h h2 (star1 ns)) fun σ H Q ⟨m, S, ρ, E, R, z⟩ => tV_bind E R z fun v m1 H1 S1 x e E1 R1 rv fv q => ?_
  refine ⟨m1, S1, ρ, E1, R1, (q.bind.shift e).imp fun m2 H2 S2 xs e2 R2 q2 vs rvs => ?_⟩
  exact q2 m2 H2 (e.trans e2) R2 _ ⟨v, vs, rfl, RelX.ext (G := gd X) e2 rv, rvs⟩
theorem pa_consD {e : Expr} {es : List Expr} {f : Env → M Kd.X} {g : Env → M (List D)} (ns : noStar e = true) (h : PE X e (tV X T W f)) (h2 : PA X es (tDs X T W g)) :
    PA X (e :: es) (tDs X T W fun ρ => (f ρ >>= force) >>= fun x => g ρ >>= fun xs => M.pure (x :: xs)) := by
  refine pa_mono (pa_cons (pe_force h) h2 (star1 ns)) fun σ H Q ⟨m, S, ρ, E, R, z⟩ => ?_
  refine ⟨m, S, ρ, E, R, z.bind.imp fun m1 H1 S1 d e R1 q v rv => ?_⟩
  refine ⟨m1, S1, ρ, RelE.ext (G := gd X) e E, R1, (q.bind.shift e).imp fun m2 H2 S2 xs e2 R2 q2 vs rvs => ?_⟩
  exact q2 m2 H2 (e.trans e2) R2 _ ⟨v, vs, rfl, RelD.ext e2 _ _ rv, rvs⟩
/-! ### the plain ones -/
theorem se_const {e : Expr} {v : V} {d : D} (h : PE X e (tC v)) (r : ∀ m H, RelD X.K m H d v) : PE X e (tV X T W fun _ => M.pure (.dv d)) :=
  pe_mono h fun σ H Q ⟨m, S, ρ, E, R, z⟩ => z.pure R v (r _ _) trivial
theorem se_var {i : Nat} {x : Str} {pos : Pos} (h : PE X (.Name x pos) (tVar i)) : PE X (.Name x pos) (tV X T W fun ρ => match ρ[i]? with
    | some (some d) => M.pure (.dv d)
    | _ => M.bad) := by
  refine pe_mono h fun σ H Q ⟨m, S, ρ, E, R, z⟩ => ?_
  cases q : ρ[i]? with
  | none => simp only [q] at z; exact z.elim
  | some o =>
    cases o with
    | none => simp only [q] at z; exact z.elim
    | some d =>
      simp only [q] at z
      obtain ⟨v, h1, h2⟩ := E.at_ i d q
      exact ⟨v, h1, z.pure R v h2 trivial⟩
theorem se_tup {es : List Expr} {f : Env → M (List D)} {k : Nat} {pos : Pos} (h : PA X es (tDs X T W f)) (hl : ∀ ρ S ds S', f ρ S = .ok ds S' → ds.length ≤ sizeLine) : PE X (.Tuple es k pos) (tV X T W fun ρ => f ρ >>= fun ds => M.pure (.dv (.tup ds))) := by
  refine pe_mono (pe_tup h) fun σ H Q ⟨m, S, ρ, E, R, z⟩ => ⟨m, S, ρ, E, R, ?_⟩
  rw [bindE] at z
  cases q : f ρ S with
  | ok ds S' =>
    rw [q] at z
    refine fun m1 H1 e R1 vs rvs => ⟨by rw [← RelDs.length rvs]; exact hl _ _ _ _ q, fun p hp => ?_⟩
    exact z m1 _ (e.trans (ext_new hp)) (R1.laid hp) (.ref p) ⟨p, vs, rfl, .inl upd_same, rvs.ext (ext_new hp)⟩ trivial
  | exc c d S' => rw [q] at z; exact z
  | bad => rw [q] at z; exact z
theorem se_lst {es : List Expr} {f : Env → M (List D)} {pos : Pos} (h : PA X es (tDs X T W f)) (hl : ∀ ρ S ds S', f ρ S = .ok ds S' → ds.length ≤ sizeLine) : PE X (.List es pos) (tV X T W fun ρ => f ρ >>= fun ds => M.pure (.tl ds)) := by
  refine pe_mono (pe_lst h) fun σ H Q ⟨m, S, ρ, E, R, z⟩ => ⟨m, S, ρ, E, R, ?_⟩
  rw [bindE] at z
  cases q : f ρ S with
  | ok ds S' =>
    rw [q] at z
    refine fun m1 H1 e R1 vs rvs => ⟨by rw [← RelDs.length rvs]; exact hl _ _ _ _ q, fun p hp => ?_⟩
    exact z m1 _ (e.trans (ext_new hp)) (R1.laid hp) (.ref p) ⟨p, vs, rfl, upd_same, R1.new hp, rvs.ext (ext_new hp), hl _ _ _ _ q⟩ (by
      show H p = none
      cases w : H p with
      | none => rfl
      | some o => exact absurd hp (e.there p (by rw [w]; simp)))
  | exc c d S' => rw [q] at z; exact z
  | bad => rw [q] at z; exact z
theorem se_dct0 {pos : Pos} : PE X (.Dict [] [] pos) (tV X T W fun _ => push (.dct []) >>= fun l => M.pure (.dv (.loc l))) := by
  refine ⟨fun pins s σ H Q I ⟨m, S, ρ, E, R, z⟩ => ?_⟩
  refine kd_new I fun p hp hs => ?_
  have e : Ext m H (m ++ [p]) (upd H p (RawD p [])) := ext_push hp
  have R1 := (R.laid (o := RawD p []) hp).join (p := p) (ob := .dct []) (R.new hp) ⟨[], upd_same, hs, Nat.zero_le _, .inl ⟨[], dctS_nil⟩⟩
  exact z (m ++ [p]) _ e R1 (.ref p) ⟨p, rfl, by rw [← R.len]; exact List.getElem?_concat_length⟩ trivial
theorem se_bin {a b : Expr} {fa fb : Env → M Kd.X} {op : Operator} {g : Kd.X → Kd.X → M Kd.X} {pos : Pos} (ho : OpR X (binaryOp op) (rOp (gd X) g)) (ha : PE X a (tV X T W fa)) (hb : PE X b (tV X T W fb)) :
    PE X (.BinOp a op b pos) (tV X T W fun ρ => fa ρ >>= fun x => fb ρ >>= fun y => g x y) := by
  refine pe_mono (pe_op ho ha hb) fun σ H Q ⟨m, S, ρ, E, R, z⟩ => tV_bind E R z fun v m1 H1 S1 x e E1 R1 rv fv q => ?_
  refine tV_bind E1 R1 (q.kq e) fun v2 m2 H2 S2 y e2 E2 R2 rv2 fv2 q2 => ?_
  exact ⟨T, WE W σ, m2, S2, x, y, R2, RelX.ext (G := gd X) e2 rv, rv2, q2.kq e2⟩
theorem se_ix {a b : Expr} {fa fb : Env → M Kd.X} {g : Kd.X → Kd.X → M Kd.X} {pos : Pos} (ho : IxR X (rOp (gd X) g)) (hp : PlainIx b) (ha : PE X a (tV X T W fa)) (hb : PE X b (tV X T W fb)) :
    PE X (.Subscript a b pos) (tV X T W fun ρ => fa ρ >>= fun x => fb ρ >>= fun y => g x y) := by
  refine pe_mono (pe_ix ho ha hb hp) fun σ H Q ⟨m, S, ρ, E, R, z⟩ => tV_bind E R z fun v m1 H1 S1 x e E1 R1 rv fv q => ?_
  refine tV_bind E1 R1 (q.kq e) fun v2 m2 H2 S2 y e2 E2 R2 rv2 fv2 q2 => ?_
  exact ⟨T, WE W σ, m2, S2, x, y, R2, RelX.ext (G := gd X) e2 rv, rv2, q2.kq e2⟩
theorem se_cmp {a b : Expr} {fa fb : Env → M Kd.X} {op : CmpOp} {g : Kd.X → Kd.X → M Bool} {pos : Pos} (ho : OpR X (compareOp op) (rCm (gd X) g)) (hm : behindInMarks op b = false) (ha : PE X a (tV X T W fa)) (hb : PE X b (tV X T W fb)) :
    PE X (.Compare a [op] [b] pos) (tV X T W fun ρ => fa ρ >>= fun x => fb ρ >>= fun y => g x y >>= fun k => M.pure (.dv (.bl k))) := by
  refine pe_mono (pe_cmpR ho ha hb hm) fun σ H Q ⟨m, S, ρ, E, R, z⟩ => tV_bind E R z fun v m1 H1 S1 x e E1 R1 rv fv q => ?_
  refine tV_bind E1 R1 (q.kq e) fun v2 m2 H2 S2 y e2 E2 R2 rv2 fv2 q2 => ?_
  exact ⟨T, WE W σ, m2, S2, x, y, R2, RelX.ext (G := gd X) e2 rv, rv2, ((q2.kq e2).bind).imp fun m3 H3 S3 k e3 R3 q3 => q3 m3 H3 e3 R3 (.bl k) rfl trivial⟩
theorem st_cmp {a b : Expr} {fa fb : Env → M Kd.X} {op : CmpOp} {g : Kd.X → Kd.X → M Bool} {pos : Pos} (ho : OpR X (compareOp op) (rCm (gd X) g)) (hm : behindInMarks op b = false) (ha : PE X a (tV X T W fa)) (hb : PE X b (tV X T W fb)) :
    PT X (.Compare a [op] [b] pos) (tB X T W fun ρ => (fa ρ >>= fun x => fb ρ >>= fun y => g x y >>= fun k => M.pure (Kd.X.dv (.bl k))) >>= theB) := by
  refine pt_mono (pt_cmpR ho ha hb hm) fun σ H Q ⟨m, S, ρ, E, R, z⟩ => ?_
  refine tV_bind E R z.bind fun v m1 H1 S1 x e E1 R1 rv fv q => ?_
  refine tV_bind E1 R1 (q.shift e) fun v2 m2 H2 S2 y e2 E2 R2 rv2 fv2 q2 => ?_
  exact ⟨T, WE W σ, m2, S2, x, y, R2, RelX.ext (G := gd X) e2 rv, rv2, ((q2.shift e2).bind).imp fun m3 H3 S3 k e3 R3 q3 => ⟨k, rfl, q3 m3 H3 e3 R3 m3 H3 ((e.trans e2).trans e3) R3⟩⟩
theorem se_un {a : Expr} {fa : Env → M Kd.X} {op : UnaryOp} {g : Kd.X → M Kd.X} {pos : Pos} (ho : UnR X (unaryOp op) fun v H Q => ∃ (T : Cls') (Y : XK) (m : List Addr) (S : Sto) (x : Kd.X), RelS (gd X) m H S ∧ RelX X.K m H x v ∧ Pst (gd X) T Y m H (g x S) (kQ (gd X) H Q)) (ha : PE X a (tV X T W fa)) :
    PE X (.UnaryOp op a pos) (tV X T W fun ρ => fa ρ >>= fun x => g x) := by
  refine pe_mono (pe_un ho ha) fun σ H Q ⟨m, S, ρ, E, R, z⟩ => tV_bind E R z fun v m1 H1 S1 x e E1 R1 rv fv q => ?_
  exact ⟨T, WE W σ, m1, S1, x, R1, rv, q.kq e⟩
end
end Kd
/-! Expressions, on: tests, calls, methods, slices. -/
set_option maxHeartbeats 1000000
namespace Kd
open PySem PySem.Spec PyProof.Rows L2
theorem M.ext {α : Type} {x y : M α} (h : ∀ S, x S = y S) : x = y := by
  cases x; cases y
  congr
  exact funext h
theorem M.assoc {α β γ : Type} (x : M α) (f : α → M β) (g : β → M γ) : (x >>= f) >>= g = x >>= fun a => f a >>= g := M.ext fun S => by
  simp only [bindE]
  cases x S <;> rfl
theorem M.pure_b {α β : Type} (a : α) (f : α → M β) : (M.pure a >>= f) = f a := M.ext fun S => rfl
theorem M.b_pure {α : Type} (x : M α) : (x >>= M.pure) = x := M.ext fun S => by
  simp only [bindE]
  cases x S <;> rfl
theorem asT_f (x : M Kd.X) : asT false x = x := rfl
theorem asT_t (x : M Kd.X) : asT true x >>= theB = x >>= truX := by
  show (x >>= fun v => truX v >>= fun b => M.pure (Kd.X.dv (.bl b))) >>= theB = _
  rw [M.assoc]
  congr 1
  funext v
  rw [M.assoc]
  show (truX v >>= fun b => M.pure b) = _
  exact M.b_pure _
section
variable {X : Cx} {T : Cls'} {W : WX} {m : List Addr} {H : Hp} {S : Sto} {ρ : Env} {σ : L2.St} {Q : VK}
/-- a test by a value's truth -/
theorem st_plain {e : Expr} {f : Env → M Kd.X} (h : PE X e (tV X T W f)) (he : ∀ whole, isTrue e X.env whole = (do let v ← whole; standAt e.pos; holding [v] (truthy v))) : PT X e (tB X T W fun ρ => f ρ >>= truX) :=
  pt_mono (pt_truthR h tru_okK he) fun σ H Q ⟨m, S, ρ, E, R, z⟩ => tV_bind E R z fun v m1 H1 S1 x e E1 R1 rv fv q => ⟨T, WE W σ, m1, S1, x, R1, rv, q.shift e⟩
theorem se_not {a : Expr} {f : Env → M Kd.X} {pos : Pos} (ha : PE X a (tV X T W f)) : PE X (.UnaryOp .Not a pos) (tV X T W fun ρ => f ρ >>= truX >>= fun b => M.pure (.dv (.bl (!b)))) := by
  refine ⟨fun pins s σ H Q I ⟨m, S, ρ, E, R, z⟩ => ?_⟩
  simp only [] at z
  rw [M.assoc] at z
  have ht : tV X T W f σ H fun v H1 => ∃ (T : Cls') (Y : XK) (m : List Addr) (S : Sto) (x : Kd.X), RelS (gd X) m H1 S ∧ RelX X.K m H1 x v ∧ Pst (gd X) T Y m H1 (truX x S) (fun _ H' _ b => Q (.bl (!b)) H') :=
    tV_bind E R z fun v m1 H1 S1 x e E1 R1 rv fv q => ⟨T, WE W σ, m1, S1, x, R1, rv, (q.shift e).bind.imp fun m2 H2 S2 b e2 R2 q2 => q2 m2 H2 e2 R2 (.bl (!b)) rfl trivial⟩
  refine UnaryOp_ (thn (ha.run pins s σ H _ I ht) fun v s1 ⟨x, H1, I1, r1, q1⟩ => ?_)
  exact not_of (thn (tru_okK pins s1 σ H1 x v (fun c H2 => Q (.bl (!c)) H2) I1 r1 q1) fun c s2 ⟨H2, I2, q2⟩ => ⟨.bl (!c), H2, I2, rfl, q2⟩)
theorem st_not {a : Expr} {f : Env → M Bool} {pos : Pos} (ha : PT X a (tB X T W f)) : PT X (.UnaryOp .Not a pos) (tB X T W fun ρ => f ρ >>= fun b => M.pure (!b)) :=
  pt_mono (pt_not ha) fun σ H Q ⟨m, S, ρ, E, R, z⟩ => ⟨m, S, ρ, E, R, z.bind.imp fun m1 H1 S1 b e R1 q => q m1 H1 e R1⟩
theorem the_bl {α : Type} {x : Kd.X} {g : Bool → M α} {Y : XK} {k : List Addr → Hp → Sto → α → Prop} (h : Pst (gd X) T Y m H ((theB x >>= g) S) k) : ∃ b, x = .dv (.bl b) ∧ Pst (gd X) T Y m H (g b S) k := by
  cases x with
  | tl ds => exact h.elim
  | dv d => cases d <;> first | exact ⟨_, rfl, h⟩ | exact h.elim
theorem se_and {a b : Expr} {rest : List Expr} {fa fb : Env → M Kd.X} {pos : Pos} (ha : PE X a (tV X T W fa)) (hb : PE X (.BoolOp .And (b :: rest) pos) (tV X T W fb)) :
    PE X (.BoolOp .And (a :: b :: rest) pos) (tV X T W fun ρ => fa ρ >>= theB >>= fun k => if k then fb ρ else M.pure (.dv (.bl false))) := by
  refine pe_mono (pe_and ha hb) fun σ H Q ⟨m, S, ρ, E, R, z⟩ => ?_
  simp only [] at z
  rw [M.assoc] at z
  refine tV_bind E R z fun v m1 H1 S1 x e E1 R1 rv fv q => ?_
  obtain ⟨c, rfl, q⟩ := the_bl q
  refine ⟨c, rv, ?_⟩
  cases c with
  | true => exact ⟨m1, S1, ρ, E1, R1, q.kq e⟩
  | false => exact q m1 H1 e R1 _ rfl trivial
theorem se_or {a b : Expr} {rest : List Expr} {fa fb : Env → M Kd.X} {pos : Pos} (ha : PE X a (tV X T W fa)) (hb : PE X (.BoolOp .Or (b :: rest) pos) (tV X T W fb)) :
    PE X (.BoolOp .Or (a :: b :: rest) pos) (tV X T W fun ρ => fa ρ >>= theB >>= fun k => if k then M.pure (.dv (.bl true)) else fb ρ) := by
  refine pe_mono (pe_or ha hb) fun σ H Q ⟨m, S, ρ, E, R, z⟩ => ?_
  simp only [] at z
  rw [M.assoc] at z
  refine tV_bind E R z fun v m1 H1 S1 x e E1 R1 rv fv q => ?_
  obtain ⟨c, rfl, q⟩ := the_bl q
  refine ⟨c, rv, ?_⟩
  cases c with
  | true => exact q m1 H1 e R1 _ rfl trivial
  | false => exact ⟨m1, S1, ρ, E1, R1, q.kq e⟩
theorem pw_of_pt {op : BoolOp} {es : List Expr} {pos : Pos} {t : TT} (h : PT X (.BoolOp op es pos) t) : PW X (.BoolOp op es pos) t := ⟨fun wh pins s σ H Q I z => h.run pins s σ H Q I z⟩
theorem st_and {a b : Expr} {rest : List Expr} {fa fb : Env → M Bool} {pos : Pos} (ha : PT X a (tB X T W fa)) (hb : PW X (.BoolOp .And (b :: rest) pos) (tB X T W fb)) :
    PT X (.BoolOp .And (a :: b :: rest) pos) (tB X T W fun ρ => fa ρ >>= fun k => if k then fb ρ else M.pure false) := by
  refine pt_mono (pw_and ha hb).pt fun σ H Q ⟨m, S, ρ, E, R, z⟩ => ⟨m, S, ρ, E, R, z.bind.imp fun m1 H1 S1 c e R1 q => ?_⟩
  cases c with
  | true => exact ⟨m1, S1, ρ, RelE.ext (G := gd X) e E, R1, q.shift e⟩
  | false => exact q m1 H1 e R1
theorem st_or {a b : Expr} {rest : List Expr} {fa fb : Env → M Bool} {pos : Pos} (ha : PT X a (tB X T W fa)) (hb : PW X (.BoolOp .Or (b :: rest) pos) (tB X T W fb)) :
    PT X (.BoolOp .Or (a :: b :: rest) pos) (tB X T W fun ρ => fa ρ >>= fun k => if k then M.pure true else fb ρ) := by
  refine pt_mono (pw_or ha hb).pt fun σ H Q ⟨m, S, ρ, E, R, z⟩ => ⟨m, S, ρ, E, R, z.bind.imp fun m1 H1 S1 c e R1 q => ?_⟩
  cases c with
  | true => exact q m1 H1 e R1
  | false => exact ⟨m1, S1, ρ, RelE.ext (G := gd X) e E, R1, q.shift e⟩
theorem chn_ok {a b c : Expr} {fa fb fc : Env → M Kd.X} {op op2 : CmpOp} {g g2 : Kd.X → Kd.X → M Bool} {Q : VK} (E : RelE X.K m H ρ σ) (R : RelS (gd X) m H S)
    (z : Pst (gd X) T (WE W σ) m H ((fa ρ >>= fun x => fb ρ >>= fun y => g x y >>= fun k => if k then fc ρ >>= fun z => g2 y z >>= fun b => M.pure (Kd.X.dv (.bl b)) else M.pure (.dv (.bl false))) S) (kQ (gd X) H Q)) :
    tChain (rCm (gd X) g) (rCm (gd X) g2) (tV X T W fa) (tV X T W fb) (tV X T W fc) σ H Q := by
  refine tV_bind E R z fun v m1 H1 S1 x e E1 R1 rv fv q => ?_
  refine tV_bind E1 R1 (q.kq e) fun v2 m2 H2 S2 y e2 E2 R2 rv2 fv2 q2 => ?_
  refine ⟨T, WE W σ, m2, S2, x, y, R2, RelX.ext (G := gd X) e2 rv, rv2, ((q2.kq e2).bind).imp fun m3 H3 S3 k e3 R3 q3 => ⟨k, rfl, ?_⟩⟩
  cases k with
  | false => exact q3 m3 H3 e3 R3 _ rfl trivial
  | true =>
    simp only [if_true]
    refine tV_bind (RelE.ext (G := gd X) e3 E2) R3 (q3.kq e3) fun v4 m4 H4 S4 y4 e4 E4 R4 rv4 fv4 q4 => ?_
    exact ⟨T, WE W σ, m4, S4, y, y4, R4, RelX.ext (G := gd X) (e3.trans e4) rv2, rv4, ((q4.kq e4).bind).imp fun m5 H5 S5 k e5 R5 q5 => q5 m5 H5 e5 R5 _ rfl trivial⟩
theorem se_chn {a b c : Expr} {fa fb fc : Env → M Kd.X} {op op2 : CmpOp} {g g2 : Kd.X → Kd.X → M Bool} {pos : Pos} (ho : OpR X (compareOp op) (rCm (gd X) g)) (ho2 : OpR X (compareOp op2) (rCm (gd X) g2)) (hm : behindInMarks op2 c = false)
    (ha : PE X a (tV X T W fa)) (hb : PE X b (tV X T W fb)) (hc : PE X c (tV X T W fc)) :
    PE X (.Compare a [op, op2] [b, c] pos) (tV X T W fun ρ => fa ρ >>= fun x => fb ρ >>= fun y => g x y >>= fun k => if k then fc ρ >>= fun z => g2 y z >>= fun b => M.pure (Kd.X.dv (.bl b)) else M.pure (.dv (.bl false))) :=
  pe_mono (pe_chain ho ho2 ha hb hc hm) fun σ H Q ⟨m, S, ρ, E, R, z⟩ => chn_ok (a := a) (b := b) (c := c) (op := op) (op2 := op2) E R z
theorem st_chn {a b c : Expr} {fa fb fc : Env → M Kd.X} {op op2 : CmpOp} {g g2 : Kd.X → Kd.X → M Bool} {pos : Pos} (ho : OpR X (compareOp op) (rCm (gd X) g)) (ho2 : OpR X (compareOp op2) (rCm (gd X) g2)) (hm : behindInMarks op2 c = false)
    (ha : PE X a (tV X T W fa)) (hb : PE X b (tV X T W fb)) (hc : PE X c (tV X T W fc)) :
    PT X (.Compare a [op, op2] [b, c] pos) (tB X T W fun ρ => (fa ρ >>= fun x => fb ρ >>= fun y => g x y >>= fun k => if k then fc ρ >>= fun z => g2 y z >>= fun b => M.pure (Kd.X.dv (.bl b)) else M.pure (.dv (.bl false))) >>= theB) := by
  refine pt_mono (pt_chain ho ho2 ha hb hc hm) fun σ H Q ⟨m, S, ρ, E, R, z⟩ => ?_
  refine chn_ok (a := a) (b := b) (c := c) (op := op) (op2 := op2) E R (z.bind.imp fun m1 H1 S1 x e R1 q v rv fv => ?_)
  have q' : Pst (gd X) T (WE W σ) m H ((theB x >>= M.pure) S1) (fun _ H' _ b => Q b H') := by rw [M.b_pure]; exact q
  obtain ⟨b, rfl, q⟩ := the_bl q'
  exact ⟨b, rv, q m1 H1 e R1⟩
theorem se_ite {c a b : Expr} {fc : Env → M Bool} {fa fb : Env → M Kd.X} {pos : Pos} (hc : PT X c (tB X T W fc)) (ha : PE X a (tV X T W fa)) (hb : PE X b (tV X T W fb)) :
    PE X (.IfExp c a b pos) (tV X T W fun ρ => fc ρ >>= fun k => if k then fa ρ else fb ρ) := by
  refine pe_mono (pe_ifExp hc ha hb) fun σ H Q ⟨m, S, ρ, E, R, z⟩ => ⟨m, S, ρ, E, R, z.bind.imp fun m1 H1 S1 k e R1 q => ?_⟩
  cases k with
  | true => exact ⟨m1, S1, ρ, RelE.ext (G := gd X) e E, R1, q.kq e⟩
  | false => exact ⟨m1, S1, ρ, RelE.ext (G := gd X) e E, R1, q.kq e⟩
theorem st_ite {c a b : Expr} {fc fa fb : Env → M Bool} {pos : Pos} (hc : PT X c (tB X T W fc)) (ha : PT X a (tB X T W fa)) (hb : PT X b (tB X T W fb)) :
    PT X (.IfExp c a b pos) (tB X T W fun ρ => fc ρ >>= fun k => if k then fa ρ else fb ρ) := by
  refine ⟨fun pins s σ H Q I ⟨m, S, ρ, E, R, z⟩ => ?_⟩
  have e : isTrue (.IfExp c a b pos) X.env (eval (.IfExp c a b pos) X.env) = (do if ← isTrue c X.env (eval c X.env) then isTrue a X.env (eval a X.env) else isTrue b X.env (eval b X.env)) := rfl
  rw [e]
  refine wpAny_bind (thn (hc.run pins s σ H (fun k H1 => if k = true then tB X T W fa σ H1 Q else tB X T W fb σ H1 Q) I ⟨m, S, ρ, E, R, z.bind.imp fun m1 H1 S1 k e R1 q => ?_⟩) fun k s1 ⟨H1, I1, q1⟩ => ?_)
  · cases k with
    | true => exact ⟨m1, S1, ρ, RelE.ext (G := gd X) e E, R1, q.shift e⟩
    | false => exact ⟨m1, S1, ρ, RelE.ext (G := gd X) e E, R1, q.shift e⟩
  · cases k with
    | true => exact ha.run pins s1 σ H1 Q I1 q1
    | false => exact hb.run pins s1 σ H1 Q I1 q1
theorem neg_K : UnR X (unaryOp .USub) fun v H Q => ∃ (T : Cls') (Y : XK) (m : List Addr) (S : Sto) (x : Kd.X), RelS (gd X) m H S ∧ RelX X.K m H x v ∧ Pst (gd X) T Y m H ((match x with
    | .dv (.int i) => M.pure (.dv (.int (-i)))
    | _ => M.bad : M Kd.X) S) (kQ (gd X) H Q) := by
  intro pins s σ H v u Q I rv ⟨T, Y, m, S, x, R, rx, z⟩
  cases x with
  | tl ds => exact z.elim
  | dv d =>
    cases d with
    | int i =>
      cases (show v = .int i from rx)
      exact un_neg pins s σ H _ u Q I rv ⟨i, rfl, fin_val (x := .dv (.int (-i))) z R rfl⟩
    | _ => exact z.elim
/-! ### calls -/
/-- what a def's call means -/
def spK (G : Gd) (T : Cls') (call : List D → M D) : Sp := fun vs H Q E => ∃ (m : List Addr) (S : Sto) (ds : List D), RelDs G.K m H ds vs ∧ RelS G m H S ∧ Pst G T E m H (call ds S) (fun m' H' _ d => ∀ v, RelD G.K m' H' d v → Q v H')
def noCall0 : Expr → Bool
  | .Call _ [] [] _ => false
  | _ => true
theorem attr_base {o : Expr} {a : Str} {env : PySem.Env} {w : Sem Value} (h : noCall0 o = true) : attributeBase o a env w = w := by
  cases o with
  | Call f as ks p =>
    cases as with
    | cons _ _ => cases f <;> rfl
    | nil => cases ks with
      | nil => cases h
      | cons _ _ => cases f <;> rfl
  | _ => rfl
theorem se_call {k : Nat} {f : Addr} {fd : FuncData} {ps : List Str} {x : Str} {p pos : Pos} {e : Expr} {es : List Expr} {g : Env → M (List D)} {cal : List D → M D}
    (F : FnOk X.prog X.w X.K X.mg X.base (L2.CX X.prog X.w) k f fd ps (spK (gd X) T cal)) (hr : Room k X.A) (hg : Gl X x) (hm : X.mg x = some (.ref f)) (hk : PySem.W.keepIn X.K (.ref f) = true) (hb : Binds X.K fd ps []) (tk : Takes X W)
    (ha : PA X (e :: es) (tDs X T W g)) (hdb : (x == ("__debug__" : Str)) = false) (ns : (e :: es).all noStar = true) :
    PE X (.Call (.Name x p) (e :: es) [] pos) (tV X T W fun ρ => g ρ >>= fun ds => cal ds >>= fun d => M.pure (.dv d)) := by
  have n1 : noStar e = true ∧ es.all noStar = true := by simpa only [List.all_cons, Bool.and_eq_true] using ns
  refine pe_mono (pe_callS F hr hg hm hk hb (passAt tk) ha hdb (star1 n1.1) (star_plain n1.2)) fun σ H Q ⟨m, S, ρ, E, R, z⟩ => ?_
  refine ⟨m, S, ρ, E, R, z.bind.imp fun m1 H1 S1 ds e R1 q vs rvs => ?_⟩
  exact ⟨m1, S1, ds, rvs, R1, (q.bind.shift e).imp fun m2 H2 S2 d e2 R2 q2 v rv => q2 m2 H2 (e.trans e2) R2 v rv trivial⟩
theorem se_bltB {x : Str} {id : String} {p pos : Pos} {e : Expr} {es : List Expr} {g : Env → M (List Kd.X)} {f : List Kd.X → M Kd.X} (hr : CallR X (.builtin id) (rBl (gd X) f)) (hg : Gl X x) (hm : X.mg x = none) (hb : bootBuiltins x = some (.builtin id))
    (ha : PA X (e :: es) (tXs X T W g)) (hn : x ≠ ("__name__" : Str)) (hdb : (x == ("__debug__" : Str)) = false) (ns : (e :: es).all noStar = true) : PE X (.Call (.Name x p) (e :: es) [] pos) (tV X T W fun ρ => g ρ >>= fun xs => f xs) := by
  have n1 : noStar e = true ∧ es.all noStar = true := by simpa only [List.all_cons, Bool.and_eq_true] using ns
  refine pe_mono (pe_callB hr hg hm hb ha hn hdb (star1 n1.1) (star_plain n1.2)) fun σ H Q ⟨m, S, ρ, E, R, z⟩ => ?_
  exact ⟨m, S, ρ, E, R, z.bind.imp fun m1 H1 S1 xs e R1 q vs rvs => ⟨T, WE W σ, m1, S1, xs, R1, rvs, q.kq e⟩⟩
theorem se_bltT {x : Str} {id : String} {p pos : Pos} {e : Expr} {es : List Expr} {g : Env → M (List Kd.X)} {f : List Kd.X → M Kd.X} (hr : CallR X (.type id) (rBl (gd X) f)) (hg : Gl X x) (hm : X.mg x = none) (hb : bootBuiltins x = some (.type id))
    (ha : PA X (e :: es) (tXs X T W g)) (hn : x ≠ ("__name__" : Str)) (hdb : (x == ("__debug__" : Str)) = false) (ns : (e :: es).all noStar = true) : PE X (.Call (.Name x p) (e :: es) [] pos) (tV X T W fun ρ => g ρ >>= fun xs => f xs) := by
  have n1 : noStar e = true ∧ es.all noStar = true := by simpa only [List.all_cons, Bool.and_eq_true] using ns
  refine pe_mono (pe_callTy hr hg hm hb ha hn hdb (star1 n1.1) (star_plain n1.2)) fun σ H Q ⟨m, S, ρ, E, R, z⟩ => ?_
  exact ⟨m, S, ρ, E, R, z.bind.imp fun m1 H1 S1 xs e R1 q vs rvs => ⟨T, WE W σ, m1, S1, xs, R1, rvs, q.kq e⟩⟩
theorem se_isi {t : Ty} {e : Expr} {p p2 pos : Pos} {f : Env → M Kd.X} (hg : Gl X "isinstance") (hm : X.mg "isinstance" = none) (he : PE X e (tV X T W f)) (ht : PE X (.Name (Str.ofString (tyN t)) p2) (tC (.ty (tyN t)))) (ns : noStar e = true) :
    PE X (.Call (.Name "isinstance" p) [e, .Name (Str.ofString (tyN t)) p2] [] pos) (tV X T W fun ρ => f ρ >>= fun x => isiX t x) := by
  have ha : PA X [e, .Name (Str.ofString (tyN t)) p2] (tCons (tV X T W f) (tCons (tC (.ty (tyN t))) tNil)) := pa_cons he (pa_cons ht pa_nil) (star1 ns)
  refine pe_mono (pe_callB (cr_isiK t) hg hm (by rfl) ha (by decide) (by decide) (star1 ns) (by rfl)) fun σ H Q ⟨m, S, ρ, E, R, z⟩ => ?_
  exact tV_bind E R z fun v m1 H1 S1 x e E1 R1 rv fv q => ⟨T, WE W σ, m1, S1, x, v, rfl, R1, rv, q.kq e⟩
end
end Kd
/-! Methods, slices. -/
set_option maxHeartbeats 1000000
namespace Kd
open PySem PySem.Spec PyProof.Rows L2
theorem star_all {pos : Pos} {env : PySem.Env} : ∀ {es : List Expr}, es.all noStar = true → (backTo pos (starEach es env)).all (fun x => !x.1) = true
  | [], _ => rfl
  | e :: es, h => by
    simp only [List.all_cons, Bool.and_eq_true] at h
    rw [star1 h.1]
    show (!false && (backTo pos (starEach es env)).all (fun x => !x.1)) = true
    rw [star_all h.2]
    rfl
section
variable {X : Cx} {T : Cls'} {W : WX} {m : List Addr} {H : Hp} {S : Sto} {ρ : Env} {σ : L2.St} {Q : VK}
theorem recv_is {pins : List (Addr × Obj)} {s : Shared} {mt : Mt} {x : Kd.X} {v : V} {u : Value} {α : Type} {Y : XK} {f : Unit → M α} {k : List Addr → Hp → Sto → α → Prop} (I : Inv X pins σ H s) (R : RelS (gd X) m H S) (rx : RelX X.K m H x v) (rv : RelV v u) (h : Pst (gd X) T Y m H ((recv mt x >>= f) S) k) :
    (s.TypeIs u (tyN mt.ty) ∧ ∀ a, u = .ref a → ∃ ob, s.heap.get? a = some ob ∧ ob.dict = none) ∧ Pst (gd X) T Y m H (f () S) k := by
  rw [bindE] at h
  cases x with
  | tl ds => exact h.elim
  | dv d =>
    simp only [recv] at h
    by_cases q : isTy S d mt.ty = some true
    · rw [if_pos q] at h
      refine ⟨?_, h⟩
      have hm : mt.ty = .str ∨ mt.ty = .dict ∨ mt.ty = .list := by cases mt <;> simp [Mt.ty]
      cases d with
      | non => simp [isTy] at q
      | bl b => rcases hm with e | e | e <;> simp [isTy, e] at q
      | int i => rcases hm with e | e | e <;> simp [isTy, e] at q
      | tup ds => rcases hm with e | e | e <;> simp [isTy, e] at q
      | str z =>
        cases (show v = .str z from rx)
        have e : mt.ty = .str := by rcases hm with e | e | e <;> simp [isTy, e] at q ⊢
        rw [e]
        exact tyV_is I rv rfl
      | rol ns =>
        simp only [RelX, RelD] at rx
        obtain ⟨a, rfl, h1⟩ := rx
        have e : mt.ty = .list := by rcases hm with e | e | e <;> simp [isTy, e] at q ⊢
        rw [e]
        exact tyV_is I rv (.inl ⟨rfl, _, h1.sq⟩)
      | loc l =>
        simp only [RelX, RelD] at rx
        obtain ⟨a, rfl, h1⟩ := rx
        obtain ⟨ob, e, qo⟩ := R.at_ h1
        simp only [isTy, e] at q
        cases ob with
        | lst ds =>
          obtain ⟨ws, h2, h3, h4⟩ := qo
          have e : mt.ty = .list := by rcases hm with e | e | e <;> simp [e] at q ⊢
          rw [e]
          exact tyV_is I rv (.inl ⟨rfl, _, .inl (.inl h2)⟩)
        | dct kvs =>
          obtain ⟨es, h2, h3, h4, h5⟩ := qo
          have e : mt.ty = .dict := by rcases hm with e | e | e <;> simp [e] at q ⊢
          rw [e]
          obtain ⟨o, ep, q1, q2, q3⟩ := raw_of I h2
          cases (show u = .ref a from rv)
          refine ⟨⟨o, q1, q2.1⟩, fun b eb => ?_⟩
          cases eb
          exact ⟨o, q1, q2.2.1⟩
        | ins c fs => exact qo.elim
    · rw [if_neg q] at h; exact h.elim
theorem se_mth {o e : Expr} {es : List Expr} {name : Str} {id : String} {apos cpos : Pos} {mt : Mt} {fo : Env → M Kd.X} {g : Env → M (List Kd.X)} (pa : PlainAttrs (tyN mt.ty)) (slot : Slot (tyN mt.ty) name id) (hty : typeOf (.builtin id) = pure (.type "method_descriptor"))
    (hm : MtR X id (rMt (gd X) (mthX mt))) (ho : PE X o (tV X T W fo)) (ha : PA X (e :: es) (tXs X T W g)) (nc : noCall0 o = true) (hline : (apos.endLine == cpos.line) = true) (ns : (e :: es).all noStar = true) (few : (e :: es).length < 30) :
    PE X (.Call (.Attribute o name apos) (e :: es) [] cpos) (tV X T W fun ρ => fo ρ >>= fun x => recv mt x >>= fun _ => g ρ >>= fun xs => mthX mt x xs) := by
  have n1 : noStar e = true ∧ es.all noStar = true := by simpa only [List.all_cons, Bool.and_eq_true] using ns
  refine ⟨fun pins s σ H Q I ⟨m, S, ρ, E, R, z⟩ => ?_⟩
  have ht : tV X T W fo σ H fun v H1 => ∃ m1 S1 x, RelE X.K m1 H1 ρ σ ∧ RelS (gd X) m1 H1 S1 ∧ RelX X.K m1 H1 x v ∧ Pst (gd X) T (WE W σ) m1 H1 ((recv mt x >>= fun _ => g ρ >>= fun xs => mthX mt x xs) S1) (kQ (gd X) H1 Q) :=
    tV_bind E R z fun v m1 H1 S1 x e E1 R1 rv fv q => ⟨m1, S1, x, E1, R1, rv, q.kq e⟩
  have few2 : ((backTo cpos (starEach (e :: es) X.env)).all (fun x => !x.1) && (backToKw cpos (keywordEach [] X.env)).all (fun x => x.1.isSome)
      && decide ((e :: es).length + ([] : List Keyword).length + (if ([] : List Keyword).isEmpty then 0 else 1) < 30)) = true := by
    rw [star_all ns]
    simp only [keywordEach, backToKw, List.map_nil, List.all_nil, Bool.and_true, Bool.true_and, List.isEmpty_nil, if_true, List.length_nil, Nat.add_zero, decide_eq_true_eq]
    exact few
  refine wpAny_Call_method_late (attr_base nc) few2 hline rfl (thn (ho.run pins s σ H _ I ht) fun v s1 ⟨x, H1, I1, r1, m1, S1, y, E1, R1, rv, q1⟩ => ?_)
  obtain ⟨⟨h1, h2⟩, q2⟩ := recv_is I1 R1 rv r1 q1
  refine ⟨_, id, pa, slot, hty, h1, h2, ?_⟩
  have hA := ha.run cpos pins s1 σ H1 (fun vs H2 => rMt (gd X) (mthX mt) x vs H2 Q) I1 ⟨m1, S1, ρ, E1, R1, q2.bind.imp fun m2 H2 S2 xs e2 R2 q3 vs rvs => ⟨T, WE W σ, m2, S2, y, xs, R2, RelX.ext (G := gd X) e2 rv, rvs, q3.kq e2⟩⟩
  rw [star1 n1.1] at hA ⊢
  refine Calls.callWith_builtin (by show (false || (backTo cpos (starEach es X.env)).any (·.1)) = false; rw [star_plain n1.2] <;> rfl) (Calls.evalArgs_plain ?_)
  exact thn hA fun us s2 ⟨vs, H2, I2, r2, q3⟩ => hm pins s2 σ H2 x vs v us Q I2 r1 r2 q3
theorem se_mth0 {o : Expr} {name : Str} {id : String} {apos cpos : Pos} {mt : Mt} {fo : Env → M Kd.X} (pa : PlainAttrs (tyN mt.ty)) (slot : Slot (tyN mt.ty) name id) (hty : typeOf (.builtin id) = pure (.type "method_descriptor"))
    (hm : MtR X id (rMt (gd X) (mthX mt))) (ho : PE X o (tV X T W fo)) (nc : noCall0 o = true) (hline : (apos.endLine == cpos.line) = true) :
    PE X (.Call (.Attribute o name apos) [] [] cpos) (tV X T W fun ρ => fo ρ >>= fun x => recv mt x >>= fun _ => mthX mt x []) := by
  refine ⟨fun pins s σ H Q I ⟨m, S, ρ, E, R, z⟩ => ?_⟩
  have ht : tV X T W fo σ H fun v H1 => ∃ m1 S1 x, RelE X.K m1 H1 ρ σ ∧ RelS (gd X) m1 H1 S1 ∧ RelX X.K m1 H1 x v ∧ Pst (gd X) T (WE W σ) m1 H1 ((recv mt x >>= fun _ => mthX mt x []) S1) (kQ (gd X) H1 Q) :=
    tV_bind E R z fun v m1 H1 S1 x e E1 R1 rv fv q => ⟨m1, S1, x, E1, R1, rv, q.kq e⟩
  refine wpAny_Call_method0_late (attr_base nc) hline (thn (ho.run pins s σ H _ I ht) fun v s1 ⟨x, H1, I1, r1, m1, S1, y, E1, R1, rv, q1⟩ => ?_)
  obtain ⟨⟨h1, h2⟩, q2⟩ := recv_is I1 R1 rv r1 q1
  exact ⟨_, id, pa, slot, hty, h1, h2, Calls.callWith_builtin rfl (PySem.evalArgs_none (hm pins s1 σ H1 x [] v [] Q I1 r1 .nil ⟨T, WE W σ, m1, S1, y, [], R1, rv, rfl, q2⟩))⟩
/-! ### slices -/
def tP (f : Env → M (Option Int)) (X : Cx) (T : Cls') (W : WX) : TO := fun σ H Q => ∃ (m : List Addr) (S : Sto) (ρ : Env), RelE X.K m H ρ σ ∧ RelS (gd X) m H S ∧ Pst (gd X) T (WE W σ) m H (f ρ S) (fun _ H' _ o => Q o H')
theorem po_mono {X : Cx} {e : Option Expr} {t t' : TO} (h : PO X e t) (q : ∀ σ H Q, t' σ H Q → t σ H Q) : PO X e t' := ⟨fun pins s σ H Q I z => h.run pins s σ H Q I (q σ H Q z)⟩
theorem so_none : PO X none (tP (fun _ => M.pure [] >>= partX) X T W) := po_mono po_none fun σ H Q ⟨m, S, ρ, E, R, z⟩ => z.bind m H Ext.refl R m H Ext.refl R
theorem so_some {e : Expr} {f : Env → M Kd.X} (h : PE X e (tV X T W f)) : PO X (some e) (tP (fun ρ => (f ρ >>= fun x => M.pure [] >>= fun xs => M.pure (x :: xs)) >>= partX) X T W) := by
  refine po_mono (po_some h) fun σ H Q ⟨m, S, ρ, E, R, z⟩ => ?_
  simp only [M.assoc, M.pure_b] at z
  refine tV_bind E R z fun v m1 H1 S1 x e E1 R1 rv fv q => ?_
  cases x with
  | tl ds => exact q.elim
  | dv d =>
    cases d with
    | int i => exact ⟨i, rv, q m1 H1 e R1⟩
    | _ => exact q.elim
theorem se_slc {e : Expr} {lo hi : Option Expr} {fe : Env → M Kd.X} {fl fh : Env → M (Option Int)} {pos p2 : Pos} (he : PE X e (tV X T W fe)) (hl : PO X lo (tP fl X T W)) (hh : PO X hi (tP fh X T W)) :
    PE X (.Subscript e (.Slice lo hi none p2) pos) (tV X T W fun ρ => fe ρ >>= fun x => fl ρ >>= fun l => fh ρ >>= fun h => slcX x l h) := by
  refine pe_mono (pe_slice sl_K he hl hh) fun σ H Q ⟨m, S, ρ, E, R, z⟩ => ?_
  refine tV_bind E R z fun v m1 H1 S1 x e E1 R1 rv fv q => ⟨m1, S1, ρ, E1, R1, (q.kq e).bind.imp fun m2 H2 S2 l e2 R2 q2 => ?_⟩
  refine ⟨m2, S2, ρ, RelE.ext (G := gd X) e2 E1, R2, (q2.kq e2).bind.imp fun m3 H3 S3 h e3 R3 q3 => ?_⟩
  exact ⟨T, WE W σ, m3, S3, x, R3, RelX.ext (G := gd X) (e2.trans e3) rv, q3.kq e3⟩
end
end Kd
/-! What is walked. -/
set_option maxHeartbeats 1000000
namespace Kd
open PySem PySem.Spec PyProof.Rows L2
theorem len_two {α : Type} {l : List α} (h : l.length = 2) : ∃ x y, l = [x, y] := by
  match l, h with
  | [x, y], _ => exact ⟨x, y, rfl⟩
/-- the iterator J yields these -/
structure WalkJ (G : Gd) (m : List Addr) (H : Hp) (ig : List D × List (Nat × List D)) (J : It) : Prop where
  len : ig.1.length ≤ sizeLine
  stop : ∀ m2 H2 S2, Ext m H m2 H2 → RelS G m2 H2 S2 → still ig.2 S2 = true → J.stop ig.1.length H2
  go : ∀ m2 H2 S2 (i : Nat) d, Ext m H m2 H2 → RelS G m2 H2 S2 → still ig.2 S2 = true → ig.1[i]? = some d → J.go i H2 ∧ ∀ x H3, J.yld i H2 x H3 → Ext m2 H2 m2 H3 ∧ RelS G m2 H3 S2 ∧ RelD G.K m2 H3 d x
def tW (X : Cx) (T : Cls') (W : WX) (f : Env → M (List D × List (Nat × List D))) : TI := fun σ H R => ∃ (m : List Addr) (S : Sto) (ρ : Env), RelE X.K m H ρ σ ∧ RelS (gd X) m H S ∧ Pst (gd X) T (WE W σ) m H (f ρ S) (fun m' H' _ ig => ∀ J, WalkJ (gd X) m' H' ig J → R J H')
theorem pi_mono {X : Cx} {tg e : Expr} {t t' : TI} (h : PI X tg e t) (q : ∀ σ H R, t' σ H R → t σ H R) : PI X tg e t' := ⟨fun pins s σ H R I z => h.run pins s σ H R I (q σ H R z)⟩
/-- a list, a tuple, as it goes on standing -/
def StL (G : Gd) (m : List Addr) (H : Hp) (ds : List D) (g : List (Nat × List D)) (a : Addr) : Prop := ∀ m2 H2 S2, Ext m H m2 H2 → RelS G m2 H2 S2 → still g S2 = true → ∃ vs, SqL G.K H2 a vs ∧ RelDs G.K m2 H2 ds vs
def StT (G : Gd) (m : List Addr) (H : Hp) (ds : List D) (g : List (Nat × List D)) (a : Addr) : Prop := ∀ m2 H2 S2, Ext m H m2 H2 → RelS G m2 H2 S2 → still g S2 = true → ∃ vs, SqT G.K H2 a vs ∧ RelDs G.K m2 H2 ds vs
section
variable {G : Gd} {T : Cls'} {Y : XK} {m m' : List Addr} {H H' : Hp} {S : Sto}
theorem StL.ext {ds : List D} {g : List (Nat × List D)} {a : Addr} (e : Ext m H m' H') (h : StL G m H ds g a) : StL G m' H' ds g a := fun m2 H2 S2 x R s => h m2 H2 S2 (e.trans x) R s
theorem StT.ext {ds : List D} {g : List (Nat × List D)} {a : Addr} (e : Ext m H m' H') (h : StT G m H ds g a) : StT G m' H' ds g a := fun m2 H2 S2 x R s => h m2 H2 S2 (e.trans x) R s
theorem seqG_ok {x : Kd.X} {v : V} {k : List Addr → Hp → Sto → (List D × List (Nat × List D)) → Prop} (h : Pst G T Y m H (seqG x S) k) (R : RelS G m H S) (r : RelX G.K m H x v) :
    ∃ ds g a, v = .ref a ∧ k m H S (ds, g) ∧ still g S = true ∧ ((tupX x = false ∧ StL G m H ds g a) ∨ (tupX x = true ∧ StT G m H ds g a)) := by
  cases x with
  | tl ds =>
    obtain ⟨a, vs, rfl, h1, h2, h3, h4⟩ := r
    exact ⟨ds, [], a, rfl, h m H Ext.refl R, rfl, .inl ⟨rfl, fun m2 H2 S2 x _ _ => ⟨vs, .inl (.inl (x.keep a _ h2 h1)), h3.ext x⟩⟩⟩
  | dv d =>
    cases d with
    | tup ds =>
      simp only [RelX, RelD] at r
      obtain ⟨a, vs, rfl, h1, h2⟩ := r
      exact ⟨ds, [], a, rfl, h m H Ext.refl R, rfl, .inr ⟨rfl, fun m2 H2 S2 x _ _ => ⟨vs, (h1.ext x).sq, h2.ext x⟩⟩⟩
    | rol ns =>
      simp only [RelX, RelD] at r
      obtain ⟨a, rfl, h1⟩ := r
      exact ⟨_, [], a, rfl, h m H Ext.refl R, rfl, .inl ⟨rfl, fun m2 H2 S2 x _ _ => ⟨_, (h1.ext x).sq, RelDs.map_int ns⟩⟩⟩
    | loc l =>
      simp only [RelX, RelD] at r
      obtain ⟨a, rfl, h1⟩ := r
      obtain ⟨ob, e, q⟩ := R.at_ h1
      simp only [seqG, e] at h
      cases ob with
      | lst ds =>
        refine ⟨ds, [(l, ds)], a, rfl, h m H Ext.refl R, by simp [still, e], .inl ⟨rfl, fun m2 H2 S2 x R2 st => ?_⟩⟩
        obtain ⟨ob2, e2, q2⟩ := R2.at_ (x.get h1)
        simp only [still, List.all_cons, List.all_nil, Bool.and_true, decide_eq_true_eq] at st
        rw [st] at e2
        cases e2
        obtain ⟨vs, h2, h3, h4⟩ := q2
        exact ⟨vs, .inl (.inl h2), h3⟩
      | dct kvs => exact h.elim
      | ins c fs => exact h.elim
    | _ => exact h.elim
theorem walk_l {ds : List D} {g : List (Nat × List D)} {a : Addr} (hl : ds.length ≤ sizeLine) (h : StL G m H ds g a) : WalkJ G m H (ds, g) (Itl G.K a) where
  len := hl
  stop := fun m2 H2 S2 x R s => let ⟨vs, h1, h2⟩ := h m2 H2 S2 x R s; ⟨vs, h1, by rw [← RelDs.length h2]; exact Nat.le_refl _⟩
  go := fun m2 H2 S2 i d x R s hi => by
    obtain ⟨vs, h1, h2⟩ := h m2 H2 S2 x R s
    obtain ⟨v, e, rv⟩ := h2.get hi
    refine ⟨⟨vs, v, h1, e⟩, fun y H3 ⟨e3, q⟩ => ?_⟩
    subst e3
    have := q vs h1
    rw [e] at this
    cases this
    exact ⟨Ext.refl, R, rv⟩
theorem walk_t {ds : List D} {g : List (Nat × List D)} {a : Addr} (hl : ds.length ≤ sizeLine) (h : StT G m H ds g a) : WalkJ G m H (ds, g) (Itt G.K a) where
  len := hl
  stop := fun m2 H2 S2 x R s => let ⟨vs, h1, h2⟩ := h m2 H2 S2 x R s; ⟨vs, h1, by rw [← RelDs.length h2]; exact Nat.le_refl _⟩
  go := fun m2 H2 S2 i d x R s hi => by
    obtain ⟨vs, h1, h2⟩ := h m2 H2 S2 x R s
    obtain ⟨v, e, rv⟩ := h2.get hi
    refine ⟨⟨vs, v, h1, e⟩, fun y H3 ⟨e3, q⟩ => ?_⟩
    subst e3
    have := q vs h1
    rw [e] at this
    cases this
    exact ⟨Ext.refl, R, rv⟩
theorem walk_s {z : Str} (hl : z.length ≤ sizeLine) : WalkJ G m H (z.cps.toList.map fun c => D.str ⟨#[c]⟩, []) (Its z) where
  len := by simp only [List.length_map, Array.length_toList]; exact hl
  stop := fun m2 H2 S2 x R s => by show z.cps.size ≤ _; simp
  go := fun m2 H2 S2 i d x R s hi => by
    simp only [List.getElem?_map, Option.map_eq_some_iff, Array.getElem?_toList] at hi
    obtain ⟨c, hc, rfl⟩ := hi
    refine ⟨(Array.getElem?_eq_some_iff.mp hc).1, fun y H3 ⟨e3, c', h1, h2⟩ => ?_⟩
    subst e3
    rw [hc] at h1
    cases h1
    exact ⟨Ext.refl, R, h2⟩
theorem walk_r {lo : Int} {n : Nat} (hl : n ≤ sizeLine) : WalkJ G m H ((List.range n).map fun (i : Nat) => D.int (lo + (i : Int)), []) (Itr lo n) where
  len := by simpa using hl
  stop := fun m2 H2 S2 x R s => by show n ≤ _; simp
  go := fun m2 H2 S2 i d x R s hi => by
    simp only [List.getElem?_map, Option.map_eq_some_iff] at hi
    obtain ⟨c, hc, rfl⟩ := hi
    obtain ⟨h1, h2⟩ := List.getElem?_eq_some_iff.mp hc
    rw [List.getElem_range] at h2
    subst h2
    refine ⟨by show i < n; simpa using h1, fun y H3 ⟨e3, h2⟩ => ?_⟩
    subst e3
    exact ⟨Ext.refl, R, h2⟩
theorem enumD_get : ∀ (ds : List D) (j i : Nat), (enumD j ds)[i]? = ds[i]?.map fun d => D.tup [.int ((j + i : Nat) : Int), d]
  | [], _, _ => by simp [enumD]
  | d :: ds, j, 0 => by simp [enumD]
  | d :: ds, j, i + 1 => by
    simp only [enumD, List.getElem?_cons_succ, enumD_get ds (j + 1) i]
    rw [Nat.add_assoc, Nat.add_comm 1 i]
theorem enumD_len : ∀ (ds : List D) (j : Nat), (enumD j ds).length = ds.length
  | [], _ => rfl
  | d :: ds, j => by simp [enumD, enumD_len ds]
theorem new_tup {m : List Addr} {H : Hp} {S : Sto} {p : Addr} {ds : List D} {vs : List V} (hp : H p = none) (R : RelS G m H S) (r : RelDs G.K m H ds vs) : Ext m H m (upd H p (.tup vs)) ∧ RelS G m (upd H p (.tup vs)) S ∧ RelD G.K m (upd H p (.tup vs)) (.tup ds) (.ref p) :=
  ⟨ext_new hp, R.laid hp, ⟨p, vs, rfl, .inl upd_same, r.ext (ext_new hp)⟩⟩
theorem walk_e {ds : List D} {g : List (Nat × List D)} {a : Addr} (hl : ds.length ≤ sizeLine) (h : StL G m H ds g a) : WalkJ G m H (enumD 0 ds, g) (Ite G.K a) where
  len := by rw [enumD_len]; exact hl
  stop := fun m2 H2 S2 x R s => let ⟨vs, h1, h2⟩ := h m2 H2 S2 x R s; ⟨vs, h1, by rw [enumD_len, ← RelDs.length h2]; exact Nat.le_refl _⟩
  go := fun m2 H2 S2 i d x R s hi => by
    obtain ⟨vs, h1, h2⟩ := h m2 H2 S2 x R s
    rw [enumD_get] at hi
    simp only [Option.map_eq_some_iff] at hi
    obtain ⟨d', hi, rfl⟩ := hi
    obtain ⟨v, e, rv⟩ := h2.get hi
    refine ⟨⟨vs, v, h1, e⟩, fun y H3 ⟨p, u, ey, hp, e3, q⟩ => ?_⟩
    subst e3
    subst ey
    have := q vs h1
    rw [e] at this
    cases this
    have z := new_tup (ds := [.int ((0 + i : Nat) : Int), d']) (vs := [.int (i : Nat), v]) hp R ⟨_, _, rfl, by rw [Nat.zero_add]; exact rfl, v, [], rfl, rv, rfl⟩
    exact z
theorem zip_get (ds es : List D) (i : Nat) {d : D} (h : (zipD ds es)[i]? = some d) : ∃ a b, ds[i]? = some a ∧ es[i]? = some b ∧ d = .tup [a, b] := by
  unfold zipD at h
  rw [List.getElem?_zipWith] at h
  cases h1 : ds[i]? with
  | none => rw [h1] at h; cases h
  | some a =>
    cases h2 : es[i]? with
    | none => rw [h1, h2] at h; cases h
    | some b => rw [h1, h2] at h; cases h; exact ⟨a, b, rfl, rfl, rfl⟩
theorem still_app {g g' : List (Nat × List D)} (h : still (g ++ g') S = true) : still g S = true ∧ still g' S = true := by
  unfold still at h ⊢
  rw [List.all_append, Bool.and_eq_true] at h
  exact h
theorem walk_zl {ds es : List D} {g g' : List (Nat × List D)} {a b : Addr} (hl : ds.length ≤ sizeLine) (h : StL G m H ds g a) (h' : StL G m H es g' b) : WalkJ G m H (zipD ds es, g ++ g') (Itz G.K a b) where
  len := by unfold zipD; rw [List.length_zipWith]; omega
  stop := fun m2 H2 S2 x R s => by
    obtain ⟨vs, h1, h2⟩ := h m2 H2 S2 x R (still_app s).1
    obtain ⟨us, h3, h4⟩ := h' m2 H2 S2 x R (still_app s).2
    refine ⟨vs, us, h1, h3, ?_⟩
    unfold zipD
    rw [List.length_zipWith, RelDs.length h2, RelDs.length h4]
    omega
  go := fun m2 H2 S2 i d x R s hi => by
    obtain ⟨vs, h1, h2⟩ := h m2 H2 S2 x R (still_app s).1
    obtain ⟨us, h3, h4⟩ := h' m2 H2 S2 x R (still_app s).2
    obtain ⟨d1, d2, i1, i2, rfl⟩ := zip_get _ _ _ hi
    obtain ⟨v, e, rv⟩ := h2.get i1
    obtain ⟨u, e', ru⟩ := h4.get i2
    refine ⟨⟨vs, us, v, u, h1, h3, e, e'⟩, fun y H3 ⟨p, v1, u1, ey, hp, e3, q, q'⟩ => ?_⟩
    subst e3
    subst ey
    have z1 := q vs h1
    have z2 := q' us h3
    rw [e] at z1
    rw [e'] at z2
    cases z1
    cases z2
    exact new_tup (ds := [d1, d2]) (vs := [v, u]) hp R ⟨_, _, rfl, rv, u, [], rfl, ru, rfl⟩
theorem walk_zt {ds es : List D} {g g' : List (Nat × List D)} {a b : Addr} (hl : ds.length ≤ sizeLine) (h : StT G m H ds g a) (h' : StT G m H es g' b) : WalkJ G m H (zipD ds es, g ++ g') (RZ.ItzT G.K a b) where
  len := by unfold zipD; rw [List.length_zipWith]; omega
  stop := fun m2 H2 S2 x R s => by
    obtain ⟨vs, h1, h2⟩ := h m2 H2 S2 x R (still_app s).1
    obtain ⟨us, h3, h4⟩ := h' m2 H2 S2 x R (still_app s).2
    refine ⟨vs, us, h1, h3, ?_⟩
    unfold zipD
    rw [List.length_zipWith, RelDs.length h2, RelDs.length h4]
    omega
  go := fun m2 H2 S2 i d x R s hi => by
    obtain ⟨vs, h1, h2⟩ := h m2 H2 S2 x R (still_app s).1
    obtain ⟨us, h3, h4⟩ := h' m2 H2 S2 x R (still_app s).2
    obtain ⟨d1, d2, i1, i2, rfl⟩ := zip_get _ _ _ hi
    obtain ⟨v, e, rv⟩ := h2.get i1
    obtain ⟨u, e', ru⟩ := h4.get i2
    refine ⟨⟨vs, us, v, u, h1, h3, e, e'⟩, fun y H3 ⟨p, v1, u1, ey, hp, e3, q, q'⟩ => ?_⟩
    subst e3
    subst ey
    have z1 := q vs h1
    have z2 := q' us h3
    rw [e] at z1
    rw [e'] at z2
    cases z1
    cases z2
    exact new_tup (ds := [d1, d2]) (vs := [v, u]) hp R ⟨_, _, rfl, rv, u, [], rfl, ru, rfl⟩
end
section
variable {X : Cx} {T : Cls'} {W : WX} {tg : Expr}
theorem si_seq {e : Expr} {f : Env → M Kd.X} (h : PE X e (tV X T W f)) : PI X tg e (tW X T W fun ρ => f ρ >>= fun x => walk .seq [x]) := by
  refine ⟨fun pins s σ H R0 I ⟨m, S, ρ, E, R, z⟩ => ?_⟩
  have ht : tV X T W f σ H fun v H1 => ∃ m1 S1 x, RelS (gd X) m1 H1 S1 ∧ RelX X.K m1 H1 x v ∧ Pst (gd X) T (WE W σ) m1 H1 (walk .seq [x] S1) (fun m' H' _ ig => ∀ J, WalkJ (gd X) m' H' ig J → R0 J H') :=
    tV_bind E R z fun v m1 H1 S1 x e E1 R1 rv fv q => ⟨m1, S1, x, R1, rv, q.shift e⟩
  refine thn (h.run pins s σ H _ I ht) fun u s1 ⟨v, H1, I1, r1, m1, S1, x, R1, rv, q⟩ => ?_
  by_cases hs : ∃ z, x = .dv (.str z)
  · obtain ⟨z, rfl⟩ := hs
    simp only [walk] at q
    by_cases hz : z.length ≤ sizeLine
    · rw [if_pos hz] at q
      cases (show v = .str z from rv)
      obtain ⟨t, rfl⟩ := r1
      have q' : R0 (Its z) H1 := q m1 H1 Ext.refl R1 _ (walk_s hz)
      cases ha : z.cps.all (· < 128)
      · exact wpAny_pyIter_wide ha (pi_one (tk := s1.toks) I1 _ (turn_str _ z t "str_iterator" (.inr rfl)) ⟨_, Heap.get?_push_size _ rfl, rfl, rfl⟩ q')
      · exact wpAny_pyIter_ascii ha (pi_one (tk := s1.toks) I1 _ (turn_str _ z t "str_ascii_iterator" (.inl rfl)) ⟨_, Heap.get?_push_size _ rfl, rfl, rfl⟩ q')
    · rw [if_neg hz] at q; exact q.elim
  · have e : walk .seq [x] = seqG x := by
      cases x with
      | tl ds => rfl
      | dv d => cases d <;> first | rfl | exact (hs ⟨_, rfl⟩).elim
    rw [e] at q
    obtain ⟨ds, g, a, rfl, q1, q2, q3⟩ := seqG_ok q R1 rv
    cases r1
    rcases q3 with ⟨_, q3⟩ | ⟨_, q3⟩
    · obtain ⟨vs, h1, h2⟩ := q3 m1 H1 S1 Ext.refl R1 q2
      obtain ⟨its, rvs, p, hz⟩ := I1.list h1
      exact wpAny_pyIter_list p.isList (pi_one (tk := s1.toks) I1 _ (turn_list a _) ⟨_, Heap.get?_push_size _ rfl, rfl, rfl⟩ (q1 _ (walk_l (by rw [RelDs.length h2]; exact hz) q3)))
    · obtain ⟨vs, h1, h2⟩ := q3 m1 H1 S1 Ext.refl R1 q2
      obtain ⟨its, rvs, p, hz⟩ := I1.tuple h1
      exact wpAny_pyIter_tuple (show s1.heap.IsTuple a its.toArray from p) (pi_one (tk := s1.toks) I1 _ (turn_tuple a _) ⟨_, Heap.get?_push_size _ rfl, rfl, rfl⟩ (q1 _ (walk_t (by rw [RelDs.length h2]; exact hz) q3)))
theorem si_range1 {a : Expr} {p pos : Pos} {g : Env → M (List Kd.X)} (hg : Gl X "range") (hm : X.mg "range" = none) (ns : noStar a = true) (ha : PA X [a] (tXs X T W g)) (hl : ∀ ρ S xs S', g ρ S = .ok xs S' → xs.length = 1) : PI X tg (.Call (.Name "range" p) [a] [] pos) (tW X T W fun ρ => g ρ >>= fun xs => walk .range xs) := by
  refine pi_mono (pi_range1 hg hm ha (by rw [star1 ns]; rfl)) fun σ H R0 ⟨m, S, ρ, E, R, z⟩ => ⟨m, S, ρ, E, R, ?_⟩
  rw [bindE] at z
  cases q : g ρ S with
  | exc c d S' => rw [q] at z; exact z
  | bad => rw [q] at z; exact z
  | ok xs S' =>
    rw [q] at z
    intro m1 H1 e R1 vs rvs
    obtain ⟨x, rfl⟩ := List.length_eq_one_iff.mp (hl _ _ _ _ q)
    obtain ⟨v, rfl, rv⟩ := RelXs.one (G := gd X) rvs
    have z := z.shift e
    cases x with
    | tl ds => exact z.elim
    | dv d =>
      cases d with
      | int n =>
        cases (show v = .int n from rv)
        simp only [walk] at z
        by_cases hn : n ≤ sizeLine ∧ -(2 ^ 62) ≤ n
        · rw [if_pos hn] at z
          refine ⟨n, rfl, hn.2, by have := sizeLine_eq; omega, z m1 H1 Ext.refl R1 _ ?_⟩
          have w := walk_r (G := gd X) (m := m1) (H := H1) (lo := 0) (n := n.toNat) (by omega)
          simpa using w
        · rw [if_neg hn] at z; exact z.elim
      | _ => exact z.elim
theorem si_range2 {a b : Expr} {p pos : Pos} {g : Env → M (List Kd.X)} (hg : Gl X "range") (hm : X.mg "range" = none) (ns : noStar a = true) (ns2 : noStar b = true) (ha : PA X [a, b] (tXs X T W g)) (hl : ∀ ρ S xs S', g ρ S = .ok xs S' → xs.length = 2) : PI X tg (.Call (.Name "range" p) [a, b] [] pos) (tW X T W fun ρ => g ρ >>= fun xs => walk .range xs) := by
  refine pi_mono (pi_range2 hg hm ha (by rw [star1 ns, star1 ns2]; rfl) (by rw [star1 ns2]; rfl)) fun σ H R0 ⟨m, S, ρ, E, R, z⟩ => ⟨m, S, ρ, E, R, ?_⟩
  rw [bindE] at z
  cases q : g ρ S with
  | exc c d S' => rw [q] at z; exact z
  | bad => rw [q] at z; exact z
  | ok xs S' =>
    rw [q] at z
    intro m1 H1 e R1 vs rvs
    obtain ⟨x, y, rfl⟩ := len_two (hl _ _ _ _ q)
    obtain ⟨v, u, rfl, rv, ru⟩ := RelXs.two (G := gd X) rvs
    have z := z.shift e
    cases x with
    | tl ds => exact z.elim
    | dv d =>
      cases y with
      | tl ds => cases d <;> exact z.elim
      | dv d2 =>
        cases d with
        | int i =>
          cases d2 with
          | int j =>
            cases (show v = .int i from rv)
            cases (show u = .int j from ru)
            simp only [walk] at z
            split at z
            · rename_i hn
              refine ⟨i, j, rfl, ⟨hn.2.1, hn.1, hn.2.2.2.1, hn.2.2.1⟩, z m1 H1 Ext.refl R1 _ ?_⟩
              exact walk_r (by omega)
            · exact z.elim
          | _ => exact z.elim
        | _ => cases d2 <;> exact z.elim
theorem si_enum {a : Expr} {elts : List Expr} {kk : Nat} {p pos tpos : Pos} {g : Env → M (List Kd.X)} (hg : Gl X "enumerate") (hm : X.mg "enumerate" = none) (ns : noStar a = true) (ha : PA X [a] (tXs X T W g)) (hl : ∀ ρ S xs S', g ρ S = .ok xs S' → xs.length = 1) :
    PI X (.Tuple elts kk tpos) (.Call (.Name "enumerate" p) [a] [] pos) (tW X T W fun ρ => g ρ >>= fun xs => walk .enum xs) := by
  refine pi_mono (pi_enum hg hm ha (by rw [star1 ns]; rfl)) fun σ H R0 ⟨m, S, ρ, E, R, z⟩ => ⟨m, S, ρ, E, R, ?_⟩
  rw [bindE] at z
  cases q : g ρ S with
  | exc c d S' => rw [q] at z; exact z
  | bad => rw [q] at z; exact z
  | ok xs S' =>
    rw [q] at z
    intro m1 H1 e R1 vs rvs
    obtain ⟨x, rfl⟩ := List.length_eq_one_iff.mp (hl _ _ _ _ q)
    obtain ⟨v, rfl, rv⟩ := RelXs.one (G := gd X) rvs
    have z := z.shift e
    simp only [] at z
    have ew : walk .enum [x] = if tupX x then M.bad else seqG x >>= fun ig => if ig.1.length ≤ sizeLine then M.pure (enumD 0 ig.1, ig.2) else M.bad := by
      cases x with
      | tl ds => rfl
      | dv d => cases d <;> rfl
    rw [ew] at z
    cases ht : tupX x with
    | true => rw [ht] at z; exact z.elim
    | false =>
      rw [ht] at z
      simp only [Bool.false_eq_true, if_false] at z
      obtain ⟨ds, g', a', rfl, q1, q2, q3⟩ := seqG_ok z.bind R1 rv
      rcases q3 with ⟨_, q3⟩ | ⟨e3, _⟩
      · by_cases hz : ds.length ≤ sizeLine
        · simp only [if_pos hz] at q1
          obtain ⟨ws, h1, h2⟩ := q3 m1 H1 S' Ext.refl R1 q2
          exact ⟨a', ws, rfl, h1, q1 m1 H1 Ext.refl R1 _ (walk_e hz q3)⟩
        · simp only [if_neg hz] at q1; exact q1.elim
      · rw [ht] at e3; cases e3
theorem si_zip {a b : Expr} {elts : List Expr} {kk : Nat} {p pos tpos : Pos} {g : Env → M (List Kd.X)} (hg : Gl X "zip") (hm : X.mg "zip" = none) (ns : noStar a = true) (ns2 : noStar b = true) (ha : PA X [a, b] (tXs X T W g)) (hl : ∀ ρ S xs S', g ρ S = .ok xs S' → xs.length = 2) :
    PI X (.Tuple elts kk tpos) (.Call (.Name "zip" p) [a, b] [] pos) (tW X T W fun ρ => g ρ >>= fun xs => walk .zip xs) := by
  refine pi_mono (RZ.pi_zipA hg hm ha (by rw [star1 ns]) (by rw [star1 ns2]; rfl)) fun σ H R0 ⟨m, S, ρ, E, R, z⟩ => ⟨m, S, ρ, E, R, ?_⟩
  rw [bindE] at z
  cases q : g ρ S with
  | exc c d S' => rw [q] at z; exact z
  | bad => rw [q] at z; exact z
  | ok xs S' =>
    rw [q] at z
    intro m1 H1 e R1 vs rvs
    obtain ⟨x, y, rfl⟩ := len_two (hl _ _ _ _ q)
    obtain ⟨v, u, rfl, rv, ru⟩ := RelXs.two (G := gd X) rvs
    have z := z.shift e
    simp only [] at z
    have ew : walk .zip [x, y] = if tupX x = tupX y then seqG x >>= fun ig => seqG y >>= fun jg => if ig.1.length ≤ sizeLine then M.pure (zipD ig.1 jg.1, ig.2 ++ jg.2) else M.bad else M.bad := by
      cases x with
      | tl ds => cases y with
        | tl es => rfl
        | dv d => cases d <;> rfl
      | dv d => cases y with
        | tl es => cases d <;> rfl
        | dv d2 => cases d <;> cases d2 <;> rfl
    rw [ew] at z
    by_cases ht : tupX x = tupX y
    · rw [if_pos ht] at z
      obtain ⟨ds, g1, a1, rfl, q1, q2, q3⟩ := seqG_ok z.bind R1 rv
      obtain ⟨es, g2, a2, rfl, q4, q5, q6⟩ := seqG_ok q1.bind R1 ru
      by_cases hz : ds.length ≤ sizeLine
      · simp only [if_pos hz] at q4
        have fin := fun J w => q4 m1 H1 Ext.refl R1 J w
        rcases q3 with ⟨t1, q3⟩ | ⟨t1, q3⟩ <;> rcases q6 with ⟨t2, q6⟩ | ⟨t2, q6⟩
        · obtain ⟨ws, h1, h2⟩ := q3 m1 H1 S' Ext.refl R1 q2
          obtain ⟨ws2, h3, h4⟩ := q6 m1 H1 S' Ext.refl R1 q5
          exact ⟨a1, a2, ws, ws2, rfl, .inl ⟨h1, h3, fin _ (walk_zl hz q3 q6)⟩⟩
        · rw [t1, t2] at ht; cases ht
        · rw [t1, t2] at ht; cases ht
        · obtain ⟨ws, h1, h2⟩ := q3 m1 H1 S' Ext.refl R1 q2
          obtain ⟨ws2, h3, h4⟩ := q6 m1 H1 S' Ext.refl R1 q5
          exact ⟨a1, a2, ws, ws2, rfl, .inr ⟨h1, h3, fin _ (walk_zt hz q3 q6)⟩⟩
      · simp only [if_neg hz] at q4; exact q4.elim
    · rw [if_neg ht] at z; exact z.elim
end
end Kd
/-! Targets; comprehensions. -/
set_option maxHeartbeats 1000000
/-! ### a list taken apart -/
namespace PySem
open PySem.Spec PyProof.Rows L2
section
variable {prog : Program} {w : World} {A : Around} {E : Value → Shared → Prop}
theorem kd_draw_list {it l : Addr} {items : Array Value} (hne : l ≠ it) : ∀ (n i : Nat) (s : Shared) (Q : List Value → Shared → Prop), s.heap.IsListIter it l i → s.heap.IsList l items → i + n ≤ items.size →
    (∀ h', h'.IsListIter it l (i + n) → Heap.SameBut it s.heap h' → Q ((items.toList.drop i).take n) { s with heap := h' }) → wpAny (model prog w) A (draw (.ref it) n) Q E s
  | 0, i, s, Q, a, _, _, hQ => wpAny_pure (by simpa using hQ s.heap a (Heap.SameBut.refl ..))
  | n + 1, i, s, Q, a, b, hle, hQ => by
    have hlt : i < items.size := by omega
    show wpAny _ _ (pyNext (.ref it) >>= _) Q E s
    refine wpAny_bind (wpAny_pyNext_list_item a b (x := items[i]) (by simp [hlt]) fun h₁ c d => ?_)
    have b1 : h₁.IsList l items := by
      obtain ⟨o, e, r⟩ := b
      exact ⟨o, (d.2 l hne).trans e, r⟩
    refine wpAny_bind (wpAny_holding (kd_draw_list hne n (i + 1) _ _ c b1 (by omega) fun h₂ c2 d2 => wpAny_pure ?_))
    have hd : items.toList.drop i = items[i] :: items.toList.drop (i + 1) := by simp [List.drop_eq_getElem_cons, hlt]
    have := hQ h₂ (by rw [show i + (n + 1) = i + 1 + n by omega]; exact c2) (d.trans d2)
    rw [hd, List.take_succ_cons] at this
    exact this
theorem kd_unpack_list {l : Addr} {items : Array Value} {s : Shared} {Q : List Value → Shared → Prop} (hh : A.handled = none) (b : s.heap.IsList l items)
    (hQ : ∀ h', Heap.ExtBut s.heap.objs.size s.heap h' → Q items.toList { s with heap := h' }) : wpAny (model prog w) A (unpackItems (.ref l) items.size none) Q E s := by
  have hlt : l ≠ s.heap.objs.size := by obtain ⟨o, ho, _⟩ := b; exact Nat.ne_of_lt (Heap.lt_size ho)
  unfold unpackItems
  refine wpAny_bind ?_
  · unfold notIterableAtAll
    refine wpAny_bind (wpAny_specialOf b.typeIs slot_list_iter.lookup ?_)
    refine wpAny_pure ?_
    simp only [Bool.false_eq_true, if_false]
    refine wpAny_bind (wpAny_holding (wpAny_pyIter_list b ?_))
    have b1 : (s.heap.push { cls := .type "list_iterator", data := .fields #[.ref l, .int 0 0] }).IsList l items := by
      obtain ⟨o, e, r⟩ := b
      exact ⟨o, Heap.get?_push_of_some _ e, r⟩
    refine wpAny_bind (wpAny_holding (kd_draw_list hlt items.size 0 _ _ ⟨_, Heap.get?_push_size _ rfl, rfl, rfl⟩ b1 (by omega) fun h₁ c d => ?_))
    have hall : List.take items.size (List.drop 0 items.toList) = items.toList := by
      rw [List.drop_zero]; exact List.take_of_length_le (by simp)
    rw [hall, if_neg (by simp)]
    have b2 : h₁.IsList l items := by
      obtain ⟨o, e, r⟩ := b1
      exact ⟨o, (d.2 l hlt).trans e, r⟩
    refine wpAny_bind (wpAny_holding (wpAny_pyNext_list_end hh c b2 (by simp) fun h₂ he₂ => ?_))
    simp only [Option.isSome_none, Bool.false_eq_true, if_false]
    exact wpAny_pure (hQ h₂ fun b o hb e => he₂ b o hb (d.extBut b o hb (Heap.get?_push_of_some _ e)))
theorem kd_assign_list {env : Env} {elts : List Expr} {x1} {pos : Pos} {l : Addr} {items : Array Value} {s : Shared} {Q : Unit → Shared → Prop} (hh : A.handled = none) (b : s.heap.IsList l items)
    (hn : (assignEach elts env).length = items.size) (hstar : (assignEach elts env).findIdx? (·.1) = none)
    (h : ∀ h', Heap.ExtBut s.heap.objs.size s.heap h' → wpAny (model prog w) A (assignInOrder ((assignEach elts env).map (·.2)) items.toList) Q E { s with heap := h' }) :
    wpAny (model prog w) A (assign (.Tuple elts x1 pos) env (.ref l)) Q E s := by
  rw [assign_Tuple]
  refine wpAny_bind (wpAny_standAt ?_)
  unfold unpack
  rw [hn, hstar]
  exact wpAny_bind (wpAny_holding (kd_unpack_list hh b h))
end
end PySem
namespace Kd
open PySem PySem.Spec PyProof.Rows L2
def Tg.ids : Tg → List Nat
  | .nm i => [i]
  | .tp is => is
/-- only these slots have changed -/
def SetAt (is : List Nat) (σ σ' : L2.St) : Prop := σ'.length = σ.length ∧ ∀ j, j ∉ is → σ'[j]? = σ[j]?
theorem SetAt.refl {σ : L2.St} : SetAt [] σ σ := ⟨rfl, fun _ _ => rfl⟩
theorem SetAt.one {σ : L2.St} {i : Nat} {v : Option V} : SetAt [i] σ (σ.set i v) := ⟨by simp, fun j h => List.getElem?_set_ne fun e => h (by simp [e])⟩
theorem SetAt.trans {is js : List Nat} {σ σ' σ'' : L2.St} (h : SetAt is σ σ') (h2 : SetAt js σ' σ'') : SetAt (is ++ js) σ σ'' :=
  ⟨h2.1.trans h.1, fun j hj => (h2.2 j fun z => hj (List.mem_append_right _ z)).trans (h.2 j fun z => hj (List.mem_append_left _ z))⟩
theorem wipe_get (σ : L2.St) : ∀ (vs : List Nat) (j : Nat), (L2.wipe σ vs)[j]? = if j ∈ vs ∧ j < σ.length then some none else σ[j]?
  | [], j => by simp [L2.wipe]
  | v :: vs, j => by
    simp only [L2.wipe]
    by_cases e : v = j
    · subst e
      by_cases h : v < σ.length
      · rw [List.getElem?_set_self (by rw [L2.wipe_length]; exact h), if_pos ⟨by simp, h⟩]
      · rw [List.getElem?_eq_none (by rw [List.length_set, L2.wipe_length]; omega), if_neg (fun z => h z.2), List.getElem?_eq_none (by omega)]
    · rw [List.getElem?_set_ne e, wipe_get σ vs j]
      by_cases h : j ∈ vs
      · simp [h]
      · simp [h, Ne.symm e]
theorem SetAt.wipe {is vs : List Nat} {σ σ' : L2.St} (hs : ∀ i ∈ is, i ∈ vs) (h : SetAt is (L2.wipe σ vs) σ') : L2.wipe σ' vs = L2.wipe σ vs := by
  refine List.ext_getElem? fun j => ?_
  have hl : σ'.length = σ.length := by rw [h.1, L2.wipe_length]
  rw [wipe_get, wipe_get, hl]
  by_cases hj : j ∈ vs
  · by_cases h2 : j < σ.length
    · simp [hj, h2]
    · rw [if_neg (fun z => h2 z.2), if_neg (fun z => h2 z.2), List.getElem?_eq_none (by omega), List.getElem?_eq_none (by omega)]
  · rw [if_neg (fun z => hj z.1), if_neg (fun z => hj z.1), h.2 j (fun z => hj (hs j z)), wipe_get, if_neg (fun z => hj z.1)]
/-- names bound one after another -/
def gNms : List Nat → TGs
  | [] => gNil
  | i :: is => gCons (gName i) (gNms is)
def setAllV (σ : L2.St) : List Nat → List V → L2.St
  | i :: is, v :: vs => setAllV (σ.set i (some v)) is vs
  | _, _ => σ
theorem gNms_ok : ∀ {is : List Nat} {vs : List V} {σ : L2.St} {H : Hp} {Q : L2.St → Hp → Prop}, is.length = vs.length → Q (setAllV σ is vs) H → gNms is vs σ H Q
  | [], [], _, _, _, _, q => ⟨rfl, q⟩
  | [], _ :: _, _, _, _, h, _ => by simp at h
  | _ :: _, [], _, _, _, h, _ => by simp at h
  | i :: is, v :: vs, σ, H, Q, h, q => ⟨v, vs, rfl, gNms_ok (by simpa using h) q⟩
theorem setAll_rel {G : Gd} {m : List Addr} {H : Hp} : ∀ {is : List Nat} {ds : List D} {vs : List V} {ρ : Env} {σ : L2.St}, RelE G.K m H ρ σ → RelDs G.K m H ds vs → RelE G.K m H (setAll ρ is ds) (setAllV σ is vs) ∧ SetAt is σ (setAllV σ is vs)
  | [], ds, vs, _, _, E, r => by cases ds <;> cases vs <;> exact ⟨E, SetAt.refl⟩
  | i :: is, [], vs, _, _, E, r => by
    simp only [RelDs] at r
    subst r
    exact ⟨E, rfl, fun _ _ => rfl⟩
  | i :: is, d :: ds, vs, ρ, σ, E, r => by
    simp only [RelDs] at r
    obtain ⟨v, r, rfl, h1, h2⟩ := r
    obtain ⟨E2, s2⟩ := setAll_rel (is := is) (E.set h1 i) h2
    exact ⟨E2, SetAt.one.trans s2⟩
/-- a target of a loop -/
def tG (X : Cx) (tg : Tg) : L2.TG := fun v σ H Q => ∃ (m : List Addr) (S : Sto) (ρ : Env) (d : D), RelE X.K m H ρ σ ∧ RelS (gd X) m H S ∧ RelD X.K m H d v ∧ ∃ ρ' S', bindT tg d ρ S = .ok ρ' S' ∧ ∀ σ', RelE X.K m H ρ' σ' → SetAt tg.ids σ σ' → Q σ' H
theorem bindT_S {tg : Tg} {d : D} {ρ ρ' : Env} {S S' : Sto} (h : bindT tg d ρ S = .ok ρ' S') : S' = S := by
  cases tg with
  | nm i => cases h; rfl
  | tp is =>
    cases d with
    | tup ds =>
      simp only [bindT] at h
      split at h
      · cases h; rfl
      · cases h
    | _ => cases h
theorem pg_mono {X : Cx} {e : Expr} {t t' : L2.TG} (h : PG X e t) (q : ∀ v σ H Q, t' v σ H Q → t v σ H Q) : PG X e t' := ⟨fun pins s σ H v u Q I r z => h.run pins s σ H v u Q I r (q v σ H Q z)⟩
section
variable {X : Cx} {T : Cls'} {W : WX}
theorem sg_name {x : Str} {pos : Pos} {i : Nat} (h : PG X (.Name x pos) (gName i)) : PG X (.Name x pos) (tG X (.nm i)) :=
  pg_mono h fun v σ H Q ⟨m, S, ρ, d, E, R, rd, ρ', S', e, q⟩ => by
    cases e
    exact q _ (E.set (G := gd X) rd i) SetAt.one
def allName : Expr → Bool
  | .Name _ _ => true
  | _ => false
theorem names_len {env : PySem.Env} : ∀ {es : List Expr}, es.all allName = true → (assignEach es env).length = es.length ∧ (assignEach es env).findIdx? (·.1) = none
  | [], _ => ⟨rfl, rfl⟩
  | e :: es, h => by
    simp only [List.all_cons, Bool.and_eq_true] at h
    obtain ⟨h1, h2⟩ := h
    obtain ⟨i1, i2⟩ := names_len (env := env) h2
    cases e with
    | Name x p =>
      refine ⟨by show (assignEach es env).length + 1 = _; rw [i1]; rfl, ?_⟩
      show ((false, assign (.Name x p) env) :: assignEach es env).findIdx? (·.1) = none
      rw [List.findIdx?_cons, i2]
      rfl
    | _ => cases h1
theorem sg_tup {es : List Expr} {k : Nat} {pos : Pos} {is : List Nat} (hc : X.calm = true) (hl : is.length = es.length) (hn : es.all allName = true) (h : PGs X es (gNms is)) : PG X (.Tuple es k pos) (tG X (.tp is)) := by
  obtain ⟨n1, n2⟩ := names_len (env := X.env) hn
  refine pg_mono (pg_tup hc h (n := es.length) n1 n2) fun v σ H Q ⟨m, S, ρ, d, E, R, rd, ρ', S', e, q⟩ => ?_
  cases d with
  | tup ds =>
    simp only [bindT] at e
    split at e
    · rename_i hd
      cases e
      simp only [RelD] at rd
      obtain ⟨a, vs, rfl, h1, h2⟩ := rd
      have hv := RelDs.length (K := X.K) h2
      obtain ⟨E2, s2⟩ := setAll_rel (G := gd X) (is := is) E h2
      exact ⟨a, vs, rfl, h1.sq, by omega, gNms_ok (by omega) (q _ E2 s2)⟩
    · cases e
  | _ => cases e
theorem sg_names {x : Str} {p : Pos} {es : List Expr} {i : Nat} {is : List Nat} (h : PG X (.Name x p) (gName i)) (h2 : PGs X es (gNms is)) : PGs X (.Name x p :: es) (gNms (i :: is)) := pgs_cons h h2
/-- .. of an assignment: a list may be taken apart, too -/
def tGu (X : Cx) (is : List Nat) : L2.TG := fun v σ H Q => ∃ (m : List Addr) (S : Sto) (ρ : Env) (d : D) (ds : List D), RelE X.K m H ρ σ ∧ RelS (gd X) m H S ∧ RelD X.K m H d v ∧ unpack d is.length S = .ok ds S ∧ ∀ σ', RelE X.K m H (setAll ρ is ds) σ' → Q σ' H
theorem sg_unp {es : List Expr} {k : Nat} {pos : Pos} {is : List Nat} (hc : X.calm = true) (hl : is.length = es.length) (hn : es.all allName = true) (h : PGs X es (gNms is)) : PG X (.Tuple es k pos) (tGu X is) := by
  obtain ⟨n1, n2⟩ := names_len (env := X.env) hn
  refine ⟨fun pins s σ H v u Q I ru ⟨m, S, ρ, d, ds, E, R, rd, e, q⟩ => ?_⟩
  cases d with
  | tup ds' =>
    simp only [unpack] at e
    split at e
    · rename_i hd
      cases e
      simp only [RelD] at rd
      obtain ⟨a, vs, rfl, h1, h2⟩ := rd
      have hv := RelDs.length (K := X.K) h2
      obtain ⟨E2, s2⟩ := setAll_rel (G := gd X) (is := is) E h2
      exact (pg_tup hc h (n := es.length) n1 n2).run pins s σ H _ u Q I ru ⟨a, vs, rfl, h1.sq, by omega, gNms_ok (by omega) (q _ E2)⟩
    · cases e
  | loc l =>
    simp only [unpack] at e
    cases el : S[l]? with
    | none => rw [el] at e; cases e
    | some ob =>
      rw [el] at e
      cases ob with
      | lst ds' =>
        simp only at e
        split at e
        · rename_i hd
          cases e
          obtain ⟨a, vs, rfl, h1, h2, h3, h4, h5⟩ := own_list (G := gd X) (v := v) el R rd
          have hv := RelDs.length (K := X.K) h3
          obtain ⟨E2, s2⟩ := setAll_rel (G := gd X) (is := is) E h3
          obtain ⟨its, rvs, p, hz⟩ := I.list (.inl (.inl h2))
          cases ru
          have hw := rvs.length
          refine kd_assign_list (I.ok.hd hc) p.isList (by simp only [List.size_toArray]; omega) n2 fun h' hx => ?_
          have I1 : Inv X pins σ H { s with heap := h' } := I.kept (t' := s.toks) fun b o e => hx b o (Nat.ne_of_lt (Heap.lt_size e)) e
          exact h.run pins _ σ H vs _ Q I1 (by simpa using rvs) (gNms_ok (by omega) (q _ E2))
        · cases e
      | dct kvs => cases e
      | ins c fs => cases e
  | _ => cases e
end
end Kd
/-! Comprehensions. -/
set_option maxHeartbeats 1000000
namespace Kd
open PySem PySem.Spec PyProof.Rows L2
section
variable {G : Gd} {m m' : List Addr} {H H' : Hp} {S : Sto}
/-- a list that is not of the store is written -/
structure Prv (m : List Addr) (H H' : Hp) : Prop where
  mem : ∀ a ∈ m, H' a = H a
  tups : ∀ a xs, H a = some (.tup xs) → H' a = some (.tup xs)
  frzs : ∀ a o xs, H a = some (.frz o (.lst xs)) → H' a = some (.frz o (.lst xs))
mutual
theorem RelD.prv (p : Prv m H H') : ∀ (d : D) (v : V), RelD G.K m H d v → RelD G.K m H' d v
  | .non, _, h => h
  | .bl _, _, h => h
  | .int _, _, h => h
  | .str _, _, h => h
  | .tup ds, _, h => by
    simp only [RelD] at h ⊢
    obtain ⟨a, vs, rfl, h1, h2⟩ := h
    exact ⟨a, vs, rfl, h1.imp (p.tups _ _) (fun z => z), RelDs.prv p ds vs h2⟩
  | .loc l, _, h => h
  | .rol ns, _, h => by
    simp only [RelD] at h ⊢
    obtain ⟨a, rfl, h1⟩ := h
    exact ⟨a, rfl, h1.imp (fun ⟨o, z⟩ => ⟨o, p.frzs _ _ _ z⟩) (fun z => z)⟩
theorem RelDs.prv (p : Prv m H H') : ∀ (ds : List D) (vs : List V), RelDs G.K m H ds vs → RelDs G.K m H' ds vs
  | [], _, h => h
  | d :: ds, _, h => by
    simp only [RelDs] at h ⊢
    obtain ⟨v, r, rfl, h1, h2⟩ := h
    exact ⟨v, r, rfl, RelD.prv p d v h1, RelDs.prv p ds r h2⟩
end
theorem RelS.prv (p : Prv m H H') (R : RelS G m H S) : RelS G m H' S := by
  refine ⟨R.len, R.nd, fun i a ob h1 h2 => ?_⟩
  have ea := p.mem a (List.mem_of_getElem? h1)
  have h := R.ob i a ob h1 h2
  cases ob with
  | lst ds => obtain ⟨vs, h1, h2, h3⟩ := h; exact ⟨vs, ea.trans h1, RelDs.prv p _ _ h2, h3⟩
  | dct kvs =>
    obtain ⟨es, h1, h2, h3, h4⟩ := h
    exact ⟨es, ea.trans h1, h2, h3, h4.imp (fun ⟨vs, q⟩ => ⟨vs, ⟨q.keys, q.pairs, q.nd, Paired.mapP q.rel fun _ _ ⟨e, v, r, z⟩ => ⟨e, v, r, RelD.prv p _ _ z⟩⟩⟩) fun ⟨xs, q⟩ => ⟨xs, ⟨q.ents, q.nd, Paired.mapP q.rel fun _ _ ⟨e, t, k, v, r, z⟩ => ⟨e, t, RelD.prv p _ _ k, v, r, RelD.prv p _ _ z⟩⟩⟩⟩
  | ins c fs => exact h
theorem prv_upd {D : Addr} {vs : List V} {o : HO} (h : H D = some (.lst vs)) (hm : D ∉ m) : Prv m H (upd H D o) :=
  ⟨fun a ha => upd_ne fun e => hm (e ▸ ha), fun a xs e => by rw [upd_ne (fun z => by subst z; rw [h] at e; cases e)]; exact e, fun a o xs e => by rw [upd_ne (fun z => by subst z; rw [h] at e; cases e)]; exact e⟩
theorem Ext.over {D : Addr} {o : HO} (x : Ext m H m' H') (h : H D = none) : Ext m H m' (upd H' D o) :=
  ⟨x.more, fun a o' ha e => by rw [upd_ne (ne_of_none e h)]; exact x.keep a o' ha e, fun a xs e => by rw [upd_ne (ne_of_none e h)]; exact x.tups a xs e, fun a o' xs e => by rw [upd_ne (ne_of_none e h)]; exact x.frzs a o' xs e, fun a e => by
    by_cases z : a = D
    · subst z; rw [upd_same]; simp
    · rw [upd_ne z]; exact x.there a e⟩
theorem RelDs.snoc {ds : List D} {vs : List V} {d : D} {v : V} (h : RelDs G.K m H ds vs) (r : RelD G.K m H d v) : RelDs G.K m H (ds ++ [d]) (vs ++ [v]) := h.app (RelDs.one r)
end
abbrev W0 : WX := fun _ _ _ _ => False
section
variable {X : Cx} {T : Cls'} {W : WX}
theorem calm_ok {α : Type} {x : M α} {S S' : Sto} {a : α} (h : calm x S = .ok a S') : x S = .ok a S' := by
  unfold calm at h
  cases q : x S with
  | ok b S2 => simp only [q] at h; exact h
  | exc c d S2 => simp only [q] at h; cases h
  | bad => simp only [q] at h; cases h
theorem pst_ok {α : Type} {Y : XK} {m : List Addr} {H : Hp} {r : Kd.R α} {k : List Addr → Hp → Sto → α → Prop} {a : α} {S : Sto} (e : r = .ok a S) (h : ∀ m' H', Ext m H m' H' → RelS (gd X) m' H' S → k m' H' S a) : Pst (gd X) T Y m H r k := by
  subst e; exact h
theorem se_lc {elt tg iter : Expr} {ifs : List Expr} {scope : Scope} {own : List (Str × Nat)} {pos : Pos} {fw : Env → M (List D × List (Nat × List D))} {tgs : Tg} {fc : Env → M Bool} {fe : Env → M D} (hc : X.calm = true) (hN : X.N.Nodup)
    (hi : PI X tg iter (tW X T W fw)) (ok : BlkOk X.N X.env.scope scope own) (hin : ∀ i ∈ tgs.ids, i ∈ own.map (·.2))
    (hg : ∀ (s : Shared) (H : Hp) (C : Addr) (cl : List (Str × Addr)) (fp : List Addr), PG (X.blk s H scope (compEnvC scope cl C X.env) fp) tg (tG X tgs))
    (ht : ∀ (s : Shared) (H : Hp) (C : Addr) (cl : List (Str × Addr)) (fp : List Addr), PTs (X.blk s H scope (compEnvC scope cl C X.env) fp) ifs (tB X T W0 fc))
    (he : ∀ (s : Shared) (H : Hp) (C : Addr) (cl : List (Str × Addr)) (fp : List Addr), PE (X.blk s H scope (compEnvC scope cl C X.env) fp) elt (tF X T W0 fe))
    (hfs : ∀ x, foldedSetIterable iter X.env x = pure x) :
    PE X (.ListComp elt [⟨tg, iter, ifs, 0⟩] scope pos) (tLc (tW X T W fw) (tG X tgs) (tB X T W0 fc) (tF X T W0 fe) (own.map (·.2))) := pe_lc hc hN hi ok hg ht he hfs
theorem lc_ok {fw : Env → M (List D × List (Nat × List D))} {tgs : Tg} {fc : Env → M Bool} {fe : Env → M D} {own : List Nat} (hin : ∀ i ∈ tgs.ids, i ∈ own) {σ : L2.St} {H : Hp} {Q : VK}
    (h : tV X T W (fun ρ => fw ρ >>= fun ig => calm (lcRun ig.2 (fun d => bindT tgs d (wipeE ρ own)) fc fe ig.1 []) >>= fun ds => M.pure (Kd.X.tl ds)) σ H Q) : tLc (tW X T W fw) (tG X tgs) (tB X T W0 fc) (tF X T W0 fe) own σ H Q := by
  obtain ⟨m, S, ρ, E, R, z⟩ := h
  refine ⟨m, S, ρ, E, R, z.bind.imp fun m1 H1 S1 ig e R1 q J wj D hD => ?_⟩
  have E1 := RelE.ext (G := gd X) e E
  have hD0 : H D = none := by
    cases w : H D with
    | none => rfl
    | some o => exact absurd hD (e.there D (by rw [w]; simp))
  rw [bindE] at q
  cases el : calm (lcRun ig.2 (fun d => bindT tgs d (wipeE ρ own)) fc fe ig.1 []) S1 with
  | exc c d S' =>
    exfalso
    unfold calm at el
    simp only at el
    split at el
    · cases el
    · rename_i hx
      exact hx _ _ _ el
  | bad => rw [el] at q; exact q.elim
  | ok out S' =>
    rw [el] at q
    have el := calm_ok el
    have fin : ∀ m2 H2 vs, Ext m1 H1 m2 H2 → RelS (gd X) m2 H2 S' → H2 D = some (.lst vs) → D ∉ m2 → RelDs X.K m2 H2 out vs → out.length ≤ sizeLine → Q (.ref D) H2 := fun m2 H2 vs e2 R2 h1 h2 h3 h4 =>
      q m2 H2 (e.trans e2) R2 (.ref D) ⟨D, vs, rfl, h1, h2, h3, h4⟩ hD0
    refine ⟨fun i n Hc => n = ig.1.length - i ∧ i ≤ ig.1.length ∧ ∃ m2 S2 acc vs, Ext m1 H1 m2 Hc ∧ RelS (gd X) m2 Hc S2 ∧ Hc D = some (.lst vs) ∧ D ∉ m2 ∧ RelDs X.K m2 Hc acc.reverse vs ∧ acc.length ≤ i ∧
      lcRun ig.2 (fun d => bindT tgs d (wipeE ρ own)) fc fe (ig.1.drop i) acc S2 = .ok out S', ⟨_, rfl, Nat.zero_le _, m1, S1, [], [], ext_new hD, R1.laid hD, upd_same, R1.new hD, (show RelDs X.K m1 (upd H1 D (.lst [])) ([] : List Kd.D).reverse [] from rfl), Nat.le_refl _, el⟩, ?_⟩
    rintro i n Hc ⟨rfl, hi, m2, S2, acc, vs, e2, R2, h1, h2, h3, h4, h5⟩
    cases hd : ig.1[i]? with
    | none =>
      have ei : i = ig.1.length := by have := List.getElem?_eq_none_iff.mp hd; omega
      subst ei
      rw [List.drop_length] at h5
      simp only [lcRun] at h5
      split at h5
      · rename_i hs
        cases h5
        exact .inl ⟨wj.stop m2 Hc _ e2 R2 hs, fin m2 Hc vs e2 R2 h1 h2 h3 (by rw [List.length_reverse]; exact Nat.le_trans h4 wj.len)⟩
      · cases h5
    | some d =>
      have hlt := (List.getElem?_eq_some_iff.mp hd).1
      have edrop : ig.1.drop i = d :: ig.1.drop (i + 1) := by
        rw [List.drop_eq_getElem_cons hlt]
        congr 1
        exact (List.getElem?_eq_some_iff.mp hd).2
      rw [edrop] at h5
      simp only [lcRun] at h5
      split at h5
      · rename_i hs
        obtain ⟨g1, g2⟩ := wj.go m2 Hc S2 i d e2 R2 hs hd
        refine .inr ⟨g1, fun Hc => i < ig.1.length ∧ ∃ m2 S2 acc vs, Ext m1 H1 m2 Hc ∧ RelS (gd X) m2 Hc S2 ∧ Hc D = some (.lst vs) ∧ D ∉ m2 ∧ RelDs X.K m2 Hc acc.reverse vs ∧ acc.length ≤ i + 1 ∧
          lcRun ig.2 (fun d => bindT tgs d (wipeE ρ own)) fc fe (ig.1.drop (i + 1)) acc S2 = .ok out S', fun H' ⟨hl, q⟩ => ⟨ig.1.length - (i + 1), by omega, rfl, by omega, q⟩, fun x H3 y => ?_⟩
        obtain ⟨x3, R3, rd⟩ := g2 x H3 y
        have k1 : H3 D = some (.lst vs) := x3.keep D _ h2 h1
        have k3 := RelDs.ext x3 _ _ h3
        rw [bindE] at h5
        cases eb : bindT tgs d (wipeE ρ own) S2 with
        | exc c d' S3 => simp only [eb] at h5; cases h5
        | bad => simp only [eb] at h5; cases h5
        | ok ρ1 S3 =>
          have := bindT_S eb
          subst this
          simp only [eb] at h5
          refine ⟨m2, S3, wipeE ρ own, d, RelE.wipe (G := gd X) (RelE.ext (G := gd X) (e2.trans x3) E1) own, R3, rd, ρ1, S3, eb, fun σ2 E2 sa => ⟨SetAt.wipe hin sa, ?_⟩⟩
          rw [bindE] at h5
          cases ec : fc ρ1 S3 with
          | exc c d' S4 => simp only [ec] at h5; cases h5
          | bad => simp only [ec] at h5; cases h5
          | ok b S4 =>
            simp only [ec] at h5
            refine ⟨m2, S3, ρ1, E2, R3, pst_ok ec fun m4 H4 x4 R4 => ?_⟩
            have k1' : H4 D = some (.lst vs) := x4.keep D _ h2 k1
            have n4 := x4.notin h2 k1
            have k3' := RelDs.ext x4 _ _ k3
            cases b with
            | false =>
              simp only [Bool.false_eq_true, if_false] at h5 ⊢
              exact ⟨hlt, m4, S4, acc, vs, (e2.trans x3).trans x4, R4, k1', n4, k3', by omega, h5⟩
            | true =>
              simp only [if_true] at h5 ⊢
              rw [bindE] at h5
              cases ee : fe ρ1 S4 with
              | exc c d' S5 => simp only [ee] at h5; cases h5
              | bad => simp only [ee] at h5; cases h5
              | ok y S5 =>
                simp only [ee] at h5
                refine ⟨m4, S4, ρ1, RelE.ext (G := gd X) x4 E2, R4, pst_ok ee fun m5 H5 x5 R5 v rv => ?_⟩
                have k1'' : H5 D = some (.lst vs) := x5.keep D _ n4 k1'
                have n5 := x5.notin n4 k1'
                have k3'' := RelDs.ext x5 _ _ k3'
                have hl := RelDs.length k3''
                rw [List.length_reverse] at hl
                have pv := prv_upd (o := .lst (vs ++ [v])) k1'' n5
                refine ⟨vs, k1'', by have := wj.len; omega, hlt, m5, S5, y :: acc, vs ++ [v], (((e2.trans x3).trans x4).trans x5).over hD, RelS.prv pv R5, upd_same, n5, ?_, by simpa using h4, h5⟩
                rw [List.reverse_cons]
                exact RelDs.prv (G := gd X) pv _ _ (RelDs.snoc (G := gd X) k3'' rv)
      · cases h5
end
end Kd
/-! Statements. -/
set_option maxHeartbeats 1000000
namespace Kd
open PySem PySem.Spec PyProof.Rows L2
/-- where a statement's flow goes -/
def kS (G : Gd) (D : Ends) : List Addr → Hp → Sto → Fl × Env → Prop := fun m' H' _ r => match r.1 with
  | .nx => ∀ σ', RelE G.K m' H' r.2 σ' → D.nx σ' H'
  | .brk => ∀ σ', RelE G.K m' H' r.2 σ' → D.bk σ' H'
  | .cnt => ∀ σ', RelE G.K m' H' r.2 σ' → D.ct σ' H'
  | .ret d => ∀ v, RelD G.K m' H' d v → D.rt v H'
/-- exceptions at any slots; tS1: at the entry's -/
def tS (X : Cx) (T : Cls') (W : WX) (f : Env → M (Fl × Env)) : L2.TS := fun D σ H => ∃ (m : List Addr) (S : Sto) (ρ : Env) (Y : XK), RelE X.K m H ρ σ ∧ RelS (gd X) m H S ∧ (∀ σ' cl d H', Y cl d H' → W cl d σ' H') ∧ Pst (gd X) T Y m H (f ρ S) (kS (gd X) D)
def tS1 (X : Cx) (T : Cls') (W : WX) (f : Env → M (Fl × Env)) : L2.TS := fun D σ H => ∃ (m : List Addr) (S : Sto) (ρ : Env), RelE X.K m H ρ σ ∧ RelS (gd X) m H S ∧ Pst (gd X) T (WE W σ) m H (f ρ S) (kS (gd X) D)
theorem Pst.impY {G : Gd} {T : Cls'} {Y Y' : XK} {m : List Addr} {H : Hp} {α : Type} {r : R α} {k : List Addr → Hp → Sto → α → Prop} (h : Pst G T Y m H r k) (q : ∀ cl d H, Y cl d H → Y' cl d H) : Pst G T Y' m H r k := by
  cases r with
  | ok a S' => exact h
  | exc c d S' => exact fun m' H' cl dx e R x => q _ _ _ (h m' H' cl dx e R x)
  | bad => exact h
section
variable {X : Cx} {T : Cls'} {W : WX} {m : List Addr} {H : Hp} {S : Sto} {ρ : Env} {σ : L2.St}
theorem ss_of1 {st : Stmt} {f : Env → M (Fl × Env)} (h : PS X st (tS1 X T W f)) : PS X st (tS X T W f) :=
  ps_mono h fun D σ H ⟨m, S, ρ, Y, E, R, hY, z⟩ => ⟨m, S, ρ, E, R, z.impY (hY σ)⟩
theorem force_t {f : Env → M Kd.X} {Q : VK} (h : tF X T W (fun ρ => f ρ >>= force) σ H Q) : tV X T W f σ H Q := by
  obtain ⟨m, S, ρ, E, R, z⟩ := h
  refine tV_bind E R z fun v m1 H1 S1 x e E1 R1 rv fv q => ?_
  cases x with
  | dv d => exact q m1 H1 e R1 v rv
  | tl ds =>
    obtain ⟨p, vs, rfl, h1, h2, h3, h4⟩ := rv
    have e2 : Ext m H (m1 ++ [p]) H1 := by
      obtain ⟨m2, e1, n2⟩ := e.more
      refine ⟨⟨m2 ++ [p], by rw [e1, List.append_assoc], fun b hb => ?_⟩, e.keep, e.tups, e.frzs, e.there⟩
      rcases List.mem_append.mp hb with hb | hb
      · exact n2 b hb
      · rw [List.mem_singleton.mp hb]; exact fv
    have R2 := R1.join (ob := .lst ds) h2 ⟨vs, h1, RelDs.more app_get _ _ h3, h4⟩
    exact q (m1 ++ [p]) H1 e2 R2 (.ref p) ⟨p, rfl, by rw [← R1.len]; exact List.getElem?_concat_length⟩
/-- behind a forced value -/
theorem tF_bind {β : Type} {f : Env → M D} {g : D → M β} {k : List Addr → Hp → Sto → β → Prop} {Q : VK} (E : RelE X.K m H ρ σ) (R : RelS (gd X) m H S) (h : Pst (gd X) T (WE W σ) m H ((f ρ >>= g) S) k)
    (q : ∀ v m1 H1 S1 d, Ext m H m1 H1 → RelE X.K m1 H1 ρ σ → RelS (gd X) m1 H1 S1 → RelD X.K m1 H1 d v → Pst (gd X) T (WE W σ) m H (g d S1) k → Q v H1) : tF X T W f σ H Q :=
  ⟨m, S, ρ, E, R, h.bind.imp fun m1 H1 S1 d e R1 z v rv => q v m1 H1 S1 d e (RelE.ext (G := gd X) e E) R1 rv z⟩
theorem set_t {f : Env → M D} {i : Nat} {D : Ends} (h : tS1 X T W (fun ρ => f ρ >>= fun d => M.pure (.nx, ρ.set i (some d))) D σ H) : tF X T W f σ H (fun x H1 => gName i x σ H1 D.nx) := by
  obtain ⟨m, S, ρ, E, R, z⟩ := h
  exact tF_bind E R z fun v m1 H1 S1 d e E1 R1 rv q => q m1 H1 e R1 _ (RelE.set (G := gd X) E1 rv i)
theorem ss_set {x : Str} {e : Expr} {i : Nat} {pos pos' : Pos} {f : Env → M Kd.X} (hN : X.N.Nodup) (hi : X.N[i]? = some x) (hx : Loc X.env.scope x) (he : PE X e (tV X T W f)) (hs : swapsWith e (some (.Name x pos')) pos.line X.env = pure false)
    (hf : X.fn x = true ∨ X.env.scope.names.lookup x = some .local) : PS X (.Assign [.Name x pos'] e pos) (tS1 X T W fun ρ => (f ρ >>= force) >>= fun d => M.pure (.nx, ρ.set i (some d))) :=
  ps_mono (ps_set hN hi hx he hs hf) fun D σ H h => force_t (set_t h)
theorem ss_setT {es : List Expr} {k : Nat} {tpos pos : Pos} {e : Expr} {is : List Nat} {f : Env → M Kd.X} (hg : PG X (.Tuple es k tpos) (tGu X is)) (he : PE X e (tV X T W f)) (hw : swappedStores [.Tuple es k tpos] e X.env = pure none) :
    PS X (.Assign [.Tuple es k tpos] e pos) (tS1 X T W fun ρ => (f ρ >>= force) >>= fun d => unpack d is.length >>= fun ds => M.pure (.nx, setAll ρ is ds)) := by
  refine ps_mono (ps_asg (pe_force he) hg (by cases e <;> rfl) hw) fun D σ H ⟨m, S, ρ, E, R, z⟩ => tF_bind E R z fun v m1 H1 S1 d e E1 R1 rv q => ?_
  rw [bindE] at q
  cases u : unpack d is.length S1 with
  | ok ds S2 =>
    have : S2 = S1 := by
      unfold unpack at u
      cases d with
      | tup ds' => simp only at u; split at u <;> cases u; rfl
      | loc l =>
        simp only at u
        cases el : S1[l]? with
        | none => rw [el] at u; cases u
        | some ob => rw [el] at u; cases ob <;> simp only at u <;> first | (split at u <;> cases u; rfl) | cases u
      | _ => cases u
    subst this
    rw [u] at q
    exact ⟨m1, S2, ρ, d, ds, E1, R1, rv, u, fun σ' E2 => q m1 H1 e R1 σ' E2⟩
  | exc c d' S2 =>
    exfalso
    unfold unpack at u
    cases d with
    | tup ds' => simp only at u; split at u <;> cases u
    | loc l =>
      simp only at u
      cases el : S1[l]? with
      | none => rw [el] at u; cases u
      | some ob => rw [el] at u; cases ob <;> simp only at u <;> first | (split at u <;> cases u) | cases u
    | _ => cases u
  | bad => rw [u] at q; exact q.elim
theorem ss_par {i j : Nat} {x y : Str} {a b : Expr} {fa fb : Env → M Kd.X} {px py pt pos pt2 : Pos} {kt k2 : Nat} (hc : X.calm = true) (hN : X.N.Nodup) (hi : X.N[i]? = some x) (hj : X.N[j]? = some y) (hij : i ≠ j) (hx : X.env.scope.names.lookup x = some .local)
    (hy : X.env.scope.names.lookup y = some .local) (ha : PE X a (tV X T W fa)) (hb : PE X b (tV X T W fb)) (na : noStar a = true) (nb : noStar b = true) (hw : swappedStores [.Tuple [.Name x px, .Name y py] kt pt] (.Tuple [a, b] k2 pt2) X.env = pure (some [x, y])) :
    PS X (.Assign [.Tuple [.Name x px, .Name y py] kt pt] (.Tuple [a, b] k2 pt2) pos) (tS1 X T W fun ρ => (fa ρ >>= force) >>= fun d => (fb ρ >>= force) >>= fun e => M.pure (.nx, (ρ.set i (some d)).set j (some e))) := by
  have hA : PA X [a, b] (tCons (tF X T W fun ρ => fa ρ >>= force) (tCons (tF X T W fun ρ => fb ρ >>= force) tNil)) := pa_cons (pe_force ha) (pa_cons (pe_force hb) pa_nil (star1 nb)) (star1 na)
  refine ps_mono (ps_par hc hN hi hj hij hx hy hA hw (by rfl)) fun D σ H ⟨m, S, ρ, E, R, z⟩ => tF_bind E R z fun v m1 H1 S1 d e E1 R1 rv q => ?_
  refine tF_bind E1 R1 (q.shift e) fun u m2 H2 S2 d2 e2 E2 R2 ru q2 => ⟨v, u, rfl, ?_⟩
  exact q2 m2 H2 e2 R2 _ (RelE.set (G := gd X) (RelE.set (G := gd X) E2 (RelD.ext e2 _ _ rv) i) ru j)
def noSlice : Expr → Bool
  | .Slice _ _ _ _ => false
  | _ => true
theorem plain_ix {b : Expr} (h : noSlice b = true) : PlainIx b := fun o i => by cases b <;> first | rfl | cases h
theorem ss_sub {o i e : Expr} {fo fi fe : Env → M Kd.X} {pos p2 : Pos} (hu : X.A.units + 64 < cLine) (hns : noSlice i = true) (ho : PE X o (tV X T W fo)) (hi : PE X i (tV X T W fi)) (he : PE X e (tV X T W fe)) :
    PS X (.Assign [.Subscript o i p2] e pos) (tS1 X T W fun ρ => (fe ρ >>= force) >>= fun d => fo ρ >>= fun x => fi ρ >>= fun y => subX x y d >>= fun _ => M.pure (.nx, ρ)) := by
  refine ps_mono (ps_asg (pe_force he) (pg_sub ho hi (set_K hu) (by intro v; cases i <;> first | rfl | cases hns)) (by cases e <;> rfl) (by cases e <;> rfl)) fun D σ H ⟨m, S, ρ, E, R, z⟩ => tF_bind E R z fun v m1 H1 S1 d e E1 R1 rv q => ?_
  refine tV_bind E1 R1 (q.shift e) fun u m2 H2 S2 x e2 E2 R2 ru fu q2 => tV_bind E2 R2 (q2.shift e2) fun w' m3 H3 S3 y e3 E3 R3 rw' fw q3 => ?_
  refine ⟨T, WE W σ, m3, S3, x, y, d, R3, RelX.ext (G := gd X) e3 ru, rw', RelD.ext (e2.trans e3) _ _ rv, (q3.shift e3).bind.imp fun m4 H4 S4 _ e4 R4 q4 => ?_⟩
  exact q4 m4 H4 e4 R4 σ (RelE.ext (G := gd X) e4 E3)
theorem ss_exp {e : Expr} {f : Env → M Kd.X} {pos : Pos} (he : PE X e (tV X T W f)) (hs : swapsWith e none pos.line X.env = pure false) : PS X (.Expr e pos) (tS1 X T W fun ρ => f ρ >>= fun _ => M.pure (.nx, ρ)) :=
  ps_mono (ps_expr he hs) fun D σ H ⟨m, S, ρ, E, R, z⟩ => tV_bind E R z fun v m1 H1 S1 x e E1 R1 rv fv q => q m1 H1 e R1 σ E1
theorem ss_ret {e : Expr} {f : Env → M Kd.X} {pos : Pos} (he : PE X e (tV X T W f)) : PS X (.Return (some e) pos) (tS1 X T W fun ρ => (f ρ >>= force) >>= fun d => M.pure (.ret d, ρ)) :=
  ps_mono (ps_ret (pe_force he)) fun D σ H ⟨m, S, ρ, E, R, z⟩ => tF_bind E R z fun v m1 H1 S1 d e E1 R1 rv q => q m1 H1 e R1 v rv
theorem ss_ret0 {pos : Pos} : PS X (.Return none pos) (tS1 X T W fun ρ => M.pure (.ret .non, ρ)) := ps_mono ps_retN fun D σ H ⟨m, S, ρ, E, R, z⟩ => z m H Ext.refl R .non rfl
theorem ss_pass {pos : Pos} : PS X (.Pass pos) (tS1 X T W fun ρ => M.pure (.nx, ρ)) := ps_mono ps_pass fun D σ H ⟨m, S, ρ, E, R, z⟩ => z m H Ext.refl R σ E
theorem ss_brk {pos : Pos} : PS X (.Break pos) (tS1 X T W fun ρ => M.pure (.brk, ρ)) := ps_mono ps_break fun D σ H ⟨m, S, ρ, E, R, z⟩ => z m H Ext.refl R σ E
theorem ss_cnt {pos : Pos} : PS X (.Continue pos) (tS1 X T W fun ρ => M.pure (.cnt, ρ)) := ps_mono ps_continue fun D σ H ⟨m, S, ρ, E, R, z⟩ => z m H Ext.refl R σ E
/-! ### suites -/
theorem sl_nil : PSs X [] (tS X T W fun ρ => M.pure (.nx, ρ)) := pss_mono pss_nil fun D σ H ⟨m, S, ρ, Y, E, R, hY, z⟩ => z m H Ext.refl R σ E
theorem sl_cons {st : Stmt} {sts : List Stmt} {f g : Env → M (Fl × Env)} (h : PS X st (tS X T W f)) (h2 : PSs X sts (tS X T W g)) : PSs X (st :: sts) (tS X T W fun ρ => f ρ >>= fun r => match r.1 with
    | .nx => g r.2
    | f => M.pure (f, r.2)) := by
  refine pss_mono (pss_cons h h2) fun D σ H ⟨m, S, ρ, Y, E, R, hY, z⟩ => ⟨m, S, ρ, Y, E, R, hY, z.bind.imp fun m1 H1 S1 r e R1 q => ?_⟩
  obtain ⟨fl, ρ1⟩ := r
  cases fl with
  | nx => exact fun σ' E' => ⟨m1, S1, ρ1, Y, E', R1, hY, q.shift e⟩
  | brk => exact fun σ' E' => q m1 H1 e R1 σ' E'
  | cnt => exact fun σ' E' => q m1 H1 e R1 σ' E'
  | ret d => exact fun v rv => q m1 H1 e R1 v rv
theorem ss_if {c : Expr} {a b : List Stmt} {fc : Env → M Bool} {fa fb : Env → M (Fl × Env)} {pos : Pos} (hc : PT X c (tB X T W fc)) (ha : PSs X a (tS X T W fa)) (hb : PSs X b (tS X T W fb)) :
    PS X (.If c a b pos) (tS X T W fun ρ => fc ρ >>= fun k => if k then fa ρ else fb ρ) := by
  refine ps_mono (ps_if hc ha hb) fun D σ H ⟨m, S, ρ, Y, E, R, hY, z⟩ => ⟨m, S, ρ, E, R, ((z.bind).impY (hY σ)).imp fun m1 H1 S1 k e R1 q => ?_⟩
  cases k with
  | true => exact ⟨m1, S1, ρ, Y, RelE.ext (G := gd X) e E, R1, hY, q.shift e⟩
  | false => exact ⟨m1, S1, ρ, Y, RelE.ext (G := gd X) e E, R1, hY, q.shift e⟩
/-- for -/
theorem ss_for {tg iter : Expr} {body : List Stmt} {tgs : Tg} {fw : Env → M (List D × List (Nat × List D))} {fb : Env → M (Fl × Env)} {pos : Pos} (hp : PassesOwn (model X.prog X.w) X.A X.env X.xe) (hc : X.calm = true) (hi : PI X tg iter (tW X T W fw)) (hg : PG X tg (tG X tgs)) (hb : PSs X body (tS X T W fb))
    (hfs : ∀ x, foldedSetIterable iter X.env x = pure x) : PS X (.For tg iter body [] pos) (tS X T W fun ρ => fw ρ >>= fun ig => forRun ig.2 (fun d ρ1 => bindT tgs d ρ1) fb ig.1 ρ) := by
  refine ps_mono (ps_for hp hc hi hg hb hfs) fun D σ H ⟨m, S, ρ, Y, E, R, hY, z⟩ => ⟨m, S, ρ, E, R, (z.bind.impY (hY σ)).imp fun m1 H1 S1 ig e R1 q J wj => ?_⟩
  refine ⟨fun i n σc Hc => n = ig.1.length - i ∧ i ≤ ig.1.length ∧ ∃ m2 S2 ρ2, Ext m1 H1 m2 Hc ∧ RelE X.K m2 Hc ρ2 σc ∧ RelS (gd X) m2 Hc S2 ∧ Pst (gd X) T Y m2 Hc (forRun ig.2 (fun d ρ1 => bindT tgs d ρ1) fb (ig.1.drop i) ρ2 S2) (kS (gd X) D), ⟨_, rfl, Nat.zero_le _, m1, S1, ρ, Ext.refl, RelE.ext (G := gd X) e E, R1, q.shift e⟩, ?_⟩
  rintro i n σc Hc ⟨rfl, hi, m2, S2, ρ2, e2, E2, R2, q2⟩
  cases hd : ig.1[i]? with
  | none =>
    have ei : i = ig.1.length := by have := List.getElem?_eq_none_iff.mp hd; omega
    subst ei
    rw [List.drop_length] at q2
    simp only [forRun] at q2
    split at q2
    · rename_i hs
      exact .inl ⟨wj.stop m2 Hc S2 e2 R2 hs, q2 m2 Hc Ext.refl R2 σc E2⟩
    · exact q2.elim
  | some d =>
    have hlt := (List.getElem?_eq_some_iff.mp hd).1
    have edrop : ig.1.drop i = d :: ig.1.drop (i + 1) := by
      rw [List.drop_eq_getElem_cons hlt]
      congr 1
      exact (List.getElem?_eq_some_iff.mp hd).2
    rw [edrop] at q2
    simp only [forRun] at q2
    split at q2
    · rename_i hs
      obtain ⟨g1, g2⟩ := wj.go m2 Hc S2 i d e2 R2 hs hd
      refine .inr ⟨g1, fun σc Hc => i < ig.1.length ∧ ∃ m2 S2 ρ2, Ext m1 H1 m2 Hc ∧ RelE X.K m2 Hc ρ2 σc ∧ RelS (gd X) m2 Hc S2 ∧ Pst (gd X) T Y m2 Hc (forRun ig.2 (fun d ρ1 => bindT tgs d ρ1) fb (ig.1.drop (i + 1)) ρ2 S2) (kS (gd X) D), fun σ' H' ⟨hl, q⟩ => ⟨ig.1.length - (i + 1), by omega, rfl, by omega, q⟩, fun x H3 y => ?_⟩
      obtain ⟨x3, R3, rd⟩ := g2 x H3 y
      rw [bindE] at q2
      cases eb : bindT tgs d ρ2 S2 with
      | exc c d' S3 =>
        exfalso
        cases tgs with
        | nm i => cases eb
        | tp is =>
          cases d with
          | tup ds => simp only [bindT] at eb; split at eb <;> cases eb
          | _ => cases eb
      | bad => simp only [eb] at q2; exact q2.elim
      | ok ρ3 S3 =>
        have := bindT_S eb
        subst this
        simp only [eb] at q2
        refine ⟨m2, S3, ρ2, d, RelE.ext (G := gd X) x3 E2, R3, rd, ρ3, S3, eb, fun σ4 E4 sa => ?_⟩
        refine ⟨m2, S3, ρ3, Y, E4, R3, hY, (q2.shift x3).bind.imp fun m5 H5 S5 r e5 R5 q5 => ?_⟩
        have e15 := (e2.trans x3).trans e5
        obtain ⟨fl, ρ5⟩ := r
        cases fl with
        | nx => exact fun σ' E' => ⟨hlt, m5, S5, ρ5, e15, E', R5, q5.shift e5⟩
        | cnt => exact fun σ' E' => ⟨hlt, m5, S5, ρ5, e15, E', R5, q5.shift e5⟩
        | brk => exact fun σ' E' => q5 m5 H5 e5 R5 σ' E'
        | ret d => exact fun v rv => q5 m5 H5 e5 R5 v rv
    · exact q2.elim
/-- while -/
theorem whlN_succ {c : Env → M Bool} {b : Env → M (Fl × Env)} {n : Nat} {ρ : Env} {S : Sto} {r : R (Fl × Env)} (h : whlN c b n ρ S = some r) : ∃ k, n = k + 1 := by
  cases n with
  | zero => cases h
  | succ k => exact ⟨k, rfl⟩
theorem ss_whl {c : Expr} {body : List Stmt} {fc : Env → M Bool} {fb : Env → M (Fl × Env)} {pos : Pos} (hp : PassesOwn (model X.prog X.w) X.A X.env X.xe) (hc : PT X c (tB X T W fc)) (hb : PSs X body (tS X T W fb)) : PS X (.While c body [] pos) (tS X T W fun ρ => whl fc fb ρ) := by
  refine ps_mono (ps_while hp hc hb) fun D σ H ⟨m, S, ρ, Y, E, R, hY, z⟩ => ?_
  simp only [whl] at z
  split at z
  · rename_i h
    have hr := Classical.choose_spec (Classical.choose_spec h)
    generalize Classical.choose (Classical.choose_spec h) = r at z hr
    generalize Classical.choose h = n at hr
    refine ⟨fun n σc Hc => ∃ m2 S2 ρ2 r, RelE X.K m2 Hc ρ2 σc ∧ RelS (gd X) m2 Hc S2 ∧ whlN fc fb n ρ2 S2 = some r ∧ Pst (gd X) T Y m2 Hc r (kS (gd X) D), ⟨n, m, S, ρ, r, E, R, hr, z⟩, ?_⟩
    rintro n σc Hc ⟨m2, S2, ρ2, r, E2, R2, hn, q⟩
    obtain ⟨k, rfl⟩ := whlN_succ hn
    simp only [whlN] at hn
    refine ⟨m2, S2, ρ2, E2, R2, ?_⟩
    cases ec : fc ρ2 S2 with
    | bad => rw [ec] at hn; cases hn; exact q.elim
    | exc c d S3 => rw [ec] at hn; cases hn; exact q.impY (hY σc)
    | ok b S3 =>
      rw [ec] at hn
      cases b with
      | false => cases hn; exact fun m3 H3 e3 R3 => q m3 H3 e3 R3 σc (RelE.ext (G := gd X) e3 E2)
      | true =>
        refine fun m3 H3 e3 R3 => ?_
        simp only [if_true]
        refine ⟨fun σc Hc => ∃ m2 S2 ρ2 r, RelE X.K m2 Hc ρ2 σc ∧ RelS (gd X) m2 Hc S2 ∧ whlN fc fb k ρ2 S2 = some r ∧ Pst (gd X) T Y m2 Hc r (kS (gd X) D), fun σ' H' q => ⟨k, Nat.lt_succ_self k, q⟩, m3, S3, ρ2, Y, RelE.ext (G := gd X) e3 E2, R3, hY, ?_⟩
        simp only at hn
        cases eb : fb ρ2 S3 with
        | bad => rw [eb] at hn; cases hn; exact q.elim
        | exc c d S4 => rw [eb] at hn; cases hn; exact q.shift e3
        | ok r4 S4 =>
          rw [eb] at hn
          obtain ⟨fl, ρ4⟩ := r4
          cases fl with
          | nx => exact fun m4 H4 e4 R4 σ' E' => ⟨m4, S4, ρ4, r, E', R4, hn, q.shift (e3.trans e4)⟩
          | cnt => exact fun m4 H4 e4 R4 σ' E' => ⟨m4, S4, ρ4, r, E', R4, hn, q.shift (e3.trans e4)⟩
          | brk => cases hn; exact fun m4 H4 e4 R4 σ' E' => q m4 H4 (e3.trans e4) R4 σ' E'
          | ret d => cases hn; exact fun m4 H4 e4 R4 v rv => q m4 H4 (e3.trans e4) R4 v rv
  · exact z.elim
end
end Kd
/-! < and its kin. -/
set_option maxHeartbeats 1000000
namespace Kd
open PySem PySem.Spec PyProof.Rows L2
theorem lt_cases (x y : Kd.X) : (∃ i j, x = .dv (.int i) ∧ y = .dv (.int j)) ∨ (∃ i j, x = .dv (.str i) ∧ y = .dv (.str j)) ∨ ltX x y = M.bad := by
  cases x with
  | tl ds => exact .inr (.inr rfl)
  | dv d =>
    cases y with
    | tl ds => cases d <;> exact .inr (.inr rfl)
    | dv e => cases d <;> cases e <;> first | exact .inl ⟨_, _, rfl, rfl⟩ | exact .inr (.inl ⟨_, _, rfl, rfl⟩) | exact .inr (.inr rfl)
theorem dec_le {i j : Int} : decide (i ≤ j) = !decide (j < i) := by
  by_cases h : i ≤ j
  · have : ¬ j < i := by omega
    simp [h, this]
  · have : j < i := by omega
    simp [h, this]
section
variable {X : Cx}
theorem op_ltK : OpR X (compareOp .Lt) (rCm (gd X) ltX) := by
  intro pins s σ H v u v' u' Q I rv ru ⟨T, Y, m, S, x, y, R, rx, ry, h⟩
  rcases lt_cases x y with ⟨i, j, rfl, rfl⟩ | ⟨i, j, rfl, rfl⟩ | e
  · cases (show v = .int i from rx); cases (show u = .int j from ry)
    exact op_lt pins s σ H _ _ v' u' Q I rv ru ⟨i, j, rfl, rfl, h m H Ext.refl R⟩
  · cases (show v = .str i from rx); cases (show u = .str j from ry)
    exact op_lt_str pins s σ H _ _ v' u' Q I rv ru ⟨i, j, rfl, rfl, h m H Ext.refl R⟩
  · rw [e] at h; exact h.elim
theorem op_gtK : OpR X (compareOp .Gt) (rCm (gd X) fun x y => ltX y x) := by
  intro pins s σ H v u v' u' Q I rv ru ⟨T, Y, m, S, x, y, R, rx, ry, h⟩
  rcases lt_cases y x with ⟨i, j, rfl, rfl⟩ | ⟨i, j, rfl, rfl⟩ | e
  · cases (show v = .int j from rx); cases (show u = .int i from ry)
    exact op_gt pins s σ H _ _ v' u' Q I rv ru ⟨j, i, rfl, rfl, h m H Ext.refl R⟩
  · cases (show v = .str j from rx); cases (show u = .str i from ry)
    exact op_gt_str pins s σ H _ _ v' u' Q I rv ru ⟨j, i, rfl, rfl, h m H Ext.refl R⟩
  · simp only [e] at h; exact h.elim
theorem op_leK : OpR X (compareOp .LtE) (rCm (gd X) fun x y => ltX y x >>= fun b => M.pure (!b)) := by
  intro pins s σ H v u v' u' Q I rv ru ⟨T, Y, m, S, x, y, R, rx, ry, h⟩
  rw [bindE] at h
  rcases lt_cases y x with ⟨i, j, rfl, rfl⟩ | ⟨i, j, rfl, rfl⟩ | e
  · cases (show v = .int j from rx); cases (show u = .int i from ry)
    exact op_le pins s σ H _ _ v' u' Q I rv ru ⟨j, i, rfl, rfl, by show Q (.bl (decide (j ≤ i))) H; rw [dec_le]; exact h m H Ext.refl R⟩
  · cases (show v = .str j from rx); cases (show u = .str i from ry)
    exact op_le_str pins s σ H _ _ v' u' Q I rv ru ⟨j, i, rfl, rfl, h m H Ext.refl R⟩
  · rw [e] at h; exact h.elim
theorem op_geK : OpR X (compareOp .GtE) (rCm (gd X) fun x y => ltX x y >>= fun b => M.pure (!b)) := by
  intro pins s σ H v u v' u' Q I rv ru ⟨T, Y, m, S, x, y, R, rx, ry, h⟩
  rw [bindE] at h
  rcases lt_cases x y with ⟨i, j, rfl, rfl⟩ | ⟨i, j, rfl, rfl⟩ | e
  · cases (show v = .int i from rx); cases (show u = .int j from ry)
    exact op_ge pins s σ H _ _ v' u' Q I rv ru ⟨i, j, rfl, rfl, by show Q (.bl (decide (j ≤ i))) H; rw [dec_le]; exact h m H Ext.refl R⟩
  · cases (show v = .str i from rx); cases (show u = .str j from ry)
    exact op_ge_str pins s σ H _ _ v' u' Q I rv ru ⟨i, j, rfl, rfl, h m H Ext.refl R⟩
  · rw [e] at h; exact h.elim
end
end Kd
/-! < of nested tuples: the first places that differ decide; what stands behind them is not asked. -/
namespace PySem.SeqAt
open AutoSeq1 (wpAny_loadPart')
open MeetsSeq MeetsSeq2 MeetsSeq3 SeqRoads2
/-- as the library's rule, but < is asked of the first places that differ alone -/
theorem kd_tuple_lt (l b : Addr) (us vs : Array Value) (n n2 : Nat) (dd dd2 : Option Addr) (sl sl2 : Array (Option Value)) (e r : Nat → Bool) :
    Meets (Builtin.«tuple.__lt__» ⟨[.ref l, .ref b], []⟩)
      (fun A R s => (s.heap.get? l = some { cls := .type "tuple", dict := dd, data := .seq us n, slots := sl } ∧ s.heap.get? b = some { cls := .type "tuple", dict := dd2, data := .seq vs n2, slots := sl2 }) ∧
        (∀ j (h1 : j < us.size) (h2 : j < vs.size), EqAt A.in1 s us[j] vs[j] (e j)) ∧ (∀ j (h1 : j < us.size) (h2 : j < vs.size), (∀ k, k < j → e k = true) → e j = false → RcLt A.in1 s us[j] vs[j] (r j)) ∧
        R (.ok (.ret (.bool (firstLt e r (decide (us.size < vs.size)) (List.range (min us.size vs.size)))))) s) :=
  .of_wp fun prog w A R s h => by
    obtain ⟨hp, g, d, tk, os⟩ := s; obtain ⟨⟨hl, hb⟩, he, hr, h⟩ := h
    have f2 := AutoSeq1.sub_tuple_tuple
    have hZ : (us.toList.zip vs.toList).length = min us.size vs.size := by simp
    wp_walk using wpAny_loadPart' hl, wpAny_loadPart' hb, wpAny_forIn_list _ (fun rest b s' => b.1 = none ∧ s' = ⟨hp, g, d, tk, os⟩ ∧ ∃ i, rest = (us.toList.zip vs.toList).drop i ∧ (∀ k, k < i → e k = true) ∧
      R (.ok (.ret (.bool (firstLt e r (decide (us.size < vs.size)) ((List.range (min us.size vs.size)).drop i))))) ⟨hp, g, d, tk, os⟩) _
    case turn =>
      rintro ⟨y, x⟩ rest b s' ⟨hb', rfl, i, hz, hbef, hR⟩
      have hlt : i < (us.toList.zip vs.toList).length := by
        rcases Nat.lt_or_ge i (us.toList.zip vs.toList).length with h' | h'
        · exact h'
        · rw [List.drop_of_length_le h'] at hz; cases hz
      have hm : i < min us.size vs.size := hZ ▸ hlt
      have h1 : i < us.size := Nat.lt_of_lt_of_le hm (Nat.min_le_left _ _)
      have h2 : i < vs.size := Nat.lt_of_lt_of_le hm (Nat.min_le_right _ _)
      rw [List.drop_eq_getElem_cons hlt] at hz
      injection hz with hyx hrest
      have hy : y = us[i] := by have := congrArg Prod.fst hyx; simpa using this
      have hx : x = vs[i] := by have := congrArg Prod.snd hyx; simpa using this
      subst hy hx
      have hd : (List.range (min us.size vs.size)).drop i = i :: (List.range (min us.size vs.size)).drop (i + 1) := by simp [List.drop_eq_getElem_cons, hm]
      rw [hd] at hR
      refine wpAny_bind (he i h1 h2 prog w _ _ ?_)
      cases hy : e i with
      | true =>
        rw [firstLt_yes hy] at hR
        wp_walk
        refine ⟨rfl, rfl, i + 1, hrest, fun k hk => ?_, hR⟩
        rcases Nat.lt_succ_iff_lt_or_eq.mp hk with q | q
        · exact hbef k q
        · subst q; exact hy
      | false =>
        rw [firstLt_no hy] at hR
        rw [if_pos (show (!false) = true from rfl)]
        refine wpAny_bind (wpAny_rule ?_)
        refine wpAny_bind (hr i h1 h2 hbef hy prog w _ _ ?_)
        wp_walk
        exact ⟨_, rfl, hR⟩
    case fin =>
      rintro ⟨b1, b2⟩ s' ⟨hb', rfl, i, hz, _, hR⟩
      simp only at hb'
      subst hb'
      have hge : min us.size vs.size ≤ i := by
        rcases Nat.lt_or_ge i (us.toList.zip vs.toList).length with h' | h'
        · rw [List.drop_eq_getElem_cons h'] at hz; cases hz
        · exact hZ ▸ h'
      rw [List.drop_of_length_le (by simpa using hge)] at hR
      wp_walk
      exact ⟨_, rfl, by simpa [Builtin.Tuple.tupleCompareSizes, firstLt] using hR⟩
    case h =>
      exact ⟨rfl, rfl, 0, rfl, fun k hk => absurd hk (Nat.not_lt_zero k), by simpa using h⟩
theorem RcLt.kd_tups {A : Around} {s : Shared} {l b : Addr} {us vs : Array Value} {e r : Nat → Bool} (hl : s.heap.IsTuple l us) (hb : s.heap.IsTuple b vs) (hu : A.units < cLine)
    (he : ∀ j (h1 : j < us.size) (h2 : j < vs.size), EqAt A.in1 s us[j] vs[j] (e j)) (hr : ∀ j (h1 : j < us.size) (h2 : j < vs.size), (∀ k, k < j → e k = true) → e j = false → RcLt A.in1 s us[j] vs[j] (r j)) :
    RcLt A s (.ref l) (.ref b) (firstLt e r (decide (us.size < vs.size)) (List.range (min us.size vs.size))) := fun prog w E Q h => by
  obtain ⟨⟨cls, dd, data, sl⟩, ho, hc, n, hd⟩ := id hl
  obtain ⟨⟨cls2, dd2, data2, sl2⟩, ho2, hc2, n2, hd2⟩ := id hb
  simp only at hc hd hc2 hd2
  subst hc hd hc2 hd2
  exact richCompare_meets_room (op := .Lt) ⟨_, ho, rfl⟩ ⟨_, ho2, rfl⟩ F.slot_tuple_lt F.entry_tuple_lt (F.args_tuple_lt_2 _ _) (kd_tuple_lt l b us vs n n2 dd dd2 sl sl2 e r)
    ⟨⟨ho, ho2⟩, he, hr, show Value.bool (firstLt e r (decide (us.size < vs.size)) (List.range (min us.size vs.size))) ≠ Value.notImplemented ∧ Q (.bool (firstLt e r (decide (us.size < vs.size)) (List.range (min us.size vs.size)))) s from ⟨(fun x => nomatch x), h⟩⟩ hu
end PySem.SeqAt
namespace Kd
open PySem PySem.Spec PyProof.Rows L2
/-! ### the tuples' < as a walk over places -/
theorem firstLt_map (e r : Nat → Bool) (fin : Bool) : ∀ l : List Nat, SeqAt.firstLt e r fin (l.map (· + 1)) = SeqAt.firstLt (fun j => e (j + 1)) (fun j => r (j + 1)) fin l
  | [] => rfl
  | j :: l => by
    simp only [List.map_cons, SeqAt.firstLt]
    rw [firstLt_map e r fin l]
/-- what < says at a place (any word where it isn't defined) -/
abbrev ltAt (xs ys : List D) (j : Nat) : Bool := ((xs.getD j .non).lt (ys.getD j .non)).getD false
abbrev eqAtD (xs ys : List D) (j : Nat) : Bool := decide (xs.getD j .non = ys.getD j .non)
theorem ltL_walk : ∀ (xs ys : List D) (b : Bool), D.ltL xs ys = some b → SeqAt.firstLt (eqAtD xs ys) (ltAt xs ys) (decide (xs.length < ys.length)) (List.range (min xs.length ys.length)) = b
  | [], [], b, h => by simp only [D.ltL, Option.some.injEq] at h; subst h; rfl
  | [], _ :: _, b, h => by simp only [D.ltL, Option.some.injEq] at h; subst h; simp [SeqAt.firstLt]
  | _ :: _, [], b, h => by simp only [D.ltL, Option.some.injEq] at h; subst h; simp [SeqAt.firstLt]
  | x :: xs, y :: ys, b, h => by
    have e1 : min (x :: xs).length (y :: ys).length = min xs.length ys.length + 1 := by simp only [List.length_cons]; omega
    rw [e1, List.range_succ_eq_map, SeqAt.firstLt]
    simp only [D.ltL] at h
    by_cases q : x = y
    · rw [if_pos q] at h
      rw [if_pos (by simp [eqAtD, q]), firstLt_map]
      have := ltL_walk xs ys b h
      have e2 : decide ((x :: xs).length < (y :: ys).length) = decide (xs.length < ys.length) := by simp
      rw [e2]
      exact this
    · rw [if_neg q] at h
      rw [if_neg (by simp [eqAtD, q])]
      simp [ltAt, h]
/-- where all before are equal, < is asked of data that have it -/
theorem ltL_at : ∀ (xs ys : List D) (b : Bool) (j : Nat), D.ltL xs ys = some b → j < xs.length → j < ys.length → (∀ k, k < j → eqAtD xs ys k = true) → eqAtD xs ys j = false → ((xs.getD j .non).lt (ys.getD j .non)) = some (ltAt xs ys j)
  | [], _, _, _, _, h, _, _, _ => by simp at h
  | _ :: _, [], _, _, _, _, h, _, _ => by simp at h
  | x :: xs, y :: ys, b, j, h, h1, h2, hb, hj => by
    simp only [D.ltL] at h
    cases j with
    | zero =>
      simp only [eqAtD, List.getD_cons_zero, decide_eq_false_iff_not] at hj
      rw [if_neg hj] at h
      simp [ltAt, h]
    | succ j =>
      have := hb 0 (Nat.succ_pos j)
      simp only [eqAtD, List.getD_cons_zero, decide_eq_true_eq] at this
      rw [if_pos this] at h
      exact ltL_at xs ys b j h (Nat.lt_of_succ_lt_succ h1) (Nat.lt_of_succ_lt_succ h2) (fun k hk => by simpa [eqAtD] using hb (k + 1) (Nat.succ_lt_succ hk)) (by simpa [eqAtD] using hj)
theorem beq_key {x y : D} (hx : x.sim = true) (hy : y.sim = true) : NestedKey.beq x.key y.key = decide (x = y) := by
  rw [← NestedKey.decide_eq]
  by_cases q : x = y
  · subst q; simp
  · have : ¬ x.key = y.key := fun e => q (key_inj x y hx hy e)
    simp [q, this]
theorem sims_get {ds : List D} (h : D.sims ds = true) (j : Nat) : (ds.getD j .non).sim = true := by
  induction ds generalizing j with
  | nil => rfl
  | cons d ds ih =>
    simp only [D.sims, Bool.and_eq_true] at h
    cases j with
    | zero => exact h.1
    | succ j => exact ih h.2 j
theorem keys_get : ∀ (ds : List D) (j : Nat), (D.keys ds).getD j .none = (ds.getD j .non).key
  | [], _ => by simp [D.keys, D.key]
  | d :: ds, 0 => by simp [D.keys]
  | d :: ds, j + 1 => by simpa [D.keys] using keys_get ds j
theorem keys_len : ∀ ds : List D, (D.keys ds).length = ds.length
  | [] => rfl
  | d :: ds => by simp [D.keys, keys_len ds]
theorem deps_get : ∀ (ds : List D) (j : Nat), (ds.getD j .non).dep ≤ D.deps ds
  | [], _ => by simp [D.dep]
  | d :: ds, 0 => by simp only [List.getD_cons_zero, D.deps]; omega
  | d :: ds, j + 1 => by
    have := deps_get ds j
    simp only [List.getD_cons_succ, D.deps]
    omega
theorem nested_get {h : Heap} : ∀ {ks : List NestedKey} {us : List Value} (j : Nat) (hj : j < us.length), NestedAll h ks us → NestedIs h (ks.getD j .none) us[j]
  | _, _, j, hj, .nil => absurd hj (by simp)
  | _, _, 0, _, .cons h1 _ => h1
  | _, _, j + 1, hj, .cons _ h2 => nested_get j (Nat.lt_of_succ_lt_succ hj) h2
mutual
/-- the value u is the datum, at this heap -/
def DIs (h : Heap) : D → Value → Prop
  | .non, u => u = .none
  | .int i, u => ∃ t, u = .int i t
  | .str x, u => ∃ t, u = .str x t
  | .tup ds, u => ∃ (a : Addr) (o : Obj) (us : Array Value) (n : Nat), u = .ref a ∧ h.get? a = some o ∧ o.cls = .type "tuple" ∧ o.data = .seq us n ∧ DAre h ds us.toList
  | _, _ => False
def DAre (h : Heap) : List D → List Value → Prop
  | [], us => us = []
  | d :: ds, us => ∃ u r, us = u :: r ∧ DIs h d u ∧ DAre h ds r
end
mutual
theorem DIs.nested {h : Heap} : ∀ {d : D} {u : Value}, DIs h d u → NestedIs h d.key u
  | .non, u, q => by simp only [DIs] at q; subst q; exact .none
  | .int i, u, q => by simp only [DIs] at q; obtain ⟨t, rfl⟩ := q; exact .int i t
  | .str x, u, q => by simp only [DIs] at q; obtain ⟨t, rfl⟩ := q; exact .text x t
  | .tup ds, u, q => by
    simp only [DIs] at q
    obtain ⟨a, o, us, n, rfl, h1, h2, h3, h4⟩ := q
    exact .tup h1 h2 h3 (DAre.nested h4)
  | .bl _, u, q => by simp only [DIs] at q
  | .loc _, u, q => by simp only [DIs] at q
  | .rol _, u, q => by simp only [DIs] at q
theorem DAre.nested {h : Heap} : ∀ {ds : List D} {us : List Value}, DAre h ds us → NestedAll h (D.keys ds) us
  | [], us, q => by simp only [DAre] at q; subst q; exact .nil
  | d :: ds, us, q => by
    simp only [DAre] at q
    obtain ⟨u, r, rfl, h1, h2⟩ := q
    exact .cons (DIs.nested h1) (DAre.nested h2)
end
mutual
theorem DIs.keep {h h' : Heap} (k : ∀ a o, h.get? a = some o → o.cls = .type "tuple" → h'.get? a = some o) : ∀ {d : D} {u : Value}, DIs h d u → DIs h' d u
  | .non, u, q => q
  | .int i, u, q => q
  | .str x, u, q => q
  | .tup ds, u, q => by
    simp only [DIs] at q ⊢
    obtain ⟨a, o, us, n, rfl, h1, h2, h3, h4⟩ := q
    exact ⟨a, o, us, n, rfl, k _ _ h1 h2, h2, h3, DAre.keep k h4⟩
  | .bl _, u, q => q
  | .loc _, u, q => q
  | .rol _, u, q => q
theorem DAre.keep {h h' : Heap} (k : ∀ a o, h.get? a = some o → o.cls = .type "tuple" → h'.get? a = some o) : ∀ {ds : List D} {us : List Value}, DAre h ds us → DAre h' ds us
  | [], us, q => q
  | d :: ds, us, q => by
    simp only [DAre] at q ⊢
    obtain ⟨u, r, rfl, h1, h2⟩ := q
    exact ⟨u, r, rfl, DIs.keep k h1, DAre.keep k h2⟩
end
theorem DAre.len {h : Heap} : ∀ {ds : List D} {us : List Value}, DAre h ds us → us.length = ds.length
  | [], us, q => by simp only [DAre] at q; subst q; rfl
  | d :: ds, us, q => by
    simp only [DAre] at q
    obtain ⟨u, r, rfl, h1, h2⟩ := q
    simp [DAre.len h2]
theorem DAre.get {h : Heap} : ∀ {ds : List D} {us : List Value} (j : Nat) (hj : j < us.length), DAre h ds us → DIs h (ds.getD j .non) us[j]
  | [], us, j, hj, q => by simp only [DAre] at q; subst q; simp at hj
  | d :: ds, us, j, hj, q => by
    simp only [DAre] at q
    obtain ⟨u, r, rfl, h1, h2⟩ := q
    cases j with
    | zero => exact h1
    | succ j => exact DAre.get j (Nat.lt_of_succ_lt_succ hj) h2
theorem DIs.sim {h : Heap} {d : D} {u : Value} (q : DIs h d u) : d.sim = true := by
  match d, q with
  | .non, _ => rfl
  | .int _, _ => rfl
  | .str _, _ => rfl
  | .tup ds, q =>
    simp only [DIs] at q
    obtain ⟨a, o, us, n, rfl, h1, h2, h3, h4⟩ := q
    simp only [D.sim]
    exact go ds us.toList h4
  | .bl _, q => simp only [DIs] at q
  | .loc _, q => simp only [DIs] at q
  | .rol _, q => simp only [DIs] at q
where go : ∀ (ds : List D) (us : List Value), DAre h ds us → D.sims ds = true
  | [], _, _ => rfl
  | d :: ds, us, q => by
    simp only [DAre] at q
    obtain ⟨u, r, rfl, h1, h2⟩ := q
    simp only [D.sims, Bool.and_eq_true]
    exact ⟨DIs.sim h1, go ds r h2⟩
/-- THE <: of data that have it -/
theorem rc_lt : ∀ (n : Nat) (x y : D) (b : Bool) (A : Around) (s : Shared) (u v : Value), x.dep ≤ n → x.lt y = some b → x.sim = true → y.sim = true → DIs s.heap x u → DIs s.heap y v → A.units + n < cLine → SeqAt.RcLt A s u v b
  | n, x, y, b, A, s, u, v, hn, h, sx, sy, rx, ry, hu => by
    cases x with
    | int i =>
      cases y with
      | int j =>
        simp only [D.lt, Option.some.injEq] at h
        subst h
        simp only [DIs] at rx ry
        obtain ⟨t, rfl⟩ := rx
        obtain ⟨t', rfl⟩ := ry
        exact fun prog w E Q hq => P.lt_int hq
      | _ => simp [D.lt] at h
    | str i =>
      cases y with
      | str j =>
        simp only [D.lt, Option.some.injEq] at h
        subst h
        simp only [DIs] at rx ry
        obtain ⟨t, rfl⟩ := rx
        obtain ⟨t', rfl⟩ := ry
        exact fun prog w E Q hq => P.lt_str hq
      | _ => simp [D.lt] at h
    | tup xs =>
      cases y with
      | tup ys =>
        simp only [D.lt] at h
        simp only [D.sim] at sx sy
        simp only [DIs] at rx ry
        obtain ⟨l, o, us, m, rfl, h1, h2, h3, h4⟩ := rx
        obtain ⟨l', o', vs, m', rfl, k1, k2, k3, k4⟩ := ry
        have n1 : us.size = xs.length := by have := DAre.len h4; simpa using this
        have n2 : vs.size = ys.length := by have := DAre.len k4; simpa using this
        rw [← ltL_walk xs ys b h, ← n1, ← n2]
        cases n with
        | zero => simp [D.dep] at hn
        | succ n =>
          simp only [D.dep] at hn
          refine SeqAt.RcLt.kd_tups ⟨o, h1, h2, m, h3⟩ ⟨o', k1, k2, m', k3⟩ (by omega) (fun j j1 j2 => ?_) fun j j1 j2 hb hj => ?_
          · have q1 := DAre.get j (by simpa using j1) h4
            have q2 := DAre.get j (by simpa using j2) k4
            have := eqAt_key _ _ A.in1 s _ _ q1.nested q2.nested (by
              have d1 := key_depth (xs.getD j .non)
              have d2 := deps_get xs j
              have d3 : A.in1.units = A.units + 1 := rfl
              omega)
            rw [beq_key (sims_get sx j) (sims_get sy j)] at this
            exact this
          · have q1 := DAre.get j (by simpa using j1) h4
            have q2 := DAre.get j (by simpa using j2) k4
            have hl := ltL_at xs ys b j h (by omega) (by omega) hb hj
            have d2 := deps_get xs j
            exact rc_lt n _ _ _ A.in1 s _ _ (by omega) hl (sims_get sx j) (sims_get sy j) q1 q2 (by have d3 : A.in1.units = A.units + 1 := rfl; omega)
      | _ => simp [D.lt] at h
    | _ => cases y <;> simp [D.lt] at h
section
variable {X : Cx} {pins : List (Addr × Obj)} {σ : L2.St} {H : Hp} {s : Shared} {m : List Addr}
mutual
theorem rel_is (I : Inv X pins σ H s) : ∀ (d : D) (v : V) (u : Value), d.sim = true → RelD X.K m H d v → RelV v u → DIs s.heap d u
  | .non, v, u, _, r, ru => by cases (show v = .non from r); exact ru
  | .int i, v, u, _, r, ru => by cases (show v = .int i from r); obtain ⟨t, rfl⟩ := ru; exact ⟨t, rfl⟩
  | .str x, v, u, _, r, ru => by cases (show v = .str x from r); obtain ⟨t, rfl⟩ := ru; exact ⟨t, rfl⟩
  | .tup ds, v, u, hs, r, ru => by
    simp only [RelD] at r
    obtain ⟨a, vs, rfl, h1, h2⟩ := r
    cases ru
    obtain ⟨us, rv, ⟨o, e, c, n, d⟩, _⟩ := I.tuple h1.sq
    simp only [DIs]
    exact ⟨a, o, us.toArray, n, rfl, e, c, d, by simpa using rels_are I ds vs us (by simpa only [D.sim] using hs) h2 rv⟩
  | .bl _, v, u, hs, _, _ => by simp [D.sim] at hs
  | .loc _, v, u, hs, _, _ => by simp [D.sim] at hs
  | .rol _, v, u, hs, _, _ => by simp [D.sim] at hs
theorem rels_are (I : Inv X pins σ H s) : ∀ (ds : List D) (vs : List V) (us : List Value), D.sims ds = true → RelDs X.K m H ds vs → Vals vs us → DAre s.heap ds us
  | [], vs, us, _, r, rv => by simp only [RelDs] at r; subst r; cases rv; simp only [DAre]
  | d :: ds, vs, us, hs, r, rv => by
    simp only [RelDs] at r
    obtain ⟨v, vr, rfl, h1, h2⟩ := r
    simp only [D.sims, Bool.and_eq_true] at hs
    cases rv with
    | cons r1 r2 =>
      simp only [DAre]
      exact ⟨_, _, rfl, rel_is I d v _ hs.1 h1 r1, rels_are I ds vr _ hs.2 h2 r2⟩
end
end
end Kd
/-! sorted: of numbers, texts, nested tuples; of lists and dicts. -/
namespace Kd
open PySem PySem.Spec PyProof.Rows L2
/-! ### < is a linear order, where it is defined -/
theorem str_eq {x y : Str} (h1 : ¬ x.cps.toList < y.cps.toList) (h2 : ¬ y.cps.toList < x.cps.toList) : x = y := by
  have : x.cps.toList = y.cps.toList := List.le_antisymm h2 h1
  cases x; cases y
  congr
  exact Array.toList_inj.mp this
mutual
theorem lt_tot : ∀ (x y : D), x.lt y = some false → y.lt x = some false → x = y
  | .int i, .int j, h1, h2 => by simp only [D.lt, Option.some.injEq, decide_eq_false_iff_not] at h1 h2; congr 1; omega
  | .str i, .str j, h1, h2 => by simp only [D.lt, Option.some.injEq, decide_eq_false_iff_not] at h1 h2; rw [str_eq h1 h2]
  | .tup xs, .tup ys, h1, h2 => by simp only [D.lt] at h1 h2; rw [ltL_tot xs ys h1 h2]
  | .int _, .str _, h1, _ => by simp [D.lt] at h1
  | .int _, .tup _, h1, _ => by simp [D.lt] at h1
  | .str _, .int _, h1, _ => by simp [D.lt] at h1
  | .str _, .tup _, h1, _ => by simp [D.lt] at h1
  | .tup _, .int _, h1, _ => by simp [D.lt] at h1
  | .tup _, .str _, h1, _ => by simp [D.lt] at h1
  | .non, y, h1, _ => by simp [D.lt] at h1
  | .bl _, y, h1, _ => by simp [D.lt] at h1
  | .loc _, y, h1, _ => by simp [D.lt] at h1
  | .rol _, y, h1, _ => by simp [D.lt] at h1
  | x, .non, h1, _ => by cases x <;> simp [D.lt] at h1
  | x, .bl _, h1, _ => by cases x <;> simp [D.lt] at h1
  | x, .loc _, h1, _ => by cases x <;> simp [D.lt] at h1
  | x, .rol _, h1, _ => by cases x <;> simp [D.lt] at h1
theorem ltL_tot : ∀ (xs ys : List D), D.ltL xs ys = some false → D.ltL ys xs = some false → xs = ys
  | [], [], _, _ => rfl
  | [], _ :: _, h1, _ => by simp [D.ltL] at h1
  | _ :: _, [], _, h2 => by simp [D.ltL] at h2
  | x :: xs, y :: ys, h1, h2 => by
    simp only [D.ltL] at h1 h2
    by_cases e : x = y
    · subst e
      simp only [if_true] at h1 h2
      rw [ltL_tot xs ys h1 h2]
    · rw [if_neg e] at h1
      rw [if_neg (fun z => e z.symm)] at h2
      exact absurd (lt_tot x y h1 h2) e
end
mutual
theorem lt_asy : ∀ (x y : D) (c : Bool), x.lt y = some true → y.lt x = some c → c = false
  | .int i, .int j, c, h1, h2 => by simp only [D.lt, Option.some.injEq, decide_eq_true_eq] at h1 h2; rw [← h2]; simp; omega
  | .str i, .str j, c, h1, h2 => by simp only [D.lt, Option.some.injEq, decide_eq_true_eq] at h1 h2; rw [← h2]; simp only [decide_eq_false_iff_not]; exact List.lt_asymm h1
  | .tup xs, .tup ys, c, h1, h2 => by simp only [D.lt] at h1 h2; exact ltL_asy xs ys c h1 h2
  | .int _, .str _, _, h1, _ => by simp [D.lt] at h1
  | .int _, .tup _, _, h1, _ => by simp [D.lt] at h1
  | .str _, .int _, _, h1, _ => by simp [D.lt] at h1
  | .str _, .tup _, _, h1, _ => by simp [D.lt] at h1
  | .tup _, .int _, _, h1, _ => by simp [D.lt] at h1
  | .tup _, .str _, _, h1, _ => by simp [D.lt] at h1
  | .non, y, _, h1, _ => by simp [D.lt] at h1
  | .bl _, y, _, h1, _ => by simp [D.lt] at h1
  | .loc _, y, _, h1, _ => by simp [D.lt] at h1
  | .rol _, y, _, h1, _ => by simp [D.lt] at h1
  | x, .non, _, h1, _ => by cases x <;> simp [D.lt] at h1
  | x, .bl _, _, h1, _ => by cases x <;> simp [D.lt] at h1
  | x, .loc _, _, h1, _ => by cases x <;> simp [D.lt] at h1
  | x, .rol _, _, h1, _ => by cases x <;> simp [D.lt] at h1
theorem ltL_asy : ∀ (xs ys : List D) (c : Bool), D.ltL xs ys = some true → D.ltL ys xs = some c → c = false
  | [], [], _, h1, _ => by simp [D.ltL] at h1
  | [], _ :: _, c, _, h2 => by simpa [D.ltL] using h2.symm
  | _ :: _, [], _, h1, _ => by simp [D.ltL] at h1
  | x :: xs, y :: ys, c, h1, h2 => by
    simp only [D.ltL] at h1 h2
    by_cases e : x = y
    · subst e
      simp only [if_true] at h1 h2
      exact ltL_asy xs ys c h1 h2
    · rw [if_neg e] at h1
      rw [if_neg (fun z => e z.symm)] at h2
      exact lt_asy x y c h1 h2
end
mutual
theorem lt_neg : ∀ (x y z : D) (c : Bool), y.lt x = some false → z.lt y = some false → z.lt x = some c → c = false
  | .int i, .int j, .int k, c, h1, h2, h3 => by simp only [D.lt, Option.some.injEq, decide_eq_false_iff_not] at h1 h2 h3; rw [← h3]; simp; omega
  | .str i, .str j, .str k, c, h1, h2, h3 => by
    simp only [D.lt, Option.some.injEq, decide_eq_false_iff_not] at h1 h2 h3
    rw [← h3]
    simp only [decide_eq_false_iff_not]
    exact List.le_trans (show i.cps.toList ≤ j.cps.toList from h1) (show j.cps.toList ≤ k.cps.toList from h2)
  | .tup xs, .tup ys, .tup zs, c, h1, h2, h3 => by simp only [D.lt] at h1 h2 h3; exact ltL_neg xs ys zs c h1 h2 h3
  | x, y, .non, _, _, h2, _ => by simp [D.lt] at h2
  | x, y, .bl _, _, _, h2, _ => by simp [D.lt] at h2
  | x, y, .loc _, _, _, h2, _ => by simp [D.lt] at h2
  | x, y, .rol _, _, _, h2, _ => by simp [D.lt] at h2
  | x, .non, z, _, h1, _, _ => by simp [D.lt] at h1
  | x, .bl _, z, _, h1, _, _ => by simp [D.lt] at h1
  | x, .loc _, z, _, h1, _, _ => by simp [D.lt] at h1
  | x, .rol _, z, _, h1, _, _ => by simp [D.lt] at h1
  | .non, y, z, _, h1, _, _ => by cases y <;> simp [D.lt] at h1
  | .bl _, y, z, _, h1, _, _ => by cases y <;> simp [D.lt] at h1
  | .loc _, y, z, _, h1, _, _ => by cases y <;> simp [D.lt] at h1
  | .rol _, y, z, _, h1, _, _ => by cases y <;> simp [D.lt] at h1
  | .int _, .int _, .str _, _, _, h2, _ => by simp [D.lt] at h2
  | .int _, .int _, .tup _, _, _, h2, _ => by simp [D.lt] at h2
  | .str _, .str _, .int _, _, _, h2, _ => by simp [D.lt] at h2
  | .str _, .str _, .tup _, _, _, h2, _ => by simp [D.lt] at h2
  | .tup _, .tup _, .int _, _, _, h2, _ => by simp [D.lt] at h2
  | .tup _, .tup _, .str _, _, _, h2, _ => by simp [D.lt] at h2
  | .int _, .str _, _, _, h1, _, _ => by simp [D.lt] at h1
  | .int _, .tup _, _, _, h1, _, _ => by simp [D.lt] at h1
  | .str _, .int _, _, _, h1, _, _ => by simp [D.lt] at h1
  | .str _, .tup _, _, _, h1, _, _ => by simp [D.lt] at h1
  | .tup _, .int _, _, _, h1, _, _ => by simp [D.lt] at h1
  | .tup _, .str _, _, _, h1, _, _ => by simp [D.lt] at h1
theorem ltL_neg : ∀ (xs ys zs : List D) (c : Bool), D.ltL ys xs = some false → D.ltL zs ys = some false → D.ltL zs xs = some c → c = false
  | [], [], [], c, _, _, h3 => by simpa [D.ltL] using h3.symm
  | [], _, _ :: _, c, _, _, h3 => by simpa [D.ltL] using h3.symm
  | _ :: _, [], _, _, h1, _, _ => by simp [D.ltL] at h1
  | _, _ :: _, [], _, _, h2, _ => by simp [D.ltL] at h2
  | x :: xs, y :: ys, z :: zs, c, h1, h2, h3 => by
    simp only [D.ltL] at h1 h2 h3
    by_cases e1 : y = x
    · subst e1
      rw [if_pos rfl] at h1
      by_cases e2 : z = y
      · subst e2
        rw [if_pos rfl] at h2 h3
        exact ltL_neg xs ys zs c h1 h2 h3
      · rw [if_neg e2] at h2 h3
        rw [h2] at h3
        simpa using h3.symm
    · rw [if_neg e1] at h1
      by_cases e2 : z = y
      · subst e2
        rw [if_neg e1] at h3
        rw [h1] at h3
        simpa using h3.symm
      · rw [if_neg e2] at h2
        by_cases e3 : z = x
        · subst e3
          exact absurd (lt_tot y z h1 h2) (fun z => e1 z)
        · rw [if_neg e3] at h3
          exact lt_neg x y z c h1 h2 h3
end
/-! ### sorting data -/
/-- any two of them compare -/
def CmpD (ds : List D) : Prop := ∀ a ∈ ds, ∀ b ∈ ds, (a.lt b).isSome = true
abbrev ltB (a b : D) : Bool := (a.lt b).getD false
theorem ltB_some {a b : D} (h : (a.lt b).isSome = true) : a.lt b = some (ltB a b) := by
  cases e : a.lt b with
  | none => rw [e] at h; cases h
  | some c => simp [ltB, e]
theorem insD_perm (x : D) : ∀ ds : List D, (insD x ds).Perm (x :: ds)
  | [] => .refl _
  | y :: ys => by
    simp only [insD]
    split
    · exact ((insD_perm x ys).cons y).trans (.swap x y ys)
    · exact .refl _
theorem sortD_perm : ∀ ds : List D, (sortD ds).Perm ds
  | [] => .refl _
  | d :: ds => (insD_perm d (sortD ds)).trans ((sortD_perm ds).cons d)
abbrev SrtD (ds : List D) : Prop := ds.Pairwise fun a b => ltB b a = false
theorem insD_srt {x : D} : ∀ {ds : List D}, CmpD (x :: ds) → SrtD ds → SrtD (insD x ds)
  | [], _, _ => List.pairwise_singleton _ _
  | y :: ys, hc, hs => by
    obtain ⟨h1, h2⟩ := List.pairwise_cons.mp hs
    simp only [insD]
    split
    · rename_i hl
      refine List.pairwise_cons.mpr ⟨fun z hz => ?_, insD_srt (fun a ha b hb => hc a (by rcases List.mem_cons.mp ha with e | e; simp [e]; simp [e]) b (by rcases List.mem_cons.mp hb with e | e; simp [e]; simp [e])) h2⟩
      rcases List.mem_cons.mp ((insD_perm x ys).mem_iff.mp hz) with rfl | hz
      · exact lt_asy y z _ (by rw [ltB_some (hc y (by simp) z (by simp))]; exact congrArg some hl) (ltB_some (hc z (by simp) y (by simp)))
      · exact h1 z hz
    · rename_i hl
      rw [Bool.not_eq_true] at hl
      refine List.pairwise_cons.mpr ⟨fun z hz => ?_, hs⟩
      rcases List.mem_cons.mp hz with rfl | hz
      · exact hl
      · exact lt_neg x y z _ (by rw [ltB_some (hc y (by simp) x (by simp))]; exact congrArg some hl) (by rw [ltB_some (hc z (by simp [hz]) y (by simp))]; exact congrArg some (h1 z hz)) (ltB_some (hc z (by simp [hz]) x (by simp)))
theorem CmpD.perm {ds es : List D} (h : CmpD ds) (p : es.Perm ds) : CmpD es := fun a ha b hb => h a (p.mem_iff.mp ha) b (p.mem_iff.mp hb)
theorem CmpD.tail {d : D} {ds : List D} (h : CmpD (d :: ds)) : CmpD ds := fun a ha b hb => h a (List.mem_cons_of_mem _ ha) b (List.mem_cons_of_mem _ hb)
theorem sortD_srt : ∀ {ds : List D}, CmpD ds → SrtD (sortD ds)
  | [], _ => .nil
  | d :: ds, h => insD_srt (h.perm ((sortD_perm ds).cons d)) (sortD_srt h.tail)
/-- a sorted row is told by its members -/
theorem srt_uniq : ∀ {as bs : List D}, CmpD as → SrtD as → SrtD bs → as.Perm bs → as = bs
  | [], bs, _, _, _, p => (List.Perm.nil_eq p)
  | a :: as, [], _, _, _, p => absurd p.length_eq (by simp)
  | a :: as, b :: bs, hc, h1, h2, p => by
    obtain ⟨a1, a2⟩ := List.pairwise_cons.mp h1
    obtain ⟨b1, b2⟩ := List.pairwise_cons.mp h2
    have e : a = b := by
      by_cases q : a = b
      · exact q
      · have m1 : b ∈ as := by
          have := p.mem_iff.mpr (List.mem_cons_self (a := b) (l := bs))
          rcases List.mem_cons.mp this with z | z
          · exact absurd z.symm q
          · exact z
        have m2 : a ∈ bs := by
          have := p.mem_iff.mp (List.mem_cons_self (a := a) (l := as))
          rcases List.mem_cons.mp this with z | z
          · exact absurd z q
          · exact z
        have l1 := ltB_some (hc b (List.mem_cons_of_mem _ m1) a (by simp))
        have l2 := ltB_some (hc a (by simp) b (List.mem_cons_of_mem _ m1))
        rw [a1 b m1] at l1
        rw [b1 a m2] at l2
        exact lt_tot a b l2 l1
    subst e
    rw [srt_uniq hc.tail a2 b2 (List.Perm.cons_inv p)]
end Kd
/-! sorted(..) of lists and dicts. -/
namespace Kd
open PySem PySem.Spec PyProof.Rows L2
mutual
theorem DIs.inj {h : Heap} {d e : D} {u : Value} (a : DIs h d u) (b : DIs h e u) : d = e := key_inj d e a.sim b.sim (NestedIs.inj _ _ _ a.nested b.nested)
end
open Classical in
/-- the datum that a value of the row is -/
noncomputable def decD (h : Heap) (ds : List D) (u : Value) : D := if q : ∃ d ∈ ds, DIs h d u then choose q else ds.headD .non
section
variable {h : Heap} {ds : List D}
theorem dec_is {u : Value} (q : ∃ d ∈ ds, DIs h d u) : decD h ds u ∈ ds ∧ DIs h (decD h ds u) u := by
  unfold decD
  rw [dif_pos q]
  exact Classical.choose_spec q
theorem dec_mem (hne : ds ≠ []) (u : Value) : decD h ds u ∈ ds := by
  by_cases q : ∃ d ∈ ds, DIs h d u
  · exact (dec_is q).1
  · unfold decD
    rw [dif_neg q]
    cases ds with
    | nil => exact absurd rfl hne
    | cons d ds => simp
theorem are_mem : ∀ {ds : List D} {us : List Value}, DAre h ds us → ∀ u ∈ us, ∃ d ∈ ds, DIs h d u
  | [], us, q, u, hu => by simp only [DAre] at q; subst q; simp at hu
  | d :: ds, us, q, u, hu => by
    simp only [DAre] at q
    obtain ⟨w, r, rfl, h1, h2⟩ := q
    rcases List.mem_cons.mp hu with rfl | hu
    · exact ⟨d, by simp, h1⟩
    · obtain ⟨e, he, q⟩ := are_mem h2 u hu
      exact ⟨e, List.mem_cons_of_mem _ he, q⟩
theorem dec_map : ∀ {es : List D} {us : List Value}, DAre h es us → (∀ d ∈ es, d ∈ ds) → us.map (decD h ds) = es
  | [], us, q, _ => by simp only [DAre] at q; subst q; rfl
  | d :: es, us, q, hs => by
    simp only [DAre] at q
    obtain ⟨w, r, rfl, h1, h2⟩ := q
    rw [List.map_cons, dec_map h2 fun e he => hs e (List.mem_cons_of_mem _ he)]
    congr 1
    exact ((dec_is (ds := ds) ⟨d, hs d (by simp), h1⟩).2).inj h1
/-- the order of the row's values -/
noncomputable abbrev ltV (h : Heap) (ds : List D) (u v : Value) : Bool := ltB (decD h ds u) (decD h ds v)
theorem swo_D (hne : ds ≠ []) (hc : CmpD ds) : SrtO.Swo (ltV h ds) where
  asym := fun u v e => lt_asy _ _ _ (by rw [ltB_some (hc _ (dec_mem hne u) _ (dec_mem hne v))]; exact congrArg some e) (ltB_some (hc _ (dec_mem hne v) _ (dec_mem hne u)))
  tr := fun u v w e1 e2 => lt_neg _ _ _ _ (by rw [ltB_some (hc _ (dec_mem hne v) _ (dec_mem hne u))]; exact congrArg some e1) (by rw [ltB_some (hc _ (dec_mem hne w) _ (dec_mem hne v))]; exact congrArg some e2) (ltB_some (hc _ (dec_mem hne w) _ (dec_mem hne u)))
end
theorem ints_of {h : Heap} : ∀ {ds : List D} {us : List Value}, ds.all isIntD = true → DAre h ds us → ∃ ns, IntsAre us ns
  | [], us, _, q => by simp only [DAre] at q; subst q; exact ⟨[], .nil⟩
  | d :: ds, us, hi, q => by
    simp only [DAre] at q
    obtain ⟨w, r, rfl, h1, h2⟩ := q
    simp only [List.all_cons, Bool.and_eq_true] at hi
    obtain ⟨ns, q⟩ := ints_of hi.2 h2
    cases d with
    | int i => obtain ⟨t, rfl⟩ := h1; exact ⟨i :: ns, .cons i t q⟩
    | _ => simp [isIntD] at hi
theorem strs_of {h : Heap} : ∀ {ds : List D} {us : List Value}, ds.all isStrD = true → DAre h ds us → ∃ ns, StrsAre us ns
  | [], us, _, q => by simp only [DAre] at q; subst q; exact ⟨[], .nil⟩
  | d :: ds, us, hi, q => by
    simp only [DAre] at q
    obtain ⟨w, r, rfl, h1, h2⟩ := q
    simp only [List.all_cons, Bool.and_eq_true] at hi
    obtain ⟨ns, q⟩ := strs_of hi.2 h2
    cases d with
    | str i => obtain ⟨t, rfl⟩ := h1; exact ⟨i :: ns, .cons i t q⟩
    | _ => simp [isStrD] at hi
/-- the heads of a row of tuples, all of one type -/
theorem tups_of {h : Heap} {p : D → Bool} {Ty : String} (hp : ∀ d u, p d = true → DIs h d u → ∀ (M : Model), PySem.W.Looks M h (typeOf u) (.type Ty)) : ∀ {ds : List D} {us : List Value}, ds.all (headD p) = true → DAre h ds us →
    ∃ fs, PySem.W.KatTups h us fs ∧ fs.length = us.length ∧ ∀ v ∈ fs, ∀ (M : Model), PySem.W.Looks M h (typeOf v) (.type Ty)
  | [], us, _, q => by simp only [DAre] at q; subst q; exact ⟨[], .nil, rfl, by simp⟩
  | d :: ds, us, hi, q => by
    simp only [DAre] at q
    obtain ⟨w, r, rfl, h1, h2⟩ := q
    simp only [List.all_cons, Bool.and_eq_true] at hi
    obtain ⟨fs, q1, q2, q3⟩ := tups_of hp hi.2 h2
    cases d with
    | tup xs =>
      cases xs with
      | nil => simp [headD] at hi
      | cons x xs =>
        simp only [DIs] at h1
        obtain ⟨a, o, us, n, rfl, k1, k2, k3, k4⟩ := h1
        simp only [DAre] at k4
        obtain ⟨f, r2, e, f1, f2⟩ := k4
        have hf : us[0]? = some f := by rw [← Array.getElem?_toList, e]; rfl
        refine ⟨f :: fs, .cons k1 k2 k3 hf q1, by simp [q2], fun v hv => ?_⟩
        rcases List.mem_cons.mp hv with rfl | hv
        · exact hp x v (by simpa [headD] using hi.1) f1
        · exact q3 v hv
    | _ => simp [headD] at hi
section
variable {prog : Program} {w : World} {A : Around} {s : Shared}
theorem cmp_tups {ds : List D} {us : List Value} {h0 : Heap} {b : Bool} (hu : A.units + 62 < cLine) (hd : D.deps ds ≤ 60) (hc : CmpD ds) (ht : ds.all isTupD = true) (hb : b = true → ds.all (headD isStrD) = true ∨ ds.all (headD isIntD) = true)
    (q0 : DAre h0 ds us) (q : DAre s.heap ds us) (hk : ∀ u d, DIs h0 d u → DIs s.heap d u) : SrtO.Cmp prog w A s (tuples' b) (fun p => p.1 ∈ us) (SrtO.lt2 (ltV h0 ds)) := by
  intro p r hp hr
  obtain ⟨m1, i1⟩ := dec_is (are_mem q0 p.1 hp)
  obtain ⟨m2, i2⟩ := dec_is (are_mem q0 r.1 hr)
  show wpAny (model prog w) A (keyLt' (tuples' b) p.1 r.1) (fun c s' => s' = s ∧ c = ltB (decD h0 ds p.1) (decD h0 ds r.1)) (fun _ _ => False) s
  have j1 := hk _ _ i1
  have j2 := hk _ _ i2
  have hcm := ltB_some (hc _ m1 _ m2)
  have depm : ∀ d ∈ ds, d.dep ≤ 60 := by
    intro d hm
    have : ∀ (es : List D), d ∈ es → d.dep ≤ D.deps es := by
      intro es
      induction es with
      | nil => intro z; simp at z
      | cons e es ih =>
        intro z
        simp only [D.deps]
        rcases List.mem_cons.mp z with rfl | z
        · omega
        · have := ih z; omega
    exact Nat.le_trans (this ds hm) hd
  have d1 := depm _ m1
  have t1 := List.all_eq_true.mp ht _ m1
  have t2 := List.all_eq_true.mp ht _ m2
  have hh1 : b = true → headD isStrD (decD h0 ds p.1) = true ∧ headD isStrD (decD h0 ds r.1) = true ∨ headD isIntD (decD h0 ds p.1) = true ∧ headD isIntD (decD h0 ds r.1) = true := fun e => (hb e).imp (fun z => ⟨List.all_eq_true.mp z _ m1, List.all_eq_true.mp z _ m2⟩) fun z => ⟨List.all_eq_true.mp z _ m1, List.all_eq_true.mp z _ m2⟩
  clear hp hr i1 i2 m1 m2
  generalize decD h0 ds p.1 = x at *
  generalize decD h0 ds r.1 = y at *
  cases x with
  | tup xs =>
    cases y with
    | tup ys =>
      simp only [DIs] at j1 j2
      obtain ⟨l, o, ua, n, e1, h1, h2, h3, h4⟩ := j1
      obtain ⟨l', o', va, n', e2, k1, k2, k3, k4⟩ := j2
      rw [e1, e2]
      simp only [D.lt] at hcm
      refine PySem.W.kat_lt h1 h3 k1 k3 ?_
      have ls : ∀ (xs ys : List D) (u v : List Value) (i : Nat) (c : Bool), DAre s.heap xs u → DAre s.heap ys v → D.deps xs ≤ 59 → D.ltL xs ys = some c → (i = 0 → b = true → (∃ x xr y yr, xs = x :: xr ∧ ys = y :: yr ∧ (isStrD x = true ∧ isStrD y = true ∨ isIntD x = true ∧ isIntD y = true))) →
          PySem.W.KatLex prog w A b (decide (u.length < v.length) || decide (u.length = v.length ∧ False)) (fun c' s' => s' = s ∧ c' = c) (u.zip v) i s := by
        intro xs
        induction xs with
        | nil =>
          intro ys u v i c a1 a2 _ hl _
          simp only [DAre] at a1
          subst a1
          refine PySem.W.kat_nil ⟨rfl, ?_⟩
          cases ys with
          | nil =>
            simp only [DAre] at a2
            subst a2
            simpa [D.ltL] using hl
          | cons y ys =>
            simp only [DAre] at a2
            obtain ⟨w1, r1, rfl, _, _⟩ := a2
            simpa [D.ltL] using hl
        | cons x xs ih =>
          intro ys u v i c a1 a2 hdp hl hi
          have a1' := a1
          simp only [DAre] at a1
          obtain ⟨u1, ur, rfl, b1, b2⟩ := a1
          cases ys with
          | nil =>
            simp only [DAre] at a2
            subst a2
            refine PySem.W.kat_nil ⟨rfl, ?_⟩
            simpa [D.ltL] using hl
          | cons y ys =>
            simp only [DAre] at a2
            obtain ⟨v1, vr, rfl, c1, c2⟩ := a2
            simp only [D.deps] at hdp
            have kd1 := key_depth x
            have eq := eqAt_key x.key y.key A s u1 v1 b1.nested c1.nested (by omega)
            rw [beq_key b1.sim c1.sim] at eq
            simp only [List.zip_cons_cons]
            refine PySem.W.kat_cons (eq prog w _ _ ?_)
            by_cases e : x = y
            · rw [decide_eq_true e]
              refine PySem.W.kat_yes ?_
              have := ih ys ur vr (i + 1) c b2 c2 (by omega) (by simpa [D.ltL, e] using hl) (fun z => absurd z (by omega))
              have e5 : (decide ((u1 :: ur).length < (v1 :: vr).length) || decide ((u1 :: ur).length = (v1 :: vr).length ∧ False)) = (decide (ur.length < vr.length) || decide (ur.length = vr.length ∧ False)) := by simp
              rw [e5]
              exact this
            · rw [decide_eq_false e]
              refine PySem.W.kat_no ?_
              simp only [D.ltL, if_neg e] at hl
              by_cases hb0 : (b && i == 0) = true
              · simp only [Bool.and_eq_true, beq_iff_eq] at hb0
                obtain ⟨x', xr, y', yr, e1, e2, hh⟩ := hi hb0.2 hb0.1
                cases e1; cases e2
                rw [hb0.1, hb0.2]
                rcases hh with ⟨z1, z2⟩ | ⟨z1, z2⟩
                · cases x <;> simp [isStrD] at z1
                  cases y <;> simp [isStrD] at z2
                  simp only [DIs] at b1 c1
                  obtain ⟨t, rfl⟩ := b1
                  obtain ⟨t', rfl⟩ := c1
                  refine oneLt_str ⟨rfl, ?_⟩
                  simpa [D.lt] using hl
                · cases x <;> simp [isIntD] at z1
                  cases y <;> simp [isIntD] at z2
                  simp only [DIs] at b1 c1
                  obtain ⟨t, rfl⟩ := b1
                  obtain ⟨t', rfl⟩ := c1
                  refine oneLt_int ⟨rfl, ?_⟩
                  simpa [D.lt] using hl
              · rw [Bool.not_eq_true] at hb0
                rw [hb0]
                refine PySem.W.kat_one _ _ ?_
                exact rc_lt x.dep x y c A s u1 v1 (Nat.le_refl _) hl b1.sim c1.sim b1 c1 (by omega) prog w _ _ ⟨rfl, rfl⟩
      have := ls xs ys ua.toList va.toList 0 _ h4 k4 (by simp only [D.dep] at d1; omega) hcm (fun _ hbt => by
        rcases hh1 hbt with ⟨z1, z2⟩ | ⟨z1, z2⟩
        · cases xs with
          | nil => simp [headD] at z1
          | cons x xr => cases ys with
            | nil => simp [headD] at z2
            | cons y yr => exact ⟨x, xr, y, yr, rfl, rfl, .inl ⟨by simpa [headD] using z1, by simpa [headD] using z2⟩⟩
        · cases xs with
          | nil => simp [headD] at z1
          | cons x xr => cases ys with
            | nil => simp [headD] at z2
            | cons y yr => exact ⟨x, xr, y, yr, rfl, rfl, .inr ⟨by simpa [headD] using z1, by simpa [headD] using z2⟩⟩)
      simpa using this
    | _ => simp [isTupD] at t2
  | _ => simp [isTupD] at t1
theorem ok_parts {ds : List D} (h : sortOk ds = true) : CmpD ds ∧ D.sims ds = true ∧ D.deps ds ≤ 60 ∧ (ds.all isStrD = true ∨ ds.all isIntD = true ∨ ds.all (headD isStrD) = true ∨ ds.all (headD isIntD) = true ∨ ds.all (headD isTupD) = true) := by
  simp only [sortOk, Bool.and_eq_true, Bool.or_eq_true, decide_eq_true_eq] at h
  obtain ⟨⟨⟨h1, h2⟩, h3⟩, h4⟩ := h
  refine ⟨fun a ha b hb => ?_, h2, h3, ?_⟩
  · exact List.all_eq_true.mp (List.all_eq_true.mp h4 a ha) b hb
  · rcases h1 with (((h1 | h1) | h1) | h1) | h1
    · exact .inl h1
    · exact .inr (.inl h1)
    · exact .inr (.inr (.inl h1))
    · exact .inr (.inr (.inr (.inl h1)))
    · exact .inr (.inr (.inr (.inr h1)))
theorem head_tup {p : D → Bool} {ds : List D} (h : ds.all (headD p) = true) : ds.all isTupD = true := by
  rw [List.all_eq_true] at h ⊢
  intro d hd
  have := h d hd
  cases d <;> first | rfl | simp [headD] at this
theorem sortable_D {ds : List D} {us : List Value} {a : Addr} (h2 : 2 ≤ us.length) (hu : A.units + 62 < cLine) (ok : sortOk ds = true) (q : DAre s.heap ds us) (ha : ∀ o, s.heap.get? a = some o → o.cls ≠ .type "tuple") : SrtO.SortableO prog w A s a us (ltV s.heap ds) := by
  intro h' keep
  obtain ⟨hc, hs, hd, hk⟩ := ok_parts ok
  have kp : ∀ b o, s.heap.get? b = some o → o.cls = .type "tuple" → h'.get? b = some o := fun b o e c => keep b o (fun z => by subst z; exact ha o e c) e
  have q' : DAre h' ds us := DAre.keep kp q
  have plain : ∀ {vs : List Value}, vs = us → (∃ v1 v2 r, vs = v1 :: v2 :: r) := fun {vs} e => by
    subst e
    match vs, h2 with
    | v1 :: v2 :: r, _ => exact ⟨v1, v2, r, rfl⟩
    | [v], h => simp at h
    | [], h => simp at h
  obtain ⟨v1, v2, r, er⟩ := plain rfl
  rcases hk with hk | hk | hk | hk | hk
  · obtain ⟨ns, hS⟩ := strs_of hk q'
    refine ⟨oneType', fun Q E hq => ?_, fun p r' hp hr => ?_⟩
    · subst er
      rw [keyKind_strs hS]
      exact wpAny_pure hq
    · obtain ⟨m1, i1⟩ := dec_is (are_mem q p.1 hp)
      obtain ⟨m2, i2⟩ := dec_is (are_mem q r'.1 hr)
      have z1 := List.all_eq_true.mp hk _ m1
      have z2 := List.all_eq_true.mp hk _ m2
      show wpAny (model prog w) A (keyLt' oneType' p.1 r'.1) (fun c s' => s' = _ ∧ c = ltB (decD s.heap ds p.1) (decD s.heap ds r'.1)) _ _
      generalize decD s.heap ds p.1 = x at *
      generalize decD s.heap ds r'.1 = y at *
      cases x <;> simp [isStrD] at z1
      cases y <;> simp [isStrD] at z2
      simp only [DIs] at i1 i2
      obtain ⟨t, e1⟩ := i1
      obtain ⟨t', e2⟩ := i2
      rw [e1, e2, keyLt'_oneType]
      exact oneLt_str ⟨rfl, rfl⟩
  · obtain ⟨ns, hS⟩ := ints_of hk q'
    refine ⟨oneType', fun Q E hq => ?_, fun p r' hp hr => ?_⟩
    · subst er
      rw [keyKind_ints hS]
      exact wpAny_pure hq
    · obtain ⟨m1, i1⟩ := dec_is (are_mem q p.1 hp)
      obtain ⟨m2, i2⟩ := dec_is (are_mem q r'.1 hr)
      have z1 := List.all_eq_true.mp hk _ m1
      have z2 := List.all_eq_true.mp hk _ m2
      show wpAny (model prog w) A (keyLt' oneType' p.1 r'.1) (fun c s' => s' = _ ∧ c = ltB (decD s.heap ds p.1) (decD s.heap ds r'.1)) _ _
      generalize decD s.heap ds p.1 = x at *
      generalize decD s.heap ds r'.1 = y at *
      cases x <;> simp [isIntD] at z1
      cases y <;> simp [isIntD] at z2
      simp only [DIs] at i1 i2
      obtain ⟨t, e1⟩ := i1
      obtain ⟨t', e2⟩ := i2
      rw [e1, e2, keyLt'_oneType]
      exact oneLt_int ⟨rfl, rfl⟩
  · obtain ⟨fs, f1, f2, f3⟩ := tups_of (Ty := "str") (fun d u hd hi M => by cases d <;> simp [isStrD] at hd; obtain ⟨t, rfl⟩ := hi; exact PySem.W.Looks.now) hk q'
    refine ⟨tuples' true, fun Q E hq => ?_, cmp_tups (s := { s with heap := h' }) hu hd hc (head_tup hk) (fun _ => .inl hk) q q' fun u d i => DIs.keep kp i⟩
    refine PySem.W.kat_kind (T := .type "str") f1 (by omega) (fun v hv => f3 v hv _) (by rfl) ?_
    have e : (Value.type "str" != Value.type "tuple") = true := by decide
    rw [e]
    exact hq
  · obtain ⟨fs, f1, f2, f3⟩ := tups_of (Ty := "int") (fun d u hd hi M => by cases d <;> simp [isIntD] at hd; obtain ⟨t, rfl⟩ := hi; exact PySem.W.Looks.now) hk q'
    refine ⟨tuples' true, fun Q E hq => ?_, cmp_tups (s := { s with heap := h' }) hu hd hc (head_tup hk) (fun _ => .inr hk) q q' fun u d i => DIs.keep kp i⟩
    refine PySem.W.kat_kind (T := .type "int") f1 (by omega) (fun v hv => f3 v hv _) (by rfl) ?_
    have e : (Value.type "int" != Value.type "tuple") = true := by decide
    rw [e]
    exact hq
  · obtain ⟨fs, f1, f2, f3⟩ := tups_of (Ty := "tuple") (fun d u hd hi M => by
      cases d <;> simp [isTupD] at hd
      simp only [DIs] at hi
      obtain ⟨b, o, us, n, rfl, h1, h2, h3, h4⟩ := hi
      exact fun A Q E s k q => wpAny_typeOf_ref (k _ _ h1) (by rw [h2]; exact q)) hk q'
    refine ⟨tuples' false, fun Q E hq => ?_, cmp_tups (s := { s with heap := h' }) hu hd hc (head_tup hk) (fun z => nomatch z) q q' fun u d i => DIs.keep kp i⟩
    refine PySem.W.kat_kind (T := .type "tuple") f1 (by omega) (fun v hv => f3 v hv _) (by rfl) ?_
    have e : (Value.type "tuple" != Value.type "tuple") = false := by decide
    rw [e]
    exact hq
end
/-! ### the call -/
theorem pick_all {K : PySem.W.Frag} {m : List Addr} {H : Hp} {dec : Value → D} : ∀ {out : List Value}, (∀ u ∈ out, ∃ v, RelV v u ∧ RelD K m H (dec u) v) → ∃ vs, Vals vs out ∧ RelDs K m H (out.map dec) vs
  | [], _ => ⟨[], .nil, rfl⟩
  | u :: out, h => by
    obtain ⟨v, h1, h2⟩ := h u (by simp)
    obtain ⟨vs, h3, h4⟩ := pick_all (out := out) fun w hw => h w (List.mem_cons_of_mem _ hw)
    exact ⟨v :: vs, .cons h1 h3, v, vs, rfl, h2, h4⟩
theorem rel_of_mem {K : PySem.W.Frag} {m : List Addr} {H : Hp} {h : Heap} {dec : Value → D} : ∀ {ds : List D} {vs : List V} {us : List Value}, RelDs K m H ds vs → Vals vs us → us.map dec = ds → ∀ u ∈ us, ∃ v, RelV v u ∧ RelD K m H (dec u) v
  | [], vs, us, r, rv, e, u, hu => by simp only [RelDs] at r; subst r; cases rv; simp at hu
  | d :: ds, vs, us, r, rv, e, u, hu => by
    simp only [RelDs] at r
    obtain ⟨v, vr, rfl, r1, r2⟩ := r
    cases rv with
    | @cons _ w _ ws q1 q2 =>
      simp only [List.map_cons, List.cons.injEq] at e
      rcases List.mem_cons.mp hu with rfl | hu
      · exact ⟨v, q1, by rw [e.1]; exact r1⟩
      · exact rel_of_mem (h := h) r2 q2 e.2 u hu
section
variable {X : Cx}
/-- sorted(u), where collecting u gives these data -/
theorem sorted_of {pins : List (Addr × Obj)} {σ : L2.St} {H : Hp} {s : Shared} {u : Value} {m : List Addr} {ds : List D} {Q : VK} (hu : X.A.units + 66 < cLine) (ok : sortOk ds = true) (hz : ds.length ≤ sizeLine)
    (col : ∀ (R : List Value → Shared → Prop), (∀ s1 acc vs es, Inv X pins σ H s1 → Vals vs acc → RelDs X.K m H es vs → es.Perm ds → R acc s1) → wpAny (model X.prog X.w) X.A.in1 (collect u) R X.xe s)
    (q : ∀ (vs : List V) (p : Addr), H p = none → RelDs X.K m H (sortD ds) vs → Q (.ref p) (upd H p (.lst vs))) : wpAny (model X.prog X.w) X.A (call (.builtin "sorted") [u]) (EP X pins σ Q) X.xe s := by
  refine Calls.call_function_entry PyProof.Rows.kind_sorted PyProof.Rows.plain_sorted PyProof.Rows.entry_sorted (PyProof.Rows.args_sorted1 _) ?_
  unfold Builtin.«sorted»
  refine wpAny_bind (m := checkCount "sorted" 1 1 _) (wpAny_pure ?_)
  refine wpAny_bind (col _ fun s1 acc vs es I1 rv r pe => ?_)
  obtain ⟨hc, hs, hd, hk⟩ := ok_parts ok
  have hce := hc.perm pe
  have oke : sortOk es = true ∧ D.sims es = true := by
    have all_p : ∀ {p : D → Bool}, ds.all p = true → es.all p = true := fun {p} z => List.all_eq_true.mpr fun d hd => List.all_eq_true.mp z d (pe.mem_iff.mp hd)
    have sims : D.sims es = true := by
      have iff : ∀ l : List D, D.sims l = true ↔ ∀ d ∈ l, d.sim = true := by
        intro l
        induction l with
        | nil => simp [D.sims]
        | cons d l ih => simp [D.sims, ih]
      exact (iff es).mpr fun d hd => (iff ds).mp hs d (pe.mem_iff.mp hd)
    have dps : D.deps es ≤ 60 := by
      have le : ∀ (l : List D) (n : Nat), D.deps l ≤ n ↔ ∀ d ∈ l, d.dep ≤ n := by
        intro l n
        induction l with
        | nil => simp [D.deps]
        | cons d l ih => simp only [D.deps, List.mem_cons, forall_eq_or_imp, ← ih]; omega
      exact (le es 60).mpr fun d hd' => (le ds 60).mp hd d (pe.mem_iff.mp hd')
    refine ⟨?_, sims⟩
    simp only [sortOk, Bool.and_eq_true, Bool.or_eq_true, decide_eq_true_eq]
    refine ⟨⟨⟨?_, sims⟩, dps⟩, List.all_eq_true.mpr fun a ha => List.all_eq_true.mpr fun b hb => hce a ha b hb⟩
    rcases hk with z | z | z | z | z
    · exact .inl (.inl (.inl (.inl (all_p z))))
    · exact .inl (.inl (.inl (.inr (all_p z))))
    · exact .inl (.inl (.inr (all_p z)))
    · exact .inl (.inr (all_p z))
    · exact .inr (all_p z)
  have hla : acc.length = ds.length := by rw [← rv.length, ← RelDs.length r, pe.length_eq]
  refine wpAny_bind (wpAny_newList ?_ (by rw [hla]; exact hz))
  have hoL : (s1.heap.push (seqObj "list" acc.toArray 0)).get? s1.heap.objs.size = some (seqObj "list" acc.toArray 0) := Heap.get?_push_size _ rfl
  show wpAny _ _ _ _ _ { s1 with heap := s1.heap.push (seqObj "list" acc.toArray 0) }
  have dr : DAre s1.heap es acc := rels_are I1 es vs acc oke.2 r rv
  have dr2 : DAre (s1.heap.push (seqObj "list" acc.toArray 0)) es acc := DAre.keep (fun b o e _ => Heap.get?_push_of_some _ e) dr
  by_cases hne : es = []
  · subst hne
    simp only [DAre] at dr
    subst dr
    cases rv
    refine wpAny_bind (wpAny_holding (wpAny_call_entry PyProof.Rows.slot_list_sort ⟨_, hoL, rfl⟩ PyProof.Rows.entry_list_sort
      (SrtO.list_sort_ord (s := { s1 with heap := s1.heap.push (seqObj "list" ([] : List Value).toArray 0) }) (A := X.A.in1.in1) (ltv := fun _ _ => false) ⟨fun _ _ z => absurd z Bool.false_ne_true, fun _ _ _ _ _ => rfl⟩ hoL (Nat.zero_le _) (fun z => by simp at z) fun out hS hB => ⟨_, rfl, ?_⟩) (PyProof.Rows.args_list_sort _)))
    obtain ⟨c, hc'⟩ := PyProof.Rows.sortedHeap_at (vs := []) (out := out.toArray) hoL
    have e0 : out = [] := by have := hB.perm.length_eq; exact List.length_eq_zero_iff.mp this
    subst e0
    have eds : ds = [] := (List.Perm.nil_eq pe).symm
    refine wpAny_pure ⟨_, rfl, .ref s1.heap.objs.size, upd H s1.heap.objs.size (.lst []), I1.laid (t' := s1.toks) (fun b o e => ?_) (Nat.le_refl _) ⟨Nat.zero_le _, [], c, .nil, hc'⟩, rfl, q [] _ (I1.hok.fresh (Nat.le_refl _)) (by rw [eds]; rfl)⟩
    have hb : b < s1.heap.objs.size := Heap.lt_size e
    rw [PyProof.Rows.sortedHeap_old (Nat.ne_of_lt hb) (by rw [size_push']; exact Nat.lt_succ_of_lt hb)]
    exact Heap.get?_push_of_some _ e
  · refine wpAny_bind (wpAny_holding (wpAny_call_entry PyProof.Rows.slot_list_sort ⟨_, hoL, rfl⟩ PyProof.Rows.entry_list_sort
      (SrtO.list_sort_ord (s := { s1 with heap := s1.heap.push (seqObj "list" acc.toArray 0) }) (swo_D (h := s1.heap.push (seqObj "list" acc.toArray 0)) hne hce) hoL (by rw [hla]; exact hz)
        (fun h2 => sortable_D (s := { s1 with heap := s1.heap.push (seqObj "list" acc.toArray 0) }) h2 (by have d3 : X.A.in1.in1.units = X.A.units + 1 + 1 := rfl; show X.A.in1.in1.units + 62 < cLine; omega) oke.1 dr2 fun o e z => by
          have e' := hoL.symm.trans e
          cases e'
          exact absurd (Value.type.inj z) (by decide)) fun out hS hB => ⟨_, rfl, ?_⟩) (PyProof.Rows.args_list_sort _)))
    obtain ⟨c, hc'⟩ := PyProof.Rows.sortedHeap_at (vs := acc) (out := out.toArray) hoL
    have em : acc.map (decD (s1.heap.push (seqObj "list" acc.toArray 0)) es) = es := dec_map dr2 fun d hd => hd
    have es1 : out.map (decD (s1.heap.push (seqObj "list" acc.toArray 0)) es) = sortD ds := by
      have p1 : (out.map (decD (s1.heap.push (seqObj "list" acc.toArray 0)) es)).Perm es := by
        have := hB.perm.map (decD (s1.heap.push (seqObj "list" acc.toArray 0)) es)
        rw [em] at this
        exact this
      have p2 := p1.trans (pe.trans (sortD_perm ds).symm)
      refine srt_uniq (hce.perm p1) ?_ (sortD_srt hc) p2
      exact List.pairwise_map.mpr hS
    obtain ⟨vs', k1, k2⟩ := pick_all (out := out) fun u hu' => rel_of_mem (h := s1.heap) r rv em u (hB.perm.mem_iff.mp hu')
    rw [es1] at k2
    have hl2 : vs'.length ≤ sizeLine := by rw [← RelDs.length k2, (sortD_perm ds).length_eq]; exact hz
    refine wpAny_pure ⟨_, rfl, .ref s1.heap.objs.size, upd H s1.heap.objs.size (.lst vs'), I1.laid (t' := s1.toks) (fun b o e => ?_) (Nat.le_refl _) ⟨hl2, out, c, k1, hc'⟩, rfl, q vs' _ (I1.hok.fresh (Nat.le_refl _)) k2⟩
    have hb : b < s1.heap.objs.size := Heap.lt_size e
    rw [PyProof.Rows.sortedHeap_old (Nat.ne_of_lt hb) (by rw [size_push']; exact Nat.lt_succ_of_lt hb)]
    exact Heap.get?_push_of_some _ e
end
end Kd
/-! sorted of lists and dicts, as rules. -/
namespace Kd
open PySem PySem.Spec PyProof.Rows L2
section
variable {X : Cx} {pins : List (Addr × Obj)} {σ : L2.St} {H : Hp} {s : Shared} {m : List Addr}
/-- a list collected -/
theorem col_list (I : Inv X pins σ H s) {a : Addr} {vs : List V} {ds : List D} (h : SqL X.K H a vs) (r : RelDs X.K m H ds vs) (R : List Value → Shared → Prop) (k : ∀ s1 acc vs es, Inv X pins σ H s1 → Vals vs acc → RelDs X.K m H es vs → es.Perm ds → R acc s1) :
    wpAny (model X.prog X.w) X.A.in1 (collect (.ref a)) R X.xe s := by
  obtain ⟨its, rv, p, hz⟩ := I.list h
  refine PyProof.Rows.collect_list p.isList (k _ its vs ds (I.kept (t' := s.toks) fun b o e => ?_) rv r (.refl _)) (by rw [← rv.length]; exact hz)
  have hlt := Heap.lt_size e
  rw [Heap.get?_update_ne _ _ _ _ (Nat.ne_of_lt hlt)]
  exact Heap.get?_push_of_some _ e
theorem keys_s {m : List Addr} : ∀ {kvs : List (D × D)} {es : List DictEntry} {vs : List (Key × Value)}, PySem.Pairs (mixKind X.prog X.w) es vs → Paired (RelEs X.K m H) kvs vs → ∃ ks, Vals ks (es.map (·.key)) ∧ RelDs X.K m H (kvs.map (·.1)) ks
  | _, _, _, .nil, .nil => ⟨[], .nil, rfl⟩
  | _, _, _, .cons k1 k2 k3, .cons r1 r2 => by
    obtain ⟨ks, q1, q2⟩ := keys_s k3 r2
    obtain ⟨e, v, rv, rd⟩ := r1
    rename_i p _ q _ _ _
    rcases keyIs_shape k1 with ⟨i, t, ek, ev⟩ | ⟨z, t, ek, ev⟩
    · exact ⟨.int i :: ks, by rw [List.map_cons, ev]; exact .cons ⟨t, rfl⟩ q1, .int i, ks, rfl, by show RelD X.K m H _ _; simp only []; rw [e, ek]; rfl, q2⟩
    · exact ⟨.str z :: ks, by rw [List.map_cons, ev]; exact .cons ⟨t, rfl⟩ q1, .str z, ks, rfl, by show RelD X.K m H _ _; simp only []; rw [e, ek]; rfl, q2⟩
theorem keys_t {m : List Addr} : ∀ {kvs : List (D × D)} {xs : List (NestedKey × Addr × Value)}, Paired (RelEt X.K m H) kvs xs → ∃ ks, Vals ks ((xs.map (entryOfKey (nestedKind X.prog X.w))).map (·.key)) ∧ RelDs X.K m H (kvs.map (·.1)) ks
  | _, _, .nil => ⟨[], .nil, rfl⟩
  | _, _, .cons r1 r2 => by
    obtain ⟨ks, q1, q2⟩ := keys_t r2
    obtain ⟨e, ht, rk, v, rv, rd⟩ := r1
    exact ⟨.ref _ :: ks, .cons rfl q1, .ref _, ks, rfl, rk, q2⟩
/-- a dict's keys collected -/
theorem col_dict (hc : X.calm = true) (I : Inv X pins σ H s) {a : Addr} {kvs : List (D × D)} {es : List DictEntry} (e : H a = some (RawD a es)) (ha : (a == sysModules) = false) (hz : kvs.length ≤ sizeLine) (d : Dcts (gd X) m H kvs es) (R : List Value → Shared → Prop)
    (k : ∀ s1 acc vs es, Inv X pins σ H s1 → Vals vs acc → RelDs X.K m H es vs → es.Perm (kvs.map (·.1)) → R acc s1) : wpAny (model X.prog X.w) X.A.in1 (collect (.ref a)) R X.xe s := by
  obtain ⟨o, ep, h1, h2, h3⟩ := raw_of I e
  have hks : ∃ ks, Vals ks (es.map (·.key)) ∧ RelDs X.K m H (kvs.map (·.1)) ks := by
    rcases d with ⟨vs, d⟩ | ⟨xs, d⟩
    · exact keys_s d.pairs d.rel
    · obtain ⟨ks, q1, q2⟩ := keys_t d.rel
      exact ⟨ks, by rw [d.ents]; exact q1, q2⟩
  obtain ⟨ks, q1, q2⟩ := hks
  have hl : es.length = kvs.length := by have a := q1.length; have b := RelDs.length q2; rw [List.length_map] at a b; omega
  refine PySem.W.kdu_collect (KdlSrc.rawDict (es := es.toArray) (ep := ep) ha) (I.ok.hd hc) ⟨o, h1, h2, h3⟩ (by rw [List.size_toArray, hl]; exact hz) fun h' tk acc hk hacc => ?_
  have ea : acc.toList = es.map (·.key) := by
    refine List.ext_getElem? fun i => ?_
    by_cases hi : i < es.length
    · have hi2 : i < acc.toList.length := by rw [Array.length_toList, hacc.1, List.size_toArray]; exact hi
      obtain ⟨hj, e2⟩ := hacc.2 i acc.toList[i] (by rw [← Array.getElem?_toList]; exact List.getElem?_eq_getElem hi2)
      rw [List.getElem?_eq_getElem hi2, List.getElem?_map, List.getElem?_eq_getElem hi, e2]
      simp
    · rw [List.getElem?_eq_none (by rw [Array.length_toList, hacc.1, List.size_toArray]; omega), List.getElem?_eq_none (by rw [List.length_map]; omega)]
  exact k _ acc.toList ks (kvs.map (·.1)) (I.kept hk) (by rw [ea]; exact q1) q2 (.refl _)
end
section
variable {X : Cx}
theorem cr_sortedK (hc : X.calm = true) (hu : X.A.units + 66 < cLine) : CallR X (.builtin "sorted") (rBl (gd X) (bltX .sorted)) := by
  intro pins s σ H vs us Q I rv ⟨T, Y, m, S, xs, R, rxs, h⟩
  have : (∃ x, xs = [x]) ∨ bltX .sorted xs = M.bad := by
    cases xs with
    | nil => exact .inr rfl
    | cons x r =>
      cases r with
      | nil => exact .inl ⟨_, rfl⟩
      | cons y r =>
        refine .inr ?_
        cases x with
        | tl ds => rfl
        | dv d => cases d <;> rfl
  rcases this with ⟨x, rfl⟩ | e
  · obtain ⟨v, rfl, rx⟩ := RelXs.one (G := gd X) rxs
    obtain ⟨u, rfl, ru⟩ := vals1 rv
    have e : bltX .sorted [x] = .mk fun S => match isDct S x with
      | some kvs => if sortOk (kvs.map (·.1)) then .ok (.tl (sortD (kvs.map (·.1)))) S else .bad
      | none => (litems x >>= fun ds => if sortOk ds then M.pure (.tl (sortD ds)) else M.bad) S := by
      cases x with
      | tl ds => rfl
      | dv d => cases d <;> rfl
    rw [e] at h
    cases ed : isDct S x with
    | some kvs =>
      simp only [ed] at h
      obtain ⟨l, a, es, rfl, h1, rfl, h2, h3, h4, h5, h6⟩ := isDct_rel ed R rx
      cases (show u = .ref a from ru)
      by_cases ok : sortOk (kvs.map (·.1)) = true
      · rw [if_pos ok] at h
        exact sorted_of hu ok (by rw [List.length_map]; exact h5) (fun R' k => col_dict hc I h3 h4 h5 h6 R' k) fun vs p hp r => fin_lst h R hp r (by rw [(sortD_perm _).length_eq, List.length_map]; exact h5)
      · rw [if_neg ok] at h; exact h.elim
    | none =>
      simp only [ed] at h
      obtain ⟨ds, a, ws, rfl, h1, h2, h3, _⟩ := litems_ok h R rx
      cases (show u = .ref a from ru)
      by_cases ok : sortOk ds = true
      · rw [if_pos ok] at h3
        have hz : ds.length ≤ sizeLine := by
          rw [RelDs.length (K := X.K) h2]
          obtain ⟨_, _, _, q⟩ := I.list h1
          exact q
        exact sorted_of hu ok hz (fun R' k => col_list I h1 h2 R' k) fun vs p hp r => fin_lst h3 R hp r (by rw [(sortD_perm _).length_eq]; exact hz)
      · rw [if_neg ok] at h3; exact h3.elim
  · rw [e] at h; exact h.elim
end
end Kd
/-! Sets of numbers and texts: adding. -/
namespace Kd
open PySem PySem.Spec PyProof.Rows L2
/-- the key that a set's element is -/
def kyE (e : Int × Value) : Key := match e.2 with
  | .int k _ => .inl k
  | .str x _ => .inr x
  | _ => .inl 0
def GoodK (P : Program) (w : World) (e : Int × Value) : Prop := ∃ k : Key, (mixKind P w).is k e.2 = true ∧ e.1 = (mixKind P w).hash k
section
variable {P : Program} {w : World}
theorem mix_shape {k : Key} {v : Value} (h : (mixKind P w).is k v = true) : (∃ i t, k = .inl i ∧ v = .int i t) ∨ (∃ x t, k = .inr x ∧ v = .str x t) := keyIs_shape h
theorem mix_scan {k : Key} {v : Value} (h : (mixKind P w).is k v = true) : v.scannable = true := by
  rcases mix_shape h with ⟨i, t, _, rfl⟩ | ⟨x, t, _, rfl⟩ <;> rfl
theorem goodK_elems {l : List (Int × Value)} (g : ∀ e ∈ l, GoodK P w e) : ElemsOf (mixKind P w) l := fun e he => by
  obtain ⟨k, h1, h2⟩ := g e he
  exact ⟨⟨k, h1, h2⟩, mix_scan h1⟩
theorem goodK_is {e : Int × Value} (g : GoodK P w e) (k : Key) : (mixKind P w).is k e.2 = true ↔ kyE e = k := by
  obtain ⟨k0, h1, _⟩ := g
  have q : kyE e = k0 := by
    unfold kyE
    rcases mix_shape h1 with ⟨i, t, rfl, h⟩ | ⟨x, t, rfl, h⟩ <;> rw [h]
  rw [q]
  constructor
  · intro h
    rcases mix_shape h1 with ⟨i, t, rfl, e1⟩ | ⟨x, t, rfl, e1⟩ <;> rcases mix_shape h with ⟨j, t', rfl, e2⟩ | ⟨y, t', rfl, e2⟩ <;> rw [e1] at e2 <;> cases e2 <;> rfl
  · rintro rfl
    exact h1
theorem goodK_mem {l : List (Int × Value)} (g : ∀ e ∈ l, GoodK P w e) (k : Key) : k ∈ l.map kyE ↔ ∃ e ∈ l, (mixKind P w).is k e.2 = true := by
  rw [List.mem_map]
  constructor
  · rintro ⟨e, he, q⟩
    exact ⟨e, he, (goodK_is (g e he) k).2 q⟩
  · rintro ⟨e, he, q⟩
    exact ⟨e, he, (goodK_is (g e he) k).1 q⟩
end
/-- the set at a has the keys S, n of them; its table is whole -/
def SetR2 (P : Program) (w : World) (h : Heap) (a : Addr) (S : Key → Bool) (n : Nat) : Prop :=
  ∃ o es ep t, h.get? a = some o ∧ o.ExactSet ∧ o.data = .set es ep t ∧ (∀ e ∈ es.toList, GoodK P w e) ∧ (es.toList.map kyE).Nodup ∧ (∀ k, S k = true ↔ k ∈ es.toList.map kyE) ∧
    es.size < scanBound ∧ t.fits es.size = true ∧ es.size = n ∧ Ris t.place.toList ∧ (w.params.followText "set-order" = true ∨ t.led = true)
theorem SetR2.at {P : Program} {w : World} {h h' : Heap} {a : Addr} {S : Key → Bool} {n : Nat} (R : SetR2 P w h a S n) (k : ∀ o, h.get? a = some o → h'.get? a = some o) : SetR2 P w h' a S n := by
  obtain ⟨o, es, ep, t, ho, r⟩ := R
  exact ⟨o, es, ep, t, k o ho, r⟩
theorem SetR2.congr {P : Program} {w : World} {h : Heap} {a : Addr} {S S' : Key → Bool} {n : Nat} (R : SetR2 P w h a S n) (e : ∀ k, S' k = S k) : SetR2 P w h a S' n := by
  obtain ⟨o, es, ep, t, ho, hx, hd, g, nd, hm, r⟩ := R
  exact ⟨o, es, ep, t, ho, hx, hd, g, nd, fun k => by rw [e]; exact hm k, r⟩
section
variable {P : Program} {w : World} {A : Around} {E : Value → Shared → Prop} {s : Shared} {a : Addr} {S : Key → Bool} {n : Nat}
theorem set2_tail {g : Bool → Sem Unit} (hg : ∀ (b : Bool) (s₁ : Shared) (Q' : Unit → Shared → Prop), Q' () s₁ → wpAny (model P w) A (g b) Q' E s₁)
    {o : Obj} {es : Array (Int × Value)} {ep : Nat} {t : SetTable} (ho : s.heap.get? a = some o) (hex : o.ExactSet) (hd : o.data = .set es ep t)
    {es1 : Array (Int × Value)} {t2 : SetTable} {S' : Key → Bool} (g1 : ∀ e ∈ es1.toList, GoodK P w e) (nd1 : (es1.toList.map kyE).Nodup) (m1 : ∀ k, S' k = true ↔ k ∈ es1.toList.map kyE)
    (hb1 : es1.size < scanBound) (hf2 : t2.fits es1.size = true) (hr : Ris t2.place.toList) (hl : w.params.followText "set-order" = true ∨ t2.led = true) {wasDummy : Bool} {R : Option Bool → Shared → Prop}
    (hR : ∀ h', Heap.SameBut a s.heap h' → SetR2 P w h' a S' es1.size → R (some true) { s with heap := h' }) :
    wpAny (model P w) A (do
        storeSet a es1 t2
        if (!wasDummy && t2.tooFull) = true then do
            g (relayAll t2 es1 (SetTable.grown es1.size)).2.2
            storeSet a (relayAll t2 es1 (SetTable.grown es1.size)).1 (relayAll t2 es1 (SetTable.grown es1.size)).2.1
            pure (some true)
          else pure (some true)) R E s := by
  refine wpAny_bind (wpAny_storeSet_of ho hd ?_ (fits_of_scanBound hb1))
  have ho1 := store_at (es' := es1) (t' := t2) ho hd
  have sb1 := Heap.SameBut.update s.heap a (Obj.putSet es1 t2)
  split
  · have pm := relayAll_perm t2 es1 (SetTable.grown es1.size)
    have hf3 := relayAll_fits t2 es1 (SetTable.grown es1.size)
    have hr3 := relayAll_ris t2 es1 (SetTable.grown es1.size)
    have hl3 := relayAll_led t2 es1 (SetTable.grown es1.size)
    generalize relayAll t2 es1 (SetTable.grown es1.size) = Z at pm hf3 hr3 hl3 ⊢
    obtain ⟨es2, t3, gave⟩ := Z
    dsimp only at pm hf3 hr3 hl3 ⊢
    have hsz : es2.size = es1.size := by rw [← Array.length_toList, pm.length_eq, Array.length_toList]
    have hb2 : es2.size < scanBound := by rw [hsz]; exact hb1
    refine wpAny_bind (hg _ _ _ ?_)
    refine wpAny_bind (wpAny_storeSet_of ho1 rfl ?_ (fits_of_scanBound hb2))
    have ho2 := store_at (es' := es2) (t' := t3) ho1 rfl
    refine wpAny_pure (hR _ (sb1.trans (Heap.SameBut.update _ a _)) ?_)
    exact ⟨_, es2, _, t3, ho2, hex, rfl, fun e he => g1 e (pm.mem_iff.mp he), (pm.map kyE).nodup_iff.mpr nd1, fun k => (m1 k).trans (pm.map kyE).mem_iff.symm, hb2, hf3, hsz, hr3,
      hl.imp id fun z => by rw [hl3]; exact z⟩
  · exact wpAny_pure (hR _ sb1 ⟨_, es1, _, t2, ho1, hex, rfl, g1, nd1, m1, hb1, hf2, rfl, hr, hl⟩)
theorem set2_add {k : Key} {v : Value} {Q : Bool → Shared → Prop} (R : SetR2 P w s.heap a S n) (hkey : (mixKind P w).is k v = true) (room : n + 1 < scanBound)
    (hQ : ∀ b h', Heap.SameBut a s.heap h' → SetR2 P w h' a (fun j => S j || decide (j = k)) (if S k = true then n else n + 1) → Q b { s with heap := h' }) :
    wpAny (model P w) A (setAddHashed a v ((mixKind P w).hash k)) Q E s := by
  obtain ⟨o, es, ep, t, ho, hex, hd, g, nd, hm, hb, hf, hn, hr, hl⟩ := R
  have hsc : v.scannable = true := mix_scan hkey
  have hky : kyE ((mixKind P w).hash k, v) = k := (goodK_is ⟨k, hkey, rfl⟩ k).1 hkey
  have hel : ElemsOf (mixKind P w) es.toList := goodK_elems g
  unfold setAddHashed setAddHashedIn
  refine wpAny_holding (wpAny_bind (wpAny_setState_of ho hd hf ?_))
  dsimp only
  rw [byScan_of hsc hb hel]
  simp only [↓reduceIte]
  unfold setAddByScan
  refine wpAny_bind ?_
  refine wpAny_bind (wpAny_rule ?_)
  refine wpAny_bind (wpAny_setScan_of hkey ho hd hf hel ?_)
  cases hfi : List.findIdx? (fun e => (mixKind P w).is k e.2) es.toList with
  | some j =>
    dsimp only
    obtain ⟨hj, pj, _⟩ := List.findIdx?_eq_some_iff_getElem.mp hfi
    have hSk : S k = true := (hm k).2 ((goodK_mem (P := P) (w := w) g k).2 ⟨es.toList[j], List.getElem_mem hj, pj⟩)
    refine wpAny_pure (wpAny_pure ?_)
    exact hQ _ s.heap (Heap.SameBut.refl a s.heap) ⟨o, es, ep, t, ho, hex, hd, g, nd, fun i => by
      rw [Bool.or_eq_true, decide_eq_true_eq, ← hm i]
      exact ⟨fun z => z.elim id (fun e => e ▸ hSk), .inl⟩, hb, hf, by rw [if_pos hSk]; exact hn, hr, hl⟩
  | none =>
    dsimp only
    have hnk : k ∉ es.toList.map kyE := fun z => by
      obtain ⟨e, he, q⟩ := (goodK_mem (P := P) (w := w) g k).1 z
      have c := List.findIdx?_eq_none_iff.mp hfi e he
      rw [q] at c
      cases c
    have hSk : S k = false := by
      cases q : S k with
      | false => rfl
      | true => exact absurd ((hm k).1 q) hnk
    have hgw : ∀ (b : Bool) {s₁ : Shared} {Q' : Unit → Shared → Prop}, Q' () s₁ → wpAny (model P w) A (match b with | true => rule "set.scan.the-table-gave-way" | false => pure ()) Q' E s₁ :=
      fun b s₁ Q' q => by cases b <;> first | exact wpAny_pure q | exact wpAny_rule q
    have pm := layNew_perm t es ((mixKind P w).hash k) v
    have hf1 := layNew_fits t es ((mixKind P w).hash k) v
    have hr1 := layNew_ris t es ((mixKind P w).hash k) v hr
    have hl1 := layNew_led t es ((mixKind P w).hash k) v
    generalize layNew t es ((mixKind P w).hash k) v = Z at pm hf1 hr1 hl1 ⊢
    obtain ⟨es1, t1, wasDummy, gave⟩ := Z
    dsimp only at pm hf1 hr1 hl1 ⊢
    rw [Array.toList_push] at pm
    have pc : es1.toList.Perm (((mixKind P w).hash k, v) :: es.toList) := pm.trans (List.perm_append_singleton _ _)
    have pk : (es1.toList.map kyE).Perm (k :: es.toList.map kyE) := by
      have := pc.map kyE
      rw [List.map_cons, hky] at this
      exact this
    have g1 : ∀ e ∈ es1.toList, GoodK P w e := fun e he => by
      rcases List.mem_cons.mp (pc.mem_iff.mp he) with z | z
      · rw [z]; exact ⟨k, hkey, rfl⟩
      · exact g e z
    have nd1 : (es1.toList.map kyE).Nodup := pk.nodup_iff.mpr (List.nodup_cons.mpr ⟨hnk, nd⟩)
    have m1 : ∀ i, (S i || decide (i = k)) = true ↔ i ∈ es1.toList.map kyE := fun i => by
      rw [Bool.or_eq_true, decide_eq_true_eq, hm i, pk.mem_iff, List.mem_cons]
      exact Or.comm
    have hsz : es1.size = n + 1 := by rw [← Array.length_toList, pc.length_eq, List.length_cons, Array.length_toList, hn]
    have hb1 : es1.size < scanBound := by rw [hsz]; exact room
    have hled : w.params.followText "set-order" = true ∨ t1.led = true := hl.imp id fun z => by rw [hl1]; exact z
    have fin : ∀ h', Heap.SameBut a s.heap h' → SetR2 P w h' a (fun j => S j || decide (j = k)) es1.size → Q true { s with heap := h' } := fun h' sb r => by
      have q := hQ true h' sb
      rw [hSk] at q
      rw [hsz] at r
      exact q r
    refine wpAny_bind (hgw _ ?_)
    split
    · refine wpAny_bind ?_
      rw [hashByValue_scannable 8 hsc]
      refine wpAny_pure ?_
      refine set2_tail ?_ ho hex hd g1 nd1 m1 hb1 ?_ ?_ ?_ ?_
      · intro b s₁ Q' q; cases b <;> first | exact wpAny_pure q | exact wpAny_rule q
      · first | (split <;> first | exact hf1 | exact SetTable.fits_plain_off hf1) | exact hf1
      · first | (split <;> exact hr1) | exact hr1
      · first | (split <;> exact hled) | exact hled
      · intro h' sb r; dsimp only; exact wpAny_pure (fin h' sb r)
    · refine wpAny_bind (wpAny_pure ?_)
      simp only [↓reduceIte]
      refine set2_tail ?_ ho hex hd g1 nd1 m1 hb1 hf1 hr1 hled ?_
      · intro b s₁ Q' q; cases b <;> first | exact wpAny_pure q | exact wpAny_rule q
      · intro h' sb r; dsimp only; exact wpAny_pure (fin h' sb r)
end
end Kd
/-! set(xs) by an invariant. -/
namespace Kd
open PySem PySem.Spec PyProof.Rows L2
abbrev newSet (w : World) : Obj := { cls := .type "set", dict := none, data := .set #[] 0 (.fresh 0 0 (!w.params.followText "set-order")) }
/-- what holds of the set behind the first i items -/
structure SetInv (P : Program) (w : World) (n : Nat) (S : Addr) (items : Array Value) (h0 : Heap) (SI : Nat → Heap → Prop) : Prop where
  new : ∀ h, h.get? S = some (newSet w) → (∀ b o, h0.get? b = some o → h.get? b = some o) → SI 0 h
  keep : ∀ i h h', SI i h → (∀ o, h.get? S = some o → h'.get? S = some o) → (∀ b o, h0.get? b = some o → h'.get? b = some o) → SI i h'
  step : ∀ (i : Nat) (v : Value) (A : Around) (E : Value → Shared → Prop) (s : Shared) (Q : Bool → Shared → Prop), items[i]? = some v → A.units < n → (∀ b o, h0.get? b = some o → s.heap.get? b = some o) → SI i s.heap →
    (∀ b h' tk, Heap.SameBut S s.heap h' → s.toks ≤ tk → SI (i + 1) h' → Q b { s with heap := h', toks := tk }) → wpAny (model P w) A (setAdd S v) Q E s
section
variable {P : Program} {w : World} {A : Around} {E : Value → Shared → Prop} {s : Shared}
theorem set_loop {I : Addr} {fp wr : List Addr} {G : Array GenState → Array GenState → Prop} {Pv : Nat → Value → Prop} {St : Nat → Shared → Prop} {R : Result → Shared → Prop} {N : Nat} {items : Array Value} {SI : Nat → Heap → Prop} {h0 : Heap} {S : Addr}
    (W : WalksS P w A.in1 I fp wr G items.size Pv St) (hSf : S ∉ fp) (hval : ∀ i v, Pv i v → items[i]? = some v) (V : SetInv P w N S items h0 SI) (hS0 : h0.get? S = none) (hw0 : ∀ b ∈ wr, h0.get? b = none) (hu : A.in1.units < N) :
    ∀ (k i : Nat) (s : Shared), items.size - i = k → i ≤ items.size → St i s → (∀ b o, h0.get? b = some o → s.heap.get? b = some o) → SI i s.heap →
      (∀ s', Moved (S :: wr) G s s' → SI items.size s'.heap → (∀ b o, h0.get? b = some o → s'.heap.get? b = some o) → R (.ok (.ret .none)) s') →
      codeAny (model P w) A (.builtin "set.update.loop" ⟨[.ref S, .ref I], []⟩) R s := by
  have hSw : S ∉ wr := fun h => hSf (W.sub _ h)
  have hsub : ∀ b ∈ wr, b ∈ S :: wr := fun b hb => List.mem_cons_of_mem _ hb
  have keepM : ∀ {s s' : Shared}, Moved wr G s s' → (∀ b o, h0.get? b = some o → s.heap.get? b = some o) → ∀ b o, h0.get? b = some o → s'.heap.get? b = some o := fun hm hkp b o e =>
    hm.heap b o (fun hb => by rw [hw0 b hb] at e; cases e) (hkp b o e)
  intro k
  induction k with
  | zero =>
    intro i s hk' hi hst hkp hS hR
    have hin : i = items.size := by omega
    subst hin
    refine codeAny_builtin F.entry_set_update_loop ?_
    rw [Around.under_plainId F.plain_set_update_loop _]
    show wpAny _ A.in1 (pyNext (.ref I) >>= _) _ _ s
    refine wpAny_bind (W.done s _ _ hst fun s' hm => ?_)
    show wpAny _ A.in1 (ret Value.none) _ _ s'
    have hkp' := keepM hm hkp
    exact wpAny_pure (hR s' (hm.mono hsub) (V.keep _ _ _ hS (fun o e => hm.heap S o hSw e) hkp') hkp')
  | succ k ih =>
    intro i s hk' hi hst hkp hS hR
    have hlt : i < items.size := by omega
    refine codeAny_builtin F.entry_set_update_loop ?_
    rw [Around.under_plainId F.plain_set_update_loop _]
    show wpAny _ A.in1 (pyNext (.ref I) >>= _) _ _ s
    refine wpAny_bind (W.item i s _ _ hlt hst fun v s' hP hst' hm => ?_)
    have hp := hval i v hP
    have hkp' := keepM hm hkp
    have hS' := V.keep _ _ _ hS (fun o e => hm.heap S o hSw e) hkp'
    show wpAny _ A.in1 (holding [v] (setAdd S v) >>= _) _ _ s'
    refine wpAny_bind (wpAny_holding ?_)
    refine V.step i v A.in1 _ s' _ hp hu hkp' hS' fun b h' tk hsb htk hS2 => ?_
    have hkp2 : ∀ b o, h0.get? b = some o → h'.get? b = some o := fun b o e => (hsb.2 b (fun z => by rw [z, hS0] at e; cases e)).trans (hkp' b o e)
    refine wpAny_pure ⟨plainId_quiet F.plain_set_update_loop _, ih (i + 1) _ (by omega) hlt (W.frame _ s' _ _ hst' htk fun b hb o e => ?_) hkp2 hS2 fun s'' hm'' hS'' hkp'' => ?_⟩
    · rw [hsb.2 b (fun h : b = S => hSf (by rw [← h]; exact hb))]; exact e
    · refine hR s'' (Moved.trans W.gtrans ((hm.mono hsub).then_heap htk fun b o hb e => ?_) hm'') hS'' hkp''
      rw [hsb.2 b (fun h : b = S => hb (by rw [h]; exact List.mem_cons_self))]; exact e
set_option maxRecDepth 100000 in
set_option maxHeartbeats 3200000 in
theorem call_set_inv {l : Addr} {items : Array Value} {SI : Nat → Heap → Prop} {Q : Value → Shared → Prop} (hh : A.handled = none) (hl : s.heap.IsList l items) (V : SetInv P w (A.units + 10) s.heap.objs.size items s.heap SI)
    (h : ∀ (h' : Heap) (tk : Nat), SI items.size h' → (∀ b o, s.heap.get? b = some o → h'.get? b = some o) → Q (.ref s.heap.objs.size) { s with heap := h', toks := tk }) :
    wpAny (model P w) A (call (.type "set") [.ref l]) Q E s := by
  obtain ⟨c, tl, hmro⟩ := F.called_set.mro
  have hmade := F.called_set.made
  have hsub := F.called_set.sub
  refine wpAny_call (codeAny_of_tree ?_)
  show wpAny _ _ (callAny (.type "set") _) _ _ _
  refine wpAny_pure ⟨Code.quiet_builtin _ (by decide +kernel), codeAny_builtin F.entry_type_call ?_⟩
  rw [Around.under_plain (weight_type_call_type "set" [.ref l] []) rfl]
  have h1 := F.called_set.notType
  have h2 := F.called_set.canCreate
  have hct := F.typeCall_set_1 (.ref l)
  repeat (any_goals (first | assumption | wp_step))
  refine codeAny_mono (code_set_led1 (.ref l) (E := E) (Q₁ := fun obj s₁ => obj = .ref s.heap.objs.size ∧ s₁ = { s with heap := s.heap.push (newSet w) }) ⟨rfl, rfl⟩) fun r s₁ hr => ?_
  cases r with
  | error e => exact hr
  | ok fl =>
    cases fl with
    | ret obj =>
      obtain ⟨rfl, rfl⟩ := hr
      have hS : (s.heap.push (newSet w)).get? s.heap.objs.size = some (newSet w) := Heap.get?_push_size _ rfl
      have hT : Shared.TypeIs { s with heap := s.heap.push (newSet w) } (.ref s.heap.objs.size) "set" := ⟨_, hS, rfl⟩
      have hli := F.called_set.init.lookup
      have hbi := F.called_set.init.bind (.ref s.heap.objs.size)
      repeat (any_goals (first | assumption | wp_step))
      refine codeAny_mono (codeAny_call_builtin (R := wants (fun r s₂ => r = .none ∧ ∃ h' tk, s₂ = { s with heap := h', toks := tk } ∧ SI items.size h' ∧
          (∀ b o, s.heap.get? b = some o → h'.get? b = some o)) E) F.called_set.init.plain F.entry_set_init (check_set_init_1 hT ?_)) fun r₂ s₂ hr₂ => ?_
      · obtain ⟨ol, hol, hcl, nl, hdl⟩ := hl
        obtain ⟨ocls, odict, odata, oslots⟩ := ol
        simp only at hcl hdl
        subst hcl; subst hdl
        have hol' : (s.heap.push (newSet w)).get? l = some { cls := .type "list", dict := odict, data := .seq items nl, slots := oslots } := Heap.get?_push_of_some _ hol
        have hsls := F.sub_list_set
        have hslf := F.sub_list_frozenset
        have hne : (Value.type "list" == Value.type "dict") = false := by decide
        have hl1 : (s.heap.push (newSet w)).IsList l items := ⟨_, hol', rfl, nl, rfl⟩
        unfold Builtin.«set.__init__» noKeywords Builtin.Frozenset.updateFrom
        generalize hPI : pyIter = PI
        wp_walk
        subst hPI
        refine wpAny_pyIter_list hl1 ?_
        refine wpAny_bind (wpAny_runValue ?_)
        have hlS : l < s.heap.objs.size := Heap.lt_size hol
        have hh3 : A.in1.in1.in1.handled = none := by simp [hh]
        have hneI : l ≠ (s.heap.push (newSet w)).objs.size := by
          rw [Heap.size_push]; exact Nat.ne_of_lt (Nat.lt_succ_of_lt hlS)
        have hSf : s.heap.objs.size ∉ [(s.heap.push (newSet w)).objs.size, l] := by
          rw [Heap.size_push]; simp only [List.mem_cons, List.mem_singleton, List.not_mem_nil, or_false, not_or]
          exact ⟨Nat.ne_of_lt (Nat.lt_succ_self _), Nat.ne_of_gt hlS⟩
        have none_of : ∀ b, s.heap.objs.size ≤ b → s.heap.get? b = none := fun b hb => by
          cases q : s.heap.get? b with
          | none => rfl
          | some o => exact absurd (Nat.lt_of_lt_of_le (Heap.lt_size q) hb) (Nat.lt_irrefl _)
        refine set_loop (N := A.units + 10) ((Walks.list hh3 _ l hneI items).toS) hSf (fun i v hv => hv) V (none_of _ (Nat.le_refl _)) (fun b hb => none_of b (by
            rw [List.mem_singleton.mp hb, Heap.size_push]
            exact Nat.le_succ _)) (by have d3 : A.in1.in1.in1.units = A.units + 1 + 1 + 1 := rfl; omega) (items.size - 0) 0 _ (by omega) (Nat.zero_le _)
          ⟨⟨_, Heap.get?_push_size _ rfl, rfl, rfl⟩, (hl1.push _)⟩ (fun b o e => Heap.get?_push_of_some _ (Heap.get?_push_of_some _ e)) ?hS0 ?hR
        case hS0 => exact V.new _ (Heap.get?_push_of_some _ hS) fun b o e => Heap.get?_push_of_some _ (Heap.get?_push_of_some _ e)
        case hR =>
          intro s' hm hS' hkp
          obtain ⟨h', g2, d', tk', os'⟩ := s'
          have eg : g2 = s.gens := hm.gens
          have ed : d' = s.drawn := hm.drawn
          have eo : os' = s.os := hm.os
          subst eg; subst ed; subst eo
          show wpAny _ _ _ _ _ _
          refine wpAny_pure ?_
          show wpAny _ _ (ret Value.none) _ _ _
          exact wpAny_pure ⟨rfl, h', tk', rfl, hS', hkp⟩
      · cases r₂ with
        | error e => exact hr₂
        | ok fl₂ =>
          cases fl₂ with
          | ret r =>
            obtain ⟨rfl, h', tk, rfl, hS', hk'⟩ := hr₂
            repeat (any_goals (first | assumption | wp_step))
            exact h _ _ hS' hk'
          | _ => exact hr₂.elim
    | _ => exact hr.elim
end
end Kd
/-! sorted(set(xs)), scalars. -/
namespace Kd
open PySem PySem.Spec PyProof.Rows L2
/-- a set by its very elements -/
def SetRaw (w : World) (a : Addr) (es : Array (Int × Value)) : HO := .ext fun h => ∃ o ep t, h.get? a = some o ∧ o.ExactSet ∧ o.data = .set es ep t ∧ t.fits es.size = true ∧ es.size < scanBound ∧ Ris t.place.toList ∧ (w.params.followText "set-order" = true ∨ t.led = true)
theorem nub_mem : ∀ {ds : List D} {d : D}, d ∈ nub ds ↔ d ∈ ds
  | [], d => by simp [nub]
  | e :: ds, d => by
    simp only [nub, List.mem_cons, List.mem_filter, nub_mem (ds := ds), decide_eq_true_eq]
    constructor
    · rintro (h | h)
      · exact .inl h
      · exact .inr h.1
    · rintro (h | h)
      · exact .inl h
      · by_cases q : d = e
        · exact .inl q
        · exact .inr ⟨h, q⟩
theorem nub_nodup : ∀ ds : List D, (nub ds).Nodup
  | [] => .nil
  | d :: ds => by
    simp only [nub]
    refine List.nodup_cons.mpr ⟨by simp, (nub_nodup ds).filter _⟩
theorem nub_perm {ds es : List D} (h1 : es.Nodup) (h2 : ∀ d, d ∈ es ↔ d ∈ ds) : es.Perm (nub ds) := (List.perm_ext_iff_of_nodup h1 (nub_nodup ds)).mpr fun d => (h2 d).trans nub_mem.symm
section
variable {X : Cx}
/-- what set(..) answers -/
def rSetK (X : Cx) : List V → Hp → VK → Prop := fun vs H Q => ∃ (T : Cls') (Y : XK) (m : List Addr) (S : Sto) (x : Kd.X) (v : V) (ds : List D), vs = [v] ∧ RelS (gd X) m H S ∧ RelX X.K m H x v ∧ litems x S = .ok ds S ∧ setOk ds = true ∧
  ∀ p es us es', H p = none → Vals us (es.toList.map (·.2)) → RelDs X.K m H es' us → es'.Perm (nub ds) → Q (.ref p) (upd H p (SetRaw X.w p es))
theorem scal_is {P : Program} {w : World} {K : PySem.W.Frag} {m : List Addr} {H : Hp} {d : D} {v : V} {u : Value} (h : scalD d = true) (r : RelD K m H d v) (ru : RelV v u) : ∃ k : Key, d = kD k ∧ (mixKind P w).is k u = true ∧ v = kV k := by
  obtain ⟨k, rfl⟩ := scalD_key h
  have e := kD_rel r
  subst e
  exact ⟨k, rfl, kV_is ru, rfl⟩
theorem kV_of {P : Program} {w : World} {k : Key} {u : Value} (h : (mixKind P w).is k u = true) : RelV (kV k) u := by
  rcases mix_shape h with ⟨i, t, rfl, rfl⟩ | ⟨z, t, rfl, rfl⟩
  · exact ⟨t, rfl⟩
  · exact ⟨t, rfl⟩
theorem kD_self {K : PySem.W.Frag} {m : List Addr} {H : Hp} (k : Key) : RelD K m H (kD k) (kV k) := by cases k <;> rfl
theorem cr_setK (hc : X.calm = true) (hu : X.A.units + 64 < cLine) : CallR X (.type "set") (rSetK X) := by
  intro pins s σ H vs us Q I rv ⟨T, Y, m, S, x, v, ds, ev, R, rx, hl, hok, q⟩
  subst ev
  obtain ⟨u, rfl, ru⟩ := vals1 rv
  have h0 : Pst (gd X) T Y m H ((litems x >>= fun ds => M.pure ds) S) fun _ _ _ es => es = ds := by
    rw [bindE, hl]
    exact fun m1 H1 e1 R1 => rfl
  obtain ⟨ds', a, ws, rfl, h1, h2, h3, hl'⟩ := litems_ok h0 R rx
  rw [hl] at hl'
  cases hl'
  cases (show u = .ref a from ru)
  obtain ⟨its, rvs, p, hz⟩ := I.list h1
  simp only [setOk, Bool.and_eq_true, decide_eq_true_eq] at hok
  have hlen : its.length = ds.length := by have a := rvs.length; have b := RelDs.length (K := X.K) h2; omega
  -- the i-th item's key
  have keyAt : ∀ (i : Nat) (y : Value), its[i]? = some y → ∃ k : Key, ds[i]? = some (kD k) ∧ (mixKind X.prog X.w).is k y = true := fun i y hy => by
    have hi : i < its.length := (List.getElem?_eq_some_iff.mp hy).1
    obtain ⟨z, e1, r1⟩ := h2.get (List.getElem?_eq_getElem (show i < ds.length by omega))
    obtain ⟨y', e2, r2⟩ := rvs.get e1
    rw [hy] at e2
    cases e2
    obtain ⟨k, e3, e4, _⟩ := scal_is (P := X.prog) (w := X.w) (List.all_eq_true.mp hok.1 _ (List.getElem_mem (show i < ds.length by omega))) r1 r2
    exact ⟨k, by rw [List.getElem?_eq_getElem (show i < ds.length by omega), e3], e4⟩
  have V : SetInv X.prog X.w (X.A.units + 10) s.heap.objs.size its.toArray s.heap (fun i h => ∃ n, n ≤ i ∧ SetR2 X.prog X.w h s.heap.objs.size (fun k => decide (kD k ∈ ds.take i)) n) := by
    refine ⟨fun h e _ => ⟨0, Nat.le_refl _, _, #[], 0, _, e, ⟨rfl, rfl, rfl⟩, rfl, (fun e he => by simp at he), (by simp), (fun k => by simp), (by decide), (by rfl), rfl, List.Pairwise.nil, ?_⟩, fun i h h' ⟨n, hn, r⟩ k _ => ⟨n, hn, r.at k⟩, fun i y A E s1 Q1 hy hA hkp ⟨n, hn, r⟩ hQ => ?_⟩
    · show _ ∨ (!X.w.params.followText "set-order") = true
      cases X.w.params.followText "set-order"
      · exact .inr rfl
      · exact .inl rfl
    · obtain ⟨k, e1, e2⟩ := keyAt i y (by simpa using hy)
      have hi : i < ds.length := (List.getElem?_eq_some_iff.mp e1).1
      unfold setAdd
      refine wpAny_holding (wpAny_bind ((mixKind X.prog X.w).pyHash e2 ?_))
      refine set2_add (s := { s1 with toks := s1.toks + 1 }) r e2 (by omega) fun b h' hsb r' => ?_
      refine hQ b h' (s1.toks + 1) hsb (Nat.le_succ _) ⟨_, ?_, r'.congr fun j => ?_⟩
      · split <;> omega
      · rw [List.take_add_one, e1]
        have : (kD j = kD k) ↔ j = k := ⟨kD_inj, fun z => by rw [z]⟩
        simp [List.mem_append, this, Bool.decide_or]
  refine call_set_inv (I.ok.hd hc) p.isList V fun h' tk ⟨n, hn, o, es, ep, t, ho, hex, hd, g, nd, hm, hb, hf, hsz, hr, hl⟩ hk => ?_
  have I1 : Inv X pins σ (upd H s.heap.objs.size (SetRaw X.w s.heap.objs.size es)) { s with heap := h', toks := tk } := I.laid hk (Nat.le_refl _) (by
    refine ⟨⟨o, ep, t, ho, hex, hd, hf, hb, hr, hl⟩, ⟨o, ho⟩, ?_⟩
    rintro g1 g2 ⟨o', ep', t', q1, q2⟩ k
    exact ⟨o', ep', t', k o' q1, q2⟩)
  have vals : ∀ l : List (Int × Value), (∀ e ∈ l, GoodK X.prog X.w e) → Vals (l.map fun e => kV (kyE e)) (l.map (·.2)) ∧ RelDs X.K m H (l.map fun e => kD (kyE e)) (l.map fun e => kV (kyE e)) := by
    intro l
    induction l with
    | nil => intro _; exact ⟨.nil, rfl⟩
    | cons e l ih =>
      intro hg
      obtain ⟨i1, i2⟩ := ih fun e he => hg e (List.mem_cons_of_mem _ he)
      have ge := hg e (by simp)
      have is := (goodK_is ge (kyE e)).2 rfl
      exact ⟨.cons (kV_of is) i1, _, _, rfl, kD_self _, i2⟩
  obtain ⟨v1, v2⟩ := vals es.toList g
  refine ⟨.ref s.heap.objs.size, _, I1, rfl, q _ es _ _ (I.hok.fresh (Nat.le_refl _)) v1 v2 (nub_perm ?_ fun d => ?_)⟩
  · have : (es.toList.map fun e => kD (kyE e)) = (es.toList.map kyE).map kD := by rw [List.map_map]; rfl
    rw [this]
    exact List.pairwise_map.mpr (nd.imp fun h e => h (kD_inj e))
  · have ht : ds.take its.toArray.size = ds := List.take_of_length_le (by simp [hlen])
    rw [ht] at hm
    constructor
    · intro h
      obtain ⟨e, he, rfl⟩ := List.mem_map.mp h
      simpa using (hm (kyE e)).2 (List.mem_map.mpr ⟨e, he, rfl⟩)
    · intro h
      obtain ⟨k, rfl⟩ := scalD_key (List.all_eq_true.mp hok.1 d h)
      have := (hm k).1 (by simpa using h)
      obtain ⟨e, he, e2⟩ := List.mem_map.mp this
      exact List.mem_map.mpr ⟨e, he, by rw [e2]⟩
/-- sorted of a set -/
def rSortedSetK (X : Cx) : List V → Hp → VK → Prop := fun vs H Q => ∃ (m : List Addr) (a : Addr) (es : Array (Int × Value)) (us : List V) (es' : List D), vs = [.ref a] ∧ H a = some (SetRaw X.w a es) ∧ Vals us (es.toList.map (·.2)) ∧ RelDs X.K m H es' us ∧ sortOk es' = true ∧
  ∀ ws p, H p = none → RelDs X.K m H (sortD es') ws → Q (.ref p) (upd H p (.lst ws))
theorem cr_sortedSetK (hc : X.calm = true) (hu : X.A.units + 66 < cLine) : CallR X (.builtin "sorted") (rSortedSetK X) := by
  intro pins s σ H vs us Q I rv ⟨m, a, es, ws, es', ev, ha, h1, h2, ok, q⟩
  subst ev
  obtain ⟨u, rfl, ru⟩ := vals1 rv
  cases (show u = .ref a from ru)
  obtain ⟨⟨o, ep, t, ho, hex, hd, hf, hb, hr, hl⟩, _⟩ := I.hok a _ ha
  have hlen : es'.length = es.size := (RelDs.length (K := X.K) h2).trans (h1.length.trans (by rw [List.length_map, Array.length_toList]))
  refine sorted_of hu ok (by rw [hlen, sizeLine_eq]; have e4 : scanBound = 4096 := rfl; rw [e4] at hb; omega) (fun R k => ?_) q
  refine collect_set (A := X.A.in1) (I.ok.hd hc) ⟨o, ho, hex.1, hd⟩ hf hb hr hl fun s1 out k1 hz g1 o1 pm => ?_
  have e : s1 = { s with heap := s1.heap, gens := s1.gens, drawn := s1.drawn, toks := s1.toks } := by
    cases s1
    cases s
    cases o1
    rfl
  have J : Inv X pins σ H s1 := by
    rw [e]
    exact I.call (ch := []) (Un.kept k1) (I.hok.kept k1) (by rw [g1]; exact I.bare) (fun _ z => nomatch z)
  -- the row's V's and data, in the order of out
  have row : ∀ (l : List Value) (out : List Value), out.Perm l → ∀ (us : List V) (es : List D), Vals us l → RelDs X.K m H es us → ∃ us' es'', Vals us' out ∧ RelDs X.K m H es'' us' ∧ es''.Perm es := by
    intro l out pm
    induction pm with
    | nil => intro us es a b; exact ⟨us, es, a, b, .refl _⟩
    | @cons x l1 l2 p ih =>
      intro us es a b
      cases a with
      | @cons v _ vs _ r1 r2 =>
        cases es with
        | nil => simp only [RelDs] at b; cases b
        | cons d ds =>
          simp only [RelDs] at b
          obtain ⟨v', r, e, b1, b2⟩ := b
          cases e
          obtain ⟨us', es'', c1, c2, c3⟩ := ih vs ds r2 b2
          exact ⟨v :: us', d :: es'', .cons r1 c1, ⟨v, us', rfl, b1, c2⟩, c3.cons d⟩
    | swap x y l =>
      intro us es a b
      cases a with
      | cons r1 r2 => cases r2 with
        | cons r3 r4 =>
          cases es with
          | nil => simp only [RelDs] at b; cases b
          | cons d ds =>
            simp only [RelDs] at b
            obtain ⟨v', r, e, b1, b2⟩ := b
            cases e
            cases ds with
            | nil => simp only [RelDs] at b2; cases b2
            | cons d2 ds =>
              simp only [RelDs] at b2
              obtain ⟨v2, r', e, b3, b4⟩ := b2
              cases e
              exact ⟨_ :: _ :: _, d2 :: d :: ds, .cons r3 (.cons r1 r4), ⟨_, _, rfl, b3, _, _, rfl, b1, b4⟩, .swap d d2 ds⟩
    | trans p1 p2 ih1 ih2 =>
      intro us es a b
      obtain ⟨us1, es1, c1, c2, c3⟩ := ih2 us es a b
      obtain ⟨us2, es2, d1, d2, d3⟩ := ih1 us1 es1 c1 c2
      exact ⟨us2, es2, d1, d2, d3.trans c3⟩
  obtain ⟨us', es'', c1, c2, c3⟩ := row _ _ pm ws es' h1 h2
  exact k s1 out us' es'' J c1 c2 c3
end
end Kd
/-! sorted(set(..)), len(set(..)) as expressions. -/
namespace Kd
open PySem PySem.Spec PyProof.Rows L2
theorem all_perm {ds es : List D} {p : D → Bool} (pe : es.Perm ds) (z : ds.all p = true) : es.all p = true := List.all_eq_true.mpr fun d hd => List.all_eq_true.mp z d (pe.mem_iff.mp hd)
theorem sims_iff : ∀ {l : List D}, D.sims l = true ↔ ∀ d ∈ l, d.sim = true
  | [] => by simp [D.sims]
  | d :: l => by simp [D.sims, sims_iff (l := l)]
theorem deps_iff {n : Nat} : ∀ {l : List D}, D.deps l ≤ n ↔ ∀ d ∈ l, d.dep ≤ n
  | [] => by simp [D.deps]
  | d :: l => by simp only [D.deps, List.mem_cons, forall_eq_or_imp, ← deps_iff (l := l)]; omega
theorem sortOk_perm {ds es : List D} (pe : es.Perm ds) (h : sortOk ds = true) : sortOk es = true := by
  obtain ⟨hc, hs, hd, hk⟩ := ok_parts h
  simp only [sortOk, Bool.and_eq_true, Bool.or_eq_true, decide_eq_true_eq]
  refine ⟨⟨⟨?_, sims_iff.mpr fun d hd => sims_iff.mp hs d (pe.mem_iff.mp hd)⟩, deps_iff.mpr fun d hd' => deps_iff.mp hd d (pe.mem_iff.mp hd')⟩, List.all_eq_true.mpr fun a ha => List.all_eq_true.mpr fun b hb => hc.perm pe a ha b hb⟩
  rcases hk with z | z | z | z | z
  · exact .inl (.inl (.inl (.inl (all_perm pe z))))
  · exact .inl (.inl (.inl (.inr (all_perm pe z))))
  · exact .inl (.inl (.inr (all_perm pe z)))
  · exact .inl (.inr (all_perm pe z))
  · exact .inr (all_perm pe z)
theorem sortD_eq {ds es : List D} (pe : es.Perm ds) (h : sortOk ds = true) : sortD es = sortD ds := by
  have hc := (ok_parts h).1
  have he := hc.perm pe
  exact srt_uniq (he.perm (sortD_perm es)) (sortD_srt he) (sortD_srt hc) ((sortD_perm es).trans (pe.trans (sortD_perm ds).symm))
section
variable {X : Cx}
/-- len of a set -/
def rLenSetK (X : Cx) : List V → Hp → VK → Prop := fun vs H Q => ∃ (a : Addr) (es : Array (Int × Value)), vs = [.ref a] ∧ H a = some (SetRaw X.w a es) ∧ Q (.int es.size) H
theorem cr_lenSetK : CallR X (.builtin "len") (rLenSetK X) := by
  intro pins s σ H vs us Q I rv ⟨a, es, ev, ha, q⟩
  subst ev
  obtain ⟨u, rfl, ru⟩ := vals1 rv
  cases (show u = .ref a from ru)
  obtain ⟨⟨o, ep, t, ho, hex, hd, hf, hb, hr, hl⟩, _⟩ := I.hok a _ ha
  have e4 : scanBound = 4096 := rfl
  refine PySem.call_len_set ho hex hd hf (by rw [e4] at hb; omega) ?_
  exact ⟨.int es.size, H, I.kept fun b o e => e, ⟨_, rfl⟩, q⟩
variable {T : Cls'} {W : WX}
theorem set_parts {m : List Addr} {H : Hp} {S : Sto} {xs : List Kd.X} {vs : List V} {f : List D → M Kd.X} {b : Bi} {Y : XK} {k : List Addr → Hp → Sto → Kd.X → Prop} (hb : ∀ x, bltX b [x] = litems x >>= f) (hn : ∀ x y r, bltX b (x :: y :: r) = M.bad) (h0 : bltX b [] = M.bad)
    (R : RelS (gd X) m H S) (rvs : RelXs X.K m H xs vs) (z : Pst (gd X) T Y m H (bltX b xs S) k) : ∃ x v ds, xs = [x] ∧ vs = [v] ∧ RelX X.K m H x v ∧ litems x S = .ok ds S ∧ Pst (gd X) T Y m H (f ds S) k := by
  cases xs with
  | nil => rw [h0] at z; exact z.elim
  | cons x r =>
    cases r with
    | cons y r => rw [hn] at z; exact z.elim
    | nil =>
      obtain ⟨v, rfl, rx⟩ := RelXs.one (G := gd X) rvs
      rw [hb] at z
      obtain ⟨ds, a, ws, rfl, h1, h2, h3, hl⟩ := litems_ok z R rx
      exact ⟨x, _, ds, rfl, rfl, rx, hl, h3⟩
theorem nub_len (ds : List D) : (nub ds).length ≤ ds.length := by
  induction ds with
  | nil => exact Nat.le_refl _
  | cons d ds ih =>
    simp only [nub, List.length_cons]
    have := List.length_filter_le (fun e => decide (e ≠ d)) (nub ds)
    omega
theorem none_back {m m' : List Addr} {H H' : Hp} {p : Addr} (e : Ext m H m' H') (h : H' p = none) : H p = none := by
  cases q : H p with
  | none => rfl
  | some o => exact absurd h (e.there p (by rw [q]; simp))
theorem se_sortset {p p2 q q2 : Pos} {y : Expr} {g : Env → M (List Kd.X)} (hc : X.calm = true) (hu : X.A.units + 66 < cLine) (hg : Gl X "sorted") (hm : X.mg "sorted" = none) (hg2 : Gl X "set") (hm2 : X.mg "set" = none) (ns : noStar y = true) (hX : PA X [y] (tXs X T W g)) :
    PE X (.Call (.Name "sorted" p) [.Call (.Name "set" p2) [y] [] q2] [] q) (tV X T W fun ρ => g ρ >>= fun xs => bltX .sortset xs) := by
  have hs : PE X (.Call (.Name "set" p2) [y] [] q2) (tCB (rSetK X) (tXs X T W g)) := pe_callTy (cr_setK hc (by omega)) hg2 hm2 (by rfl) hX (by decide) (by decide) (star1 ns) (star_plain (by rfl))
  refine pe_mono (pe_callB (cr_sortedSetK hc hu) hg hm (by rfl) (pa_cons hs pa_nil) (by decide) (by decide)) fun σ H Q ⟨m, S, ρ, E, R, z⟩ => ?_
  refine ⟨m, S, ρ, E, R, z.bind.imp fun m1 H1 S1 xs e R1 q0 vs rvs => ?_⟩
  obtain ⟨x, v, ds, rfl, rfl, rx, hl, q1⟩ := set_parts (b := .sortset) (f := fun ds => if setOk ds && sortOk (nub ds) then M.pure (.tl (sortD (nub ds))) else M.bad) (fun _ => rfl) (fun x y r => by cases x <;> rfl) rfl R1 rvs (q0.shift e)
  by_cases ok : (setOk ds && sortOk (nub ds)) = true
  · rw [if_pos ok] at q1
    simp only [Bool.and_eq_true] at ok
    refine ⟨T, WE W σ, m1, S1, x, v, ds, rfl, R1, rx, hl, ok.1, fun a es us es' hp h1 h2 h3 => ?_⟩
    refine ⟨m1, a, es, us, es', rfl, upd_same, h1, h2.ext (ext_new hp), sortOk_perm h3 ok.2, fun ws p2 hp2 r => ?_⟩
    have e3 : Ext m1 H1 m1 (upd (upd H1 a (SetRaw X.w a es)) p2 (.lst ws)) := (ext_new hp).trans (ext_new hp2)
    have e1 : sortD es' = sortD (nub ds) := sortD_eq h3 ok.2
    rw [e1] at r
    have R2 := (R1.laid (o := SetRaw X.w a es) hp).laid (o := .lst ws) hp2
    refine q1 m1 _ e3 R2 (.ref p2) ⟨p2, ws, rfl, upd_same, (R1.laid (o := SetRaw X.w a es) hp).new hp2, r.ext (ext_new hp2), ?_⟩ (none_back (e.trans (ext_new hp)) hp2)
    have := nub_len ds
    have hz := ok.1
    simp only [setOk, Bool.and_eq_true, decide_eq_true_eq] at hz
    have e4 : scanBound = 4096 := rfl
    rw [(sortD_perm _).length_eq, sizeLine_eq]
    omega
  · rw [if_neg ok] at q1; exact q1.elim
theorem se_lenset {p p2 q q2 : Pos} {y : Expr} {g : Env → M (List Kd.X)} (hc : X.calm = true) (hu : X.A.units + 66 < cLine) (hg : Gl X "len") (hm : X.mg "len" = none) (hg2 : Gl X "set") (hm2 : X.mg "set" = none) (ns : noStar y = true) (hX : PA X [y] (tXs X T W g)) :
    PE X (.Call (.Name "len" p) [.Call (.Name "set" p2) [y] [] q2] [] q) (tV X T W fun ρ => g ρ >>= fun xs => bltX .lenset xs) := by
  have hs : PE X (.Call (.Name "set" p2) [y] [] q2) (tCB (rSetK X) (tXs X T W g)) := pe_callTy (cr_setK hc (by omega)) hg2 hm2 (by rfl) hX (by decide) (by decide) (star1 ns) (star_plain (by rfl))
  refine pe_mono (pe_callB cr_lenSetK hg hm (by rfl) (pa_cons hs pa_nil) (by decide) (by decide)) fun σ H Q ⟨m, S, ρ, E, R, z⟩ => ?_
  refine ⟨m, S, ρ, E, R, z.bind.imp fun m1 H1 S1 xs e R1 q0 vs rvs => ?_⟩
  obtain ⟨x, v, ds, rfl, rfl, rx, hl, q1⟩ := set_parts (b := .lenset) (f := fun ds => if setOk ds then M.pure (.dv (.int (nub ds).length)) else M.bad) (fun _ => rfl) (fun x y r => by cases x <;> rfl) rfl R1 rvs (q0.shift e)
  by_cases ok : setOk ds = true
  · rw [if_pos ok] at q1
    refine ⟨T, WE W σ, m1, S1, x, v, ds, rfl, R1, rx, hl, ok, fun a es us es' hp h1 h2 h3 => ⟨a, es, rfl, upd_same, ?_⟩⟩
    have hlen : es.size = (nub ds).length := by
      rw [← h3.length_eq, RelDs.length (K := X.K) h2, h1.length, List.length_map, Array.length_toList]
    have := q1 m1 _ (ext_new hp) (R1.laid (o := SetRaw X.w a es) hp) (.int (nub ds).length) rfl trivial
    rw [hlen]
    exact this
  · rw [if_neg ok] at q1; exact q1.elim
end
end Kd
/-! Calls with keywords. -/
namespace Kd
open PySem PySem.Spec PyProof.Rows L2
/-- how a call with np positional arguments and the keywords ks binds: perm puts them in the parameters' order -/
def KB (K : PySem.W.Frag) (fd : FuncData) (ps : List Str) (np : Nat) (ks : List Str) (perm : List Nat) : Prop :=
  perm.length = ps.length ∧ (∀ i ∈ perm, i < np + ks.length) ∧ ∀ (s : Shared) (us ws : List Value), K.In s.heap → us.length = np → ws.length = ks.length → BindsTo s fd ⟨us, ks.zip ws⟩ (ps.zip (perm.map fun i => (us ++ ws).getD i .none))
theorem kw_names {pos : Pos} {env : PySem.Env} : ∀ {kws : List Keyword}, (backToKw pos (keywordEach kws env)).map (·.1) = kws.map (·.arg)
  | [] => rfl
  | ⟨n, e, p⟩ :: kws => by
    show n :: (backToKw pos (keywordEach kws env)).map (·.1) = _
    rw [kw_names (kws := kws)]
    rfl
theorem kw_filter {pos : Pos} {env : PySem.Env} {kws : List Keyword} {ks : List Str} (h : kws.map (·.arg) = ks.map some) : (backToKw pos (keywordEach kws env)).filterMap (·.1) = ks := by
  have e : (backToKw pos (keywordEach kws env)).filterMap (·.1) = ((backToKw pos (keywordEach kws env)).map (·.1)).filterMap id := by rw [List.filterMap_map]; rfl
  rw [e, kw_names, h, List.filterMap_map]
  exact List.filterMap_some
theorem kw_all {pos : Pos} {env : PySem.Env} {kws : List Keyword} {ks : List Str} (h : kws.map (·.arg) = ks.map some) : (backToKw pos (keywordEach kws env)).all (·.1.isSome) = true ∧ (backToKw pos (keywordEach kws env)).any (·.1.isNone) = false := by
  have e1 : (backToKw pos (keywordEach kws env)).all (·.1.isSome) = ((backToKw pos (keywordEach kws env)).map (·.1)).all (·.isSome) := by rw [List.all_map]; rfl
  have e2 : (backToKw pos (keywordEach kws env)).any (·.1.isNone) = ((backToKw pos (keywordEach kws env)).map (·.1)).any (·.isNone) := by rw [List.any_map]; rfl
  rw [e1, e2, kw_names, h]
  constructor
  · rw [List.all_map]; exact List.all_eq_true.mpr fun _ _ => rfl
  · rw [List.any_map]; exact List.any_eq_false.mpr fun _ _ => by simp
section
variable {X : Cx} {T : Cls'} {W : WX}
theorem pk_mono {kws : List Keyword} {t t' : TA} (h : PK X kws t) (q : ∀ σ H Q, t' σ H Q → t σ H Q) : PK X kws t' := ⟨fun p pins s σ H Q I z => h.run p pins s σ H Q I (q σ H Q z)⟩
theorem pk_nilD : PK X [] (tDs X T W fun _ => M.pure []) := pk_mono pk_nil fun σ H Q ⟨m, S, ρ, E, R, z⟩ => z.pure R [] rfl
theorem pk_consD {e : Expr} {kws : List Keyword} {nm : Option Str} {kp : Pos} {f : Env → M Kd.X} {g : Env → M (List D)} (h : PE X e (tV X T W f)) (h2 : PK X kws (tDs X T W g)) :
    PK X (⟨nm, e, kp⟩ :: kws) (tDs X T W fun ρ => (f ρ >>= force) >>= fun x => g ρ >>= fun xs => M.pure (x :: xs)) := by
  refine pk_mono (pk_cons (pe_force h) h2) fun σ H Q ⟨m, S, ρ, E, R, z⟩ => ?_
  refine ⟨m, S, ρ, E, R, z.bind.imp fun m1 H1 S1 d e R1 q v rv => ?_⟩
  refine ⟨m1, S1, ρ, RelE.ext (G := gd X) e E, R1, (q.bind.shift e).imp fun m2 H2 S2 xs e2 R2 q2 vs rvs => ?_⟩
  exact q2 m2 H2 (e.trans e2) R2 _ ⟨v, vs, rfl, RelD.ext e2 _ _ rv, rvs⟩
theorem perm_rel {K : PySem.W.Frag} {m : List Addr} {H : Hp} {ds : List D} {vs : List V} (r : RelDs K m H ds vs) : ∀ {perm : List Nat} {us : List D}, perm.mapM (fun i => ds[i]?) = some us → RelDs K m H us (perm.map fun i => vs.getD i .non)
  | [], us, h => by simp at h; subst h; rfl
  | i :: perm, us, h => by
    rw [List.mapM_cons] at h
    cases e : ds[i]? with
    | none => rw [e] at h; cases h
    | some d =>
      rw [e] at h
      cases e2 : perm.mapM (fun i => ds[i]?) with
      | none => rw [e2] at h; cases h
      | some us' =>
        rw [e2] at h
        cases h
        obtain ⟨v, e3, rv⟩ := r.get e
        exact ⟨v, _, by simp [e3], rv, perm_rel r e2⟩
theorem perm_vals {vs : List V} {us : List Value} (r : Vals vs us) : ∀ {perm : List Nat}, (∀ i ∈ perm, i < us.length) → Vals (perm.map fun i => vs.getD i .non) (perm.map fun i => us.getD i .none)
  | [], _ => .nil
  | i :: perm, h => by
    have hi := h i (by simp)
    have hl := r.length
    obtain ⟨u, e2, ru⟩ := r.get (List.getElem?_eq_getElem (show i < vs.length by omega))
    refine .cons ?_ (perm_vals r fun j hj => h j (List.mem_cons_of_mem _ hj))
    simp only [List.getD_eq_getElem?_getD, e2, List.getElem?_eq_getElem (show i < vs.length by omega), Option.getD_some]
    exact ru
theorem se_callk {k : Nat} {f : Addr} {fd : FuncData} {ps ks : List Str} {np : Nat} {perm : List Nat} {x : Str} {p pos : Pos} {es : List Expr} {kws : List Keyword} {g gk : Env → M (List D)} {cal : List D → M D}
    (F : FnOk X.prog X.w X.K X.mg X.base (L2.CX X.prog X.w) k f fd ps (spK (gd X) T cal)) (hr : Room k X.A) (hg : Gl X x) (hm : X.mg x = some (.ref f)) (hk : PySem.W.keepIn X.K (.ref f) = true) (hb : KB X.K fd ps np ks perm) (tk : Takes X W)
    (ha : PA X es (tDs X T W g)) (hkw : PK X kws (tDs X T W gk)) (hnp : es.length = np) (hg0 : es = [] → ∀ ρ, g ρ = M.pure []) (hgl : ∀ ρ S ds S', g ρ S = .ok ds S' → ds.length = np) (hkl : ∀ ρ S ds S', gk ρ S = .ok ds S' → ds.length = ks.length) (hks : kws.map (·.arg) = ks.map some)
    (hdb : (x == ("__debug__" : Str)) = false) (ns : es.all noStar = true) :
    PE X (.Call (.Name x p) es kws pos) (tV X T W fun ρ => g ρ >>= fun ds => gk ρ >>= fun ts => match perm.mapM (fun i => (ds ++ ts)[i]?) with
      | some us => cal us >>= fun d => M.pure (.dv d)
      | none => M.bad) := by
  obtain ⟨hall, hnone⟩ := kw_all (pos := pos) (env := X.env) hks
  have hfil := kw_filter (pos := pos) (env := X.env) hks
  have hpl : ((backTo pos (starEach es X.env)).any (·.1) || (backToKw pos (keywordEach kws X.env)).any (·.1.isNone)) = false := by rw [hnone, star_plain ns]; rfl
  -- behind the arguments
  have fin : ∀ {pins : List (Addr × Obj)} {σ : L2.St} {H : Hp} {s : Shared} {Q : VK} {us ws : List Value} {vs zs : List V} {m : List Addr} {S : Sto} {ds ts : List D}, Inv X pins σ H s → Vals vs us → Vals zs ws → RelS (gd X) m H S → RelDs X.K m H ds vs → RelDs X.K m H ts zs → ds.length = np → ts.length = ks.length →
      Pst (gd X) T (WE W σ) m H ((match perm.mapM (fun i => (ds ++ ts)[i]?) with
      | some us => cal us >>= fun d => M.pure (Kd.X.dv d)
      | none => M.bad : M Kd.X) S) (kQ (gd X) H Q) → wpAny (model X.prog X.w) X.A (call (.ref f) us (ks.zip ws)) (EP X pins σ Q) X.xe s := by
    intro pins σ H s Q us ws vs zs m S ds ts I rv rz R rd rt l1 l2 h
    cases e : perm.mapM (fun i => (ds ++ ts)[i]?) with
    | none => rw [e] at h; exact h.elim
    | some qs =>
      rw [e] at h
      have rr := perm_rel (rd.app rt) e
      have lu : us.length = np := by rw [← rv.length, ← RelDs.length (K := X.K) rd]; exact l1
      have lw : ws.length = ks.length := by rw [← rz.length, ← RelDs.length (K := X.K) rt]; exact l2
      have rw' := perm_vals (L2.Vals.append rv rz) (perm := perm) fun i hi => by rw [List.length_append, lu, lw]; exact hb.2.1 i hi
      have hsp : spK (gd X) T cal (perm.map fun i => (vs ++ zs).getD i .non) H Q (WE W σ) := ⟨m, S, qs, rr, R, h.bind.imp fun m2 H2 S2 d e2 R2 q2 v rv => q2 m2 H2 e2 R2 v rv trivial⟩
      refine wpAny_call (codeAny_mono (F.run X.A X.stack s H ⟨us, ks.zip ws⟩ _ _ Q (WE W σ) hr I.env0 (hb.2.2 s us ws I.kIn lu lw) rw' hsp) fun r s' hq => ?_)
      cases r with
      | error e => exact passAt tk σ pins H s e s' I hq
      | ok fl =>
        cases fl with
        | ret u => exact I.after hq
        | next => exact False.elim hq
        | brk => exact False.elim hq
        | cont => exact False.elim hq
  have okL : ∀ {α : Type} {Y : XK} {m : List Addr} {H : Hp} {S : Sto} {r : M (List D)} {q : List D → M α} {kk : List Addr → Hp → Sto → α → Prop} {n : Nat}, (∀ ds S', r S = .ok ds S' → ds.length = n) → Pst (gd X) T Y m H ((r >>= q) S) kk →
      Pst (gd X) T Y m H (r S) fun m1 H1 S1 ds => ds.length = n ∧ Pst (gd X) T Y m H (q ds S1) kk := by
    intro α Y m H S r q kk n hl h
    rw [bindE] at h
    cases e : r S with
    | ok ds S1 => rw [e] at h; exact fun m1 H1 e1 R => ⟨hl ds S1 e, h⟩
    | exc c d S1 => rw [e] at h; exact h
    | bad => rw [e] at h; exact h
  refine ⟨fun pins s σ H Q I ⟨m, S, ρ, E, R, z⟩ => ?_⟩
  refine wpAny_Call_Name_kw (ld_glob I hg hm ?_ hdb)
  cases es with
  | nil =>
    refine PySem.W.callWith_KW0 (h₀ := X.base) I.ok.mod.kin hk hall ?_ hpl
    simp only [hg0 rfl ρ, M.pure_b] at z
    have hn0 : np = 0 := hnp.symm
    have h0 : tDs X T W gk σ H fun zs H2 => ∃ (m2 : List Addr) (S2 : Sto) (ts : List D), RelS (gd X) m2 H2 S2 ∧ RelDs X.K m2 H2 ts zs ∧ ts.length = ks.length ∧
        Pst (gd X) T (WE W σ) m2 H2 ((match perm.mapM (fun i => (([] : List D) ++ ts)[i]?) with
        | some us => cal us >>= fun d => M.pure (Kd.X.dv d)
        | none => M.bad : M Kd.X) S2) (kQ (gd X) H2 Q) := ⟨m, S, ρ, E, R, (okL (n := ks.length) (fun ts S' e => hkl ρ S ts S' e) z).imp fun m2 H2 S2 ts e2 R2 ⟨l2, q2⟩ zs rzs => ⟨m2, S2, ts, R2, rzs, l2, q2.kq e2⟩⟩
    refine thn (hkw.run pos pins s σ H _ I h0) fun ws s2 ⟨zs, H2, I2, rz, m2, S2, ts, R2, d2, l2, q2⟩ => ⟨I2.kIn, ?_⟩
    rw [hfil]
    exact fin (ds := []) I2 .nil rz R2 rfl d2 (by simp [hn0]) l2 q2
  | cons e es =>
    have n1 : noStar e = true ∧ es.all noStar = true := by simpa only [List.all_cons, Bool.and_eq_true] using ns
    have z1 := okL (n := np) (fun ds S' e => hgl ρ S ds S' e) z
    have h0 : tDs X T W g σ H fun vs H1 => tDs X T W gk σ H1 fun zs H2 => ∃ (m2 : List Addr) (S2 : Sto) (ds ts : List D), RelS (gd X) m2 H2 S2 ∧ RelDs X.K m2 H2 ds vs ∧ RelDs X.K m2 H2 ts zs ∧ ds.length = np ∧ ts.length = ks.length ∧
        Pst (gd X) T (WE W σ) m2 H2 ((match perm.mapM (fun i => (ds ++ ts)[i]?) with
        | some us => cal us >>= fun d => M.pure (Kd.X.dv d)
        | none => M.bad : M Kd.X) S2) (kQ (gd X) H2 Q) := ⟨m, S, ρ, E, R, z1.imp fun m1 H1 S1 ds e R1 ⟨l1, q1⟩ vs rvs => by
      have z2 := okL (n := ks.length) (fun ts S' e => hkl ρ S1 ts S' e) (q1.kq e)
      exact ⟨m1, S1, ρ, RelE.ext (G := gd X) e E, R1, z2.imp fun m2 H2 S2 ts e2 R2 ⟨l2, q2⟩ zs rzs => ⟨m2, S2, ds, ts, R2, RelDs.ext e2 _ _ rvs, rzs, l1, l2, q2.kq e2⟩⟩⟩
    refine PySem.W.callWith_KW (h₀ := X.base) I.ok.mod.kin hk hall (thn (ha.run pos pins s σ H _ I h0) fun us s1 ⟨vs, H1, I1, r1, q1⟩ => ?_) hpl (star1 n1.1)
    refine thn (hkw.run pos pins s1 σ H1 _ I1 q1) fun ws s2 ⟨zs, H2, I2, rz, m2, S2, ds, ts, R2, d1, d2, l1, l2, q2⟩ => ⟨I2.kIn, ?_⟩
    rw [hfil]
    exact fin I2 r1 rz R2 d1 d2 l1 l2 q2
end
end Kd
/-! The checker: is this expression of the program that one of the small language. -/
set_option maxHeartbeats 1000000
namespace Kd
open PySem PySem.Spec PyProof.Rows L2
section
variable {X : Cx}
theorem mt_getK (hu : X.A.units + 64 < cLine) : MtR X "dict.get" (rMt (gd X) (mthX .get)) := by
  intro pins s σ H v vs v' us Q I rv ru ⟨T, Y, m, S, x, xs, R, rx, rxs, h⟩
  have : (∃ l k r, x = .dv (.loc l) ∧ xs = .dv k :: r) ∨ mthX .get x xs = M.bad := by
    cases x with
    | tl ds => exact .inr rfl
    | dv e =>
      cases e <;> first
        | exact .inr rfl
        | (cases xs with
           | nil => exact .inr rfl
           | cons y r => cases y <;> first | exact .inl ⟨_, _, _, rfl, rfl⟩ | exact .inr rfl)
  rcases this with ⟨l, k, r, rfl, rfl⟩ | e
  · simp only [mthX] at h
    cases e : S[l]? with
    | none => rw [e] at h; exact h.elim
    | some ob =>
      rw [e] at h
      cases ob with
      | lst ds => exact h.elim
      | ins c fs => exact h.elim
      | dct kvs =>
        obtain ⟨y, ws, rfl, r1, r2⟩ := rxs
        simp only [RelX, RelD] at rx
        obtain ⟨a, rfl, h1⟩ := rx
        obtain ⟨ob, e1, q⟩ := R.at_ h1
        rw [e] at e1
        cases e1
        obtain ⟨es, h2, h3, h4, h5⟩ := q
        cases (show v' = .ref a from rv)
        by_cases hk : keyOk kvs k = true
        · simp only [if_pos hk] at h
          cases r with
          | nil =>
            cases r2
            obtain ⟨u, rfl, ru1⟩ := vals1 ru
            exact kd_get1 (by omega) I h2 h3 h5 hk r1 ru1 fun z u' s' I' ru' rz => ⟨z, H, I', ru', fin_val (x := .dv _) h R rz⟩
          | cons x2 r =>
            cases x2 with
            | tl ds => exact h.elim
            | dv d =>
              cases r with
              | cons x3 r => exact h.elim
              | nil =>
                obtain ⟨y2, ws2, rfl, r3, r4⟩ := r2
                cases r4
                obtain ⟨u1, u2, rfl, ru1, ru2⟩ := vals2 ru
                exact kd_get2 (by omega) I h2 h3 h5 hk r1 ru1 r3 ru2 fun z u' s' I' ru' rz => ⟨z, H, I', ru', fin_val (x := .dv _) h R rz⟩
        · simp only [if_neg hk] at h; exact h.elim
  · rw [e] at h; exact h.elim
end
/-! ### what is known of the program's names -/
/-- keyword calls: the def, positional arguments, keywords, the order -/
abbrev Kws := List (Nat × Nat × List Str × List Nat)
structure Lk where
  fns : List (Str × Nat)
  gls : List (Str × Nat)
  cls : List (Str × Nat)
  kws : Kws
abbrev Scn := List (Str × NameKind)
def FnAt (X : Cx) (T : Cls') (C : Ctx) (kws : Kws) (x : Str) (f : Nat) : Prop := ∃ (k : Nat) (a : Addr) (fd : FuncData) (ps : List Str), FnOk X.prog X.w X.K X.mg X.base (L2.CX X.prog X.w) k a fd ps (spK (gd X) T (C.cal f)) ∧ Room k X.A ∧ X.mg x = some (.ref a) ∧ PySem.W.keepIn X.K (.ref a) = true ∧ Binds X.K fd ps [] ∧ ∀ np ks perm, (f, np, ks, perm) ∈ kws → KB X.K fd ps np ks perm
def ClsAt (X : Cx) (T : Cls') (x : Str) (c : Nat) : Prop := ∃ (a : Addr) (bmB : List Value) (B newId initId : String), T.cls c = .ref a ∧ ExcBaseFacts B newId initId bmB ∧ PySem.W.excIn X.K a bmB newId = true ∧ X.mg x = some (.ref a) ∧ PySem.W.keepIn X.K (.ref a) = true ∧ Raises X (.ref a)
def blNames : List Str := ["len", "all", "any", "tuple", "list", "int", "abs", "max", "min", "sorted", "set", "range", "enumerate", "zip", "isinstance", "str", "bool", "dict"]
structure Ok (X : Cx) (T : Cls') (L : Lk) (N : List Str) (C : Ctx) (up : Nat → Nat → Bool) (sc : Scn) (cm : Bool) : Prop where
  calm : cm = true → X.calm = true
  nn : X.N = N
  nd : N.Nodup
  un : X.A.units + 100 < cLine
  kind : X.env.scope.kind = .function
  scn : ∀ x k, sc.lookup x = some k → ∃ k', X.env.scope.names.lookup x = some k' ∧ (k' = k ∨ (k = .free ∧ k' = .cell))
  cell : ∀ x, sc.lookup x = some .cell → X.fn x = true
  fns : cm = true → ∀ x f, L.fns.lookup x = some f → FnAt X T C L.kws x f
  bl : ∀ x ∈ blNames, X.mg x = none
  gls : ∀ x g, L.gls.lookup x = some g → ∃ u v d, X.mg x = some u ∧ RelV v u ∧ C.gl g = some d ∧ ∀ m H, RelD X.K m H d v
  cls : ∀ x c, L.cls.lookup x = some c → ClsAt X T x c
  ups : ∀ c y h, L.cls.lookup y = some h → PySem.W.exmOne X.K (T.cls c) (T.cls h) = some (up c h)
def dbg (x : Str) : Bool := !(x == ("__debug__" : Str)) && !(x == ("__classdict__" : Str)) && !decide (x = ("__name__" : Str))
def visB (sc : Scn) (x : Str) : Bool := match sc.lookup x with
  | some .local => true
  | some .cell => true
  | some .free => true
  | _ => false
def locB (sc : Scn) (x : Str) : Bool := match sc.lookup x with
  | some .local => true
  | some .cell => true
  | _ => false
def glB (sc : Scn) (x : Str) : Bool := match sc.lookup x with
  | some .globalImplicit => true
  | _ => false
def opS : Bop → Operator
  | .add => .Add
  | .sub => .Sub
  | .mul => .Mult
  | .fdiv => .FloorDiv
  | .mod => .Mod
  | .pow => .Pow
def cmS : Cop → CmpOp
  | .eq => .Eq
  | .ne => .NotEq
  | .lt => .Lt
  | .le => .LtE
  | .gt => .Gt
  | .ge => .GtE
  | .is_ => .Is
  | .isn => .IsNot
  | .in_ => .In
  | .nin => .NotIn
/-- the built-ins: name, is it a type, its id -/
def bltS : Bi → Option (Str × Bool × String)
  | .len => some ("len", false, "len")
  | .all => some ("all", false, "all")
  | .any => some ("any", false, "any")
  | .tuple => some ("tuple", true, "tuple")
  | .list => some ("list", true, "list")
  | .int => some ("int", true, "int")
  | .abs => some ("abs", false, "abs")
  | .max => some ("max", false, "max")
  | .min => some ("min", false, "min")
  | .sorted => some ("sorted", false, "sorted")
  | _ => none
def mtS : Mt → Option (Str × String)
  | .append => some ("append", "list.append")
  | .extend => some ("extend", "list.extend")
  | .pop => some ("pop", "list.pop")
  | .reverse => some ("reverse", "list.reverse")
  | .join => some ("join", "str.join")
  | .get => some ("get", "dict.get")
  | _ => none
def noSet : Expr → Bool
  | .Set _ _ _ => false
  | _ => true
def noSetIn (x : Expr) : Bool := noSet x
def ckN (N : List Str) (sc : Scn) (i : Nat) : Expr → Bool
  | .Name x _ => decide (N[i]? = some x) && locB sc x && dbg x
  | _ => false
def ckNs (N : List Str) (sc : Scn) : List Nat → List Expr → Bool
  | [], [] => true
  | i :: is, e :: es => ckN N sc i e && ckNs N sc is es
  | _, _ => false
def ckTg (N : List Str) (sc : Scn) : Tg → Expr → Bool
  | .nm i, e => ckN N sc i e
  | .tp is, .Tuple es _ _ => ckNs N sc is es
  | _, _ => false
def isTupE : Expr → Bool
  | .Tuple _ _ _ => true
  | _ => false
def isFrc : Ex → Bool
  | .frc _ => true
  | _ => false
/-- the arguments of what is walked -/
def itArgs (sc : Scn) (k : Ik) (iter : Expr) (tg : Expr) : Option (List Expr) := match k, iter with
  | .seq, e => if noSet e then some [e] else none
  | .range, .Call (.Name x _) xs [] _ => if x = "range" ∧ glB sc x = true ∧ xs.all noStar = true ∧ (xs.length = 1 ∨ xs.length = 2) then some xs else none
  | .enum, .Call (.Name x _) xs [] _ => if x = "enumerate" ∧ glB sc x = true ∧ xs.all noStar = true ∧ xs.length = 1 ∧ isTupE tg = true then some xs else none
  | .zip, .Call (.Name x _) xs [] _ => if x = "zip" ∧ glB sc x = true ∧ xs.all noStar = true ∧ xs.length = 2 ∧ isTupE tg = true then some xs else none
  | _, _ => none
/-- a comprehension's scope -/
def ckB (N : List Str) (sc : Scn) (scope : Scope) (own : List Nat) : Bool :=
  decide (scope.kind = .function) && (scope.names.all fun y => decide (scope.names.lookup y.1 = some y.2)) && (own.all fun i => decide (i < N.length)) &&
    (scope.names.all fun y => match y.2 with
      | .free => (match sc.lookup y.1 with | some .cell => true | some .free => true | _ => false)
      | .local => decide (y.1 ∈ own.map fun i => N.getD i default) || decide (y.1 ∉ N)
      | .cell => decide (y.1 ∈ own.map fun i => N.getD i default) || decide (y.1 ∉ N)
      | _ => true)
mutual
def ckE (L : Lk) (N : List Str) (cm : Bool) : Scn → Ex → Expr → Bool
  | _, .cint i, e => (match e with
    | .Constant (.int j) _ _ => decide (i = j)
    | _ => false)
  | _, .cstr x, e => (match e with
    | .Constant (.str y) _ _ => decide (x = y)
    | _ => false)
  | _, .cnon, e => (match e with
    | .Constant .none _ _ => true
    | _ => false)
  | _, .cbl b, e => (match e with
    | .Constant (.bool c) _ _ => decide (b = c)
    | _ => false)
  | sc, .var i, e => (match e with
    | .Name x _ => decide (N[i]? = some x) && visB sc x && dbg x
    | _ => false)
  | sc, .glb g, e => (match e with
    | .Name x _ => glB sc x && dbg x && decide (L.gls.lookup x = some g)
    | _ => false)
  | sc, .tup es, e => (match e with
    | .Tuple xs _ _ => decide (es.length ≤ 1000) && ckEs L N cm sc es xs
    | _ => false)
  | sc, .lst es, e => (match e with
    | .List xs _ => decide (es.length ≤ 1000) && ckEs L N cm sc es xs
    | _ => false)
  | _, .dct0, e => (match e with
    | .Dict [] [] _ => true
    | _ => false)
  | sc, .bin o a b, e => (match e with
    | .BinOp x op y _ => decide (op = opS o) && ckE L N cm sc a x && ckE L N cm sc b y
    | _ => false)
  | sc, .neg a, e => (match e with
    | .UnaryOp .USub x _ => ckE L N cm sc a x
    | _ => false)
  | sc, .not_ a, e => (match e with
    | .UnaryOp .Not x _ => !isFrc a && ckE L N cm sc a x
    | _ => false)
  | sc, .and_ a b, e => (match e with
    | .BoolOp .And (x :: y :: r) p => !isFrc a && !isFrc b && ckE L N cm sc a x && (match r with
      | [] => ckE L N cm sc b y
      | z :: r => ckE L N cm sc b (.BoolOp .And (y :: z :: r) p))
    | _ => false)
  | sc, .or_ a b, e => (match e with
    | .BoolOp .Or (x :: y :: r) p => !isFrc a && !isFrc b && ckE L N cm sc a x && (match r with
      | [] => ckE L N cm sc b y
      | z :: r => ckE L N cm sc b (.BoolOp .Or (y :: z :: r) p))
    | _ => false)
  | sc, .cmp o a b, e => (match e with
    | .Compare x [op] [y] _ => decide (op = cmS o) && !behindInMarks op y && ckE L N cm sc a x && ckE L N cm sc b y
    | _ => false)
  | sc, .chn o o2 a b c, e => (match e with
    | .Compare x [op, op2] [y, z] _ => decide (op = cmS o) && decide (op2 = cmS o2) && !behindInMarks op2 z && ckE L N cm sc a x && ckE L N cm sc b y && ckE L N cm sc c z
    | _ => false)
  | sc, .ite c a b, e => (match e with
    | .IfExp x y z _ => !isFrc c && !isFrc a && !isFrc b && ckE L N cm sc c x && ckE L N cm sc a y && ckE L N cm sc b z
    | _ => false)
  | sc, .call f es, e => (match e with
    | .Call (.Name x _) (y :: ys) [] _ => cm && glB sc x && dbg x && decide (L.fns.lookup x = some f) && (y :: ys).all noStar && ckEs L N cm sc es (y :: ys)
    | _ => false)
  | sc, .callk f es ks perm, e => (match e with
    | .Call (.Name x _) ys kws _ => cm && glB sc x && dbg x && decide (L.fns.lookup x = some f) && ys.all noStar && ckEs L N cm sc es ys && ckEs L N cm sc ks (kws.map (·.value)) && (kws.all fun k => k.arg.isSome) && decide ((f, ys.length, kws.map (fun k => k.arg.getD default), perm) ∈ L.kws)
    | _ => false)
  | sc, .isi a t, e => (match e with
    | .Call (.Name x _) [y, .Name z _] [] _ => decide (x = ("isinstance" : Str)) && glB sc x && glB sc z && decide (z = Str.ofString (tyN t)) && noStar y && ckE L N cm sc a y
    | _ => false)
  | sc, .blt b es, e => (match bltS b with
    | some r => (match e with
      | .Call (.Name x _) (y :: ys) [] _ => cm && glB sc x && decide (x = r.1) && (y :: ys).all noStar && ckEs L N cm sc es (y :: ys)
      | _ => false)
    | none => (match e with
      | .Call (.Name x _) [.Call (.Name z _) [y] [] _] [] _ => cm && ((decide (b = .sortset) && decide (x = ("sorted" : Str))) || (decide (b = .lenset) && decide (x = ("len" : Str)))) && decide (z = ("set" : Str)) && glB sc x && glB sc z && noStar y && ckEs L N cm sc es [y]
      | _ => false))
  | sc, .mth m o es, e => (match e with
    | .Call (.Attribute x nm ap) ys [] cp => (match mtS m with
      | some (z, _) => decide (nm = z)
      | none => false) && noCall0 x && (ap.endLine == cp.line) && decide (ys.length < 30) && ys.all noStar && ckE L N cm sc o x && ckEs L N cm sc es ys
    | _ => false)
  | sc, .idx a i, e => (match e with
    | .Subscript x y _ => noSlice y && ckE L N cm sc a x && ckE L N cm sc i y
    | _ => false)
  | sc, .slc a lo hi, e => (match e with
    | .Subscript x (.Slice l h none _) _ => ckE L N cm sc a x && ckEs L N cm sc lo l.toList && ckEs L N cm sc hi h.toList
    | _ => false)
  | _, .rev _, _ => false
  | sc, .frc a, e => ckE L N cm sc a e
  | _, .fld _ _, _ => false
  | sc, .lc elt tg k es ifs own, e => (match e with
    | .ListComp x [⟨t, iter, fs, a⟩] scope _ => decide (a = 0) && cm && ckB N sc scope own && ckTg N scope.names tg t && (tg.ids.all fun i => decide (i ∈ own)) && (match itArgs sc k iter t with
      | some xs => ckEs L N cm sc es xs
      | none => false) && decide (ifs.length ≤ 1) && ifs.all (fun x => !isFrc x) && ckEs L N cm scope.names ifs fs && ckE L N cm scope.names elt x && noSetIn iter
    | _ => false)
def ckEs (L : Lk) (N : List Str) (cm : Bool) : Scn → List Ex → List Expr → Bool
  | _, [], es => (match es with
    | [] => true
    | _ => false)
  | sc, x :: xs, es => (match es with
    | e :: es => noStar e && ckE L N cm sc x e && ckEs L N cm sc xs es
    | [] => false)
end
end Kd
/-! The checker is right: expressions. -/
set_option maxHeartbeats 2000000
namespace Kd
open PySem PySem.Spec PyProof.Rows L2
section
variable {X : Cx} {T : Cls'} {L : Lk} {N : List Str} {C : Ctx} {up : Nat → Nat → Bool} {sc : Scn} {cm : Bool} {W : WX}
theorem Ok.u64 (K : Ok X T L N C up sc cm) : X.A.units + 64 < cLine := by have := K.un; omega
theorem Ok.u66 (K : Ok X T L N C up sc cm) : X.A.units + 66 < cLine := by have := K.un; omega
theorem Ok.vis (K : Ok X T L N C up sc cm) {x : Str} (h : visB sc x = true) : Vis X.env.scope x := by
  unfold visB at h
  split at h
  · rename_i e
    obtain ⟨k, e1, e2⟩ := K.scn x _ e
    rcases e2 with rfl | ⟨z, _⟩
    · exact .inl e1
    · cases z
  · rename_i e
    obtain ⟨k, e1, e2⟩ := K.scn x _ e
    rcases e2 with rfl | ⟨z, _⟩
    · exact .inr (.inl e1)
    · cases z
  · rename_i e
    obtain ⟨k, e1, e2⟩ := K.scn x _ e
    rcases e2 with rfl | ⟨_, rfl⟩
    · exact .inr (.inr e1)
    · exact .inr (.inl e1)
  · cases h
theorem Ok.loc (K : Ok X T L N C up sc cm) {x : Str} (h : locB sc x = true) : L2.Loc X.env.scope x ∧ (X.fn x = true ∨ X.env.scope.names.lookup x = some .local) := by
  unfold locB at h
  split at h
  · rename_i e
    obtain ⟨k, e1, e2⟩ := K.scn x _ e
    rcases e2 with rfl | ⟨z, _⟩
    · exact ⟨.inl e1, .inr e1⟩
    · cases z
  · rename_i e
    obtain ⟨k, e1, e2⟩ := K.scn x _ e
    rcases e2 with rfl | ⟨z, _⟩
    · exact ⟨.inr e1, .inl (K.cell x e)⟩
    · cases z
  · cases h
theorem Ok.gl (K : Ok X T L N C up sc cm) {x : Str} (h : glB sc x = true) : Gl X x := by
  unfold glB at h
  split at h
  · rename_i e
    obtain ⟨k, e1, e2⟩ := K.scn x _ e
    rcases e2 with rfl | ⟨z, _⟩
    · exact e1
    · cases z
  · cases h
theorem dbg_ok {x : Str} (h : dbg x = true) : (x == ("__debug__" : Str)) = false ∧ (x == ("__classdict__" : Str)) = false ∧ x ≠ ("__name__" : Str) := by
  simp only [dbg, Bool.and_eq_true, Bool.not_eq_true', decide_eq_false_iff_not] at h
  exact ⟨h.1.1, h.1.2, h.2⟩
theorem lk_rel (p : Str → NameKind → Bool) (hp : ∀ n k, p n k = true → k = .free) : ∀ {names : Scn} {x : Str} {k : NameKind}, names.lookup x = some k → ∃ k', (names.map fun (n, k) => if p n k then (n, NameKind.cell) else (n, k)).lookup x = some k' ∧ (k' = k ∨ (k = .free ∧ k' = .cell))
  | [], _, _, h => by simp at h
  | (n, k0) :: r, x, k, h => by
    show ∃ k', List.lookup x ((if p n k0 = true then (n, NameKind.cell) else (n, k0)) :: r.map _) = some k' ∧ _
    cases hx : x == n with
    | true =>
      simp only [List.lookup_cons, hx] at h
      cases h
      by_cases hc : p n k0 = true
      · rw [if_pos hc]
        simp only [List.lookup_cons, hx]
        exact ⟨_, rfl, .inr ⟨hp _ _ hc, rfl⟩⟩
      · rw [if_neg hc]
        simp only [List.lookup_cons, hx]
        exact ⟨_, rfl, .inl rfl⟩
    | false =>
      simp only [List.lookup_cons, hx] at h
      by_cases hc : p n k0 = true
      · rw [if_pos hc]
        simp only [List.lookup_cons, hx]
        exact lk_rel p hp h
      · rw [if_neg hc]
        simp only [List.lookup_cons, hx]
        exact lk_rel p hp h
theorem Ok.blk (K : Ok X T L N C up sc cm) {scope : Scope} (hk : scope.kind = .function) (s : Shared) (H : Hp) (D : Addr) (cl : List (Str × Addr)) (fp : List Addr) : Ok (X.blk s H scope (compEnvC scope cl D X.env) fp) T L N C up scope.names cm where
  calm := K.calm
  nn := K.nn
  nd := K.nd
  un := K.un
  kind := hk
  scn := fun x k h => lk_rel (fun n k => k == NameKind.free && X.env.scope.kind == .function && X.env.scope.names.lookup n == some .cell) (fun n k z => by simp only [Bool.and_eq_true, beq_iff_eq] at z; exact z.1.1) h
  cell := fun x h => by show (List.lookup x scope.names == some NameKind.cell) = true; rw [h]; rfl
  fns := K.fns
  bl := K.bl
  gls := K.gls
  cls := K.cls
  ups := K.ups
theorem blk_ok (K : Ok X T L N C up sc cm) {scope : Scope} {own : List Nat} (h : ckB N sc scope own = true) : scope.kind = .function ∧ BlkOk X.N X.env.scope scope (own.map fun i => (N.getD i default, i)) := by
  unfold ckB at h
  simp only [Bool.and_eq_true, List.all_eq_true, decide_eq_true_eq] at h
  obtain ⟨⟨⟨h1, h2⟩, h3⟩, h4⟩ := h
  refine ⟨h1, h1, h2, fun p hp => ?_, fun y hy e => ?_, fun y hy e => ?_⟩
  · obtain ⟨i, hi, rfl⟩ := List.mem_map.mp hp
    rw [K.nn]
    have := h3 i hi
    simp only [List.getD_eq_getElem?_getD, List.getElem?_eq_getElem this, Option.getD_some]
  · have q := h4 y hy
    rw [e] at q
    simp only at q
    split at q
    · rename_i e2
      obtain ⟨k, e1, e2⟩ := K.scn _ _ e2
      rcases e2 with rfl | ⟨z, _⟩
      · exact .inl e1
      · cases z
    · rename_i e2
      obtain ⟨k, e1, e2⟩ := K.scn _ _ e2
      rcases e2 with rfl | ⟨_, rfl⟩
      · exact .inr e1
      · exact .inl e1
    · cases q
  · have q := h4 y hy
    have em : ((own.map fun i => (N.getD i default, i)).map fun x => x.1) = own.map fun i => N.getD i default := by rw [List.map_map]; rfl
    rw [em, K.nn]
    rcases e with e | e <;> (rw [e] at q; simp only [Bool.or_eq_true, decide_eq_true_eq] at q; exact q)
/-! ### names as targets -/
theorem ckN_ok (K : Ok X T L N C up sc cm) {i : Nat} {e : Expr} (h : ckN N sc i e = true) : ∃ x p, e = .Name x p ∧ PG X e (gName i) := by
  cases e with
  | Name x p =>
    simp only [ckN, Bool.and_eq_true, decide_eq_true_eq] at h
    obtain ⟨h1, h2⟩ := K.loc h.1.2
    exact ⟨x, p, rfl, pg_name (by rw [K.nn]; exact K.nd) (by rw [K.nn]; exact h.1.1) h1 h2⟩
  | _ => cases h
theorem ckNs_ok (K : Ok X T L N C up sc cm) : ∀ {is : List Nat} {es : List Expr}, ckNs N sc is es = true → is.length = es.length ∧ es.all allName = true ∧ PGs X es (gNms is)
  | [], [], _ => ⟨rfl, rfl, pgs_nil⟩
  | [], _ :: _, h => by cases h
  | _ :: _, [], h => by cases h
  | i :: is, e :: es, h => by
    simp only [ckNs, Bool.and_eq_true] at h
    obtain ⟨x, p, rfl, h1⟩ := ckN_ok K h.1
    obtain ⟨i1, i2, i3⟩ := ckNs_ok K h.2
    exact ⟨by simp [i1], by simp [allName, i2], sg_names h1 i3⟩
theorem ckTg_ok (K : Ok X T L N C up sc cm) (hc : X.calm = true) {tg : Tg} {e : Expr} (h : ckTg N sc tg e = true) : PG X e (tG X tg) := by
  cases tg with
  | nm i =>
    obtain ⟨x, p, rfl, h1⟩ := ckN_ok K (show ckN N sc i e = true from h)
    exact sg_name h1
  | tp is =>
    cases e with
    | Tuple es k p =>
      obtain ⟨i1, i2, i3⟩ := ckNs_ok K (show ckNs N sc is es = true from h)
      exact sg_tup hc i1 i2 i3
    | _ => cases h
end
/-! ### lengths -/
theorem evs_len {C : Ctx} : ∀ {es : List Ex} {ρ : Env} {S S' : Sto} {ds : List D}, evs C es ρ S = .ok ds S' → ds.length = es.length
  | [], _, _, _, _, h => by simp only [evs] at h; cases h; rfl
  | e :: es, ρ, S, S', ds, h => by
    simp only [evs] at h
    rw [bindE] at h
    cases e1 : (ev C e false ρ >>= force) S with
    | ok d S1 =>
      rw [e1] at h
      simp only at h
      rw [bindE] at h
      cases e2 : evs C es ρ S1 with
      | ok ds2 S2 => rw [e2] at h; cases h; simp [evs_len e2]
      | exc c d' S2 => rw [e2] at h; cases h
      | bad => rw [e2] at h; cases h
    | exc c d' S2 => rw [e1] at h; cases h
    | bad => rw [e1] at h; cases h
theorem evx_len {C : Ctx} : ∀ {es : List Ex} {ρ : Env} {S S' : Sto} {ds : List Kd.X}, evx C es ρ S = .ok ds S' → ds.length = es.length
  | [], _, _, _, _, h => by simp only [evx] at h; cases h; rfl
  | e :: es, ρ, S, S', ds, h => by
    simp only [evx] at h
    rw [bindE] at h
    cases e1 : ev C e false ρ S with
    | ok d S1 =>
      rw [e1] at h
      simp only at h
      rw [bindE] at h
      cases e2 : evx C es ρ S1 with
      | ok ds2 S2 => rw [e2] at h; cases h; simp [evx_len e2]
      | exc c d' S2 => rw [e2] at h; cases h
      | bad => rw [e2] at h; cases h
    | exc c d' S2 => rw [e1] at h; cases h
    | bad => rw [e1] at h; cases h
section
variable {X : Cx} {T : Cls'} {L : Lk} {N : List Str} {C : Ctx} {up : Nat → Nat → Bool} {sc : Scn} {cm : Bool} {W : WX}
def SE (X : Cx) (T : Cls') (W : WX) (C : Ctx) (x : Ex) (e : Expr) : Prop := PE X e (tV X T W (ev C x false)) ∧ (isFrc x = false → PT X e (tB X T W fun ρ => ev C x true ρ >>= theB))
def SEs (X : Cx) (T : Cls') (W : WX) (C : Ctx) (xs : List Ex) (es : List Expr) : Prop := es.all noStar = true ∧ es.length = xs.length ∧ PA X es (tDs X T W (evs C xs)) ∧ PA X es (tXs X T W (evx C xs)) ∧ ∀ x e, xs = [x] → es = [e] → SE X T W C x e
theorem SE.plain {x : Ex} {e : Expr} {f : Env → M Kd.X} (h : PE X e (tV X T W f)) (he : ∀ whole, isTrue e X.env whole = (do let v ← whole; standAt e.pos; holding [v] (truthy v))) (e0 : ∀ ρ, ev C x false ρ = f ρ) (e1 : ∀ ρ, ev C x true ρ = asT true (f ρ)) : SE X T W C x e := by
  refine ⟨by rw [show ev C x false = f from funext e0]; exact h, fun _ => ?_⟩
  have : (fun ρ => ev C x true ρ >>= theB) = fun ρ => f ρ >>= truX := funext fun ρ => by rw [e1, asT_t]
  rw [this]
  exact st_plain h he
theorem opS_ok (hu : X.A.units + 64 < cLine) : ∀ o : Bop, OpR X (binaryOp (opS o)) (rOp (gd X) (binX o))
  | .add => op_addK
  | .sub => op_subK
  | .mul => op_mulK
  | .fdiv => op_fdivK
  | .mod => op_modK
  | .pow => op_powK
theorem cmS_ok (hu : X.A.units + 64 < cLine) : ∀ o : Cop, OpR X (compareOp (cmS o)) (rCm (gd X) (cmpX o))
  | .eq => op_eqK hu
  | .ne => op_neK hu
  | .lt => op_ltK
  | .le => op_leK
  | .gt => op_gtK
  | .ge => op_geK
  | .is_ => op_isK'
  | .isn => op_isnK
  | .in_ => op_inK hu
  | .nin => op_ninK hu
theorem bltS_ok (hc : X.calm = true) (hu : X.A.units + 66 < cLine) {b : Bi} {x : Str} {ty : Bool} {id : String} (h : bltS b = some (x, ty, id)) :
    CallR X (if ty then .type id else .builtin id) (rBl (gd X) (bltX b)) ∧ bootBuiltins x = some (if ty then .type id else .builtin id) ∧ x ≠ ("__name__" : Str) ∧ (x == ("__debug__" : Str)) = false ∧ x ∈ blNames := by
  cases b <;> simp only [bltS, Option.some.injEq, Prod.mk.injEq, reduceCtorEq] at h <;> obtain ⟨rfl, rfl, rfl⟩ := h
  · exact ⟨cr_lenK, rfl, by decide, by decide, by decide⟩
  · exact ⟨cr_allK hc, rfl, by decide, by decide, by decide⟩
  · exact ⟨cr_anyK hc, rfl, by decide, by decide, by decide⟩
  · exact ⟨cr_tupleK, rfl, by decide, by decide, by decide⟩
  · exact ⟨cr_listK, rfl, by decide, by decide, by decide⟩
  · exact ⟨cr_intK, rfl, by decide, by decide, by decide⟩
  · exact ⟨cr_absK, rfl, by decide, by decide, by decide⟩
  · exact ⟨cr_maxK hc, rfl, by decide, by decide, by decide⟩
  · exact ⟨cr_minK hc, rfl, by decide, by decide, by decide⟩
  · exact ⟨cr_sortedK hc hu, rfl, by decide, by decide, by decide⟩
theorem mtS_ok (hu : X.A.units + 64 < cLine) {m : Mt} {x : Str} {id : String} (h : mtS m = some (x, id)) : PlainAttrs (tyN m.ty) ∧ Slot (tyN m.ty) x id ∧ typeOf (.builtin id) = pure (.type "method_descriptor") ∧ MtR X id (rMt (gd X) (mthX m)) := by
  cases m <;> simp only [mtS, Option.some.injEq, Prod.mk.injEq, reduceCtorEq] at h <;> obtain ⟨rfl, rfl⟩ := h
  · exact ⟨PySem.F.plainAttrs_list, PySem.F.slot_list_append, PySem.F.type_list_append, mt_appendK⟩
  · exact ⟨PySem.F.plainAttrs_list, PySem.F.slot_list_extend, PySem.F.type_list_extend, mt_extendK⟩
  · exact ⟨PySem.F.plainAttrs_list, PySem.F.slot_list_pop, PySem.F.type_list_pop, mt_popK⟩
  · exact ⟨PySem.F.plainAttrs_list, PySem.F.slot_list_reverse, PySem.F.type_list_reverse, mt_reverseK⟩
  · exact ⟨PySem.F.plainAttrs_dict, PySem.F.slot_dict_get, PySem.F.type_dict_get, mt_getK hu⟩
  · exact ⟨PySem.F.plainAttrs_str, PySem.F.slot_str_join, PySem.F.type_str_join, mt_joinK⟩
end
end Kd
/-! The checker is right: the induction over expressions. -/
namespace Kd
open PySem PySem.Spec PyProof.Rows L2
section
variable {T : Cls'} {L : Lk} {N : List Str} {C : Ctx} {up : Nat → Nat → Bool}
theorem no_set {X : Cx} {e : Expr} (h : noSet e = true) : ∀ x, foldedSetIterable e X.env x = pure x := fun x => by cases e <;> first | rfl | cases h
/-- what is walked -/
theorem it_ok {X : Cx} {sc : Scn} {cm : Bool} {W : WX} (K : Ok X T L N C up sc cm) {k : Ik} {iter tg : Expr} {es : List Ex} {xs : List Expr} (h : itArgs sc k iter tg = some xs) (hs : SEs X T W C es xs) :
    noSet iter = true ∧ PI X tg iter (tW X T W fun ρ => evx C es ρ >>= fun xs => walk k xs) := by
  cases k with
  | seq =>
    simp only [itArgs] at h
    split at h
    · rename_i hn
      cases h
      refine ⟨hn, ?_⟩
      obtain ⟨_, hl, _, _, h1⟩ := hs
      obtain ⟨x, rfl⟩ := List.length_eq_one_iff.mp hl.symm
      have e := si_seq (tg := tg) (h1 x iter rfl rfl).1
      have : (fun ρ => evx C [x] ρ >>= fun xs => walk .seq xs) = fun ρ => ev C x false ρ >>= fun y => walk .seq [y] := funext fun ρ => by simp only [evx, M.assoc, M.pure_b]
      rw [this]
      exact e
    · cases h
  | range =>
    cases iter with
    | Call f ys ks p =>
      cases f with
      | Name x p2 =>
        cases ks with
        | nil =>
          simp only [itArgs] at h
          split at h
          · rename_i hn
            obtain ⟨rfl, hg, hns, hl⟩ := hn
            cases h
            obtain ⟨_, hle, _, hx, _⟩ := hs
            have hm : X.mg "range" = none := K.bl _ (by decide)
            refine ⟨rfl, ?_⟩
            rcases hl with hl | hl
            · obtain ⟨y, rfl⟩ := List.length_eq_one_iff.mp hl
              simp only [List.all_cons, List.all_nil, Bool.and_true] at hns
              exact si_range1 (K.gl hg) hm hns hx fun ρ S xs S' q => by rw [evx_len q, ← hle]; rfl
            · obtain ⟨y, z, rfl⟩ := len_two hl
              simp only [List.all_cons, List.all_nil, Bool.and_true, Bool.and_eq_true] at hns
              exact si_range2 (K.gl hg) hm hns.1 hns.2 hx fun ρ S xs S' q => by rw [evx_len q, ← hle]; rfl
          · cases h
        | cons _ _ => cases h
      | _ => cases h
    | _ => cases h
  | enum =>
    cases iter with
    | Call f ys ks p =>
      cases f with
      | Name x p2 =>
        cases ks with
        | nil =>
          simp only [itArgs] at h
          split at h
          · rename_i hn
            obtain ⟨rfl, hg, hns, hl, ht⟩ := hn
            cases h
            obtain ⟨_, hle, _, hx, _⟩ := hs
            have hm : X.mg "enumerate" = none := K.bl _ (by decide)
            refine ⟨rfl, ?_⟩
            obtain ⟨y, rfl⟩ := List.length_eq_one_iff.mp hl
            simp only [List.all_cons, List.all_nil, Bool.and_true] at hns
            cases tg with
            | Tuple elts kk tp => exact si_enum (K.gl hg) hm hns hx fun ρ S xs S' q => by rw [evx_len q, ← hle]; rfl
            | _ => cases ht
          · cases h
        | cons _ _ => cases h
      | _ => cases h
    | _ => cases h
  | zip =>
    cases iter with
    | Call f ys ks p =>
      cases f with
      | Name x p2 =>
        cases ks with
        | nil =>
          simp only [itArgs] at h
          split at h
          · rename_i hn
            obtain ⟨rfl, hg, hns, hl, ht⟩ := hn
            cases h
            obtain ⟨_, hle, _, hx, _⟩ := hs
            have hm : X.mg "zip" = none := K.bl _ (by decide)
            refine ⟨rfl, ?_⟩
            obtain ⟨y, z, rfl⟩ := len_two hl
            simp only [List.all_cons, List.all_nil, Bool.and_true, Bool.and_eq_true] at hns
            cases tg with
            | Tuple elts kk tp => exact si_zip (K.gl hg) hm hns.1 hns.2 hx fun ρ S xs S' q => by rw [evx_len q, ← hle]; rfl
            | _ => cases ht
          · cases h
        | cons _ _ => cases h
      | _ => cases h
    | _ => cases h
  | items => cases iter <;> cases h
  | keys => cases iter <;> cases h
theorem ev_isi {a : Ex} {t : Ty} {b : Bool} {ρ : Env} : ev C (.isi a t) b ρ = ev C a false ρ >>= fun x => isiX t x := by
  simp only [ev]
  rfl
theorem isi_tru {t : Ty} {x : M Kd.X} : (x >>= fun x => isiX t x) >>= theB = (x >>= fun x => isiX t x) >>= truX := by
  rw [M.assoc, M.assoc]
  congr 1
  funext v
  cases v with
  | tl ds => rfl
  | dv d =>
    refine M.ext fun S => ?_
    simp only [bindE, isiX]
    cases isTy S d t <;> rfl
theorem pts_mono {X : Cx} {e : List Expr} {t t' : TT} (h : PTs X e t) (q : ∀ σ H Q, t' σ H Q → t σ H Q) : PTs X e t' := ⟨fun pins s σ H Q I z => h.run pins s σ H Q I (q σ H Q z)⟩
mutual
theorem ckE_ok : ∀ (x : Ex) {X : Cx} {sc : Scn} {cm : Bool} {W : WX} (e : Expr), Ok X T L N C up sc cm → Takes X W → ckE L N cm sc x e = true → SE X T W C x e
  | .cint i, X, sc, cm, W, e, K, tk, h => by
    cases e with
    | Constant c _ _ =>
      cases c with
      | int j =>
        simp only [ckE, decide_eq_true_eq] at h
        subst h
        exact SE.plain (se_const (d := .int i) pe_int fun _ _ => rfl) (fun _ => rfl) (fun _ => by simp only [ev]; rfl) (fun _ => by simp only [ev] <;> rfl)
      | _ => simp [ckE] at h
    | _ => simp [ckE] at h
  | .cstr x, X, sc, cm, W, e, K, tk, h => by
    cases e with
    | Constant c _ _ =>
      cases c with
      | str j =>
        simp only [ckE, decide_eq_true_eq] at h
        subst h
        exact SE.plain (se_const (d := .str x) pe_str fun _ _ => rfl) (fun _ => rfl) (fun _ => by simp only [ev]; rfl) (fun _ => by simp only [ev] <;> rfl)
      | _ => simp [ckE] at h
    | _ => simp [ckE] at h
  | .cnon, X, sc, cm, W, e, K, tk, h => by
    cases e with
    | Constant c _ _ =>
      cases c with
      | none => exact SE.plain (se_const (d := .non) pe_non fun _ _ => rfl) (fun _ => rfl) (fun _ => by simp only [ev]; rfl) (fun _ => by simp only [ev] <;> rfl)
      | _ => simp [ckE] at h
    | _ => simp [ckE] at h
  | .cbl b, X, sc, cm, W, e, K, tk, h => by
    cases e with
    | Constant c _ _ =>
      cases c with
      | bool j =>
        simp only [ckE, decide_eq_true_eq] at h
        subst h
        exact SE.plain (se_const (d := .bl b) pe_bl fun _ _ => rfl) (fun _ => rfl) (fun _ => by simp only [ev]; rfl) (fun _ => by simp only [ev] <;> rfl)
      | _ => simp [ckE] at h
    | _ => simp [ckE] at h
  | .var i, X, sc, cm, W, e, K, tk, h => by
    cases e with
    | Name x p =>
      simp only [ckE, Bool.and_eq_true, decide_eq_true_eq] at h
      obtain ⟨d1, d2, d3⟩ := dbg_ok h.2
      exact SE.plain (se_var (pe_var (by rw [K.nn]; exact h.1.1) (K.vis h.1.2) d1 d2)) (fun _ => rfl) (fun _ => by simp only [ev]; rfl) (fun _ => by simp only [ev] <;> rfl)
    | _ => simp [ckE] at h
  | .glb g, X, sc, cm, W, e, K, tk, h => by
    cases e with
    | Name x p =>
      simp only [ckE, Bool.and_eq_true, decide_eq_true_eq] at h
      obtain ⟨d1, d2, d3⟩ := dbg_ok h.1.2
      obtain ⟨u, v, d, m1, m2, m3, m4⟩ := K.gls _ _ h.2
      exact SE.plain (se_const (d := d) (C8.pe_gc (K.gl h.1.1) ⟨u, m1, m2⟩ d1) m4) (fun _ => rfl) (fun _ => by simp only [ev, m3]; rfl) (fun _ => by simp only [ev, m3])
    | _ => simp [ckE] at h
  | .tup es, X, sc, cm, W, e, K, tk, h => by
    cases e with
    | Tuple xs k p =>
      simp only [ckE, Bool.and_eq_true, decide_eq_true_eq] at h
      obtain ⟨_, hl, hd, _, _⟩ := ckEs_ok es xs K tk h.2
      exact SE.plain (se_tup hd fun ρ S ds S' q => by rw [evs_len q, sizeLine_eq]; omega) (fun _ => rfl) (fun _ => by simp only [ev]; rfl) (fun _ => by simp only [ev] <;> rfl)
    | _ => simp [ckE] at h
  | .lst es, X, sc, cm, W, e, K, tk, h => by
    cases e with
    | List xs p =>
      simp only [ckE, Bool.and_eq_true, decide_eq_true_eq] at h
      obtain ⟨_, hl, hd, _, _⟩ := ckEs_ok es xs K tk h.2
      exact SE.plain (se_lst hd fun ρ S ds S' q => by rw [evs_len q, sizeLine_eq]; omega) (fun _ => rfl) (fun _ => by simp only [ev]; rfl) (fun _ => by simp only [ev] <;> rfl)
    | _ => simp [ckE] at h
  | .dct0, X, sc, cm, W, e, K, tk, h => by
    cases e with
    | Dict a b p =>
      cases a with
      | nil => cases b with
        | nil => exact SE.plain se_dct0 (fun _ => rfl) (fun _ => by simp only [ev]; rfl) (fun _ => by simp only [ev] <;> rfl)
        | cons _ _ => simp [ckE] at h
      | cons _ _ => simp [ckE] at h
    | _ => simp [ckE] at h
  | .bin o a b, X, sc, cm, W, e, K, tk, h => by
    cases e with
    | BinOp x op y p =>
      simp only [ckE, Bool.and_eq_true, decide_eq_true_eq] at h
      obtain ⟨⟨rfl, h1⟩, h2⟩ := h
      exact SE.plain (se_bin (opS_ok K.u64 o) (ckE_ok a x K tk h1).1 (ckE_ok b y K tk h2).1) (fun _ => rfl) (fun _ => by simp only [ev]; rfl) (fun _ => by simp only [ev] <;> rfl)
    | _ => simp [ckE] at h
  | .neg a, X, sc, cm, W, e, K, tk, h => by
    cases e with
    | UnaryOp op x p =>
      cases op with
      | USub => exact SE.plain (se_un neg_K (ckE_ok a x K tk (by simpa [ckE] using h)).1) (fun _ => rfl) (fun _ => by simp only [ev]; rfl) (fun _ => by simp only [ev] <;> rfl)
      | _ => simp [ckE] at h
    | _ => simp [ckE] at h
  | .not_ a, X, sc, cm, W, e, K, tk, h => by
    cases e with
    | UnaryOp op x p =>
      cases op with
      | Not =>
        simp only [ckE, Bool.and_eq_true, Bool.not_eq_true'] at h
        have ih := ckE_ok a x K tk h.2
        refine ⟨?_, fun _ => ?_⟩
        · have : ev C (.not_ a) false = fun ρ => ev C a false ρ >>= truX >>= fun b => M.pure (.dv (.bl (!b))) := funext fun ρ => by simp only [ev, Bool.false_eq_true, if_false]
          rw [this]
          exact se_not ih.1
        · have hf : isFrc a = false := h.1
          have : (fun ρ => ev C (.not_ a) true ρ >>= theB) = fun ρ => (ev C a true ρ >>= theB) >>= fun b => M.pure (!b) := funext fun ρ => by
            simp only [ev, if_true, M.assoc, M.pure_b]
            rfl
          rw [this]
          exact st_not (ih.2 hf)
      | _ => simp [ckE] at h
    | _ => simp [ckE] at h
  | .and_ a b, X, sc, cm, W, e, K, tk, h => by
    cases e with
    | BoolOp op vs p =>
      cases op with
      | Or => simp [ckE] at h
      | And =>
        cases vs with
        | nil => simp [ckE] at h
        | cons x r =>
          cases r with
          | nil => simp [ckE] at h
          | cons y r =>
            simp only [ckE, Bool.and_eq_true, Bool.not_eq_true'] at h
            obtain ⟨⟨⟨f1, f2⟩, h1⟩, h2⟩ := h
            have i1 := ckE_ok a x K tk h1
            have i2 : PE X (.BoolOp .And (y :: r) p) (tV X T W (ev C b false)) ∧ PW X (.BoolOp .And (y :: r) p) (tB X T W fun ρ => ev C b true ρ >>= theB) := by
              cases r with
              | nil => have i2 := ckE_ok b y K tk h2; exact ⟨pe_one i2.1, pw_and1 (i2.2 f2)⟩
              | cons z r => have i2 := ckE_ok b (.BoolOp .And (y :: z :: r) p) K tk h2; exact ⟨i2.1, pw_of_pt (i2.2 f2)⟩
            have e0 : ev C (.and_ a b) false = fun ρ => ev C a false ρ >>= theB >>= fun k => if k then ev C b false ρ else M.pure (.dv (.bl false)) := funext fun ρ => by simp only [ev]
            have e1 : (fun ρ => ev C (.and_ a b) true ρ >>= theB) = fun ρ => (ev C a true ρ >>= theB) >>= fun k => if k then ev C b true ρ >>= theB else M.pure false := funext fun ρ => by
              simp only [ev, M.assoc]
              congr 1; funext v; congr 1; funext k
              cases k <;> rfl
            exact ⟨by rw [e0]; exact se_and i1.1 i2.1, fun _ => by rw [e1]; exact st_and (i1.2 f1) i2.2⟩
    | _ => simp [ckE] at h
  | .or_ a b, X, sc, cm, W, e, K, tk, h => by
    cases e with
    | BoolOp op vs p =>
      cases op with
      | And => simp [ckE] at h
      | Or =>
        cases vs with
        | nil => simp [ckE] at h
        | cons x r =>
          cases r with
          | nil => simp [ckE] at h
          | cons y r =>
            simp only [ckE, Bool.and_eq_true, Bool.not_eq_true'] at h
            obtain ⟨⟨⟨f1, f2⟩, h1⟩, h2⟩ := h
            have i1 := ckE_ok a x K tk h1
            have i2 : PE X (.BoolOp .Or (y :: r) p) (tV X T W (ev C b false)) ∧ PW X (.BoolOp .Or (y :: r) p) (tB X T W fun ρ => ev C b true ρ >>= theB) := by
              cases r with
              | nil => have i2 := ckE_ok b y K tk h2; exact ⟨pe_one i2.1, pw_or1 (i2.2 f2)⟩
              | cons z r => have i2 := ckE_ok b (.BoolOp .Or (y :: z :: r) p) K tk h2; exact ⟨i2.1, pw_of_pt (i2.2 f2)⟩
            have e0 : ev C (.or_ a b) false = fun ρ => ev C a false ρ >>= theB >>= fun k => if k then M.pure (.dv (.bl true)) else ev C b false ρ := funext fun ρ => by simp only [ev]
            have e1 : (fun ρ => ev C (.or_ a b) true ρ >>= theB) = fun ρ => (ev C a true ρ >>= theB) >>= fun k => if k then M.pure true else ev C b true ρ >>= theB := funext fun ρ => by
              simp only [ev, M.assoc]
              congr 1; funext v; congr 1; funext k
              cases k <;> rfl
            exact ⟨by rw [e0]; exact se_or i1.1 i2.1, fun _ => by rw [e1]; exact st_or (i1.2 f1) i2.2⟩
    | _ => simp [ckE] at h
  | .cmp o a b, X, sc, cm, W, e, K, tk, h => by
    cases e with
    | Compare x ops ys p =>
      cases ops with
      | nil => simp [ckE] at h
      | cons op ops =>
        cases ops with
        | cons _ _ => cases ys with
          | nil => simp [ckE] at h
          | cons y ys => cases ys <;> simp [ckE] at h
        | nil =>
          cases ys with
          | nil => simp [ckE] at h
          | cons y ys =>
            cases ys with
            | cons _ _ => simp [ckE] at h
            | nil =>
              simp only [ckE, Bool.and_eq_true, decide_eq_true_eq, Bool.not_eq_true'] at h
              obtain ⟨⟨⟨rfl, hm⟩, h1⟩, h2⟩ := h
              have i1 := (ckE_ok a x K tk h1).1
              have i2 := (ckE_ok b y K tk h2).1
              have e0 : ev C (.cmp o a b) false = fun ρ => ev C a false ρ >>= fun x => ev C b false ρ >>= fun y => cmpX o x y >>= fun k => M.pure (.dv (.bl k)) := funext fun ρ => by simp only [ev]
              have e1 : (fun ρ => ev C (.cmp o a b) true ρ >>= theB) = fun ρ => (ev C a false ρ >>= fun x => ev C b false ρ >>= fun y => cmpX o x y >>= fun k => M.pure (Kd.X.dv (.bl k))) >>= theB := funext fun ρ => by simp only [ev]
              exact ⟨by rw [e0]; exact se_cmp (cmS_ok K.u64 o) hm i1 i2, fun _ => by rw [e1]; exact st_cmp (cmS_ok K.u64 o) hm i1 i2⟩
    | _ => simp [ckE] at h
  | .chn o o2 a b c, X, sc, cm, W, e, K, tk, h => by
    simp only [ckE] at h
    split at h
    · rename_i x op op2 y z p
      simp only [Bool.and_eq_true, decide_eq_true_eq, Bool.not_eq_true'] at h
      obtain ⟨⟨⟨⟨⟨rfl, rfl⟩, hm⟩, h1⟩, h2⟩, h3⟩ := h
      have i1 := (ckE_ok a x K tk h1).1
      have i2 := (ckE_ok b y K tk h2).1
      have i3 := (ckE_ok c z K tk h3).1
      have e0 : ev C (.chn o o2 a b c) false = fun ρ => ev C a false ρ >>= fun x => ev C b false ρ >>= fun y => cmpX o x y >>= fun k => if k then ev C c false ρ >>= fun z => cmpX o2 y z >>= fun b => M.pure (Kd.X.dv (.bl b)) else M.pure (.dv (.bl false)) := funext fun ρ => by simp only [ev]
      have e1 : (fun ρ => ev C (.chn o o2 a b c) true ρ >>= theB) = fun ρ => (ev C a false ρ >>= fun x => ev C b false ρ >>= fun y => cmpX o x y >>= fun k => if k then ev C c false ρ >>= fun z => cmpX o2 y z >>= fun b => M.pure (Kd.X.dv (.bl b)) else M.pure (.dv (.bl false))) >>= theB := funext fun ρ => by simp only [ev]
      exact ⟨by rw [e0]; exact se_chn (cmS_ok K.u64 o) (cmS_ok K.u64 o2) hm i1 i2 i3, fun _ => by rw [e1]; exact st_chn (cmS_ok K.u64 o) (cmS_ok K.u64 o2) hm i1 i2 i3⟩
    · cases h
  | .ite c a b, X, sc, cm, W, e, K, tk, h => by
    cases e with
    | IfExp x y z p =>
      simp only [ckE, Bool.and_eq_true, Bool.not_eq_true'] at h
      obtain ⟨⟨⟨⟨⟨f1, f2⟩, f3⟩, h1⟩, h2⟩, h3⟩ := h
      have i1 := ckE_ok c x K tk h1
      have i2 := ckE_ok a y K tk h2
      have i3 := ckE_ok b z K tk h3
      have e0 : ev C (.ite c a b) false = fun ρ => (ev C c true ρ >>= theB) >>= fun k => if k then ev C a false ρ else ev C b false ρ := funext fun ρ => by simp only [ev]
      have e1 : (fun ρ => ev C (.ite c a b) true ρ >>= theB) = fun ρ => (ev C c true ρ >>= theB) >>= fun k => if k then ev C a true ρ >>= theB else ev C b true ρ >>= theB := funext fun ρ => by
        simp only [ev, M.assoc]
        congr 1; funext v; congr 1; funext k
        cases k <;> rfl
      exact ⟨by rw [e0]; exact se_ite (i1.2 f1) i2.1 i3.1, fun _ => by rw [e1]; exact st_ite (i1.2 f1) (i2.2 f2) (i3.2 f3)⟩
    | _ => simp [ckE] at h
  | .call f es, X, sc, cm, W, e, K, tk, h => by
    simp only [ckE] at h
    split at h
    · rename_i x p y ys pos
      simp only [Bool.and_eq_true, decide_eq_true_eq] at h
      obtain ⟨⟨⟨⟨⟨hcm, hg⟩, hd⟩, hf⟩, hn⟩, hs⟩ := h
      obtain ⟨d1, d2, d3⟩ := dbg_ok hd
      obtain ⟨k, a, fd, ps, F, hr, hm, hk, hb, _⟩ := K.fns hcm x f hf
      obtain ⟨_, _, hD, _, _⟩ := ckEs_ok es (y :: ys) K tk hs
      exact SE.plain (se_call F hr (K.gl hg) hm hk hb tk hD d1 hn) (fun _ => rfl) (fun _ => by simp only [ev]; rfl) (fun _ => by simp only [ev] <;> rfl)
    · cases h
  | .callk f es ks perm, X, sc, cm, W, e, K, tk, h => by
    cases e with
    | Call fx ys kws pos =>
      cases fx with
      | Name x p =>
        simp only [ckE, Bool.and_eq_true, decide_eq_true_eq] at h
        obtain ⟨⟨⟨⟨⟨⟨⟨⟨hcm, hg⟩, hd⟩, hf⟩, hn⟩, h1⟩, h2⟩, hsome⟩, hmem⟩ := h
        obtain ⟨d1, d2, d3⟩ := dbg_ok hd
        obtain ⟨k, a, fd, ps, F, hr, hm, hk, hb, hkb⟩ := K.fns hcm x f hf
        obtain ⟨_, hl1, hD, _, _⟩ := ckEs_ok es ys K tk h1
        obtain ⟨_, hl2, _, _, _⟩ := ckEs_ok ks (kws.map (·.value)) K tk h2
        have hks : kws.map (·.arg) = (kws.map fun k => k.arg.getD default).map some := by
          rw [List.map_map]
          refine List.map_congr_left fun q hq => ?_
          have := List.all_eq_true.mp hsome q hq
          obtain ⟨v, hv⟩ := Option.isSome_iff_exists.mp this
          simp [hv]
        have hPK : PK X kws (tDs X T W (evs C ks)) := ckKw_ok ks kws K tk h2
        refine SE.plain (se_callk F hr (K.gl hg) hm hk (hkb _ _ _ hmem) tk hD hPK rfl (fun e ρ => ?_) (fun ρ S ds S' q => by rw [evs_len q, ← hl1]) (fun ρ S ds S' q => by rw [evs_len q, ← hl2]; simp) hks d1 hn) (fun _ => rfl) (fun _ => by simp only [ev]; rfl) (fun _ => by simp only [ev] <;> rfl)
        have : es = [] := List.length_eq_zero_iff.mp (by rw [← hl1, e]; rfl)
        subst this
        simp only [evs]
      | _ => simp [ckE] at h
    | _ => simp [ckE] at h
  | .isi a t, X, sc, cm, W, e, K, tk, h => by
    simp only [ckE] at h
    split at h
    · rename_i x p y z p2 pos
      simp only [Bool.and_eq_true, decide_eq_true_eq] at h
      obtain ⟨⟨⟨⟨⟨rfl, hg⟩, hg2⟩, rfl⟩, hn⟩, h1⟩ := h
      have i1 := (ckE_ok a y K tk h1).1
      have hm : X.mg "isinstance" = none := K.bl _ (by decide)
      have hm2 : X.mg (Str.ofString (tyN t)) = none := K.bl _ (by cases t <;> decide)
      have ht : PE X (.Name (Str.ofString (tyN t)) p2) (tC (.ty (tyN t))) := pe_bltn (u := .type (tyN t)) (K.gl hg2) hm2 (by cases t <;> rfl) rfl (by cases t <;> decide) (by cases t <;> decide)
      have hE := se_isi (pos := pos) (p := p) (K.gl hg) hm i1 ht hn
      have e0 : ev C (.isi a t) false = fun ρ => ev C a false ρ >>= fun x => isiX t x := funext fun ρ => ev_isi
      have e1 : (fun ρ => ev C (.isi a t) true ρ >>= theB) = fun ρ => (ev C a false ρ >>= fun x => isiX t x) >>= truX := funext fun ρ => by rw [ev_isi, isi_tru]
      exact ⟨by rw [e0]; exact hE, fun _ => by rw [e1]; exact st_plain hE fun _ => rfl⟩
    · cases h
  | .blt b es, X, sc, cm, W, e, K, tk, h => by
    simp only [ckE] at h
    cases q : bltS b with
    | some r =>
      obtain ⟨z, ty, id⟩ := r
      simp only [q] at h
      split at h
      · rename_i x p y ys pos
        simp only [Bool.and_eq_true, decide_eq_true_eq] at h
        obtain ⟨⟨⟨⟨hcm, hg⟩, hb⟩, hn⟩, hs⟩ := h
        obtain ⟨_, _, _, hX, _⟩ := ckEs_ok es (y :: ys) K tk hs
        subst hb
        obtain ⟨c1, c2, c3, c4, c5⟩ := bltS_ok (X := X) (K.calm hcm) K.u66 q
        cases ty with
        | true => exact SE.plain (se_bltT c1 (K.gl hg) (K.bl _ c5) c2 hX c3 c4 hn) (fun _ => rfl) (fun _ => by simp only [ev]; rfl) (fun _ => by simp only [ev] <;> rfl)
        | false => exact SE.plain (se_bltB c1 (K.gl hg) (K.bl _ c5) c2 hX c3 c4 hn) (fun _ => rfl) (fun _ => by simp only [ev]; rfl) (fun _ => by simp only [ev] <;> rfl)
      · cases h
    | none =>
      simp only [q] at h
      split at h
      · rename_i x p z p2 y q1 q2
        simp only [Bool.and_eq_true, Bool.or_eq_true, decide_eq_true_eq] at h
        obtain ⟨⟨⟨⟨⟨⟨hcm, hb⟩, rfl⟩, hg⟩, hg2⟩, hn⟩, hs⟩ := h
        obtain ⟨_, _, _, hX, _⟩ := ckEs_ok es [y] K tk hs
        rcases hb with ⟨rfl, rfl⟩ | ⟨rfl, rfl⟩
        · exact SE.plain (se_sortset (K.calm hcm) K.u66 (K.gl hg) (K.bl _ (by decide)) (K.gl hg2) (K.bl _ (by decide)) hn hX) (fun _ => rfl) (fun _ => by simp only [ev]; rfl) (fun _ => by simp only [ev] <;> rfl)
        · exact SE.plain (se_lenset (K.calm hcm) K.u66 (K.gl hg) (K.bl _ (by decide)) (K.gl hg2) (K.bl _ (by decide)) hn hX) (fun _ => rfl) (fun _ => by simp only [ev]; rfl) (fun _ => by simp only [ev] <;> rfl)
      · cases h
  | .mth m o es, X, sc, cm, W, e, K, tk, h => by
    simp only [ckE] at h
    split at h
    · rename_i x nm ap ys cp
      simp only [Bool.and_eq_true, decide_eq_true_eq] at h
      obtain ⟨⟨⟨⟨⟨⟨hb, hc⟩, hl⟩, h30⟩, hn⟩, h1⟩, hs⟩ := h
      have i1 := (ckE_ok o x K tk h1).1
      obtain ⟨_, hle, _, hX, _⟩ := ckEs_ok es ys K tk hs
      cases q : mtS m with
      | none => rw [q] at hb; cases hb
      | some r =>
        obtain ⟨z, id⟩ := r
        rw [q] at hb
        simp only [decide_eq_true_eq] at hb
        subst hb
        obtain ⟨c1, c2, c3, c4⟩ := mtS_ok K.u64 q
        cases ys with
        | cons y ys => exact SE.plain (se_mth c1 c2 c3 c4 i1 hX hc hl hn h30) (fun _ => rfl) (fun _ => by simp only [ev]; rfl) (fun _ => by simp only [ev] <;> rfl)
        | nil =>
          have : es = [] := List.length_eq_zero_iff.mp hle.symm
          subst this
          exact SE.plain (se_mth0 c1 c2 c3 c4 i1 hc hl) (fun _ => rfl) (fun _ => by simp only [ev, evx, M.pure_b]; rfl) (fun _ => by simp only [ev, evx, M.pure_b])
    · cases h
  | .idx a i, X, sc, cm, W, e, K, tk, h => by
    cases e with
    | Subscript x y p =>
      simp only [ckE, Bool.and_eq_true] at h
      exact SE.plain (se_ix (ix_K K.u64) (plain_ix h.1.1) (ckE_ok a x K tk h.1.2).1 (ckE_ok i y K tk h.2).1) (fun _ => rfl) (fun _ => by simp only [ev]; rfl) (fun _ => by simp only [ev] <;> rfl)
    | _ => simp [ckE] at h
  | .slc a lo hi, X, sc, cm, W, e, K, tk, h => by
    simp only [ckE] at h
    split at h
    · rename_i x l hh p2 p
      simp only [Bool.and_eq_true] at h
      have i1 := (ckE_ok a x K tk h.1.1).1
      obtain ⟨_, l1, _, _, l2⟩ := ckEs_ok lo l.toList K tk h.1.2
      obtain ⟨_, r1, _, _, r2⟩ := ckEs_ok hi hh.toList K tk h.2
      have hl : PO X l (tP (fun ρ => evx C lo ρ >>= partX) X T W) := by
        cases l with
        | none =>
          have : lo = [] := List.length_eq_zero_iff.mp l1.symm
          subst this
          simp only [evx]
          exact so_none
        | some y =>
          obtain ⟨z, rfl⟩ := List.length_eq_one_iff.mp l1.symm
          simp only [evx]
          exact so_some (l2 z y rfl rfl).1
      have hr : PO X hh (tP (fun ρ => evx C hi ρ >>= partX) X T W) := by
        cases hh with
        | none =>
          have : hi = [] := List.length_eq_zero_iff.mp r1.symm
          subst this
          simp only [evx]
          exact so_none
        | some y =>
          obtain ⟨z, rfl⟩ := List.length_eq_one_iff.mp r1.symm
          simp only [evx]
          exact so_some (r2 z y rfl rfl).1
      exact SE.plain (se_slc i1 hl hr) (fun _ => rfl) (fun _ => by simp only [ev]; rfl) (fun _ => by simp only [ev] <;> rfl)
    · cases h
  | .rev _, X, sc, cm, W, e, K, tk, h => by simp [ckE] at h
  | .frc a, X, sc, cm, W, e, K, tk, h => by
    have i1 := (ckE_ok a e K tk (by simpa only [ckE] using h)).1
    have e0 : ev C (.frc a) false = fun ρ => (ev C a false ρ >>= force) >>= fun d => M.pure (.dv d) := funext fun ρ => by simp only [ev]; rfl
    exact ⟨by rw [e0]; exact pe_frc i1, fun z => nomatch z⟩
  | .fld _ _, X, sc, cm, W, e, K, tk, h => by simp [ckE] at h
  | .lc elt tg k es ifs own, X, sc, cm, W, e, K, tk, h => by
    simp only [ckE] at h
    split at h
    · rename_i x t iter fs a scope pos
      simp only [Bool.and_eq_true, decide_eq_true_eq, List.all_eq_true] at h
      obtain ⟨⟨⟨⟨⟨⟨⟨⟨⟨⟨rfl, hcm⟩, hB⟩, hT⟩, hO⟩, hI⟩, hfl⟩, hff⟩, hfs⟩, hel⟩, hset⟩ := h
      obtain ⟨b1, b2⟩ := blk_ok K hB
      have eo : (own.map fun i => (N.getD i default, i)).map (·.2) = own := by rw [List.map_map]; exact List.map_id' own
      cases q : itArgs sc k iter t with
      | none => rw [q] at hI; cases hI
      | some xs =>
        rw [q] at hI
        have hS := ckEs_ok es xs K tk hI
        obtain ⟨hns, hPI⟩ := it_ok K q hS
        have hin : ∀ i ∈ tg.ids, i ∈ (own.map fun i => (N.getD i default, i)).map (·.2) := by rw [eo]; exact hO
        have hE : PE X (.ListComp x [⟨t, iter, fs, 0⟩] scope pos) (tV X T W fun ρ => (evx C es ρ >>= fun xs => walk k xs) >>= fun ig => calm (lcRun ig.2 (fun d => bindT tg d (wipeE ρ own)) (fun ρ => evc C ifs ρ) (fun ρ => ev C elt false ρ >>= force) ig.1 []) >>= fun ds => M.pure (Kd.X.tl ds)) := by
          refine pe_mono (se_lc (fc := fun ρ => evc C ifs ρ) (K.calm hcm) (by rw [K.nn]; exact K.nd) hPI b2 hin (fun s H D cl fp => ckTg_ok (K.blk b1 s H D cl fp) (K.calm hcm) hT) (fun s H D cl fp => ?_) (fun s H D cl fp => pe_force (ckE_ok elt x (K.blk b1 s H D cl fp) takes_none5 hel).1) (no_set hns)) fun σ H Q z => ?_
          · obtain ⟨_, fl, _, _, f1⟩ := ckEs_ok ifs fs (W := W0) (K.blk b1 s H D cl fp) takes_none5 hfs
            cases ifs with
            | nil =>
              have : fs = [] := List.length_eq_zero_iff.mp fl
              subst this
              refine pts_mono pts_nil fun σ H Q ⟨m, S, ρ, E, R, z⟩ => ?_
              simp only [evc] at z
              exact z m H Ext.refl R
            | cons f r =>
              cases r with
              | cons _ _ => simp at hfl
              | nil =>
                obtain ⟨y, rfl⟩ := List.length_eq_one_iff.mp fl
                have := (f1 f y rfl rfl).2 (by simpa using hff f (by simp))
                have e2 : (fun ρ => evc C [f] ρ) = fun ρ => ev C f true ρ >>= theB := funext fun ρ => by
                  simp only [evc]
                  refine M.ext fun S => ?_
                  rw [bindE]
                  cases (ev C f true ρ >>= theB) S with
                  | ok b S1 => cases b <;> rfl
                  | _ => rfl
                rw [e2]
                exact pts_one this
          · rw [eo]
            exact lc_ok (by rw [eo] at hin; exact hin) z
        exact SE.plain hE (fun _ => rfl) (fun ρ => by simp only [ev, M.assoc]; rfl) (fun ρ => by simp only [ev, M.assoc])
    · cases h
theorem ckKw_ok : ∀ (xs : List Ex) {X : Cx} {sc : Scn} {cm : Bool} {W : WX} (kws : List Keyword), Ok X T L N C up sc cm → Takes X W → ckEs L N cm sc xs (kws.map (·.value)) = true → PK X kws (tDs X T W (evs C xs))
  | [], X, sc, cm, W, kws, K, tk, h => by
    cases kws with
    | nil =>
      have e1 : evs C [] = fun _ => M.pure [] := funext fun _ => by simp only [evs]
      rw [e1]; exact pk_nilD
    | cons _ _ => simp [ckEs] at h
  | x :: xs, X, sc, cm, W, kws, K, tk, h => by
    cases kws with
    | nil => simp [ckEs] at h
    | cons k kws =>
      obtain ⟨nm, e, kp⟩ := k
      simp only [List.map_cons, ckEs, Bool.and_eq_true] at h
      obtain ⟨⟨h0, h1⟩, h2⟩ := h
      have e1 : evs C (x :: xs) = fun ρ => (ev C x false ρ >>= force) >>= fun d => evs C xs ρ >>= fun ds => M.pure (d :: ds) := funext fun _ => by simp only [evs]
      rw [e1]
      exact pk_consD (ckE_ok x e K tk h1).1 (ckKw_ok xs kws K tk h2)
theorem ckEs_ok : ∀ (xs : List Ex) {X : Cx} {sc : Scn} {cm : Bool} {W : WX} (es : List Expr), Ok X T L N C up sc cm → Takes X W → ckEs L N cm sc xs es = true → SEs X T W C xs es
  | [], X, sc, cm, W, es, K, tk, h => by
    cases es with
    | nil =>
      have e1 : evs C [] = fun _ => M.pure [] := funext fun _ => by simp only [evs]
      have e2 : evx C [] = fun _ => M.pure [] := funext fun _ => by simp only [evx]
      exact ⟨rfl, rfl, by rw [e1]; exact pa_nilD, by rw [e2]; exact pa_nilX, fun _ _ z => nomatch z⟩
    | cons _ _ => simp [ckEs] at h
  | x :: xs, X, sc, cm, W, es, K, tk, h => by
    cases es with
    | nil => simp [ckEs] at h
    | cons e es =>
      simp only [ckEs, Bool.and_eq_true] at h
      obtain ⟨⟨h0, h1⟩, h2⟩ := h
      have i1 := ckE_ok x e K tk h1
      obtain ⟨j1, j2, j3, j4, j5⟩ := ckEs_ok xs es K tk h2
      have e1 : evs C (x :: xs) = fun ρ => (ev C x false ρ >>= force) >>= fun d => evs C xs ρ >>= fun ds => M.pure (d :: ds) := funext fun _ => by simp only [evs]
      have e2 : evx C (x :: xs) = fun ρ => ev C x false ρ >>= fun d => evx C xs ρ >>= fun ds => M.pure (d :: ds) := funext fun _ => by simp only [evx]
      refine ⟨by simp [h0, j1], by simp [j2], by rw [e1]; exact pa_consD h0 i1.1 j3, by rw [e2]; exact pa_consX h0 i1.1 j4, fun y f z w => ?_⟩
      cases z
      cases w
      exact i1
end
end
end Kd
/-! The checker of statements. -/
namespace Kd
open PySem PySem.Spec PyProof.Rows L2
def isComp : Expr → Bool
  | .ListComp _ _ _ _ => true
  | .SetComp _ _ _ _ => true
  | .DictComp _ _ _ _ _ => true
  | _ => false
/-- is the comprehension's value stored at once -/
def swB (sc : Scn) (x : Str) (p : Pos) : Expr → Bool
  | .ListComp a b s q => decide (sc.lookup x = some .local) && p.line == q.line && !(s.names.any fun (n, k) => n == x && (k == .local || k == .cell))
  | _ => false
def foldT : Expr → Bool
  | .Tuple vs _ _ => vs.all noStar && vs.all (foldedForSure 8)
  | _ => true
/-- a, b = .. with plain names -/
def parB (sc : Scn) (i j : Nat) (x : Str) (px : Pos) (y : Str) (py : Pos) (va vb : Expr) : Bool :=
  decide (i ≠ j) && decide (x ≠ y) && decide (sc.lookup x = some .local) && decide (sc.lookup y = some .local) && (px.line == py.line) && noStar va && noStar vb && !([va, vb].all (foldedForSure 8)) && !([va, vb].all (constantsAlone 8))
def simpS : St → Bool
  | .set _ _ => true
  | .setT _ _ => true
  | .par _ _ _ _ => true
  | .sub _ _ _ => true
  | .exp _ => true
  | .ret _ => true
  | .ret0 => true
  | .pass => true
  | .rai _ _ => true
  | _ => false
mutual
def ckS (L : Lk) (N : List Str) (cm : Bool) (sc : Scn) : St → Stmt → Bool
  | .set i e, s => (match s with
    | .Assign [.Name x p] v _ => ckN N sc i (.Name x p) && ckE L N cm sc e v && (!isComp v || !swB sc x p v || (match e with
      | .lc _ _ _ _ _ _ => true
      | _ => false))
    | _ => false)
  | .setT is e, s => (match s with
    | .Assign [.Tuple xs _ _] v _ => cm && ckNs N sc is xs && ckE L N cm sc e v && foldT v
    | _ => false)
  | .par i j a b, s => (match s with
    | .Assign [.Tuple [.Name x px, .Name y py] _ _] (.Tuple [va, vb] _ _) _ => cm && ckN N sc i (.Name x px) && ckN N sc j (.Name y py) && parB sc i j x px y py va vb && ckE L N cm sc a va && ckE L N cm sc b vb
    | _ => false)
  | .sub o i e, s => (match s with
    | .Assign [.Subscript x y _] v _ => noSlice y && ckE L N cm sc o x && ckE L N cm sc i y && ckE L N cm sc e v
    | _ => false)
  | .fld _ _ _, _ => false
  | .aug _ _ _, _ => false
  | .exp e, s => (match s with
    | .Expr v _ => !isComp v && ckE L N cm sc e v
    | _ => false)
  | .if_ c a b, s => (match s with
    | .If x y z _ => !isFrc c && ckE L N cm sc c x && ckL L N cm sc a y && ckL L N cm sc b z
    | _ => false)
  | .for_ tg k es body, s => (match s with
    | .For t iter b [] _ => cm && ckTg N sc tg t && (match itArgs sc k iter t with
      | some xs => ckEs L N cm sc es xs
      | none => false) && ckL L N cm sc body b
    | _ => false)
  | .whl c body, s => (match s with
    | .While x b [] _ => cm && !isFrc c && ckE L N cm sc c x && ckL L N cm sc body b
    | _ => false)
  | .brk, s => (match s with
    | .Break _ => true
    | _ => false)
  | .cnt, s => (match s with
    | .Continue _ => true
    | _ => false)
  | .pass, s => (match s with
    | .Pass _ => true
    | _ => false)
  | .ret e, s => (match s with
    | .Return (some v) _ => ckE L N cm sc e v
    | _ => false)
  | .ret0, s => (match s with
    | .Return none _ => true
    | _ => false)
  | .rai c es, s => (match s, es with
    | .Raise (some (.Call (.Name x _) [.Constant (.str _) _ _] [] _)) none _, [] => cm && glB sc x && dbg x && decide (L.cls.lookup x = some c)
    | _, _ => false)
  | .try_ body cs hs, s => (match s, body with
    | .Try [st] hds [] [] _, [b] => cm && simpS b && ckS L N cm sc b st && ckH L N sc hs cs hds && !hds.isEmpty
    | _, _ => false)
def ckL (L : Lk) (N : List Str) (cm : Bool) (sc : Scn) : List St → List Stmt → Bool
  | [], ss => (match ss with
    | [] => true
    | _ => false)
  | x :: xs, ss => (match ss with
    | s :: ss => ckS L N cm sc x s && ckL L N cm sc xs ss
    | [] => false)
def ckH (L : Lk) (N : List Str) (sc : Scn) : List (List St) → List (Nat × Option Nat) → List ExceptHandler → Bool
  | [], cs, hds => (match cs, hds with
    | [], [] => true
    | _, _ => false)
  | h :: hs, cs, hds => (match cs, hds with
    | (c, none) :: cs, .ExceptHandler (some (.Name x _)) none (b0 :: suite) _ :: hds => glB sc x && dbg x && decide (L.cls.lookup x = some c) && ckL L N false sc h (b0 :: suite) && ckH L N sc hs cs hds
    | _, _ => false)
end
/-! ### contexts -/
structure OkF (X : Cx) : Prop where
  stk : X.stack = X.env :: X.outer
  frm : X.env.frame = some X.env.locals
  po : PassesOwn (model X.prog X.w) X.A X.env X.xe
section
variable {X : Cx} {T : Cls'} {L : Lk} {N : List Str} {C : Ctx} {up : Nat → Nat → Bool} {sc : Scn} {cm : Bool} {W : WX}
theorem Ok.tr (K : Ok X T L N C up sc cm) (pn : List (Addr × Obj)) (xe : Value → Shared → Prop) : Ok (X.tr pn xe) T L N C up sc cm :=
  ⟨K.calm, K.nn, K.nd, K.un, K.kind, K.scn, K.cell, K.fns, K.bl, K.gls, K.cls, K.ups⟩
theorem Ok.suite (K : Ok X T L N C up sc cm) (a : Addr) (pn : List (Addr × Obj)) : Ok (X.suite a pn) T L N C up sc false :=
  ⟨(fun z => nomatch z), K.nn, K.nd, K.un, K.kind, K.scn, K.cell, (fun z => nomatch z), K.bl, K.gls, K.cls, K.ups⟩
theorem kind_loc (K : Ok X T L N C up sc cm) {x : Str} (hl : locB sc x = true) : (X.env.kindOf x == some NameKind.local) = decide (sc.lookup x = some .local) := by
  unfold locB at hl
  cases e : sc.lookup x with
  | none => rw [e] at hl; cases hl
  | some k =>
    obtain ⟨k', e1, e2⟩ := K.scn x _ e
    have e3 : X.env.kindOf x = some k' := e1
    rw [e3]
    rw [e] at hl
    cases k with
    | «local» =>
      rcases e2 with rfl | ⟨z, _⟩
      · rfl
      · cases z
    | cell =>
      rcases e2 with rfl | ⟨z, _⟩
      · rfl
      · cases z
    | _ => cases hl
theorem swap_eq (K : Ok X T L N C up sc cm) {x : Str} {p : Pos} {a : Expr} {b : List Comprehension} {s : Scope} {q : Pos} {line : Nat} (hl : locB sc x = true) : swapsWith (.ListComp a b s q) (some (.Name x p)) line X.env = pure (swB sc x p (.ListComp a b s q)) := by
  have hbk : X.env.blockKind = .function := by unfold Env.blockKind; rw [K.kind]; rfl
  show (pure (X.env.blockKind == .function && X.env.kindOf x == some .local && p.line == q.line && !(s.names.any fun (n, k) => n == x && (k == .local || k == .cell))) : Sem Bool) = _
  rw [kind_loc K hl, hbk]
  rfl
/-- what a checked expression is, if it is a comprehension -/
theorem ck_comp : ∀ (x : Ex) {v : Expr}, ckE L N cm sc x v = true → (∀ a b q r, v ≠ .SetComp a b q r) ∧ ∀ a b c q r, v ≠ .DictComp a b c q r
  | .frc a, v, h => ck_comp a (by simpa only [ckE] using h)
  | x, v, h => by
    cases v with
    | SetComp a b q r =>
      cases x with
      | frc a => exact ck_comp a (by simpa only [ckE] using h)
      | blt b es => simp only [ckE] at h; cases q : bltS b <;> simp [q] at h
      | _ => simp [ckE] at h
    | DictComp a b c q r =>
      cases x with
      | frc a => exact ck_comp a (by simpa only [ckE] using h)
      | blt b es => simp only [ckE] at h; cases q : bltS b <;> simp [q] at h
      | _ => simp [ckE] at h
    | _ => exact ⟨by intros; simp, by intros; simp⟩
end
end Kd
/-! The checker of statements is right. -/
namespace Kd
open PySem PySem.Spec PyProof.Rows L2
section
variable {T : Cls'} {L : Lk} {N : List Str} {C : Ctx} {up : Nat → Nat → Bool}
theorem lc_set {X : Cx} {sc : Scn} {cm : Bool} {W : WX} {elt : Ex} {tg : Tg} {k : Ik} {es ifs : List Ex} {own : List Nat} {e : Expr} {i : Nat} {y : Str} {py pos2 : Pos} (K : Ok X T L N C up sc cm) (tk : Takes X W) (h : ckE L N cm sc (.lc elt tg k es ifs own) e = true)
    (hi : N[i]? = some y) (hy : locB sc y = true) (hb : swB sc y py e = true) : PS X (.Assign [.Name y py] e pos2) (tS1 X T W fun ρ => (ev C (.lc elt tg k es ifs own) false ρ >>= force) >>= fun d => M.pure (.nx, ρ.set i (some d))) := by
  simp only [ckE] at h
  split at h
  · rename_i x t iter fs a scope pos
    simp only [Bool.and_eq_true, decide_eq_true_eq, List.all_eq_true] at h
    obtain ⟨⟨⟨⟨⟨⟨⟨⟨⟨⟨rfl, hcm⟩, hB⟩, hT⟩, hO⟩, hI⟩, hfl⟩, hff⟩, hfs⟩, hel⟩, hset⟩ := h
    obtain ⟨b1, b2⟩ := blk_ok K hB
    have eo : (own.map fun i => (N.getD i default, i)).map (·.2) = own := by rw [List.map_map]; exact List.map_id' own
    have e2 := swap_eq (line := pos2.line) (p := py) (a := x) (b := [⟨t, iter, fs, 0⟩]) (s := scope) (q := pos) K hy
    rw [hb] at e2
    have hloc : X.env.scope.names.lookup y = some .local := by
      simp only [swB, Bool.and_eq_true, decide_eq_true_eq] at hb
      obtain ⟨k', q1, q2⟩ := K.scn y _ hb.1.1
      rcases q2 with rfl | ⟨z, _⟩
      · exact q1
      · cases z
    cases q : itArgs sc k iter t with
    | none => rw [q] at hI; cases hI
    | some xs =>
      rw [q] at hI
      have hS := ckEs_ok es xs K tk hI
      obtain ⟨hns, hPI⟩ := it_ok K q hS
      have hin : ∀ i ∈ tg.ids, i ∈ (own.map fun i => (N.getD i default, i)).map (·.2) := by rw [eo]; exact hO
      refine ps_mono (ps_setLc (te := tF X T W0 fun ρ => ev C elt false ρ >>= force) (tt := tB X T W0 fun ρ => evc C ifs ρ) (g := tG X tg) (K.calm hcm) (by rw [K.nn]; exact K.nd) (by rw [K.nn]; exact hi) hloc e2 hPI b2 (fun s H D cl fp => ckTg_ok (K.blk b1 s H D cl fp) (K.calm hcm) hT) (fun s H D cl fp => ?_)
        (fun s H D cl fp => pe_force (ckE_ok elt x (K.blk b1 s H D cl fp) takes_none5 hel).1) (no_set hns)) fun D σ H z => ?_
      · obtain ⟨_, fl, _, _, f1⟩ := ckEs_ok ifs fs (W := W0) (K.blk b1 s H D cl fp) takes_none5 hfs
        cases ifs with
        | nil =>
          have : fs = [] := List.length_eq_zero_iff.mp fl
          subst this
          refine pts_mono pts_nil fun σ H Q ⟨m, S, ρ, E, R, z⟩ => ?_
          simp only [evc] at z
          exact z m H Ext.refl R
        | cons f r =>
          cases r with
          | cons _ _ => simp at hfl
          | nil =>
            obtain ⟨w, rfl⟩ := List.length_eq_one_iff.mp fl
            have := (f1 f w rfl rfl).2 (by simpa using hff f (by simp))
            have e2 : (fun ρ => evc C [f] ρ) = fun ρ => ev C f true ρ >>= theB := funext fun ρ => by
              simp only [evc]
              refine M.ext fun S => ?_
              rw [bindE]
              cases (ev C f true ρ >>= theB) S with
              | ok b S1 => cases b <;> rfl
              | _ => rfl
            rw [e2]
            exact pts_one this
      · rw [eo]
        refine lc_ok (by rw [eo] at hin; exact hin) (force_t (set_t (f := fun ρ => _) ?_))
        have e3 : ev C (.lc elt tg k es ifs own) false = fun ρ => (evx C es ρ >>= fun xs => walk k xs) >>= fun ig => calm (lcRun ig.2 (fun d => bindT tg d (wipeE ρ own)) (fun ρ => evc C ifs ρ) (fun ρ => ev C elt false ρ >>= force) ig.1 []) >>= fun ds => M.pure (Kd.X.tl ds) := funext fun ρ => by simp only [ev, M.assoc]; rfl
        rw [e3] at z
        exact z
  · cases h
theorem fold_ok {X : Cx} {es : List Expr} {k : Nat} {p : Pos} {v : Expr} (h : foldT v = true) : swappedStores [.Tuple es k p] v X.env = pure none := by
  cases v with
  | Tuple vs k2 p2 =>
    simp only [foldT, Bool.and_eq_true] at h
    simp only [swappedStores]
    split
    · rfl
    · split
      · rfl
      · split
        · rfl
        · rw [if_pos h.2]
  | _ => rfl
theorem par_ok {X : Cx} {sc : Scn} {cm : Bool} (K : Ok X T L N C up sc cm) {i j : Nat} {x y : Str} {px py pt pt2 : Pos} {kt k2 : Nat} {va vb : Expr} (h : parB sc i j x px y py va vb = true) :
    i ≠ j ∧ X.env.scope.names.lookup x = some .local ∧ X.env.scope.names.lookup y = some .local ∧ noStar va = true ∧ noStar vb = true ∧ swappedStores [.Tuple [.Name x px, .Name y py] kt pt] (.Tuple [va, vb] k2 pt2) X.env = pure (some [x, y]) := by
  simp only [parB, Bool.and_eq_true, decide_eq_true_eq, Bool.not_eq_true'] at h
  obtain ⟨⟨⟨⟨⟨⟨⟨⟨h1, h2⟩, h3⟩, h4⟩, h5⟩, h6⟩, h7⟩, h8⟩, h9⟩ := h
  have loc : ∀ {z : Str}, sc.lookup z = some .local → X.env.scope.names.lookup z = some .local := fun {z} e => by
    obtain ⟨k', q1, q2⟩ := K.scn z _ e
    rcases q2 with rfl | ⟨w, _⟩
    · exact q1
    · cases w
  have hbk : X.env.blockKind = .function := by unfold Env.blockKind; rw [K.kind]; rfl
  have kx : X.env.kindOf x = some .local := loc h3
  have ky : X.env.kindOf y = some .local := loc h4
  refine ⟨h1, loc h3, loc h4, h6, h7, ?_⟩
  have e5 : (py.line == px.line) = true := by rw [beq_iff_eq] at h5 ⊢; exact h5.symm
  have hd : (y == x) = false := by simpa using fun e => h2 e.symm
  simp only [swappedStores]
  split
  · rename_i hh
    simp [hbk] at hh
  · split
    · rename_i hh
      rw [List.any_eq_true] at hh
      obtain ⟨z, hz, hq⟩ := hh
      simp only [List.mem_cons, List.not_mem_nil, or_false] at hz
      rcases hz with rfl | rfl
      · cases z <;> first | (exfalso; exact Bool.false_ne_true hq) | (exfalso; exact Bool.false_ne_true h6)
      · cases z <;> first | (exfalso; exact Bool.false_ne_true hq) | (exfalso; exact Bool.false_ne_true h7)
    · rw [if_neg (show ¬ ([va, vb].all (foldedForSure 8) = true) from by rw [h8]; simp), if_neg (show ¬ ([va, vb].all (constantsAlone 8) = true) from by rw [h9]; simp)]
      have e0 : (([Expr.Name x px, Expr.Name y py].head?.map (·.pos.line)).getD 0) = px.line := rfl
      simp only [List.filterMap_cons, List.filterMap_nil, e0, kx, ky]
      have e6 : ((some NameKind.local == some NameKind.local && px.line == px.line) = true) := by simp
      have e8 : py.line = px.line := beq_iff_eq.mp e5
      simp [e8, hd, List.eraseDups_cons]
end
end Kd
/-! The checker of statements is right: the induction. -/
namespace Kd
open PySem PySem.Spec PyProof.Rows L2
section
variable {T : Cls'} {L : Lk} {N : List Str} {C : Ctx} {up : Nat → Nat → Bool}
theorem ss_rai {X : Cx} {sc : Scn} {cm : Bool} {W : WX} {c : Nat} {x m : Str} {p p2 p3 pos : Pos} {j : Nat} (K : Ok X T L N C up sc cm) (hc : X.calm = true) (tk : Takes X W) (hg : glB sc x = true) (hd : dbg x = true) (hl : L.cls.lookup x = some c) :
    PS X (.Raise (some (.Call (.Name x p) [.Constant (.str m) j p2] [] p3)) none pos) (tS1 X T W fun ρ => ⟨fun S => .exc c none S⟩) := by
  obtain ⟨a, bmB, B, newId, initId, h1, F, h2, h3, h4, h5⟩ := K.cls x c hl
  refine ps_mono (ps_raise hc tk (pmk_own F h2 h3 h4 h5 (K.gl hg) (dbg_ok hd).1)) fun D σ H ⟨m, S, ρ, E, R, z⟩ => ?_
  have := z m H (T.cls c) none Ext.refl R ⟨rfl, rfl⟩
  rw [h1] at this
  exact this
theorem calm_Y {G : Gd} {Y Y' : XK} {m : List Addr} {H : Hp} {S : Sto} {α : Type} {x : M α} {k : List Addr → Hp → Sto → α → Prop} (h : Pst G T Y m H (calm x S) k) : Pst G T Y' m H (x S) k := by
  unfold calm at h
  cases q : x S with
  | ok a S1 => simp only [q] at h; exact h
  | exc c d S1 => simp only [q] at h; exact h.elim
  | bad => simp only [q] at h; exact h.elim
/-- the clauses, one after another -/
theorem hands {X : Cx} {Y : XK} {W : WX} {D : Ends} {σ : L2.St} {m : List Addr} {H : Hp} {ρ : Env} {c : Nat} {d : Option Kd.D} {S : Sto} {cl : Value} {dx : Option Addr} (hups : ∀ h, (∃ y, L.cls.lookup y = some h) → PySem.W.exmOne X.K cl (T.cls h) = some (up c h)) (hY : ∀ σ' cl d H', Y cl d H' → W cl d σ' H') (E : RelE X.K m H ρ σ) (R : RelS (gd X) m H S) (rx : RelXc X.K T m H c d cl dx) :
    ∀ (hs : List (List St)) (cs : List (Nat × Option Nat)) (n : Nat) (hs0 : List (List St)), (∀ p ∈ cs, p.2 = none ∧ ∃ y, L.cls.lookup y = some p.1) → hs0.drop n = hs → hs.length = cs.length →
      Pst (gd X) T Y m H (match catch_ up c cs n with
      | some (i, none) => calm (exH C up hs0 i ρ) S
      | some (_, some _) => .bad
      | none => .exc c d S) (kS (gd X) D) →
      wMany X.K W D ((cs.zip hs).map fun p => (T.cls p.1.1, fun _ _ _ => tS X T W0 (exL C up p.2))) cl dx σ H
  | hs, [], n, hs0, hc, hd, hl, h => by
    cases hs with
    | nil => exact hY σ _ _ _ (h m H cl dx Ext.refl R rx)
    | cons _ _ => simp at hl
  | [], _ :: _, _, _, _, _, hl, _ => by simp at hl
  | h0 :: hs, (k, nm) :: cs, n, hs0, hc, hd, hl, h => by
    obtain ⟨e1, e2⟩ := hc (k, nm) (by simp)
    simp only at e1 e2
    subst e1
    have hn : n < hs0.length := by
      have := congrArg List.length hd
      simp only [List.length_drop, List.length_cons] at this
      omega
    have hd0 : hs0[n]? = some h0 ∧ hs0.drop (n + 1) = hs := by
      rw [List.drop_eq_getElem_cons hn] at hd
      simp only [List.cons.injEq] at hd
      exact ⟨by rw [List.getElem?_eq_getElem hn, hd.1], hd.2⟩
    refine ⟨up c k, hups k e2, fun hb a ha => ?_, fun hb => ?_⟩
    · simp only [catch_, hb, if_true] at h
      refine ⟨m, S, ρ, fun _ _ _ => False, E, R, fun _ _ _ _ z => z, ?_⟩
      have q : ∀ (l : List (List St)) (i : Nat) (h0 : List St), l[i]? = some h0 → exH C up l i ρ = exL C up h0 ρ := by
        intro l
        induction l with
        | nil => intro i h0 e; simp at e
        | cons y ys ih =>
          intro i h0 e
          cases i with
          | zero => simp at e; subst e; simp only [exH]
          | succ i => simp only [exH]; exact ih i h0 (by simpa using e)
      rw [← q hs0 n h0 hd0.1]
      exact calm_Y h
    · refine hands hups hY E R rx hs cs (n + 1) hs0 (fun p hp => hc p (List.mem_cons_of_mem _ hp)) hd0.2 (by simpa using hl) ?_
      simp only [catch_, hb, Bool.false_eq_true, if_false] at h
      exact h
theorem isc {sc : Scn} {cm : Bool} {x : Ex} {v : Expr} (h : ckE L N cm sc x v = true) (hn : isComp v = false) : ∀ {X : Cx} {t : Option Expr} {line : Nat}, swapsWith v t line X.env = pure false := fun {X t line} => by
  cases v <;> first | rfl | cases hn
mutual
theorem ckS_ok : ∀ (st : St) {X : Cx} {sc : Scn} {cm : Bool} {W : WX} (s : Stmt), Ok X T L N C up sc cm → (cm = true → OkF X) → Takes X W → ckS L N cm sc st s = true → PS X s (tS X T W (exS C up st)) ∧ (simpS st = true → PS X s (tS1 X T W (exS C up st)))
  | .set i e, X, sc, cm, W, s, K, F, tk, h => by
    simp only [ckS] at h
    split at h
    · rename_i x p v pos
      simp only [Bool.and_eq_true] at h
      obtain ⟨⟨h1, h2⟩, h3⟩ := h
      have h1' := h1
      simp only [ckN, Bool.and_eq_true, decide_eq_true_eq] at h1'
      obtain ⟨l1, l2⟩ := K.loc h1'.1.2
      have e0 : exS C up (.set i e) = fun ρ => (ev C e false ρ >>= force) >>= fun d => M.pure (.nx, ρ.set i (some d)) := funext fun ρ => by simp only [exS]
      have main : PS X (.Assign [.Name x p] v pos) (tS1 X T W (exS C up (.set i e))) := by
        rw [e0]
        have plain : swapsWith v (some (.Name x p)) pos.line X.env = pure false → PS X (.Assign [.Name x p] v pos) (tS1 X T W fun ρ => (ev C e false ρ >>= force) >>= fun d => M.pure (.nx, ρ.set i (some d))) := fun hs =>
          ss_set (by rw [K.nn]; exact K.nd) (by rw [K.nn]; exact h1'.1.1) l1 (ckE_ok e v K tk h2).1 hs l2
        by_cases hc : isComp v = true
        · obtain ⟨n1, n2⟩ := ck_comp e h2
          cases v with
          | SetComp a b q r => exact (n1 _ _ _ _ rfl).elim
          | DictComp a b c q r => exact (n2 _ _ _ _ _ rfl).elim
          | ListComp a b q r =>
            by_cases hb : swB sc x p (.ListComp a b q r) = true
            · rw [hc, hb] at h3
              simp only [Bool.not_true, Bool.false_or] at h3
              cases e with
              | lc elt tg k es ifs own => exact lc_set K tk h2 h1'.1.1 h1'.1.2 hb
              | _ => cases h3
            · have e2 := swap_eq (line := pos.line) (p := p) (a := a) (b := b) (s := q) (q := r) K h1'.1.2
              rw [Bool.not_eq_true] at hb
              rw [hb] at e2
              exact plain e2
          | _ => cases hc
        · rw [Bool.not_eq_true] at hc
          exact plain (isc h2 hc)
      exact ⟨ss_of1 main, fun _ => main⟩
    · cases h
  | .setT is e, X, sc, cm, W, s, K, F, tk, h => by
    simp only [ckS] at h
    split at h
    · rename_i xs k tp v pos
      simp only [Bool.and_eq_true] at h
      obtain ⟨⟨⟨hcm, h1⟩, h2⟩, h3⟩ := h
      obtain ⟨i1, i2, i3⟩ := ckNs_ok K h1
      have e0 : exS C up (.setT is e) = fun ρ => (ev C e false ρ >>= force) >>= fun d => unpack d is.length >>= fun ds => M.pure (.nx, setAll ρ is ds) := funext fun ρ => by simp only [exS]
      have main : PS X (.Assign [.Tuple xs k tp] v pos) (tS1 X T W (exS C up (.setT is e))) := by
        rw [e0]
        exact ss_setT (sg_unp (K.calm hcm) i1 i2 i3) (ckE_ok e v K tk h2).1 (fold_ok h3)
      exact ⟨ss_of1 main, fun _ => main⟩
    · cases h
  | .par i j a b, X, sc, cm, W, s, K, F, tk, h => by
    simp only [ckS] at h
    split at h
    · rename_i x px y py kt pt va vb k2 pt2 pos
      simp only [Bool.and_eq_true] at h
      obtain ⟨⟨⟨⟨⟨hcm, h1⟩, h2⟩, h3⟩, h4⟩, h5⟩ := h
      simp only [ckN, Bool.and_eq_true, decide_eq_true_eq] at h1 h2
      obtain ⟨p1, p2, p3, p4, p5, p6⟩ := par_ok (pt := pt) (kt := kt) (pt2 := pt2) (k2 := k2) K h3
      have e0 : exS C up (.par i j a b) = fun ρ => (ev C a false ρ >>= force) >>= fun d => (ev C b false ρ >>= force) >>= fun e => M.pure (.nx, (ρ.set i (some d)).set j (some e)) := funext fun ρ => by simp only [exS]
      have main : PS X (.Assign [.Tuple [.Name x px, .Name y py] kt pt] (.Tuple [va, vb] k2 pt2) pos) (tS1 X T W (exS C up (.par i j a b))) := by
        rw [e0]
        exact ss_par (K.calm hcm) (by rw [K.nn]; exact K.nd) (by rw [K.nn]; exact h1.1.1) (by rw [K.nn]; exact h2.1.1) p1 p2 p3 (ckE_ok a va K tk h4).1 (ckE_ok b vb K tk h5).1 p4 p5 p6
      exact ⟨ss_of1 main, fun _ => main⟩
    · cases h
  | .sub o i e, X, sc, cm, W, s, K, F, tk, h => by
    simp only [ckS] at h
    split at h
    · rename_i x y p2 v pos
      simp only [Bool.and_eq_true] at h
      obtain ⟨⟨⟨h1, h2⟩, h3⟩, h4⟩ := h
      have e0 : exS C up (.sub o i e) = fun ρ => (ev C e false ρ >>= force) >>= fun d => ev C o false ρ >>= fun x => ev C i false ρ >>= fun y => subX x y d >>= fun _ => M.pure (.nx, ρ) := funext fun ρ => by simp only [exS]
      have main : PS X (.Assign [.Subscript x y p2] v pos) (tS1 X T W (exS C up (.sub o i e))) := by
        rw [e0]
        exact ss_sub K.u64 h1 (ckE_ok o x K tk h2).1 (ckE_ok i y K tk h3).1 (ckE_ok e v K tk h4).1
      exact ⟨ss_of1 main, fun _ => main⟩
    · cases h
  | .fld _ _ _, X, sc, cm, W, s, K, F, tk, h => by simp [ckS] at h
  | .aug _ _ _, X, sc, cm, W, s, K, F, tk, h => by simp [ckS] at h
  | .exp e, X, sc, cm, W, s, K, F, tk, h => by
    simp only [ckS] at h
    split at h
    · rename_i v pos
      simp only [Bool.and_eq_true, Bool.not_eq_true'] at h
      have e0 : exS C up (.exp e) = fun ρ => ev C e false ρ >>= fun _ => M.pure (.nx, ρ) := funext fun ρ => by simp only [exS]
      have main : PS X (.Expr v pos) (tS1 X T W (exS C up (.exp e))) := by
        rw [e0]
        exact ss_exp (ckE_ok e v K tk h.2).1 (isc h.2 h.1)
      exact ⟨ss_of1 main, fun _ => main⟩
    · cases h
  | .if_ c a b, X, sc, cm, W, s, K, F, tk, h => by
    simp only [ckS] at h
    split at h
    · rename_i x y z pos
      simp only [Bool.and_eq_true, Bool.not_eq_true'] at h
      obtain ⟨⟨⟨h0, h1⟩, h2⟩, h3⟩ := h
      have e0 : exS C up (.if_ c a b) = fun ρ => (ev C c true ρ >>= theB) >>= fun k => if k then exL C up a ρ else exL C up b ρ := funext fun ρ => by simp only [exS]
      refine ⟨?_, fun z => nomatch z⟩
      rw [e0]
      exact ss_if ((ckE_ok c x K tk h1).2 h0) (ckL_ok a y K F tk h2) (ckL_ok b z K F tk h3)
    · cases h
  | .for_ tg k es body, X, sc, cm, W, s, K, F, tk, h => by
    simp only [ckS] at h
    split at h
    · rename_i t iter b pos
      simp only [Bool.and_eq_true] at h
      obtain ⟨⟨⟨hcm, h1⟩, h2⟩, h3⟩ := h
      cases q : itArgs sc k iter t with
      | none => rw [q] at h2; cases h2
      | some xs =>
        rw [q] at h2
        obtain ⟨hns, hPI⟩ := it_ok K q (ckEs_ok es xs K tk h2)
        have e0 : exS C up (.for_ tg k es body) = fun ρ => (evx C es ρ >>= fun xs => walk k xs) >>= fun ig => forRun ig.2 (fun d ρ1 => bindT tg d ρ1) (exL C up body) ig.1 ρ := funext fun ρ => by simp only [exS, M.assoc]
        refine ⟨?_, fun z => nomatch z⟩
        rw [e0]
        exact ss_for (F hcm).po (K.calm hcm) hPI (ckTg_ok K (K.calm hcm) h1) (ckL_ok body b K F tk h3) (no_set hns)
    · cases h
  | .whl c body, X, sc, cm, W, s, K, F, tk, h => by
    simp only [ckS] at h
    split at h
    · rename_i x b pos
      simp only [Bool.and_eq_true, Bool.not_eq_true'] at h
      obtain ⟨⟨⟨hcm, h0⟩, h1⟩, h2⟩ := h
      have e0 : exS C up (.whl c body) = fun ρ => whl (fun ρ1 => ev C c true ρ1 >>= theB) (exL C up body) ρ := funext fun ρ => by simp only [exS]
      refine ⟨?_, fun z => nomatch z⟩
      rw [e0]
      exact ss_whl (F hcm).po ((ckE_ok c x K tk h1).2 h0) (ckL_ok body b K F tk h2)
    · cases h
  | .brk, X, sc, cm, W, s, K, F, tk, h => by
    cases s with
    | Break p =>
      have e0 : exS C up .brk = fun ρ => M.pure (.brk, ρ) := funext fun ρ => by simp only [exS]
      exact ⟨by rw [e0]; exact ss_of1 ss_brk, fun z => nomatch z⟩
    | _ => simp [ckS] at h
  | .cnt, X, sc, cm, W, s, K, F, tk, h => by
    cases s with
    | Continue p =>
      have e0 : exS C up .cnt = fun ρ => M.pure (.cnt, ρ) := funext fun ρ => by simp only [exS]
      exact ⟨by rw [e0]; exact ss_of1 ss_cnt, fun z => nomatch z⟩
    | _ => simp [ckS] at h
  | .pass, X, sc, cm, W, s, K, F, tk, h => by
    cases s with
    | Pass p =>
      have e0 : exS C up .pass = fun ρ => M.pure (.nx, ρ) := funext fun ρ => by simp only [exS]
      exact ⟨by rw [e0]; exact ss_of1 ss_pass, fun _ => by rw [e0]; exact ss_pass⟩
    | _ => simp [ckS] at h
  | .ret e, X, sc, cm, W, s, K, F, tk, h => by
    simp only [ckS] at h
    split at h
    · rename_i v pos
      have e0 : exS C up (.ret e) = fun ρ => (ev C e false ρ >>= force) >>= fun d => M.pure (.ret d, ρ) := funext fun ρ => by simp only [exS]
      have main : PS X (.Return (some v) pos) (tS1 X T W (exS C up (.ret e))) := by
        rw [e0]
        exact ss_ret (ckE_ok e v K tk h).1
      exact ⟨ss_of1 main, fun _ => main⟩
    · cases h
  | .ret0, X, sc, cm, W, s, K, F, tk, h => by
    cases s with
    | Return o p =>
      cases o with
      | none =>
        have e0 : exS C up .ret0 = fun ρ => M.pure (.ret .non, ρ) := funext fun ρ => by simp only [exS]
        exact ⟨by rw [e0]; exact ss_of1 ss_ret0, fun _ => by rw [e0]; exact ss_ret0⟩
      | some _ => simp [ckS] at h
    | _ => simp [ckS] at h
  | .rai c es, X, sc, cm, W, s, K, F, tk, h => by
    simp only [ckS] at h
    split at h
    · rename_i x p m j p2 p3 pos
      simp only [Bool.and_eq_true, decide_eq_true_eq] at h
      obtain ⟨⟨⟨hcm, hg⟩, hd⟩, hl⟩ := h
      have e0 : exS C up (.rai c []) = fun ρ => ⟨fun S => .exc c none S⟩ := funext fun ρ => by
        simp only [exS, evs]
        exact M.ext fun S => rfl
      have main := ss_rai (W := W) (m := m) (p := p) (p2 := p2) (p3 := p3) (pos := pos) (j := j) K (K.calm hcm) tk hg hd hl
      rw [← e0] at main
      exact ⟨ss_of1 main, fun _ => main⟩
    · cases h
  | .try_ body cs hs, X, sc, cm, W, s, K, F, tk, h => by
    unfold ckS at h
    split at h
    · rename_i st hds pos b
      simp only [Bool.and_eq_true, Bool.not_eq_true'] at h
      obtain ⟨⟨⟨⟨hcm, h1⟩, h2⟩, h3⟩, h4⟩ := h
      obtain ⟨g1, g2, g3⟩ := ckH_ok hs (X := X) cs hds K h3
      refine ⟨?_, fun z => nomatch z⟩
      cases hds with
      | nil => cases h4
      | cons hd0 hds =>
        refine ps_mono (ps_try_many (F hcm).stk (F hcm).frm tk (tb := fun W => tS1 X T W (exL C up [b])) (fun W pn xe tk po => ?_) g3) fun D σ H ⟨m, S, ρ, Y, E, R, hY, z⟩ => ?_
        · have := (ckS_ok b (X := X.tr pn xe) st (K.tr pn xe) (fun _ => ⟨(F hcm).stk, (F hcm).frm, po⟩) tk h2).2 h1
          refine pss_mono (pss_one this) fun D σ H ⟨m, S, ρ, E, R, z⟩ => ⟨m, S, ρ, E, R, ?_⟩
          simp only [exL] at z
          refine z.bind.imp fun m1 H1 S1 r e R1 q => ?_
          obtain ⟨fl, ρ1⟩ := r
          cases fl with
          | nx => exact q m1 H1 e R1
          | brk => exact q m1 H1 e R1
          | cnt => exact q m1 H1 e R1
          | ret d => exact q m1 H1 e R1
        · refine ⟨m, S, ρ, E, R, ?_⟩
          simp only [exS] at z
          cases q : exL C up [b] ρ S with
          | ok r S1 => simp only [q] at z; exact z
          | bad => simp only [q] at z; exact z.elim
          | exc c d S1 =>
            simp only [q] at z
            intro m1 H1 cl dx e R1 rx
            have hcl : cl = T.cls c := by cases d <;> exact rx.1
            exact hands (L := L) (fun h ⟨y, hy⟩ => by rw [hcl]; exact K.ups c y h hy) hY (RelE.ext (G := gd X) e E) R1 rx hs cs 0 hs g1 rfl g2 (z.shift e)
    · cases h
theorem ckL_ok : ∀ (st : List St) {X : Cx} {sc : Scn} {cm : Bool} {W : WX} (s : List Stmt), Ok X T L N C up sc cm → (cm = true → OkF X) → Takes X W → ckL L N cm sc st s = true → PSs X s (tS X T W (exL C up st))
  | [], X, sc, cm, W, s, K, F, tk, h => by
    cases s with
    | nil =>
      have e0 : exL C up [] = fun ρ => M.pure (.nx, ρ) := funext fun ρ => by simp only [exL]
      rw [e0]
      exact sl_nil
    | cons _ _ => simp [ckL] at h
  | x :: xs, X, sc, cm, W, s, K, F, tk, h => by
    cases s with
    | nil => simp [ckL] at h
    | cons s ss =>
      simp only [ckL, Bool.and_eq_true] at h
      have e0 : exL C up (x :: xs) = fun ρ => exS C up x ρ >>= fun r => match r.1 with
        | .nx => exL C up xs r.2
        | f => M.pure (f, r.2) := funext fun ρ => by
          simp only [exL] <;> congr 1
      rw [e0]
      exact sl_cons (ckS_ok x s K F tk h.1).1 (ckL_ok xs ss K F tk h.2)
theorem ckH_ok : ∀ (hs : List (List St)) {X : Cx} {sc : Scn} {cm : Bool} (cs : List (Nat × Option Nat)) (hds : List ExceptHandler), Ok X T L N C up sc cm → ckH L N sc hs cs hds = true →
    (∀ p ∈ cs, p.2 = none ∧ ∃ y, L.cls.lookup y = some p.1) ∧ hs.length = cs.length ∧ HdsOk X hds ((cs.zip hs).map fun p => (T.cls p.1.1, fun _ _ _ => tS X T W0 (exL C up p.2)))
  | [], X, sc, cm, cs, hds, K, h => by
    simp only [ckH] at h
    split at h
    · exact ⟨by simp, rfl, .nil⟩
    · cases h
  | h0 :: hs, X, sc, cm, cs, hds, K, h => by
    simp only [ckH] at h
    split at h
    · rename_i c cs x p b0 suite p2 hds
      simp only [Bool.and_eq_true, decide_eq_true_eq] at h
      obtain ⟨⟨⟨⟨hg, hd⟩, hl⟩, hs1⟩, hr⟩ := h
      obtain ⟨g1, g2, g3⟩ := ckH_ok hs cs hds K hr
      refine ⟨fun q hq => ?_, by simp [g2], ?_⟩
      · rcases List.mem_cons.mp hq with rfl | hq
        · exact ⟨rfl, x, hl⟩
        · exact g1 q hq
      · obtain ⟨a, bmB, B, newId, initId, c1, _, _, c3, _, _⟩ := K.cls x c hl
        refine .cons ⟨K.gl hg, (dbg_ok hd).1, .inl (by rw [c1]; exact c3)⟩ (fun a oe cls d pn _ _ => ?_) g3
        exact ckL_ok h0 (X := X.suite a ((a, oe) :: pn)) (W := W0) (b0 :: suite) (K.suite a _) (fun z => nomatch z) takes_none5 hs1
    · cases h
end
end
end Kd
/-! Defs: each keeps its promise, to any depth. -/
namespace Kd
open PySem PySem.Spec PyProof.Rows L2
section
variable {G : Gd} {T : Cls'} {m m' m'' : List Addr} {H H' : Hp} {S S' : Sto}
theorem unds_iff {n : Nat} : ∀ {ds : List D}, D.unds n ds = true ↔ ∀ d ∈ ds, d.und n = true
  | [] => by simp [D.unds]
  | d :: ds => by simp [D.unds, unds_iff (ds := ds)]
theorem paired_und {α β : Type} {R : α → β → Prop} {p : α → Prop} (h : ∀ a b, R a b → p a) : ∀ {as : List α} {bs : List β}, Paired R as bs → ∀ a ∈ as, p a
  | _, _, .nil, a, ha => by simp at ha
  | _, _, .cons r t, a, ha => by
    rcases List.mem_cons.mp ha with rfl | ha
    · exact h _ _ r
    · exact paired_und h t a ha
theorem RelOb.und {a : Addr} {ob : Ob} (h : RelOb G m H a ob) : ob.und m.length = true := by
  cases ob with
  | lst ds => obtain ⟨vs, h1, h2, h3⟩ := h; exact RelDs.und ds vs h2
  | ins c fs => exact h.elim
  | dct kvs =>
    obtain ⟨es, h1, h2, h3, h4⟩ := h
    simp only [Ob.und, Bool.and_eq_true, unds_iff, List.mem_map]
    rcases h4 with ⟨vs, q⟩ | ⟨xs, q⟩
    · have z := paired_und (p := fun p : D × D => p.1.und m.length = true ∧ p.2.und m.length = true) (fun p r ⟨e, v, _, rd⟩ => ⟨by rw [e]; cases r.1 <;> rfl, RelD.und _ _ rd⟩) q.rel
      exact ⟨fun d ⟨p, hp, e⟩ => e ▸ (z p hp).1, fun d ⟨p, hp, e⟩ => e ▸ (z p hp).2⟩
    · have z := paired_und (p := fun p : D × D => p.1.und m.length = true ∧ p.2.und m.length = true) (fun p r ⟨_, _, rk, v, _, rd⟩ => ⟨RelD.und _ _ rk, RelD.und _ _ rd⟩) q.rel
      exact ⟨fun d ⟨p, hp, e⟩ => e ▸ (z p hp).1, fun d ⟨p, hp, e⟩ => e ▸ (z p hp).2⟩
theorem paired_imp {α β : Type} {R R' : α → β → Prop} {p : α → Prop} : ∀ {as : List α} {bs : List β}, Paired R as bs → (∀ a ∈ as, p a) → (∀ a b, p a → R a b → R' a b) → Paired R' as bs
  | _, _, .nil, _, _ => .nil
  | _, _, .cons r t, hp, h => .cons (h _ _ (hp _ (by simp)) r) (paired_imp t (fun a ha => hp a (List.mem_cons_of_mem _ ha)) h)
theorem RelOb.less {n : Nat} {a : Addr} {ob : Ob} (hp : m' = m ++ m'') (hn : n ≤ m.length) (u : ob.und n = true) (h : RelOb G m' H a ob) : RelOb G m H a ob := by
  cases ob with
  | lst ds => obtain ⟨vs, h1, h2, h3⟩ := h; exact ⟨vs, h1, RelDs.less hp hn ds vs u h2, h3⟩
  | ins c fs => exact h
  | dct kvs =>
    obtain ⟨es, h1, h2, h3, h4⟩ := h
    simp only [Ob.und, Bool.and_eq_true, unds_iff, List.mem_map] at u
    have z : ∀ p ∈ kvs, p.1.und n = true ∧ p.2.und n = true := fun p hp => ⟨u.1 _ ⟨p, hp, rfl⟩, u.2 _ ⟨p, hp, rfl⟩⟩
    exact ⟨es, h1, h2, h3, h4.imp (fun ⟨vs, q⟩ => ⟨vs, ⟨q.keys, q.pairs, q.nd, paired_imp q.rel z fun p r ⟨u1, u2⟩ ⟨e, v, r1, r2⟩ => ⟨e, v, r1, RelD.less hp hn _ _ u2 r2⟩⟩⟩)
      fun ⟨xs, q⟩ => ⟨xs, ⟨q.ents, q.nd, paired_imp q.rel z fun p r ⟨u1, u2⟩ ⟨e, t, rk, v, r1, r2⟩ => ⟨e, t, RelD.less hp hn _ _ u1 rk, v, r1, RelD.less hp hn _ _ u2 r2⟩⟩⟩⟩
/-- what the def has made is let go -/
theorem tidy_ok {d : D} (R : RelS G m H S) (e : Ext m H m' H') (R' : RelS G m' H' S') : ∃ m1, Ext m H m1 H' ∧ RelS G m1 H' (tidy S d S') ∧ ∀ v, (RelD G.K m' H' d v → RelD G.K m1 H' d v) := by
  unfold tidy
  split
  · rename_i c
    simp only [Bool.and_eq_true, List.all_eq_true, List.mem_range] at c
    obtain ⟨c1, c2⟩ := c
    obtain ⟨m2, e2, n2⟩ := e.more
    refine ⟨m, ⟨⟨[], by simp, by simp⟩, e.keep, e.tups, e.frzs, e.there⟩, ⟨?_, R.nd, fun i a ob h1 h2 => ?_⟩, fun v r => RelD.less e2 (Nat.le_refl _) d v (by rw [R.len]; exact c1) r⟩
    · have := e.len
      rw [List.length_take, ← R'.len, ← R.len]
      omega
    · have hi : i < S.length := by rw [← R.len]; exact (List.getElem?_eq_some_iff.mp h1).1
      rw [List.getElem?_take_of_lt hi] at h2
      have h3 : m'[i]? = some a := e.get h1
      have q := R'.ob i a ob h3 h2
      have c3 := c2 i hi
      rw [h2, List.getElem?_eq_getElem hi] at c3
      simp only [Bool.or_eq_true, decide_eq_true_eq] at c3
      refine q.less e2 (Nat.le_refl _) ?_
      rcases c3 with c3 | c3
      · have := (R.ob i a _ h1 (List.getElem?_eq_getElem hi)).und
        rw [c3] at this
        exact this
      · rw [R.len]; exact c3
  · exact ⟨m', e, R', fun v r => r⟩
end
/-! ### a def of the program, and its like -/
structure DefI where
  x : Str
  args : Arguments
  body : List Stmt
  scope : Scope
def parNames (a : Arguments) : List Str := a.args.map (·.arg)
/-- plain parameters; the slots N -/
def ckF (L : Lk) (d : DefI) (N : List Str) (f : Fn) : Bool :=
  d.args.posonlyargs.isEmpty && d.args.vararg.isNone && d.args.kwonlyargs.isEmpty && d.args.kw_defaults.isEmpty && d.args.kwarg.isNone && d.args.defaults.isEmpty &&
  decide (d.scope.kind = .function) && !d.scope.isCoroutine && !d.scope.isGenerator && decide (N.Nodup) && decide (N.take (parNames d.args).length = parNames d.args) &&
  ((parNames d.args).all fun x => locB d.scope.names x) && (d.scope.names.all fun y => decide (y.2 ≠ .free)) && decide (f.np = (parNames d.args).length) && decide (f.nl = N.length) && ckL L N true d.scope.names f.body d.body
section
variable {P : Program} {w : World} {K : PySem.W.Frag} {mg : Str → Option Value} {base : Heap} {T : Cls'} {L : Lk}
theorem ckF_scope {d : DefI} {N : List Str} {f : Fn} (h : ckF L d N f = true) : FnScope N (parNames d.args) d.scope ∧ f.np = (parNames d.args).length ∧ f.nl = N.length ∧ ckL L N true d.scope.names f.body d.body = true := by
  simp only [ckF, Bool.and_eq_true, decide_eq_true_eq, Bool.not_eq_true', List.all_eq_true] at h
  obtain ⟨⟨⟨⟨⟨⟨⟨⟨⟨⟨⟨⟨⟨⟨⟨a1, a2⟩, a3⟩, a4⟩, a5⟩, a6⟩, k1⟩, k2⟩, k3⟩, k4⟩, k5⟩, k6⟩, k7⟩, k8⟩, k9⟩, k10⟩ := h
  refine ⟨⟨k1, k2, k3, k4, k5, fun x hx => ?_, k7⟩, k8, k9, k10⟩
  have := k6 x hx
  unfold locB at this
  split at this
  · exact .inl (by assumption)
  · exact .inr (by assumption)
  · cases this
/-- the known names, as an evaluation of depth k has them -/
structure Env1 (P : Program) (w : World) (K : PySem.W.Frag) (mg : Str → Option Value) (base : Heap) (T : Cls') (L : Lk) (p : Prg) : Prop where
  bl : ∀ x ∈ blNames, mg x = none
  gls : ∀ x g, L.gls.lookup x = some g → ∃ u v d, mg x = some u ∧ RelV v u ∧ p.gl g = some d ∧ ∀ m H, RelD K m H d v
  cls : ∀ x c, L.cls.lookup x = some c → ∃ (a : Addr) (bmB : List Value) (B newId initId : String), T.cls c = .ref a ∧ ExcBaseFacts B newId initId bmB ∧ PySem.W.excIn K a bmB newId = true ∧ mg x = some (.ref a) ∧ PySem.W.keepIn K (.ref a) = true ∧
    PySem.W.subIn K (.ref a) (.type "BaseException") = some true ∧ PySem.W.typeIn K (.ref a) = some (.type "type")
  ups : ∀ c y h, L.cls.lookup y = some h → PySem.W.exmOne K (T.cls c) (T.cls h) = some (p.up c h)
/-- the def of index f stands there -/
structure Def1 (K : PySem.W.Frag) (mg : Str → Option Value) (p : Prg) (L : Lk) (x : Str) (f : Nat) (a : Addr) (fd : FuncData) (ps : List Str) : Prop where
  ex : ∃ (d : DefI) (N : List Str) (g : Fn), p.fn f = some g ∧ ckF L d N g = true ∧ ps = parNames d.args ∧ FunD K x x d.args d.body d.scope [] [] a fd
  mg : mg x = some (.ref a)
  bd : Binds K fd ps []
  kb : ∀ np ks perm, (f, np, ks, perm) ∈ L.kws → KB K fd ps np ks perm
theorem rel_start {G : Gd} {m : List Addr} {H : Hp} {N : List Str} : ∀ {ds : List D} {vs : List V}, RelDs G.K m H ds vs → RelE G.K m H (ds.map some ++ List.replicate (N.length - ds.length) none) (start N vs) := by
  intro ds vs r
  have hl := RelDs.length r
  refine ⟨by simp [L2.start, hl], fun i d h => ?_⟩
  by_cases hi : i < ds.length
  · rw [List.getElem?_append_left (by simpa using hi), List.getElem?_map] at h
    simp only [Option.map_eq_some_iff, Option.some.injEq, exists_eq_right] at h
    obtain ⟨v, e, rv⟩ := r.get h
    exact ⟨v, by unfold L2.start; rw [List.getElem?_append_left (by rw [List.length_map]; omega), List.getElem?_map, e]; rfl, rv⟩
  · rw [List.getElem?_append_right (by simpa using hi)] at h
    have := List.mem_of_getElem? h
    rw [List.mem_replicate] at this
    cases this.2
/-- THE DEFS: to depth k -/
theorem all_ok (p : Prg) (V : Env1 P w K mg base T L p) (defs : ∀ x f, L.fns.lookup x = some f → ∃ a fd ps, Def1 K mg p L x f a fd ps) : ∀ (k : Nat) (x : Str) (f : Nat) (a : Addr) (fd : FuncData) (ps : List Str), L.fns.lookup x = some f → Def1 K mg p L x f a fd ps →
    FnOk P w K mg base (L2.CX P w) k a fd ps (spK ⟨K, P, w⟩ T (p.call k f))
  | 0, x, f, a, fd, ps, _, _ => ⟨fun vs H Q E ⟨m, S, ds, _, _, h⟩ => h.elim, fun A outer s H args us vs Q E _ _ _ _ ⟨m, S, ds, _, _, h⟩ => h.elim⟩
  | k + 1, x, f, a, fd, ps, hx, D => by
    obtain ⟨d, N, g, e1, e2, rfl, F⟩ := D.ex
    obtain ⟨sc, np, nl, hck⟩ := ckF_scope e2
    have hcall : ∀ ds, p.call (k + 1) f ds = runFn ⟨p.call k, p.gl⟩ p.up g ds := fun ds => by simp only [Prg.call, e1]
    refine F.ok sc (fun vs H Q E ⟨m, S, ds, r, R, h⟩ => ?_) (fun cdv A outer s H vs Q E hr ⟨m, S, ds, r, R, h⟩ => ?_)
    · rw [hcall] at h
      simp only [runFn] at h
      split at h
      · rename_i hl
        rw [← RelDs.length r, hl, np]
      · exact h.elim
    · have hK : Ok (cxOf (L2.CX P w) P w K mg base N x d.scope a cdv A outer s H E) T L N ⟨p.call k, p.gl⟩ p.up d.scope.names true := by
        refine ⟨fun _ => rfl, rfl, sc.nd, by have := hr.un; show (A.deeper _).units + 100 < cLine; omega, sc.kind, fun y q e => ⟨q, e, .inl rfl⟩, fun _ _ => rfl, fun _ y f' e => ?_, V.bl, V.gls, fun y c e => ?_, V.ups⟩
        · obtain ⟨a', fd', ps', D'⟩ := defs y f' e
          obtain ⟨d', N', g', q1, q2, q3, F'⟩ := D'.ex
          exact ⟨k, a', fd', ps', all_ok p V defs k y f' a' fd' ps' e D', hr, D'.mg, F'.kp, D'.bd, D'.kb⟩
        · obtain ⟨a', bmB, B, n1, n2, c1, c2, c3, c4, c5, c6, c7⟩ := V.cls y c e
          exact ⟨a', bmB, B, n1, n2, c1, c2, c3, c4, c5, raises_own c6 c7⟩
      have hF : OkF (cxOf (L2.CX P w) P w K mg base N x d.scope a cdv A outer s H E) := ⟨rfl, rfl, passes_of rfl⟩
      have tk : Takes (cxOf (L2.CX P w) P w K mg base N x d.scope a cdv A outer s H E) (fun cls dd _ H => E cls dd H) := takes_of rfl rfl rfl (E := E) (E₁ := fun e' s'' => L2.CX P w outer H s E e' s'') rfl
      refine ⟨_, ckL_ok g.body d.body hK (fun _ => hF) tk hck, ?_⟩
      rw [hcall] at h
      simp only [runFn] at h
      split at h
      · rename_i hl
        refine ⟨m, S, ds.map some ++ List.replicate (g.nl - g.np) none, E, ?_, R, fun _ _ _ _ z => z, ?_⟩
        · have := rel_start (G := ⟨K, P, w⟩) (N := N) r
          rw [nl, ← hl]
          exact this
        · cases q : exL ⟨p.call k, p.gl⟩ p.up g.body (ds.map some ++ List.replicate (g.nl - g.np) none) S with
          | bad => rw [q] at h; exact h.elim
          | exc c dd S' =>
            rw [q] at h
            intro m' H' cl dx e R' rx
            obtain ⟨m1, e1, R1, h1⟩ := tidy_ok (d := dd.getD .non) R e R'
            refine h m1 H' cl dx e1 R1 ?_
            cases dd with
            | none => exact rx
            | some d0 =>
              obtain ⟨r1, a1, v1, r2, r3, r4⟩ := rx
              exact ⟨r1, a1, v1, r2, r3, h1 v1 r4⟩
          | ok r0 S' =>
            obtain ⟨fl, ρ'⟩ := r0
            rw [q] at h
            intro m' H' e R'
            cases fl with
            | ret d0 =>
              intro v rv
              obtain ⟨m1, e1, R1, h1⟩ := tidy_ok (d := d0) R e R'
              exact h m1 H' e1 R1 v (h1 v rv)
            | nx =>
              intro σ' E'
              obtain ⟨m1, e1, R1, h1⟩ := tidy_ok (d := .non) R e R'
              exact h m1 H' e1 R1 .non rfl
            | brk => exact h.elim
            | cnt => exact h.elim
      · exact h.elim
end
end Kd
/-! The head: names and function objects by the Hook's facts; the law's end. -/
namespace Kd
open PySem PySem.Spec PyProof.Rows L2
/-! ### constants of the module -/
def dvOf : D → He.Dv
  | .bl b => .bl b
  | .int i => .int i
  | .str x => .str x
  | _ => .non
def scC : D → Bool
  | .non | .bl _ | .int _ | .str _ => true
  | _ => false
def cnB (K : PySem.W.Frag) (p : Str × D) : Bool := match p.2 with
  | .str z => (He.Fa.str p.1 z).ok K
  | .int i => (He.Fa.int p.1 i).ok K
  | .tup ds => (He.Fa.glo p.1).ok K && (ds.all scC && He.tupB K p.1 (ds.map dvOf))
  | _ => false
theorem rel_sc {K : PySem.W.Frag} {m : List Addr} {H : Hp} : ∀ {d : D}, scC d = true → RelD K m H d ((dvOf d).v K)
  | .non, _ => rfl
  | .bl b, _ => rfl
  | .int i, _ => rfl
  | .str x, _ => rfl
theorem rels_sc {K : PySem.W.Frag} {m : List Addr} {H : Hp} : ∀ {ds : List D}, ds.all scC = true → RelDs K m H ds ((ds.map dvOf).map (He.Dv.v K))
  | [], _ => rfl
  | d :: ds, h => by
    simp only [List.all_cons, Bool.and_eq_true] at h
    exact ⟨_, _, rfl, rel_sc h.1, rels_sc h.2⟩
theorem tupB_at {K : PySem.W.Frag} {x : Str} {vs : List He.Dv} (h : He.tupB K x vs = true) (H : Hp) : TupAt K H (He.ga K x) (vs.map (He.Dv.v K)) := by
  unfold He.tupB at h
  split at h
  · rename_i c od its n osl q
    simp only [Bool.and_eq_true, decide_eq_true_eq] at h
    exact .inr ⟨_, its, n, q, congrArg Value.type h.1, rfl, h.2.1, He.relAll_ok h.2.2⟩
  · cases h
theorem cnB_ok {K : PySem.W.Frag} {h : Heap} {mg : Str → Option Value} (X : K.In h) (G : h.Ns mainGlobals mg) {p : Str × D} (c : cnB K p = true) : ∃ u v, mg p.1 = some u ∧ RelV v u ∧ ∀ m H, RelD K m H p.2 v := by
  obtain ⟨x, d⟩ := p
  cases d with
  | str z =>
    obtain ⟨t, e⟩ := He.str_ok X G (x := x) (z := z) c
    exact ⟨_, .str z, e, ⟨t, rfl⟩, fun _ _ => rfl⟩
  | int i =>
    obtain ⟨t, e⟩ := He.int_ok X G (x := x) (i := i) c
    exact ⟨_, .int i, e, ⟨t, rfl⟩, fun _ _ => rfl⟩
  | tup ds =>
    obtain ⟨c1, c2⟩ := He.ba c
    obtain ⟨c2, c3⟩ := He.ba c2
    exact ⟨_, .ref (He.ga K x), He.glo_ok X G c1, rfl, fun m H => ⟨_, _, rfl, tupB_at c3 H, rels_sc c2⟩⟩
  | _ => cases c
/-! ### the Hook: facts, defs, constants -/
abbrev AlK : Type := He.AlD × Bool
def obsK (n : Nat) (fa : List He.Fa) (fn : List He.DefD) (ex : PySem.W.Frag → Bool) (g : Addr → Option Obj) : AlK := (He.obsD fa fn (He.frG g (He.asD g n)), ex (He.frG g (He.asD g n)))
def hookK (n : Nat) (fa : List He.Fa) (fn : List He.DefD) (ex : PySem.W.Frag → Bool) : PySem.W.Hook where
  α := AlK
  obs := fun s => obsK n fa fn ex s.heap.get?
  val := fun _ => (He.valD fn, true)
  says := fun _ h => ∃ K : PySem.W.Frag, K.In h ∧ He.SaysD fa fn K ∧ ex K = true
  of := fun _ _ e => ⟨_, He.frG_in, congrArg (fun z : AlK => z.1) e, congrArg (fun z : AlK => z.2) e⟩
  keeps := fun _ _ _ ⟨K, hK, c⟩ k => ⟨K, PySem.W.Frag.In.keeps hK k, c⟩
theorem obsK_eq {n : Nat} {fa : List He.Fa} {fn : List He.DefD} {ex : PySem.W.Frag → Bool} {g : Addr → Option Obj} {s : Shared} (h : ∀ a, g a = s.heap.get? a) : obsK n fa fn ex g = (hookK n fa fn ex).obs s := by
  have e : g = s.heap.get? := funext h
  rw [e] <;> rfl
/-! ### the module: defs, classes of exceptions, constants -/
structure Mo where
  ds : List DefI
  cs : List Str
  upT : List (List Bool)
  cn : List (Str × D)
def Mo.ix (M : Mo) (c : Nat) : Nat := if c < M.cs.length then c else 0
def Mo.up (M : Mo) (c h : Nat) : Bool := (M.upT.getD (M.ix c) []).getD (M.ix h) false
def Mo.cls (M : Mo) (K : PySem.W.Frag) : Cls' := ⟨fun c => .ref (He.ga K (M.cs.getD (M.ix c) "")), fun _ => ""⟩
def Mo.pairs (M : Mo) : List (Nat × Nat) := (List.range M.cs.length).flatMap fun c => (List.range M.cs.length).map fun h => (c, h)
def Mo.fa (M : Mo) : List He.Fa := (M.ds.map fun d => He.Fa.glo d.x) ++ (blNames.map He.Fa.free ++ (M.cs.map He.Fa.glo ++ (M.cs.map He.Fa.exc ++ M.pairs.map fun q => He.Fa.exm (M.cs.getD q.1 "") (M.cs.getD q.2 "") (M.up q.1 q.2))))
def defD (d : DefI) : He.DefD := ⟨(d.x, none), d.x, d.x, d.args, d.body, d.scope, [], []⟩
def Mo.fn (M : Mo) : List He.DefD := M.ds.map defD
def Mo.ex (M : Mo) (K : PySem.W.Frag) : Bool := M.cn.all (cnB K)
def Mo.prg (M : Mo) (fs : List Fn) : Prg := ⟨fun i => fs[i]?, fun g => (M.cn[g]?).map (·.2), M.up⟩
/-- the parameters, all given by place -/
def BdOk (d : DefI) : Prop := ∀ (kV doc pm : Value) (an : Option Addr) (cdv ct : Value) (us : List Value), us.length = (parNames d.args).length → bindArgs (PySem.W.fnOf d.x d.x d.args d.body d.scope .none kV doc pm an cdv ct) ⟨us, []⟩ = pure ((parNames d.args).zip us)
/-- .. by place and by name -/
def BkOk (d : DefI) (np : Nat) (ks : List Str) (perm : List Nat) : Prop := perm.length = (parNames d.args).length ∧ (∀ i ∈ perm, i < np + ks.length) ∧ ∀ (kV doc pm : Value) (an : Option Addr) (cdv ct : Value) (us ws : List Value), us.length = np → ws.length = ks.length →
  bindArgs (PySem.W.fnOf d.x d.x d.args d.body d.scope .none kV doc pm an cdv ct) ⟨us, ks.zip ws⟩ = pure ((parNames d.args).zip (perm.map fun i => (us ++ ws).getD i .none))
inductive CkAll (L : Lk) : List DefI → List Fn → Prop where
  | nil : CkAll L [] []
  | cons {d : DefI} {g : Fn} {ds : List DefI} {gs : List Fn} (N : List Str) (h : ckF L d N g = true) (b : BdOk d) (r : CkAll L ds gs) : CkAll L (d :: ds) (g :: gs)
theorem CkAll.get {L : Lk} {ds : List DefI} {gs : List Fn} (h : CkAll L ds gs) : ∀ {i : Nat} {d : DefI}, ds[i]? = some d → ∃ N g, gs[i]? = some g ∧ ckF L d N g = true ∧ BdOk d := by
  induction h with
  | nil => intro i d e; simp at e
  | @cons d0 g0 ds0 gs0 N h b r ih =>
    intro i d e
    cases i with
    | zero => simp at e; subst e; exact ⟨N, g0, rfl, h, b⟩
    | succ i => simp at e; obtain ⟨N', g, e1, e2⟩ := ih e; exact ⟨N', g, by simpa using e1, e2⟩
/-- the checker's names are the module's -/
def lkOk (M : Mo) (L : Lk) : Bool := (L.fns.all fun q => (M.ds[q.2]?).any fun d => decide (d.x = q.1)) && ((L.gls.all fun q => (M.cn[q.2]?).any fun p => decide (p.1 = q.1)) && (L.cls.all fun q => decide (q.2 < M.cs.length) && decide (M.cs.getD q.2 "" = q.1)))
theorem lookup_memK {α : Type} {x : Str} {v : α} : ∀ {l : List (Str × α)}, l.lookup x = some v → (x, v) ∈ l
  | [], h => by cases h
  | (y, u) :: r, h => by
    rw [List.lookup_cons] at h
    split at h
    · rename_i e
      have : x = y := by simpa using e
      cases h; subst this; simp
    · exact List.mem_cons_of_mem _ (lookup_memK h)
section
variable {P : Program} {w : World} {K : PySem.W.Frag} {mg : Str → Option Value} {base : Heap} {M : Mo} {L : Lk} {fs : List Fn}
theorem env1_of (X : K.In base) (G : base.Ns mainGlobals mg) (c : He.SaysD M.fa M.fn K) (ex : M.ex K = true) (lo : lkOk M L = true) : Env1 P w K mg base (M.cls K) L (M.prg fs) := by
  simp only [lkOk, Bool.and_eq_true, List.all_eq_true] at lo
  obtain ⟨l1, l2, l3⟩ := lo
  have l3' : ∀ x h, L.cls.lookup x = some h → h < M.cs.length ∧ M.cs.getD h "" = x := fun x h e => by simpa using l3 _ (lookup_memK e)
  refine ⟨fun x hx => ?_, fun x g e => ?_, fun x cc e => ?_, fun cc y h e => ?_⟩
  · exact He.free_ok X G (c.facts (f := .free x) (by unfold Mo.fa; simp only [List.mem_append, List.mem_map]; exact .inr (.inl ⟨x, hx, rfl⟩)))
  · have := l2 _ (lookup_memK e)
    rw [Option.any_eq_true] at this
    obtain ⟨p, e1, e2⟩ := this
    simp only [decide_eq_true_eq] at e2
    have hp : cnB K p = true := List.all_eq_true.mp ex p (List.mem_of_getElem? e1)
    obtain ⟨u, v, h1, h2, h3⟩ := cnB_ok X G hp
    exact ⟨u, v, p.2, by rw [← e2]; exact h1, h2, by simp only [Mo.prg, e1, Option.map_some], h3⟩
  · obtain ⟨h1, h2⟩ := l3' _ _ e
    have hm : x ∈ M.cs := by rw [← h2]; unfold List.getD; rw [List.getElem?_eq_getElem h1]; exact List.getElem_mem h1
    have f1 := He.glo_ok X G (c.facts (f := .glo x) (by unfold Mo.fa; simp only [List.mem_append, List.mem_map]; exact .inr (.inr (.inl ⟨x, hm, rfl⟩))))
    obtain ⟨g1, g2, g3, g4⟩ := He.exc_ok (c.facts (f := .exc x) (by unfold Mo.fa; simp only [List.mem_append, List.mem_map]; exact .inr (.inr (.inr (.inl ⟨x, hm, rfl⟩)))))
    refine ⟨He.ga K x, _, _, _, _, ?_, PySem.F.excBase_ValueError, g1, f1, g2, g3, g4⟩
    show Value.ref (He.ga K (M.cs.getD (M.ix cc) "")) = _
    unfold Mo.ix
    rw [if_pos h1, h2]
  · obtain ⟨h1, h2⟩ := l3' _ _ e
    have hl : M.ix cc < M.cs.length := by unfold Mo.ix; split <;> omega
    have hix : ∀ i, i < M.cs.length → M.ix i = i := fun i hi => if_pos hi
    have := He.exm_ok (c.facts (f := .exm (M.cs.getD (M.ix cc) "") (M.cs.getD h "") (M.up (M.ix cc) h)) (by
      unfold Mo.fa; simp only [List.mem_append, List.mem_map]
      refine .inr (.inr (.inr (.inr ⟨(M.ix cc, h), ?_, rfl⟩)))
      simp only [Mo.pairs, List.mem_flatMap, List.mem_range, List.mem_map]
      exact ⟨_, hl, _, h1, rfl⟩))
    show PySem.W.exmOne K (.ref (He.ga K (M.cs.getD (M.ix cc) ""))) (.ref (He.ga K (M.cs.getD (M.ix h) ""))) = some (M.up cc h)
    rw [hix h h1, this]
    unfold Mo.up
    rw [hix _ hl]
theorem def1_of (X : K.In base) (G : base.Ns mainGlobals mg) (c : He.SaysD M.fa M.fn K) (lo : lkOk M L = true) (hck : CkAll L M.ds fs) (hkw : ∀ q ∈ L.kws, ∃ d, M.ds[q.1]? = some d ∧ BkOk d q.2.1 q.2.2.1 q.2.2.2)
    {x : Str} {f : Nat} (e : L.fns.lookup x = some f) : ∃ fd ps d, M.ds[f]? = some d ∧ ps = parNames d.args ∧ (∀ (s : Shared) (us : List Value), us.length = ps.length → BindsTo s fd ⟨us, []⟩ (ps.zip us)) ∧ Def1 K mg (M.prg fs) L x f (He.ga K x) fd ps := by
  simp only [lkOk, Bool.and_eq_true, List.all_eq_true] at lo
  have := lo.1 _ (lookup_memK e)
  rw [Option.any_eq_true] at this
  obtain ⟨d, e1, e2⟩ := this
  simp only [decide_eq_true_eq] at e2
  have hd : d ∈ M.ds := List.mem_of_getElem? e1
  obtain ⟨N, g, q1, q2, q3⟩ := hck.get e1
  obtain ⟨fd, F⟩ := c.defs (d := defD d) (List.mem_map_of_mem hd)
  have F' : FunD K d.x d.x d.args d.body d.scope [] [] (He.ga K d.x) fd := F
  subst e2
  have f1 := He.glo_ok X G (c.facts (f := .glo d.x) (by unfold Mo.fa; simp only [List.mem_append, List.mem_map]; exact .inl ⟨d, hd, rfl⟩))
  refine ⟨fd, _, d, e1, rfl, fun s us hl => F'.bindsA q3 s us hl, ⟨⟨d, N, g, q1, q2, rfl, F'⟩, f1, F'.bindsN q3, fun np ks perm hm => ?_⟩⟩
  obtain ⟨d', e3, b1, b2, b3⟩ := hkw _ hm
  cases e1.symm.trans e3
  obtain ⟨oc, od, dV, kV, doc, pm, an, cdv, ct, osl, rfl, lk, hcd, hD, hK⟩ := F'.ex
  rcases hD with ⟨_, rfl⟩ | ⟨e, _⟩
  · exact ⟨b1, b2, fun s us ws _ h1 h2 => .of_eq (b3 kV doc pm an cdv ct us ws h1 h2)⟩
  · exact absurd rfl e
end
/-! ### the law's end -/
theorem walk_K {l : PySem.W.OpenLaw} {n k nh i : Nat} {q : Program} {loose : List Str} {XP : (Str → Option Value) → Heap → Prop} {d : DefRec} {M : Mo} {L : Lk} {fs : List Fn} {x : Str}
    (hn : l.most = some n) (hn2 : n ≤ sizeLine) (hdf : d.params.defaults = []) (hr : Room k callerA) (hi : L.fns.lookup d.name = some i) (hx : (M.ds[i]?).map (fun d => parNames d.args) = some [x])
    (lo : lkOk M L = true) (hck : CkAll L M.ds fs) (hkw : ∀ q ∈ L.kws, ∃ d, M.ds[q.1]? = some d ∧ BkOk d q.2.1 q.2.2.1 q.2.2.2)
    (math : ∀ ns : List Int, ns.length ≤ n → (∀ z ∈ ns, Builtin.Int.intBits z ≤ 1048576) → ∃ S, (M.prg fs).call k i [.rol ns] [] = .ok (.bl true) S) :
    PySem.W.WalkO q loose XP (hookK nh M.fa M.fn M.ex).says l.row.toRowW d [] (fun f vs => PySem.call f vs) := by
  refine Att.attach_callB hn hdf fun w s₀ s₁ mg mb fa o pm cd doc a vs ns G Y ho hd hcd hmg hobj hints hlen hbits hg => ?_
  obtain ⟨K, KX, c, ex⟩ := Y
  obtain ⟨fd, ps, dd, e1, e2, hb, D⟩ := def1_of (mg := mg) KX G.T.g c lo hck hkw hi
  have e3 : ps = [x] := by rw [e1] at hx; rw [e2]; simpa using hx
  subst e3
  have e4 : fa = He.ga K d.name := by
    have := hmg.symm.trans D.mg
    simpa using this
  subst e4
  refine law_call (CX := L2.CX l.prog w) (k := k) (x := x) (sp := spK ⟨K, l.prog, w⟩ (M.cls K) ((M.prg fs).call k i)) KX G.T.g G.T.b G.T.builtins G.T.nolimit hg hobj hints (Nat.le_trans hlen hn2) hr (fun base hKb hGb => ?_)
    (fun s u => hb s [u] rfl) (fun H hO hS => ?_) fun H e s' => ?_
  · have V : Env1 l.prog w K mg base (M.cls K) L (M.prg fs) := env1_of hKb hGb c ex lo
    exact all_ok (M.prg fs) V (fun y f e => by
      obtain ⟨fd', ps', _, _, _, _, D'⟩ := def1_of hKb hGb c lo hck hkw e
      exact ⟨_, fd', ps', D'⟩) k d.name i _ fd [x] hi D
  · obtain ⟨S, h⟩ := math ns hlen hbits
    refine ⟨[], [], [.rol ns], ⟨_, _, rfl, ⟨a, rfl, RolAt.of (fun vs e => ?_) hS⟩, rfl⟩, ⟨rfl, List.nodup_nil, fun i a ob h => by simp at h⟩, ?_⟩
    · rcases hO a with z | ⟨o, xs, z⟩ <;> rw [z] at e <;> cases e
    · rw [h]
      intro m' H' e R v rv
      exact rv
  · rintro ⟨_, _, _, _, _, _, _, _, _, _, _, _, z⟩
    exact z
end Kd
/-! What an evaluation wants, as plain logic: wp rules for the evaluator. -/
namespace Kd
open PySem
abbrev EQ : Type := Nat → Option D → Sto → Prop
/-- the run ends in a value with Q, or in an exception with E -/
def wp {α : Type} (x : M α) (S : Sto) (Q : α → Sto → Prop) (E : EQ) : Prop := match x S with
  | .ok a S' => Q a S'
  | .exc c d S' => E c d S'
  | .bad => False
section
variable {α β : Type} {S : Sto} {E : EQ}
theorem wp_mono {x : M α} {Q Q' : α → Sto → Prop} (h : wp x S Q E) (q : ∀ a S', Q a S' → Q' a S') : wp x S Q' E := by
  unfold wp at *
  split at h
  · exact q _ _ h
  · exact h
  · exact h
theorem wp_monoE {x : M α} {Q Q' : α → Sto → Prop} {E' : EQ} (h : wp x S Q E') (q : ∀ a S', Q a S' → Q' a S') (e : ∀ c d S', E' c d S' → E c d S') : wp x S Q' E := by
  unfold wp at *
  split at h
  · exact q _ _ h
  · exact e _ _ _ h
  · exact h
theorem wp_of {x : M α} {Q : α → Sto → Prop} {a : α} {S' : Sto} (h : x S = .ok a S') (q : Q a S') : wp x S Q E := by
  unfold wp
  rw [h]
  exact q
theorem wp_ofE {x : M α} {Q : α → Sto → Prop} {c : Nat} {d : Option D} {S' : Sto} (h : x S = .exc c d S') (q : E c d S') : wp x S Q E := by
  unfold wp
  rw [h]
  exact q
theorem wp_eq {x : M α} {a : α} {S' : Sto} (h : wp x S (fun b S1 => b = a ∧ S1 = S') fun _ _ _ => False) : x S = .ok a S' := by
  unfold wp at h
  split at h
  · rename_i e; rw [e, h.1, h.2]
  · exact h.elim
  · exact h.elim
theorem wp_ok {x : M α} {Q : α → Sto → Prop} (h : wp x S Q fun _ _ _ => False) : ∃ a S', x S = .ok a S' ∧ Q a S' := by
  unfold wp at h
  split at h
  · exact ⟨_, _, by assumption, h⟩
  · exact h.elim
  · exact h.elim
theorem wp_pure (a : α) (Q : α → Sto → Prop) : wp (M.pure a) S Q E = Q a S := rfl
theorem wp_bad (Q : α → Sto → Prop) : wp (M.bad : M α) S Q E = False := rfl
theorem wp_bind (x : M α) (f : α → M β) (Q : β → Sto → Prop) : wp (x >>= f) S Q E = wp x S (fun a S1 => wp (f a) S1 Q E) E := by
  unfold wp
  rw [bindE]
  cases x S <;> rfl
theorem wp_ite {c : Prop} [Decidable c] (x y : M α) (Q : α → Sto → Prop) : wp (if c then x else y) S Q E = if c then wp x S Q E else wp y S Q E := by
  split <;> rfl
theorem wp_push (o : Ob) (Q : Nat → Sto → Prop) : wp (push o) S Q E = Q S.length (S ++ [o]) := rfl
theorem wp_force (d : D) (Q : D → Sto → Prop) : wp (force (.dv d)) S Q E = Q d S := rfl
theorem wp_forceT (ds : List D) (Q : D → Sto → Prop) : wp (force (.tl ds)) S Q E = Q (.loc S.length) (S ++ [.lst ds]) := rfl
theorem wp_theB (b : Bool) (Q : Bool → Sto → Prop) : wp (theB (.dv (.bl b))) S Q E = Q b S := rfl
theorem asTf (x : M X) : asT false x = x := rfl
theorem asTt (x : M X) : asT true x = (x >>= fun v => truX v >>= fun b => M.pure (.dv (.bl b))) := rfl
/-! truth -/
theorem wp_tru_bl (b : Bool) (Q : Bool → Sto → Prop) : wp (truX (.dv (.bl b))) S Q E = Q b S := rfl
theorem wp_tru_tup (ds : List D) (Q : Bool → Sto → Prop) : wp (truX (.dv (.tup ds))) S Q E = Q (!ds.isEmpty) S := rfl
theorem wp_tru_tl (ds : List D) (Q : Bool → Sto → Prop) : wp (truX (.tl ds)) S Q E = Q (!ds.isEmpty) S := rfl
theorem wp_tru_int (i : Int) (Q : Bool → Sto → Prop) : wp (truX (.dv (.int i))) S Q E = Q (i != 0) S := rfl
theorem wp_tru_non (Q : Bool → Sto → Prop) : wp (truX (.dv .non)) S Q E = Q false S := rfl
/-! isinstance -/
theorem wp_mk {f : Sto → R α} {Q : α → Sto → Prop} : wp (.mk f) S Q E = (match f S with
  | .ok a S' => Q a S'
  | .exc c d S' => E c d S'
  | .bad => False) := rfl
/-! items -/
theorem wp_items_tup (ds : List D) (Q : List D → Sto → Prop) : wp (items (.dv (.tup ds))) S Q E = Q ds S := rfl
theorem wp_items_tl (ds : List D) (Q : List D → Sto → Prop) : wp (items (.tl ds)) S Q E = Q ds S := rfl
theorem wp_items_rol (ns : List Int) (Q : List D → Sto → Prop) : wp (items (.dv (.rol ns))) S Q E = Q (ns.map .int) S := rfl
theorem wp_items_loc {l : Nat} {ds : List D} (h : S[l]? = some (.lst ds)) (Q : List D → Sto → Prop) : wp (items (.dv (.loc l))) S Q E = Q ds S := by
  unfold wp items
  simp only [h]
theorem wp_litems_tl (ds : List D) (Q : List D → Sto → Prop) : wp (litems (.tl ds)) S Q E = Q ds S := rfl
theorem wp_litems_rol (ns : List Int) (Q : List D → Sto → Prop) : wp (litems (.dv (.rol ns))) S Q E = Q (ns.map .int) S := rfl
theorem wp_litems_loc {l : Nat} {ds : List D} (h : S[l]? = some (.lst ds)) (Q : List D → Sto → Prop) : wp (litems (.dv (.loc l))) S Q E = Q ds S := by
  unfold wp litems
  simp only [h]
/-! walks -/
theorem wp_lcRun_nil {bd : D → M Env} {c : Env → M Bool} {e : Env → M D} {acc : List D} (Q : List D → Sto → Prop) : wp (lcRun [] bd c e [] acc) S Q E = Q acc.reverse S := rfl
theorem wp_lcRun_cons {bd : D → M Env} {c : Env → M Bool} {e : Env → M D} {d : D} {ds acc : List D} (Q : List D → Sto → Prop) :
    wp (lcRun [] bd c e (d :: ds) acc) S Q E = wp (bd d) S (fun ρ S1 => wp (c ρ) S1 (fun b S2 => if b then wp (e ρ) S2 (fun y S3 => wp (lcRun [] bd c e ds (y :: acc)) S3 Q E) E else wp (lcRun [] bd c e ds acc) S2 Q E) E) E := by
  have : wp (lcRun [] bd c e (d :: ds) acc) S Q E = wp (bd d >>= fun ρ => c ρ >>= fun b => if b then e ρ >>= fun y => lcRun [] bd c e ds (y :: acc) else lcRun [] bd c e ds acc) S Q E := rfl
  rw [this]
  simp only [wp_bind, wp_ite]
/-- a comprehension whose store stays, with elements g d (none: left out) -/
theorem wp_lcRun_map {bd : D → M Env} {c : Env → M Bool} {e : Env → M D} {g : D → Option D} {Q : List D → Sto → Prop} : ∀ {ds acc : List D}, (∀ d ∈ ds, wp (bd d) S (fun ρ S1 => S1 = S ∧ wp (c ρ) S (fun b S2 => S2 = S ∧ match g d with
      | some y => b = true ∧ wp (e ρ) S (fun z S3 => z = y ∧ S3 = S) E
      | none => b = false) E) E) → Q (acc.reverse ++ ds.filterMap g) S → wp (lcRun [] bd c e ds acc) S Q E
  | [], acc, _, q => by rw [wp_lcRun_nil]; simpa using q
  | d :: ds, acc, h, q => by
    rw [wp_lcRun_cons]
    refine wp_mono (h d (by simp)) fun ρ S1 ⟨e1, h1⟩ => ?_
    rw [e1]
    refine wp_mono h1 fun b S2 ⟨e2, h2⟩ => ?_
    rw [e2]
    have hr : ∀ x ∈ ds, _ := fun x hx => h x (List.mem_cons_of_mem _ hx)
    split at h2
    · rename_i y hy
      obtain ⟨hb, h2⟩ := h2
      rw [if_pos hb]
      refine wp_mono h2 fun z S3 ⟨e3, e4⟩ => ?_
      rw [e3, e4]
      refine wp_lcRun_map hr ?_
      rw [List.filterMap_cons, hy] at q
      simpa using q
    · rename_i hy
      rw [if_neg (by simp [h2])]
      refine wp_lcRun_map hr ?_
      rw [List.filterMap_cons, hy] at q
      exact q
theorem wp_forRun_nil {bd : D → Env → M Env} {b : Env → M (Fl × Env)} {ρ : Env} (Q : Fl × Env → Sto → Prop) : wp (forRun [] bd b [] ρ) S Q E = Q (.nx, ρ) S := rfl
theorem wp_forRun_cons {bd : D → Env → M Env} {b : Env → M (Fl × Env)} {d : D} {ds : List D} {ρ : Env} (Q : Fl × Env → Sto → Prop) :
    wp (forRun [] bd b (d :: ds) ρ) S Q E = wp (bd d ρ) S (fun ρ1 S1 => wp (b ρ1) S1 (fun r S2 => match r.1 with
      | .nx => wp (forRun [] bd b ds r.2) S2 Q E
      | .cnt => wp (forRun [] bd b ds r.2) S2 Q E
      | .brk => Q (.nx, r.2) S2
      | .ret d => Q (.ret d, r.2) S2) E) E := by
  have : wp (forRun [] bd b (d :: ds) ρ) S Q E = wp (bd d ρ >>= fun ρ1 => b ρ1 >>= fun r => match r.1 with
    | .nx => forRun [] bd b ds r.2
    | .cnt => forRun [] bd b ds r.2
    | .brk => M.pure (.nx, r.2)
    | .ret d => M.pure (.ret d, r.2)) S Q E := rfl
  rw [this]
  simp only [wp_bind]
  congr 1
  funext ρ1 S1
  congr 1
  funext r S2
  cases r.1 <;> rfl
/-- a loop with an invariant; g: lists that must not change -/
theorem wp_forRun_inv {g : List (Nat × List D)} {bd : D → Env → M Env} {b : Env → M (Fl × Env)} {Q : Fl × Env → Sto → Prop} (I : List D → Env → Sto → Prop) (hs : ∀ ds ρ S1, I ds ρ S1 → still g S1 = true)
    (step : ∀ d ds ρ S1, I (d :: ds) ρ S1 → wp (bd d ρ) S1 (fun ρ1 S2 => wp (b ρ1) S2 (fun r S3 => match r.1 with
      | .nx => I ds r.2 S3
      | .cnt => I ds r.2 S3
      | .brk => Q (.nx, r.2) S3
      | .ret d => Q (.ret d, r.2) S3) E) E) (done : ∀ ρ S1, I [] ρ S1 → Q (.nx, ρ) S1) : ∀ (ds : List D) (ρ : Env) (S : Sto), I ds ρ S → wp (forRun g bd b ds ρ) S Q E
  | [], ρ, S, h => by
    unfold wp
    unfold forRun
    simp only [if_pos (hs _ _ _ h)]
    exact done _ _ h
  | d :: ds, ρ, S, h => by
    have e : wp (forRun g bd b (d :: ds) ρ) S Q E = wp (bd d ρ >>= fun ρ1 => b ρ1 >>= fun r => match r.1 with
      | .nx => forRun g bd b ds r.2
      | .cnt => forRun g bd b ds r.2
      | .brk => M.pure (.nx, r.2)
      | .ret d => M.pure (.ret d, r.2)) S Q E := by
      unfold wp
      conv => lhs; unfold forRun
      simp only [if_pos (hs _ _ _ h)] <;> rfl
    rw [e]
    simp only [wp_bind]
    refine wp_mono (step d ds ρ S h) fun ρ1 S2 h1 => wp_mono h1 fun r S3 h2 => ?_
    obtain ⟨fl, ρ'⟩ := r
    cases fl with
    | nx => exact wp_forRun_inv I hs step done ds ρ' S3 h2
    | cnt => exact wp_forRun_inv I hs step done ds ρ' S3 h2
    | brk => exact h2
    | ret d => exact h2
theorem wp_calm {x : M α} {Q : α → Sto → Prop} {E : EQ} (h : wp x S Q fun _ _ _ => False) : wp (calm x) S Q E := by
  unfold wp calm at *
  simp only
  split at h
  · rename_i e; simp only [e]; exact h
  · exact h.elim
  · exact h.elim
end
end Kd
/-! == on plain data is equality. -/
namespace Kd
open PySem
mutual
theorem py_dep : ∀ d : D, d.sim = true → ∃ p, d.py = some p ∧ p.depth ≤ d.dep + 1
  | .non, _ => ⟨_, rfl, by simp [PyData.depth]⟩
  | .int i, _ => ⟨_, rfl, by simp [PyData.depth]⟩
  | .str x, _ => ⟨_, rfl, by simp [PyData.depth]⟩
  | .tup ds, h => by
    obtain ⟨ps, e, hp⟩ := pys_dep ds (by simpa only [D.sim] using h)
    refine ⟨.tuple ps, by simp only [D.py, e, Option.map_some], ?_⟩
    simp only [PyData.depth, D.dep]
    omega
  | .bl b, h => by cases h
  | .loc l, h => by cases h
  | .rol ns, h => by cases h
theorem pys_dep : ∀ ds : List D, D.sims ds = true → ∃ ps, D.pys ds = some ps ∧ PyData.depthAll ps ≤ D.deps ds + 1
  | [], _ => ⟨[], rfl, by simp [PyData.depthAll]⟩
  | d :: ds, h => by
    simp only [D.sims, Bool.and_eq_true] at h
    obtain ⟨p, e1, h1⟩ := py_dep d h.1
    obtain ⟨ps, e2, h2⟩ := pys_dep ds h.2
    refine ⟨p :: ps, by simp only [D.pys, e1, e2], ?_⟩
    simp only [PyData.depthAll, D.deps]
    omega
end
mutual
theorem eqv_dec : ∀ (a b : D) (p q : PyData), a.sim = true → b.sim = true → a.py = some p → b.py = some q → PyData.eqv p q = decide (a = b)
  | .non, b, p, q, _, hb, e1, e2 => by
    cases e1
    cases b with
    | non => cases e2; simp [PyData.eqv]
    | int j => cases e2; simp [PyData.eqv]
    | str y => cases e2; simp [PyData.eqv]
    | tup ys => simp only [D.py, Option.map_eq_some_iff] at e2; obtain ⟨qs, _, rfl⟩ := e2; simp [PyData.eqv]
    | bl b => cases hb
    | loc l => cases hb
    | rol ns => cases hb
  | .int i, b, p, q, _, hb, e1, e2 => by
    cases e1
    cases b with
    | non => cases e2; simp [PyData.eqv]
    | int j => cases e2; show (i == j) = _; rw [Bool.eq_iff_iff]; simp
    | str y => cases e2; simp [PyData.eqv]
    | tup ys => simp only [D.py, Option.map_eq_some_iff] at e2; obtain ⟨qs, _, rfl⟩ := e2; simp [PyData.eqv]
    | bl b => cases hb
    | loc l => cases hb
    | rol ns => cases hb
  | .str x, b, p, q, _, hb, e1, e2 => by
    cases e1
    cases b with
    | non => cases e2; simp [PyData.eqv]
    | int j => cases e2; simp [PyData.eqv]
    | str y => cases e2; show (x == y) = _; rw [Bool.eq_iff_iff]; simp
    | tup ys => simp only [D.py, Option.map_eq_some_iff] at e2; obtain ⟨qs, _, rfl⟩ := e2; simp [PyData.eqv]
    | bl b => cases hb
    | loc l => cases hb
    | rol ns => cases hb
  | .tup xs, b, p, q, ha, hb, e1, e2 => by
    simp only [D.py, Option.map_eq_some_iff] at e1
    obtain ⟨ps, e1, rfl⟩ := e1
    cases b with
    | tup ys =>
      simp only [D.py, Option.map_eq_some_iff] at e2
      obtain ⟨qs, e2, rfl⟩ := e2
      have i1 := eqvs_dec xs ys ps qs ha hb e1 e2
      simp only [PyData.eqv]
      rw [i1, Bool.eq_iff_iff]
      simp
    | non => cases e2; simp [PyData.eqv]
    | int i => cases e2; simp [PyData.eqv]
    | str x => cases e2; simp [PyData.eqv]
    | bl b => cases hb
    | loc l => cases hb
    | rol ns => cases hb
  | .bl b, _, _, _, h, _, _, _ => by cases h
  | .loc l, _, _, _, h, _, _, _ => by cases h
  | .rol ns, _, _, _, h, _, _, _ => by cases h
theorem eqvs_dec : ∀ (a b : List D) (p q : List PyData), D.sims a = true → D.sims b = true → D.pys a = some p → D.pys b = some q → PyData.eqvAll p q = decide (a = b)
  | [], b, p, q, _, hb, e1, e2 => by
    cases e1
    cases b with
    | nil => cases e2; rfl
    | cons y ys =>
      simp only [D.pys] at e2
      split at e2
      · cases e2; simp [PyData.eqvAll]
      · cases e2
  | x :: xs, b, p, q, ha, hb, e1, e2 => by
    simp only [D.pys] at e1
    split at e1
    · rename_i p0 ps h1 h2
      cases e1
      cases b with
      | nil => cases e2; simp [PyData.eqvAll]
      | cons y ys =>
        simp only [D.pys] at e2
        split at e2
        · rename_i q0 qs h3 h4
          cases e2
          simp only [D.sims, Bool.and_eq_true] at ha hb
          have i1 := eqv_dec x y p0 q0 ha.1 hb.1 h1 h3
          have i2 := eqvs_dec xs ys ps qs ha.2 hb.2 h2 h4
          simp only [PyData.eqvAll]
          rw [i1, i2, Bool.eq_iff_iff]
          simp
        · cases e2
    · cases e1
end
theorem eqX_sim {a b : D} {S : Sto} (ha : a.sim = true) (hb : b.sim = true) (hd : a.dep ≤ 59) : eqX (.dv a) (.dv b) S = .ok (decide (a = b)) S := by
  obtain ⟨p, e1, h1⟩ := py_dep a ha
  obtain ⟨q, e2, h2⟩ := py_dep b hb
  have q1 : X.py S (.dv a) = some p := by cases a <;> first | exact e1 | cases ha
  have q2 : X.py S (.dv b) = some q := by cases b <;> first | exact e2 | cases hb
  show (match X.py S (.dv a), X.py S (.dv b) with
    | some a, some b => if min a.depth b.depth ≤ 60 then R.ok (PyData.eqv a b) S else .bad
    | _, _ => .bad) = _
  rw [q1, q2]
  show (if min p.depth q.depth ≤ 60 then R.ok (PyData.eqv p q) S else .bad) = _
  rw [if_pos (by omega), eqv_dec a b p q ha hb e1 e2]
section
variable {S : Sto} {E : EQ} {Q : Bool → Sto → Prop}
theorem wp_eqX {a b : D} (ha : a.sim = true) (hb : b.sim = true) (hd : a.dep ≤ 59) : wp (eqX (.dv a) (.dv b)) S Q E = Q (decide (a = b)) S := by
  unfold wp
  rw [eqX_sim ha hb hd]
theorem wp_eq_str (a b : Str) : wp (eqX (.dv (.str a)) (.dv (.str b))) S Q E = Q (decide (a = b)) S := by
  rw [wp_eqX rfl rfl (by simp [D.dep])]
  simp
theorem wp_eq_int (a b : Int) : wp (eqX (.dv (.int a)) (.dv (.int b))) S Q E = Q (decide (a = b)) S := by
  rw [wp_eqX rfl rfl (by simp [D.dep])]
  simp
end
end Kd
/-! A def's call, what it leaves; forms of syntax as wp rules. -/
namespace Kd
open PySem
theorem tidy_of {S S1 T : Sto} {d : D} (hl : S1.length = S.length) (hd : d.und S.length = true) (h : ∀ (i : Nat) (a b : Ob), S[i]? = some a → S1[i]? = some b → a = b ∨ b.und S.length = true) : tidy S d (S1 ++ T) = S1 := by
  unfold tidy
  rw [if_pos, ← hl, List.take_left]
  simp only [Bool.and_eq_true, List.all_eq_true, List.mem_range]
  refine ⟨hd, fun i hi => ?_⟩
  have hi1 : i < S1.length := by omega
  rw [List.getElem?_append_left hi1, List.getElem?_eq_getElem hi, List.getElem?_eq_getElem hi1]
  have := h i _ _ (List.getElem?_eq_getElem hi) (List.getElem?_eq_getElem hi1)
  simpa using this
theorem tidy_app {S T : Sto} {d : D} (hd : d.und S.length = true) : tidy S d (S ++ T) = S := tidy_of rfl hd fun i a b h1 h2 => .inl (Option.some.inj (h1.symm.trans h2))
theorem tidy_self {S : Sto} {d : D} (hd : d.und S.length = true) : tidy S d S = S := by
  have := tidy_app (T := []) hd
  rwa [List.append_nil] at this
section
variable {S : Sto} {E : EQ}
theorem wp_call {P : Prg} {k f : Nat} {g : Fn} {ds : List D} {Q : D → Sto → Prop} (hf : P.fn f = some g) (hl : ds.length = g.np)
    (h : wp (exL ⟨P.call k, P.gl⟩ P.up g.body (ds.map some ++ List.replicate (g.nl - g.np) none)) S (fun r S' => match r.1 with
      | .ret d => Q d (tidy S d S')
      | .nx => Q .non (tidy S .non S')
      | _ => False) fun c d S' => E c d (tidy S (d.getD .non) S')) : wp (P.call (k + 1) f ds) S Q E := by
  unfold wp at h ⊢
  simp only [Prg.call, hf, runFn, if_pos hl]
  split at h
  · rename_i r S' e
    obtain ⟨fl, ρ⟩ := r
    cases fl <;> simp only [e] <;> exact h
  · rename_i e
    simp only [e]
    exact h
  · exact h.elim
variable {C : Ctx} {up : Nat → Nat → Bool} {ρ : Env} {Q : X → Sto → Prop}
/-- a value that stands in the store -/
def Ok1 (S : Sto) (d : D) : Prop := d.und S.length = true
def isiV (ty : Ty) : X → M X
  | .dv d => .mk fun S => match isTy S d ty with
    | some b => .ok (.dv (.bl b)) S
    | none => .bad
  | .tl _ => M.pure (.dv (.bl (ty = .list)))
theorem wp_isi {d : D} {ty : Ty} {b : Bool} (h : isTy S d ty = some b) : wp (isiV ty (.dv d)) S Q E = Q (.dv (.bl b)) S := by
  unfold wp isiV
  simp only [h]
def varX (ρ : Env) (i : Nat) : M X := match ρ[i]? with
  | some (some d) => M.pure (.dv d)
  | _ => M.bad
def glX (C : Ctx) (g : Nat) : M X := match C.gl g with
  | some d => M.pure (.dv d)
  | none => M.bad
theorem wp_var {i : Nat} {d : D} (h : ρ[i]? = some (some d)) : wp (varX ρ i) S Q E = Q (.dv d) S := by
  unfold varX
  rw [h]
  rfl
theorem wp_gl {g : Nat} {d : D} (h : C.gl g = some d) : wp (glX C g) S Q E = Q (.dv d) S := by
  unfold glX
  rw [h]
  rfl
/-! what the forms want (t: as a test) -/
theorem ev_var (i : Nat) (t : Bool) : ev C (.var i) t ρ = asT t (varX ρ i) := by simp only [ev]; rfl
theorem ev_glb (g : Nat) (t : Bool) : ev C (.glb g) t ρ = asT t (glX C g) := by simp only [ev]; rfl
theorem ev_isV (e : Ex) (ty : Ty) (t : Bool) : ev C (.isi e ty) t ρ = (ev C e false ρ >>= isiV ty) := by
  simp only [ev]
  congr 1
theorem ev_cint (i : Int) (t : Bool) : ev C (.cint i) t ρ = asT t (M.pure (.dv (.int i))) := by simp only [ev]
theorem ev_cstr (x : Str) (t : Bool) : ev C (.cstr x) t ρ = asT t (M.pure (.dv (.str x))) := by simp only [ev]
theorem ev_cnon (t : Bool) : ev C .cnon t ρ = asT t (M.pure (.dv .non)) := by simp only [ev]
theorem ev_cbl (b t : Bool) : ev C (.cbl b) t ρ = asT t (M.pure (.dv (.bl b))) := by simp only [ev]
theorem ev_tup (es : List Ex) (t : Bool) : ev C (.tup es) t ρ = asT t (evs C es ρ >>= fun ds => M.pure (.dv (.tup ds))) := by simp only [ev]
theorem ev_lst (es : List Ex) (t : Bool) : ev C (.lst es) t ρ = asT t (evs C es ρ >>= fun ds => M.pure (.tl ds)) := by simp only [ev]
theorem ev_dct0 (t : Bool) : ev C .dct0 t ρ = asT t (push (.dct []) >>= fun l => M.pure (.dv (.loc l))) := by simp only [ev]
theorem ev_bin (o : Bop) (a b : Ex) (t : Bool) : ev C (.bin o a b) t ρ = asT t (ev C a false ρ >>= fun x => ev C b false ρ >>= fun y => binX o x y) := by simp only [ev]
theorem ev_notf (a : Ex) : ev C (.not_ a) false ρ = (ev C a false ρ >>= fun x => truX x >>= fun b => M.pure (.dv (.bl (!b)))) := by
  simp only [ev, Bool.false_eq_true, if_false]
  unfold bind instBindM M.bind
  simp only
  congr 1
  funext S
  cases ev C a false ρ S <;> rfl
theorem ev_nott (a : Ex) : ev C (.not_ a) true ρ = (ev C a true ρ >>= fun x => theB x >>= fun b => M.pure (.dv (.bl (!b)))) := by
  simp only [ev, if_true]
  unfold bind instBindM M.bind
  simp only
  congr 1
  funext S
  cases ev C a true ρ S <;> rfl
theorem ev_and (a b : Ex) (t : Bool) : ev C (.and_ a b) t ρ = (ev C a t ρ >>= theB >>= fun k => if k then ev C b t ρ else M.pure (.dv (.bl false))) := by simp only [ev]
theorem ev_or (a b : Ex) (t : Bool) : ev C (.or_ a b) t ρ = (ev C a t ρ >>= theB >>= fun k => if k then M.pure (.dv (.bl true)) else ev C b t ρ) := by simp only [ev]
theorem ev_cmp (o : Cop) (a b : Ex) (t : Bool) : ev C (.cmp o a b) t ρ = (ev C a false ρ >>= fun x => ev C b false ρ >>= fun y => cmpX o x y >>= fun b => M.pure (.dv (.bl b))) := by simp only [ev]
theorem ev_chn (o1 o2 : Cop) (a b c : Ex) (t : Bool) : ev C (.chn o1 o2 a b c) t ρ = (ev C a false ρ >>= fun x => ev C b false ρ >>= fun y => cmpX o1 x y >>= fun k =>
      if k then ev C c false ρ >>= fun z => cmpX o2 y z >>= fun b => M.pure (.dv (.bl b)) else M.pure (.dv (.bl false))) := by simp only [ev]
theorem ev_ite (c a b : Ex) (t : Bool) : ev C (.ite c a b) t ρ = (ev C c true ρ >>= theB >>= fun k => if k then ev C a t ρ else ev C b t ρ) := by simp only [ev]
theorem ev_call (f : Nat) (es : List Ex) (t : Bool) : ev C (.call f es) t ρ = asT t (evs C es ρ >>= fun ds => C.cal f ds >>= fun d => M.pure (.dv d)) := by simp only [ev]
theorem ev_blt (b : Bi) (es : List Ex) (t : Bool) : ev C (.blt b es) t ρ = asT t (evx C es ρ >>= fun xs => bltX b xs) := by simp only [ev]
theorem ev_mth (m : Mt) (o : Ex) (es : List Ex) (t : Bool) : ev C (.mth m o es) t ρ = asT t (ev C o false ρ >>= fun x => recv m x >>= fun _ => evx C es ρ >>= fun xs => mthX m x xs) := by simp only [ev]
theorem ev_idx (a i : Ex) (t : Bool) : ev C (.idx a i) t ρ = asT t (ev C a false ρ >>= fun x => ev C i false ρ >>= fun y => idxX x y) := by simp only [ev]
theorem ev_slc (a : Ex) (lo hi : List Ex) (t : Bool) : ev C (.slc a lo hi) t ρ = asT t (ev C a false ρ >>= fun x => (evx C lo ρ >>= partX) >>= fun l => (evx C hi ρ >>= partX) >>= fun h => slcX x l h) := by simp only [ev]
theorem ev_frc (a : Ex) (t : Bool) : ev C (.frc a) t ρ = asT t ((ev C a false ρ >>= force) >>= fun d => M.pure (.dv d)) := by simp only [ev]
theorem ev_lc (elt : Ex) (tg : Tg) (k : Ik) (es ifs : List Ex) (own : List Nat) (t : Bool) : ev C (.lc elt tg k es ifs own) t ρ = asT t (evx C es ρ >>= fun xs => walk k xs >>= fun ig =>
      calm (lcRun ig.2 (fun d => bindT tg d (wipeE ρ own)) (fun ρ' => evc C ifs ρ') (fun ρ' => ev C elt false ρ' >>= force) ig.1 []) >>= fun ds => M.pure (.tl ds)) := by simp only [ev]
theorem ty_str {d : D} (h : d.und S.length = true) : isTy S d .str = some (isStrD d) := by
  cases d with
  | loc l =>
    have hl : l < S.length := by simpa [D.und] using h
    simp only [isTy, List.getElem?_eq_getElem hl]
    split <;> simp [isStrD] <;> simp_all
  | _ => simp [isTy, isStrD]
theorem ty_tup {d : D} (h : d.und S.length = true) : isTy S d .tuple = some (isTupD d) := by
  cases d with
  | loc l =>
    have hl : l < S.length := by simpa [D.und] using h
    simp only [isTy, List.getElem?_eq_getElem hl]
    split <;> simp [isTupD] <;> simp_all
  | _ => simp [isTy, isTupD]
end
/-! ### is_word -/
def abc : Str := "abcdefghijklmnopqrstuvwxyz"
def wordB : D → Bool
  | .str x => decide (1 ≤ x.length) && (decide (x.length ≤ 8) && x.cps.toList.all fun c => strIn ⟨#[c]⟩ abc)
  | _ => false
def fWord (g : Nat) : Fn := ⟨1, 2, 
  [.if_ (.or_ (.not_ (.isi (.var 0) .str)) (.not_ (.chn .le .le (.cint 1) (.blt .len [(.var 0)]) (.cint 8))))
    [.ret (.cbl false)]
    [],
  .ret (.blt .all [(.lc (.cmp .in_ (.var 1) (.glb g)) (.nm 1) .seq [(.var 0)] [] [1])])]⟩
theorem wp_len_str {x : Str} {S : Sto} {E : EQ} {Q : X → Sto → Prop} (h : x.length ≤ sizeLine) : wp (bltX .len [.dv (.str x)]) S Q E = Q (.dv (.int x.length)) S := by
  unfold wp
  simp only [bltX, if_pos h]
  rfl
theorem wp_lt_int (a b : Int) {S : Sto} {E : EQ} {Q : Bool → Sto → Prop} : wp (ltX (.dv (.int a)) (.dv (.int b))) S Q E = Q (decide (a < b)) S := rfl
theorem wp_walk_str {x : Str} {S : Sto} {E : EQ} {Q : List D × List (Nat × List D) → Sto → Prop} (h : x.length ≤ sizeLine) : wp (walk .seq [.dv (.str x)]) S Q E = Q (x.cps.toList.map fun c => D.str ⟨#[c]⟩, []) S := by
  unfold wp
  simp only [walk, if_pos h]
  rfl
theorem blsD_map {α : Type} (f : α → Bool) : ∀ l : List α, blsD (l.map fun a => D.bl (f a)) = some (l.map f)
  | [] => rfl
  | a :: l => by simp only [List.map_cons, blsD, blsD_map f l, Option.map_some]
theorem wp_all {bs : List D} {cs : List Bool} {S : Sto} {E : EQ} {Q : X → Sto → Prop} (h : blsD bs = some cs) : wp (bltX .all [.tl bs]) S Q E = Q (.dv (.bl (cs.all id))) S := by
  unfold wp
  simp only [bltX, bindE, litems, M.pure, h]
theorem filterMap_some {α β : Type} (f : α → β) : ∀ l : List α, l.filterMap (fun a => some (f a)) = l.map f
  | [] => rfl
  | a :: l => by simp [List.filterMap_cons, filterMap_some f l]
theorem wp_word {P : Prg} {k f g : Nat} (hf : P.fn f = some (fWord g)) (hg : P.gl g = some (.str abc)) {d : D} {S : Sto} {E : EQ} {Q : D → Sto → Prop} (hd : d.und S.length = true) (hs : ∀ x, d = .str x → x.length ≤ sizeLine)
    (q : Q (.bl (wordB d)) S) : wp (P.call (k + 1) f [d]) S Q E := by
  refine wp_call hf rfl ?_
  cases hi : isStrD d with
  | false =>
    have e : wordB d = false := by cases d <;> first | rfl | cases hi
    rw [e] at q
    simp only [fWord, exL, exS, ev_var, ev_glb, ev_isV, ev_cint, ev_cstr, ev_cnon, ev_cbl, ev_tup, ev_lst, ev_dct0, ev_bin, ev_notf, ev_nott, ev_and, ev_or, ev_cmp, ev_chn, ev_ite, ev_call, ev_blt, ev_mth, ev_idx, ev_slc, ev_frc, ev_lc, varX, glX, hg, List.getElem?_cons_succ, evs, evx, evc, asTf, asTt, wp_bind, wp_pure, List.map, List.replicate, List.getElem?_cons_zero, List.cons_append, List.nil_append, wp_isi (ty_str hd), hi, wp_ite, if_true, wp_theB, Bool.not_false, wp_force, tidy_self (d := .bl false) (S := S) rfl]
    exact q
  | true =>
    obtain ⟨x, rfl⟩ : ∃ x, d = .str x := by cases d <;> first | exact ⟨_, rfl⟩ | cases hi
    have hx := hs x rfl
    simp only [fWord, exL, exS, ev_var, ev_glb, ev_isV, ev_cint, ev_cstr, ev_cnon, ev_cbl, ev_tup, ev_lst, ev_dct0, ev_bin, ev_notf, ev_nott, ev_and, ev_or, ev_cmp, ev_chn, ev_ite, ev_call, ev_blt, ev_mth, ev_idx, ev_slc, ev_frc, ev_lc, varX, glX, hg, List.getElem?_cons_succ, evs, evx, evc, asTf, asTt, wp_bind, wp_pure, List.map, List.replicate, List.getElem?_cons_zero, List.cons_append, List.nil_append, wp_isi (ty_str hd), hi, wp_ite, if_true, if_false, wp_theB, Bool.not_true, Bool.not_false, wp_force, wp_len_str hx, cmpX, wp_lt_int, Bool.false_eq_true]
    have e1 : (x.length : Int) < 1 ↔ ¬ 1 ≤ x.length := by omega
    have e2 : (8 : Int) < x.length ↔ ¬ x.length ≤ 8 := by omega
    simp only [wp_walk_str hx, Bool.not_eq_true', decide_eq_false_iff_not, Bool.not_not, decide_eq_true_eq, e1, e2, Decidable.not_not]
    by_cases h1 : 1 ≤ x.length
    · rw [if_pos h1]
      by_cases h2 : x.length ≤ 8
      · rw [if_neg (by simpa using h2)]
        refine wp_calm (wp_lcRun_map (g := fun d => match d with
          | .str c => some (.bl (strIn c abc))
          | _ => none) ?_ ?_)
        · intro d hd
          obtain ⟨c, hc, rfl⟩ := List.mem_map.mp hd
          simp only [bindT, wipeE, wp_pure, List.set_cons_zero, List.set_cons_succ, true_and, List.getElem?_cons_succ, List.getElem?_cons_zero, wp_bind, wp_force]
          exact ⟨rfl, rfl⟩
        · simp only [List.filterMap_map, Function.comp_def, List.reverse_nil, List.nil_append, filterMap_some (fun c => D.bl (strIn ⟨#[c]⟩ abc)), wp_all (blsD_map (fun c => strIn ⟨#[c]⟩ abc) _), wp_force]
          rw [tidy_self rfl]
          simp only [wordB, decide_eq_true h1, decide_eq_true h2, Bool.true_and] at q
          simpa only [List.all_map, Function.comp_def, id] using q
      · rw [if_pos (by simpa using h2), tidy_self rfl]
        simpa only [wordB, decide_eq_false h2, Bool.false_and, Bool.and_false] using q
    · rw [if_neg h1, tidy_self rfl]
      simpa only [wordB, decide_eq_false h1, Bool.false_and] using q
end Kd
/-! is_kind. -/
namespace Kd
open PySem
mutual
/-- every text is short enough to be asked for its length -/
def D.shrt : D → Bool
  | .str x => decide (x.length ≤ sizeLine)
  | .tup ds => decide (ds.length ≤ sizeLine) && D.shrts ds
  | _ => true
def D.shrts : List D → Bool
  | [] => true
  | d :: ds => d.shrt && D.shrts ds
end
mutual
theorem und_sim : ∀ (n : Nat) (d : D), d.sim = true → d.und n = true
  | _, .non, _ => rfl
  | _, .int _, _ => rfl
  | _, .str _, _ => rfl
  | n, .tup ds, h => unds_sim n ds h
  | _, .bl _, h => by cases h
  | _, .loc _, h => by cases h
  | _, .rol _, h => by cases h
theorem unds_sim : ∀ (n : Nat) (ds : List D), D.sims ds = true → D.unds n ds = true
  | _, [], _ => rfl
  | n, d :: ds, h => by
    simp only [D.sims, Bool.and_eq_true] at h
    simp only [D.unds, Bool.and_eq_true]
    exact ⟨und_sim n d h.1, unds_sim n ds h.2⟩
end
/-- plain data with short texts -/
structure Pl (d : D) : Prop where
  sim : d.sim = true
  sh : d.shrt = true
theorem Pl.und {d : D} (h : Pl d) (n : Nat) : d.und n = true := und_sim n d h.sim
theorem Pl.str {d : D} (h : Pl d) : ∀ x, d = .str x → x.length ≤ sizeLine := fun x e => by
  subst e
  have := h.sh
  simpa [D.shrt] using this
theorem Pl.mem : ∀ {ds : List D}, D.sims ds = true → D.shrts ds = true → ∀ d ∈ ds, Pl d
  | d :: ds, h1, h2, x, hx => by
    simp only [D.sims, D.shrts, Bool.and_eq_true] at h1 h2
    rcases List.mem_cons.mp hx with rfl | hx
    · exact ⟨h1.1, h2.1⟩
    · exact Pl.mem h1.2 h2.2 x hx
theorem Pl.items {ds : List D} (h : Pl (.tup ds)) : ∀ d ∈ ds, Pl d := Pl.mem h.sim (by have := h.sh; simp only [D.shrt, Bool.and_eq_true] at this; exact this.2)
theorem dep_mem : ∀ {ds : List D} {d : D}, d ∈ ds → d.dep ≤ D.deps ds
  | x :: ds, d, h => by
    simp only [D.deps]
    rcases List.mem_cons.mp h with rfl | h
    · omega
    · have := dep_mem h
      omega
def kindN : Nat → D → Bool
  | 0, _ => false
  | n + 1, d => match d with
    | .tup (.str h :: r) =>
      if h = "any" ∨ h = "none" then r.isEmpty
      else if h = "name" then (match r with
        | [w] => wordB w
        | _ => false)
      else if h = "some" then (match r with
        | [w, q] => wordB w && kindN n q
        | _ => false)
      else if h = "and" then (match r with
        | [.tup ks] => decide (2 ≤ ks.length) && ks.all (kindN n)
        | _ => false)
      else false
    | _ => false
def fKind (iw ik : Nat) : Fn := ⟨1, 2, 
  [.if_ (.or_ (.not_ (.isi (.var 0) .tuple)) (.or_ (.not_ (.var 0)) (.not_ (.isi (.idx (.var 0) (.cint 0)) .str))))
    [.ret (.cbl false)]
    [],
  .if_ (.or_ (.cmp .eq (.idx (.var 0) (.cint 0)) (.cstr "any")) (.cmp .eq (.idx (.var 0) (.cint 0)) (.cstr "none")))
    [.ret (.cmp .eq (.blt .len [(.var 0)]) (.cint 1))]
    [],
  .if_ (.cmp .eq (.idx (.var 0) (.cint 0)) (.cstr "name"))
    [.ret (.and_ (.cmp .eq (.blt .len [(.var 0)]) (.cint 2)) (.call iw [(.idx (.var 0) (.cint 1))]))]
    [],
  .if_ (.cmp .eq (.idx (.var 0) (.cint 0)) (.cstr "some"))
    [.ret (.and_ (.cmp .eq (.blt .len [(.var 0)]) (.cint 3)) (.and_ (.call iw [(.idx (.var 0) (.cint 1))]) (.call ik [(.idx (.var 0) (.cint 2))])))]
    [],
  .if_ (.or_ (.cmp .ne (.idx (.var 0) (.cint 0)) (.cstr "and")) (.or_ (.cmp .ne (.blt .len [(.var 0)]) (.cint 2)) (.or_ (.not_ (.isi (.idx (.var 0) (.cint 1)) .tuple)) (.cmp .lt (.blt .len [(.idx (.var 0) (.cint 1))]) (.cint 2)))))
    [.ret (.cbl false)]
    [],
  .ret (.blt .all [(.lc (.call ik [(.var 1)]) (.nm 1) .seq [(.idx (.var 0) (.cint 1))] [] [1])])]⟩
section
variable {S : Sto} {E : EQ}
theorem wp_len_tup (ds : List D) (Q : X → Sto → Prop) : wp (bltX .len [.dv (.tup ds)]) S Q E = Q (.dv (.int ds.length)) S := rfl
theorem wp_idx_tup {ds : List D} {i : Int} {d : D} (h : at_ ds i = some d) (Q : X → Sto → Prop) : wp (idxX (.dv (.tup ds)) (.dv (.int i))) S Q E = Q (.dv d) S := by
  unfold wp
  simp only [idxX, isDct, seqIx, bindE, items, M.pure, h]
theorem wp_walk_tup (ds : List D) (Q : List D × List (Nat × List D) → Sto → Prop) : wp (walk .seq [.dv (.tup ds)]) S Q E = Q (ds, []) S := rfl
theorem at_nat {α : Type} (ds : List α) (k : Nat) (h : k < ds.length) : at_ ds (k : Int) = ds[k]? := by
  unfold at_ ixAt
  rw [if_pos (by omega), if_pos (by omega)]
  rfl
theorem at0 (d : D) (ds : List D) : at_ (d :: ds) 0 = some d := at_nat (d :: ds) 0 (by simp)
theorem at1 (a d : D) (ds : List D) : at_ (a :: d :: ds) 1 = some d := at_nat (a :: d :: ds) 1 (by simp)
theorem at2 (a b d : D) (ds : List D) : at_ (a :: b :: d :: ds) 2 = some d := at_nat (a :: b :: d :: ds) 2 (by simp)
theorem at3 (a b c d : D) (ds : List D) : at_ (a :: b :: c :: d :: ds) 3 = some d := at_nat (a :: b :: c :: d :: ds) 3 (by simp)
theorem wp_kind {P : Prg} {iw ik g : Nat} (hw : P.fn iw = some (fWord g)) (hg : P.gl g = some (.str abc)) (hk : P.fn ik = some (fKind iw ik)) : ∀ (n k : Nat) {d : D} {S : Sto} {E : EQ} {Q : D → Sto → Prop}, d.dep ≤ n → n ≤ k → Pl d →
    Q (.bl (kindN n d)) S → wp (P.call (k + 2) ik [d]) S Q E := by
  intro n
  induction n with
  | zero =>
    intro k d S E Q hd _ pl q
    refine wp_call hk rfl ?_
    have hi : isTupD d = false := by cases d <;> first | rfl | (simp [D.dep] at hd)
    simp only [fKind, exL, exS, ev_var, ev_glb, ev_isV, ev_cint, ev_cstr, ev_cbl, ev_notf, ev_nott, ev_and, ev_or, ev_cmp, ev_call, ev_blt, ev_idx, ev_lc, varX, List.getElem?_cons_succ, evs, evx, evc, asTf, asTt, wp_bind, wp_pure, List.map, List.replicate, List.getElem?_cons_zero, List.cons_append, List.nil_append, wp_isi (ty_tup (pl.und _)), hi, wp_ite, if_true, wp_theB, Bool.not_false, wp_force]
    rw [tidy_self rfl]
    exact q
  | succ n ih =>
    intro k d S E Q hd hnk pl q
    obtain ⟨k, rfl⟩ : ∃ k', k = k' + 1 := ⟨k - 1, by omega⟩
    refine wp_call hk rfl ?_
    cases hi : isTupD d with
    | false =>
      have e : kindN (n + 1) d = false := by cases d <;> first | rfl | cases hi
      rw [e] at q
      simp only [fKind, exL, exS, ev_var, ev_glb, ev_isV, ev_cint, ev_cstr, ev_cbl, ev_notf, ev_nott, ev_and, ev_or, ev_cmp, ev_call, ev_blt, ev_idx, ev_lc, varX, List.getElem?_cons_succ, evs, evx, evc, asTf, asTt, wp_bind, wp_pure, List.map, List.replicate, List.getElem?_cons_zero, List.cons_append, List.nil_append, wp_isi (ty_tup (pl.und _)), hi, wp_ite, if_true, wp_theB, Bool.not_false, wp_force]
      rw [tidy_self rfl]
      exact q
    | true =>
      obtain ⟨ds, rfl⟩ : ∃ ds, d = .tup ds := by cases d <;> first | exact ⟨_, rfl⟩ | cases hi
      cases ds with
      | nil =>
        simp only [fKind, exL, exS, ev_var, ev_glb, ev_isV, ev_cint, ev_cstr, ev_cbl, ev_notf, ev_nott, ev_and, ev_or, ev_cmp, ev_call, ev_blt, ev_idx, ev_lc, varX, List.getElem?_cons_succ, evs, evx, evc, asTf, asTt, wp_bind, wp_pure, List.map, List.replicate, List.getElem?_cons_zero, List.cons_append, List.nil_append, wp_isi (ty_tup (pl.und _)), hi, wp_ite, if_true, if_false, wp_theB, Bool.not_false, Bool.not_true, Bool.false_eq_true, wp_force, wp_tru_tup, List.isEmpty_nil]
        rw [tidy_self rfl]
        exact q
      | cons h0 r =>
        have p0 : Pl h0 := pl.items _ (by simp)
        cases hs : isStrD h0 with
        | false =>
          have e : kindN (n + 1) (.tup (h0 :: r)) = false := by cases h0 <;> first | rfl | cases hs
          rw [e] at q
          simp only [fKind, exL, exS, ev_var, ev_glb, ev_isV, ev_cint, ev_cstr, ev_cbl, ev_notf, ev_nott, ev_and, ev_or, ev_cmp, ev_call, ev_blt, ev_idx, ev_lc, varX, List.getElem?_cons_succ, evs, evx, evc, asTf, asTt, wp_bind, wp_pure, List.map, List.replicate, List.getElem?_cons_zero, List.cons_append, List.nil_append, wp_isi (ty_tup (pl.und _)), hi, wp_ite, if_true, if_false, wp_theB, Bool.not_false, Bool.not_true, Bool.false_eq_true, wp_force, wp_tru_tup, List.isEmpty_cons, wp_idx_tup (at0 _ _), wp_isi (ty_str (p0.und _)), hs]
          rw [tidy_self rfl]
          exact q
        | true =>
          obtain ⟨x, rfl⟩ : ∃ x, h0 = .str x := by cases h0 <;> first | exact ⟨_, rfl⟩ | cases hs
          simp only [fKind, exL, exS, ev_var, ev_glb, ev_isV, ev_cint, ev_cstr, ev_cbl, ev_notf, ev_nott, ev_and, ev_or, ev_cmp, ev_call, ev_blt, ev_idx, ev_lc, varX, List.getElem?_cons_succ, evs, evx, evc, asTf, asTt, wp_bind, wp_pure, List.map, List.replicate, List.getElem?_cons_zero, List.cons_append, List.nil_append, wp_isi (ty_tup (pl.und _)), hi, wp_ite, if_true, if_false, wp_theB, Bool.not_false, Bool.not_true, Bool.false_eq_true, wp_force, wp_tru_tup, List.isEmpty_cons, wp_idx_tup (at0 _ _), wp_isi (ty_str (p0.und _)), hs, cmpX, wp_eq_str, wp_len_tup, wp_eq_int, tidy_self (d := .bl false) (S := S) rfl]
          have T : ∀ b, tidy S (.bl b) S = S := fun b => tidy_self rfl
          simp only [T, decide_eq_true_eq, Bool.not_eq_true', decide_eq_false_iff_not]
          simp only [kindN] at q
          have hd' : max 0 (D.deps r) + 1 ≤ n + 1 := by simpa only [D.dep, D.deps] using hd
          by_cases h1 : x = "any"
          · rw [if_pos h1]
            rw [if_pos (.inl h1)] at q
            have e : decide (((D.str x :: r).length : Int) = 1) = r.isEmpty := by
              cases r with
              | nil => rfl
              | cons a r => simp; omega
            rw [e]
            exact q
          rw [if_neg h1]
          by_cases h2 : x = "none"
          · rw [if_pos h2]
            rw [if_pos (.inr h2)] at q
            have e : decide (((D.str x :: r).length : Int) = 1) = r.isEmpty := by
              cases r with
              | nil => rfl
              | cons a r => simp; omega
            rw [e]
            exact q
          rw [if_neg h2]
          rw [if_neg (fun z => z.elim h1 h2)] at q
          by_cases h3 : x = "name"
          · rw [if_pos h3]
            rw [if_pos h3] at q
            rcases r with _ | ⟨w, _ | ⟨w2, r⟩⟩
            · rw [if_neg (by simp)]
              exact q
            · rw [if_pos (by simp), wp_idx_tup (at1 _ _ _), wp_force]
              have pw : Pl w := pl.items _ (by simp)
              refine wp_word (k := k + 1) hw hg (pw.und _) pw.str ?_
              rw [T]
              exact q
            · rw [if_neg (by simp only [List.length_cons]; omega)]
              exact q
          rw [if_neg h3]
          rw [if_neg h3] at q
          by_cases h4 : x = "some"
          · rw [if_pos h4]
            rw [if_pos h4] at q
            rcases r with _ | ⟨w, _ | ⟨w2, _ | ⟨w3, r⟩⟩⟩
            · rw [if_neg (by simp)]
              exact q
            · rw [if_neg (by simp only [List.length_cons, List.length_nil]; omega)]
              exact q
            · rw [if_pos (by simp), wp_idx_tup (at1 _ _ _), wp_force]
              have pw : Pl w := pl.items _ (by simp)
              have pw2 : Pl w2 := pl.items _ (by simp)
              refine wp_word (k := k + 1) hw hg (pw.und _) pw.str ?_
              rw [wp_theB]
              cases hb : wordB w with
              | true =>
                rw [if_pos rfl, wp_idx_tup (at2 _ _ _ _), wp_force]
                simp only [D.deps] at hd'
                refine ih k (by omega) (by omega) pw2 ?_
                rw [T]
                simpa only [hb, Bool.true_and] using q
              | false =>
                rw [if_neg (by decide), T]
                simpa only [hb, Bool.false_and] using q
            · rw [if_neg (by simp only [List.length_cons]; omega)]
              exact q
          rw [if_neg h4]
          rw [if_neg h4] at q
          by_cases h5 : x = "and"
          · rw [if_neg (by simpa using h5)]
            rw [if_pos h5] at q
            rcases r with _ | ⟨w, _ | ⟨w2, r⟩⟩
            · rw [if_pos (by simp)]
              exact q
            · rw [if_neg (by simp), wp_idx_tup (at1 _ _ _)]
              have pw : Pl w := pl.items _ (by simp)
              rw [wp_isi (ty_tup (pw.und _)), wp_theB]
              cases ht : isTupD w with
              | false =>
                rw [if_pos rfl, T]
                have e : (match [w] with
                  | [.tup ks] => decide (2 ≤ ks.length) && ks.all (kindN n)
                  | _ => false) = false := by cases w <;> first | rfl | cases ht
                rw [e] at q
                exact q
              | true =>
                obtain ⟨ks, rfl⟩ : ∃ ks, w = .tup ks := by cases w <;> first | exact ⟨_, rfl⟩ | cases ht
                rw [if_neg (by decide), wp_idx_tup (at1 _ _ _), wp_len_tup, wp_lt_int]
                by_cases hl : 2 ≤ ks.length
                · rw [if_neg (by simp only [decide_eq_true_eq]; omega), wp_idx_tup (at1 _ _ _), wp_walk_tup]
                  simp only [D.deps, D.dep] at hd'
                  refine wp_calm (wp_lcRun_map (g := fun d => some (.bl (kindN n d))) ?_ ?_)
                  · intro d hdm
                    have : d.dep ≤ D.deps ks := dep_mem hdm
                    simp only [bindT, wipeE, wp_pure, List.set_cons_zero, List.set_cons_succ, true_and, List.getElem?_cons_succ, List.getElem?_cons_zero, wp_bind, wp_force]
                    refine ih k (by omega) (by omega) (pw.items d hdm) ?_
                    exact ⟨rfl, rfl⟩
                  · simp only [List.reverse_nil, List.nil_append, filterMap_some (fun d => D.bl (kindN n d)), wp_all (blsD_map (kindN n) _), wp_force]
                    rw [T]
                    simp only [decide_eq_true hl, Bool.true_and] at q
                    simpa only [List.all_map, Function.comp_def, id] using q
                · rw [if_pos (by simp only [decide_eq_true_eq]; omega), T]
                  simpa only [decide_eq_false hl, Bool.false_and] using q
            · rw [if_pos (by simp only [List.length_cons]; omega)]
              have e : (match w :: w2 :: r with
                  | [.tup ks] => decide (2 ≤ ks.length) && ks.all (kindN n)
                  | _ => false) = false := by cases w <;> rfl
              rw [e] at q
              exact q
          · rw [if_pos h5]
            rw [if_neg h5] at q
            exact q
end
end Kd
/-! is_saying, is_fact. -/
namespace Kd
open PySem
def sayB (n : Nat) : D → Bool
  | .tup (.str h :: r) =>
    if h = "below" then (match r with
      | [a, b] => kindN n a && kindN n b
      | _ => false)
    else if h = "role" then (match r with
      | [a, b] => wordB a && wordB b
      | _ => false)
    else decide (h = "chain") && (decide (r.length = 3) && r.all wordB)
  | _ => false
def factB (n : Nat) : D → Bool
  | .tup (.str h :: r) =>
    if h = "is" then (match r with
      | [a, b] => wordB a && kindN n b
      | _ => false)
    else decide (h = "to") && (decide (r.length = 3) && r.all wordB)
  | _ => false
def fSay (iw ik : Nat) : Fn := ⟨1, 2, 
  [.if_ (.or_ (.not_ (.isi (.var 0) .tuple)) (.or_ (.not_ (.var 0)) (.not_ (.isi (.idx (.var 0) (.cint 0)) .str))))
    [.ret (.cbl false)]
    [],
  .if_ (.cmp .eq (.idx (.var 0) (.cint 0)) (.cstr "below"))
    [.ret (.and_ (.cmp .eq (.blt .len [(.var 0)]) (.cint 3)) (.and_ (.call ik [(.idx (.var 0) (.cint 1))]) (.call ik [(.idx (.var 0) (.cint 2))])))]
    [],
  .if_ (.cmp .eq (.idx (.var 0) (.cint 0)) (.cstr "role"))
    [.ret (.and_ (.cmp .eq (.blt .len [(.var 0)]) (.cint 3)) (.and_ (.call iw [(.idx (.var 0) (.cint 1))]) (.call iw [(.idx (.var 0) (.cint 2))])))]
    [],
  .ret (.and_ (.cmp .eq (.idx (.var 0) (.cint 0)) (.cstr "chain")) (.and_ (.cmp .eq (.blt .len [(.var 0)]) (.cint 4)) (.blt .all [(.lc (.call iw [(.var 1)]) (.nm 1) .seq [(.slc (.var 0) [(.cint 1)] [])] [] [1])])))]⟩
def fFact (iw ik : Nat) : Fn := ⟨1, 2, 
  [.if_ (.or_ (.not_ (.isi (.var 0) .tuple)) (.or_ (.not_ (.var 0)) (.not_ (.isi (.idx (.var 0) (.cint 0)) .str))))
    [.ret (.cbl false)]
    [],
  .if_ (.cmp .eq (.idx (.var 0) (.cint 0)) (.cstr "is"))
    [.ret (.and_ (.cmp .eq (.blt .len [(.var 0)]) (.cint 3)) (.and_ (.call iw [(.idx (.var 0) (.cint 1))]) (.call ik [(.idx (.var 0) (.cint 2))])))]
    [],
  .ret (.and_ (.cmp .eq (.idx (.var 0) (.cint 0)) (.cstr "to")) (.and_ (.cmp .eq (.blt .len [(.var 0)]) (.cint 4)) (.blt .all [(.lc (.call iw [(.var 1)]) (.nm 1) .seq [(.slc (.var 0) [(.cint 1)] [])] [] [1])])))]⟩
theorem cutD1 (a : D) (r : List D) : cutD (a :: r) (some 1) none = r := by
  simp [cutD, slEnd]
theorem cut1 {S : Sto} {E : EQ} (a : D) (r : List D) (Q : X → Sto → Prop) : wp (slcX (.dv (.tup (a :: r))) (some 1) none) S Q E = Q (.dv (.tup r)) S := by
  show Q (.dv (.tup (cutD (a :: r) (some 1) none))) S = _
  rw [cutD1]
theorem wp_say {P : Prg} {iw ik is g : Nat} (hw : P.fn iw = some (fWord g)) (hg : P.gl g = some (.str abc)) (hk : P.fn ik = some (fKind iw ik)) (hs : P.fn is = some (fSay iw ik)) (n k : Nat) {d : D} {S : Sto} {E : EQ} {Q : D → Sto → Prop} (hd : d.dep ≤ n) (hnk : n ≤ k) (hu : d.und S.length = true) (pl : isTupD d = true → Pl d)
    (q : Q (.bl (sayB n d)) S) : wp (P.call (k + 3) is [d]) S Q E := by
  refine wp_call hs rfl ?_
  have T : ∀ b, tidy S (.bl b) S = S := fun b => tidy_self rfl
  cases hi : isTupD d with
  | false =>
    have e : sayB n d = false := by cases d <;> first | rfl | cases hi
    rw [e] at q
    simp only [fSay, exL, exS, ev_var, ev_glb, ev_isV, ev_cint, ev_cstr, ev_cbl, ev_notf, ev_nott, ev_and, ev_or, ev_cmp, ev_call, ev_blt, ev_idx, ev_slc, ev_lc, varX, List.getElem?_cons_succ, evs, evx, evc, asTf, asTt, wp_bind, wp_pure, List.map, List.replicate, List.getElem?_cons_zero, List.cons_append, List.nil_append, wp_isi (ty_tup hu), hi, wp_ite, if_true, if_false, wp_theB, Bool.not_false, Bool.not_true, Bool.false_eq_true, wp_force, wp_tru_tup, List.isEmpty_nil, List.isEmpty_cons]
    rw [T]
    exact q
  | true =>
    obtain ⟨ds, rfl⟩ : ∃ ds, d = .tup ds := by cases d <;> first | exact ⟨_, rfl⟩ | cases hi
    have pl := pl hi
    cases ds with
    | nil =>
      simp only [fSay, exL, exS, ev_var, ev_glb, ev_isV, ev_cint, ev_cstr, ev_cbl, ev_notf, ev_nott, ev_and, ev_or, ev_cmp, ev_call, ev_blt, ev_idx, ev_slc, ev_lc, varX, List.getElem?_cons_succ, evs, evx, evc, asTf, asTt, wp_bind, wp_pure, List.map, List.replicate, List.getElem?_cons_zero, List.cons_append, List.nil_append, wp_isi (ty_tup hu), hi, wp_ite, if_true, if_false, wp_theB, Bool.not_false, Bool.not_true, Bool.false_eq_true, wp_force, wp_tru_tup, List.isEmpty_nil, List.isEmpty_cons]
      rw [T]
      exact q
    | cons h0 r =>
      have p0 : Pl h0 := pl.items _ (by simp)
      cases hx : isStrD h0 with
      | false =>
        have e : sayB n (.tup (h0 :: r)) = false := by cases h0 <;> first | rfl | cases hx
        rw [e] at q
        simp only [fSay, exL, exS, ev_var, ev_glb, ev_isV, ev_cint, ev_cstr, ev_cbl, ev_notf, ev_nott, ev_and, ev_or, ev_cmp, ev_call, ev_blt, ev_idx, ev_slc, ev_lc, varX, List.getElem?_cons_succ, evs, evx, evc, asTf, asTt, wp_bind, wp_pure, List.map, List.replicate, List.getElem?_cons_zero, List.cons_append, List.nil_append, wp_isi (ty_tup hu), hi, wp_ite, if_true, if_false, wp_theB, Bool.not_false, Bool.not_true, Bool.false_eq_true, wp_force, wp_tru_tup, List.isEmpty_nil, List.isEmpty_cons, wp_idx_tup (at0 _ _), wp_isi (ty_str (p0.und _)), hx]
        rw [T]
        exact q
      | true =>
        obtain ⟨x, rfl⟩ : ∃ x, h0 = .str x := by cases h0 <;> first | exact ⟨_, rfl⟩ | cases hx
        simp only [fSay, exL, exS, ev_var, ev_glb, ev_isV, ev_cint, ev_cstr, ev_cbl, ev_notf, ev_nott, ev_and, ev_or, ev_cmp, ev_call, ev_blt, ev_idx, ev_slc, ev_lc, varX, List.getElem?_cons_succ, evs, evx, evc, asTf, asTt, wp_bind, wp_pure, List.map, List.replicate, List.getElem?_cons_zero, List.cons_append, List.nil_append, wp_isi (ty_tup hu), hi, wp_ite, if_true, if_false, wp_theB, Bool.not_false, Bool.not_true, Bool.false_eq_true, wp_force, wp_tru_tup, List.isEmpty_nil, List.isEmpty_cons, wp_idx_tup (at0 _ _), wp_isi (ty_str (p0.und _)), hx, cmpX, wp_eq_str, wp_len_tup, wp_eq_int, T, partX, cut1]
        simp only [T, decide_eq_true_eq, Bool.not_eq_true', decide_eq_false_iff_not]
        simp only [sayB] at q
        have hd' : max 0 (D.deps r) + 1 ≤ n := by simpa only [D.dep, D.deps] using hd
        by_cases h1 : x = "below"
        · rw [if_pos h1]
          rw [if_pos h1] at q
          rcases r with _ | ⟨w, _ | ⟨w2, _ | ⟨w3, r⟩⟩⟩
          · rw [if_neg (by simp)]
            exact q
          · rw [if_neg (by simp)]
            exact q
          · rw [if_pos (by simp), wp_idx_tup (at1 _ _ _), wp_force]
            have pw : Pl w := pl.items _ (by simp)
            have pw2 : Pl w2 := pl.items _ (by simp)
            simp only [D.deps] at hd'
            refine wp_kind hw hg hk n k (by omega) hnk pw ?_
            rw [wp_theB]
            cases hb : kindN n w with
            | true =>
              rw [if_pos rfl, wp_idx_tup (at2 _ _ _ _), wp_force]
              refine wp_kind hw hg hk n k (by omega) hnk pw2 ?_
              rw [T]
              simpa only [hb, Bool.true_and] using q
            | false =>
              rw [if_neg (by decide), T]
              simpa only [hb, Bool.false_and] using q
          · rw [if_neg (by simp only [List.length_cons]; omega)]
            exact q
        rw [if_neg h1]
        rw [if_neg h1] at q
        clear h1
        by_cases h1 : x = "role"
        · rw [if_pos h1]
          rw [if_pos h1] at q
          rcases r with _ | ⟨w, _ | ⟨w2, _ | ⟨w3, r⟩⟩⟩
          · rw [if_neg (by simp)]
            exact q
          · rw [if_neg (by simp)]
            exact q
          · rw [if_pos (by simp), wp_idx_tup (at1 _ _ _), wp_force]
            have pw : Pl w := pl.items _ (by simp)
            have pw2 : Pl w2 := pl.items _ (by simp)
            simp only [D.deps] at hd'
            refine wp_word (k := k + 1) hw hg (pw.und _) pw.str ?_
            rw [wp_theB]
            cases hb : wordB w with
            | true =>
              rw [if_pos rfl, wp_idx_tup (at2 _ _ _ _), wp_force]
              refine wp_word (k := k + 1) hw hg (pw2.und _) pw2.str ?_
              rw [T]
              simpa only [hb, Bool.true_and] using q
            | false =>
              rw [if_neg (by decide), T]
              simpa only [hb, Bool.false_and] using q
          · rw [if_neg (by simp only [List.length_cons]; omega)]
            exact q
        rw [if_neg h1]
        rw [if_neg h1] at q
        clear h1
        by_cases h2 : x = "chain"
        · rw [if_pos h2]
          by_cases h3 : r.length = 3
          · rw [if_pos (by simp only [List.length_cons]; omega)]
            refine wp_calm (wp_lcRun_map (g := fun d => some (.bl (wordB d))) ?_ ?_)
            · intro d hdm
              have pd : Pl d := pl.items d (List.mem_cons_of_mem _ hdm)
              simp only [bindT, wipeE, wp_pure, List.set_cons_zero, List.set_cons_succ, true_and, List.getElem?_cons_succ, List.getElem?_cons_zero, wp_bind, wp_force]
              exact wp_word (k := k + 1) hw hg (pd.und _) pd.str ⟨rfl, rfl⟩
            · simp only [List.reverse_nil, List.nil_append, filterMap_some (fun d => D.bl (wordB d)), wp_all (blsD_map wordB _), wp_force]
              rw [T]
              simp only [decide_eq_true h2, decide_eq_true h3, Bool.true_and] at q
              simpa only [List.all_map, Function.comp_def, id] using q
          · rw [if_neg (by simp only [List.length_cons]; omega)]
            simpa only [decide_eq_false h3, Bool.false_and, Bool.and_false] using q
        · rw [if_neg h2]
          simpa only [decide_eq_false h2, Bool.false_and] using q
theorem wp_fact {P : Prg} {iw ik is g : Nat} (hw : P.fn iw = some (fWord g)) (hg : P.gl g = some (.str abc)) (hk : P.fn ik = some (fKind iw ik)) (hs : P.fn is = some (fFact iw ik)) (n k : Nat) {d : D} {S : Sto} {E : EQ} {Q : D → Sto → Prop} (hd : d.dep ≤ n) (hnk : n ≤ k) (hu : d.und S.length = true) (pl : isTupD d = true → Pl d)
    (q : Q (.bl (factB n d)) S) : wp (P.call (k + 3) is [d]) S Q E := by
  refine wp_call hs rfl ?_
  have T : ∀ b, tidy S (.bl b) S = S := fun b => tidy_self rfl
  cases hi : isTupD d with
  | false =>
    have e : factB n d = false := by cases d <;> first | rfl | cases hi
    rw [e] at q
    simp only [fFact, exL, exS, ev_var, ev_glb, ev_isV, ev_cint, ev_cstr, ev_cbl, ev_notf, ev_nott, ev_and, ev_or, ev_cmp, ev_call, ev_blt, ev_idx, ev_slc, ev_lc, varX, List.getElem?_cons_succ, evs, evx, evc, asTf, asTt, wp_bind, wp_pure, List.map, List.replicate, List.getElem?_cons_zero, List.cons_append, List.nil_append, wp_isi (ty_tup hu), hi, wp_ite, if_true, if_false, wp_theB, Bool.not_false, Bool.not_true, Bool.false_eq_true, wp_force, wp_tru_tup, List.isEmpty_nil, List.isEmpty_cons]
    rw [T]
    exact q
  | true =>
    obtain ⟨ds, rfl⟩ : ∃ ds, d = .tup ds := by cases d <;> first | exact ⟨_, rfl⟩ | cases hi
    have pl := pl hi
    cases ds with
    | nil =>
      simp only [fFact, exL, exS, ev_var, ev_glb, ev_isV, ev_cint, ev_cstr, ev_cbl, ev_notf, ev_nott, ev_and, ev_or, ev_cmp, ev_call, ev_blt, ev_idx, ev_slc, ev_lc, varX, List.getElem?_cons_succ, evs, evx, evc, asTf, asTt, wp_bind, wp_pure, List.map, List.replicate, List.getElem?_cons_zero, List.cons_append, List.nil_append, wp_isi (ty_tup hu), hi, wp_ite, if_true, if_false, wp_theB, Bool.not_false, Bool.not_true, Bool.false_eq_true, wp_force, wp_tru_tup, List.isEmpty_nil, List.isEmpty_cons]
      rw [T]
      exact q
    | cons h0 r =>
      have p0 : Pl h0 := pl.items _ (by simp)
      cases hx : isStrD h0 with
      | false =>
        have e : factB n (.tup (h0 :: r)) = false := by cases h0 <;> first | rfl | cases hx
        rw [e] at q
        simp only [fFact, exL, exS, ev_var, ev_glb, ev_isV, ev_cint, ev_cstr, ev_cbl, ev_notf, ev_nott, ev_and, ev_or, ev_cmp, ev_call, ev_blt, ev_idx, ev_slc, ev_lc, varX, List.getElem?_cons_succ, evs, evx, evc, asTf, asTt, wp_bind, wp_pure, List.map, List.replicate, List.getElem?_cons_zero, List.cons_append, List.nil_append, wp_isi (ty_tup hu), hi, wp_ite, if_true, if_false, wp_theB, Bool.not_false, Bool.not_true, Bool.false_eq_true, wp_force, wp_tru_tup, List.isEmpty_nil, List.isEmpty_cons, wp_idx_tup (at0 _ _), wp_isi (ty_str (p0.und _)), hx]
        rw [T]
        exact q
      | true =>
        obtain ⟨x, rfl⟩ : ∃ x, h0 = .str x := by cases h0 <;> first | exact ⟨_, rfl⟩ | cases hx
        simp only [fFact, exL, exS, ev_var, ev_glb, ev_isV, ev_cint, ev_cstr, ev_cbl, ev_notf, ev_nott, ev_and, ev_or, ev_cmp, ev_call, ev_blt, ev_idx, ev_slc, ev_lc, varX, List.getElem?_cons_succ, evs, evx, evc, asTf, asTt, wp_bind, wp_pure, List.map, List.replicate, List.getElem?_cons_zero, List.cons_append, List.nil_append, wp_isi (ty_tup hu), hi, wp_ite, if_true, if_false, wp_theB, Bool.not_false, Bool.not_true, Bool.false_eq_true, wp_force, wp_tru_tup, List.isEmpty_nil, List.isEmpty_cons, wp_idx_tup (at0 _ _), wp_isi (ty_str (p0.und _)), hx, cmpX, wp_eq_str, wp_len_tup, wp_eq_int, T, partX, cut1]
        simp only [T, decide_eq_true_eq, Bool.not_eq_true', decide_eq_false_iff_not]
        simp only [factB] at q
        have hd' : max 0 (D.deps r) + 1 ≤ n := by simpa only [D.dep, D.deps] using hd
        by_cases h1 : x = "is"
        · rw [if_pos h1]
          rw [if_pos h1] at q
          rcases r with _ | ⟨w, _ | ⟨w2, _ | ⟨w3, r⟩⟩⟩
          · rw [if_neg (by simp)]
            exact q
          · rw [if_neg (by simp)]
            exact q
          · rw [if_pos (by simp), wp_idx_tup (at1 _ _ _), wp_force]
            have pw : Pl w := pl.items _ (by simp)
            have pw2 : Pl w2 := pl.items _ (by simp)
            simp only [D.deps] at hd'
            refine wp_word (k := k + 1) hw hg (pw.und _) pw.str ?_
            rw [wp_theB]
            cases hb : wordB w with
            | true =>
              rw [if_pos rfl, wp_idx_tup (at2 _ _ _ _), wp_force]
              refine wp_kind hw hg hk n k (by omega) hnk pw2 ?_
              rw [T]
              simpa only [hb, Bool.true_and] using q
            | false =>
              rw [if_neg (by decide), T]
              simpa only [hb, Bool.false_and] using q
          · rw [if_neg (by simp only [List.length_cons]; omega)]
            exact q
        rw [if_neg h1]
        rw [if_neg h1] at q
        clear h1
        by_cases h2 : x = "to"
        · rw [if_pos h2]
          by_cases h3 : r.length = 3
          · rw [if_pos (by simp only [List.length_cons]; omega)]
            refine wp_calm (wp_lcRun_map (g := fun d => some (.bl (wordB d))) ?_ ?_)
            · intro d hdm
              have pd : Pl d := pl.items d (List.mem_cons_of_mem _ hdm)
              simp only [bindT, wipeE, wp_pure, List.set_cons_zero, List.set_cons_succ, true_and, List.getElem?_cons_succ, List.getElem?_cons_zero, wp_bind, wp_force]
              exact wp_word (k := k + 1) hw hg (pd.und _) pd.str ⟨rfl, rfl⟩
            · simp only [List.reverse_nil, List.nil_append, filterMap_some (fun d => D.bl (wordB d)), wp_all (blsD_map wordB _), wp_force]
              rw [T]
              simp only [decide_eq_true h2, decide_eq_true h3, Bool.true_and] at q
              simpa only [List.all_map, Function.comp_def, id] using q
          · rw [if_neg (by simp only [List.length_cons]; omega)]
            simpa only [decide_eq_false h3, Bool.false_and, Bool.and_false] using q
        · rw [if_neg h2]
          simpa only [decide_eq_false h2, Bool.false_and] using q
end Kd
/-! is_facts, is_claim, check_facts, check_claim. -/
namespace Kd
open PySem
def factsB (n : Nat) : D → Bool
  | .tup ds => ds.all (factB n)
  | _ => false
def claimB (n : Nat) (d : D) : Bool := sayB n d || factB n d
def fFacts (ifa : Nat) : Fn := ⟨1, 2, 
  [.ret (.and_ (.isi (.var 0) .tuple) (.blt .all [(.lc (.call ifa [(.var 1)]) (.nm 1) .seq [(.var 0)] [] [1])]))]⟩
def fClaim (is ifa : Nat) : Fn := ⟨1, 1, 
  [.ret (.or_ (.call is [(.var 0)]) (.call ifa [(.var 0)]))]⟩
def fChk (i c : Nat) : Fn := ⟨1, 1, 
  [.if_ (.not_ (.call i [(.var 0)]))
    [.rai c []]
    []]⟩
/-- these defs stand in the program -/
structure Bas (P : Prg) (iw ik is ifa g : Nat) : Prop where
  w : P.fn iw = some (fWord g)
  g : P.gl g = some (.str abc)
  k : P.fn ik = some (fKind iw ik)
  s : P.fn is = some (fSay iw ik)
  f : P.fn ifa = some (fFact iw ik)
theorem wp_facts {P : Prg} {iw ik is ifa g ifs : Nat} (B : Bas P iw ik is ifa g) (hs : P.fn ifs = some (fFacts ifa)) (n k : Nat) {d : D} {S : Sto} {E : EQ} {Q : D → Sto → Prop} (hu : d.und S.length = true) (hp : ∀ ds, d = .tup ds → Pl d ∧ D.deps ds ≤ n) (hnk : n ≤ k)
    (q : Q (.bl (factsB n d)) S) : wp (P.call (k + 4) ifs [d]) S Q E := by
  refine wp_call hs rfl ?_
  have T : ∀ b, tidy S (.bl b) S = S := fun b => tidy_self rfl
  cases hi : isTupD d with
  | false =>
    have e : factsB n d = false := by cases d <;> first | rfl | cases hi
    rw [e] at q
    simp only [fFacts, exL, exS, ev_var, ev_isV, ev_and, ev_call, ev_blt, ev_lc, varX, evs, evx, evc, asTf, asTt, wp_bind, wp_pure, List.map, List.replicate, List.getElem?_cons_zero, List.cons_append, List.nil_append, wp_isi (ty_tup hu), hi, wp_ite, if_true, if_false, wp_theB, Bool.false_eq_true, wp_force]
    rw [T]
    exact q
  | true =>
    obtain ⟨ds, rfl⟩ : ∃ ds, d = .tup ds := by cases d <;> first | exact ⟨_, rfl⟩ | cases hi
    obtain ⟨pl, hd⟩ := hp _ rfl
    simp only [fFacts, exL, exS, ev_var, ev_isV, ev_and, ev_call, ev_blt, ev_lc, varX, evs, evx, evc, asTf, asTt, wp_bind, wp_pure, List.map, List.replicate, List.getElem?_cons_zero, List.cons_append, List.nil_append, wp_isi (ty_tup hu), hi, wp_ite, if_true, if_false, wp_theB, Bool.false_eq_true, wp_force]
    refine wp_calm (wp_lcRun_map (g := fun d => some (.bl (factB n d))) ?_ ?_)
    · intro d hdm
      have : d.dep ≤ D.deps ds := dep_mem hdm
      simp only [bindT, wipeE, wp_pure, List.set_cons_zero, List.set_cons_succ, true_and, List.getElem?_cons_succ, List.getElem?_cons_zero, wp_bind, wp_force]
      exact wp_fact B.w B.g B.k B.f n k (by omega) hnk ((pl.items d hdm).und _) (fun _ => pl.items d hdm) ⟨rfl, rfl⟩
    · simp only [List.reverse_nil, List.nil_append, filterMap_some (fun d => D.bl (factB n d)), wp_all (blsD_map (factB n) _), wp_force]
      rw [T]
      simpa only [factsB, List.all_map, Function.comp_def, id] using q
theorem wp_claim {P : Prg} {iw ik is ifa g ic : Nat} (B : Bas P iw ik is ifa g) (hs : P.fn ic = some (fClaim is ifa)) (n k : Nat) {d : D} {S : Sto} {E : EQ} {Q : D → Sto → Prop} (hd : d.dep ≤ n) (hnk : n ≤ k) (hu : d.und S.length = true) (pl : isTupD d = true → Pl d)
    (q : Q (.bl (claimB n d)) S) : wp (P.call (k + 4) ic [d]) S Q E := by
  refine wp_call hs rfl ?_
  have T : ∀ b, tidy S (.bl b) S = S := fun b => tidy_self rfl
  simp only [fClaim, exL, exS, ev_var, ev_or, ev_call, varX, evs, asTf, asTt, wp_bind, wp_pure, List.map, List.replicate, List.getElem?_cons_zero, List.cons_append, List.nil_append, wp_force]
  refine wp_say B.w B.g B.k B.s n k hd hnk hu pl ?_
  rw [wp_theB, wp_ite]
  cases h : sayB n d with
  | true =>
    rw [if_pos rfl]
    simp only [wp_pure, wp_force, T]
    simpa only [claimB, h, Bool.true_or] using q
  | false =>
    rw [if_neg (by decide)]
    simp only [wp_bind, wp_pure, wp_force]
    refine wp_fact B.w B.g B.k B.f n k hd hnk hu pl ?_
    rw [T]
    simpa only [claimB, h, Bool.false_or] using q
theorem wp_chk {P : Prg} {i c f k : Nat} (hs : P.fn f = some (fChk i c)) {d : D} {S : Sto} {E : EQ} {Q : D → Sto → Prop} {b : Bool} (hc : ∀ {E : EQ} {Q : D → Sto → Prop}, Q (.bl b) S → wp (P.call k i [d]) S Q E)
    (q : if b then Q .non S else E c none S) : wp (P.call (k + 1) f [d]) S Q E := by
  refine wp_call hs rfl ?_
  simp only [fChk, exL, exS, ev_var, ev_nott, ev_call, varX, evs, asTf, asTt, wp_bind, wp_pure, List.map, List.replicate, List.getElem?_cons_zero, List.cons_append, List.nil_append, wp_force]
  refine hc ?_
  simp only [wp_tru_bl, wp_theB, wp_ite]
  cases b with
  | true =>
    rw [if_neg (by decide)]
    rw [if_pos rfl] at q
    simp only [wp_pure, tidy_self (d := .non) (S := S) rfl]
    exact q
  | false =>
    rw [if_pos (by decide)]
    rw [if_neg (by decide)] at q
    have e : tidy S .non S = S := tidy_self rfl
    simp only [wp_bind, wp_pure]
    show E c none (tidy S .non S)
    rw [e]
    exact q
end Kd
/-! persons_of_claim, persons_in. -/
namespace Kd
open PySem
/-- the persons that a claim names -/
def perOf : D → List D
  | .tup (.str h :: r) => if h = "is" then r.take 1 else if h = "to" then r.take 1 ++ (r.drop 2).take 1 else []
  | _ => []
def addKey (ks : List D) (k : D) : List D := if k ∈ ks then ks else ks ++ [k]
theorem foldl_addKey : ∀ (l acc : List D), l.foldl addKey acc = acc ++ (nub l).filter fun e => decide (e ∉ acc)
  | [], acc => by simp [nub]
  | d :: l, acc => by
    rw [List.foldl_cons, foldl_addKey l]
    unfold addKey
    by_cases h : d ∈ acc
    · rw [if_pos h]
      simp only [nub, List.filter_cons, List.filter_filter]
      rw [if_neg (by simpa using h)]
      congr 1
      apply List.filter_congr
      intro x hx
      by_cases hxd : x = d
      · subst hxd; simp [h]
      · simp [hxd]
    · rw [if_neg h]
      simp only [nub, List.filter_cons, List.filter_filter]
      rw [if_pos (by simpa using h)]
      simp only [List.append_assoc, List.singleton_append]
      congr 2
      apply List.filter_congr
      intro x hx
      simp only [List.mem_append, List.mem_singleton, not_or, decide_eq_true_eq]
      by_cases hxd : x = d
      · subst hxd; simp
      · simp [hxd]
theorem foldl_nub (l : List D) : l.foldl addKey [] = nub l := by
  rw [foldl_addKey]
  simp
theorem unds_of {n : Nat} : ∀ {ds : List D}, (∀ d ∈ ds, d.und n = true) → D.unds n ds = true
  | [], _ => rfl
  | d :: ds, h => by simp only [D.unds, Bool.and_eq_true]; exact ⟨h d (by simp), unds_of fun x hx => h x (List.mem_cons_of_mem _ hx)⟩
def fPer : Fn := ⟨1, 1, 
  [.if_ (.cmp .eq (.idx (.var 0) (.cint 0)) (.cstr "is"))
    [.ret (.tup [(.idx (.var 0) (.cint 1))])]
    [],
  .if_ (.cmp .eq (.idx (.var 0) (.cint 0)) (.cstr "to"))
    [.ret (.tup [(.idx (.var 0) (.cint 1)), (.idx (.var 0) (.cint 3))])]
    [],
  .ret (.tup [])]⟩
theorem wp_per {P : Prg} {f k : Nat} (hs : P.fn f = some fPer) {h : Str} {r : List D} {S : Sto} {E : EQ} {Q : D → Sto → Prop} (pl : Pl (.tup (.str h :: r))) (h1 : h = "is" → 1 ≤ r.length) (h3 : h = "to" → 3 ≤ r.length)
    (q : Q (.tup (perOf (.tup (.str h :: r)))) S) : wp (P.call (k + 1) f [.tup (.str h :: r)]) S Q E := by
  refine wp_call hs rfl ?_
  simp only [fPer, exL, exS, ev_var, ev_cint, ev_cstr, ev_tup, ev_cmp, ev_idx, varX, evs, evx, asTf, asTt, wp_bind, wp_pure, List.map, List.replicate, List.getElem?_cons_zero, List.cons_append, List.nil_append, wp_ite, wp_theB, wp_force, wp_idx_tup (at0 _ _), cmpX, wp_eq_str, decide_eq_true_eq]
  simp only [perOf] at q
  by_cases e1 : h = "is"
  · rw [if_pos e1]
    rw [if_pos e1] at q
    obtain ⟨a, r, rfl⟩ : ∃ a r', r = a :: r' := by cases r with | nil => exact absurd (h1 e1) (by simp) | cons a r' => exact ⟨a, r', rfl⟩
    simp only [wp_idx_tup (at1 _ _ _), wp_force]
    rw [tidy_self]
    · exact q
    · exact unds_of fun d hd => (pl.items d (by simp at hd ⊢; first | exact .inr (.inl hd) | exact hd.elim (fun z => .inr (.inl z)) (fun z => .inr (.inr (.inr (.inl z)))))).und _
  · rw [if_neg e1]
    rw [if_neg e1] at q
    by_cases e2 : h = "to"
    · rw [if_pos e2]
      rw [if_pos e2] at q
      obtain ⟨a, b, c, r, rfl⟩ : ∃ a b c r', r = a :: b :: c :: r' := by
        have := h3 e2
        rcases r with _ | ⟨a, _ | ⟨b, _ | ⟨c, r⟩⟩⟩ <;> first | exact ⟨_, _, _, _, rfl⟩ | simp at this
      simp only [wp_idx_tup (at1 _ _ _), wp_idx_tup (at3 _ _ _ _ _), wp_force]
      rw [tidy_self]
      · exact q
      · exact unds_of fun d hd => (pl.items d (by simp at hd ⊢; first | exact .inr (.inl hd) | exact hd.elim (fun z => .inr (.inl z)) (fun z => .inr (.inr (.inr (.inl z)))))).und _
    · rw [if_neg e2]
      rw [if_neg e2] at q
      rw [tidy_self rfl]
      exact q
end Kd
/-! persons_in. -/
namespace Kd
open PySem
def fPin (ip : Nat) : Fn := ⟨1, 4, 
  [.set 1 .dct0,
  .for_ (.nm 2) .seq [(.var 0)]
    [.for_ (.nm 3) .seq [(.call ip [(.var 2)])]
      [.sub (.var 1) (.var 3) (.cbl true)]],
  .ret (.blt .tuple [(.blt .sorted [(.var 1)])])]⟩
def tru (ks : List D) : List (D × D) := ks.map fun k => (k, .bl true)
theorem putD_tru (ks : List D) (k : D) : putD (tru ks) k (.bl true) = tru (addKey ks k) := by
  unfold putD addKey tru
  by_cases h : k ∈ ks
  · rw [if_pos (by simpa using h), if_pos h, List.map_map]
    apply List.map_congr_left
    intro x _
    by_cases e : x = k
    · subst e; simp
    · simp [e]
  · rw [if_neg (by simpa using h), if_neg h]
    simp
theorem look_S {S : Sto} {o : Ob} : (S ++ [o])[S.length]? = some o := by simp
theorem set_S {S : Sto} {o o' : Ob} : (S ++ [o]).set S.length o' = S ++ [o'] := by simp
theorem addKey_str {ks : List D} {k : D} (h : ∀ d ∈ ks, isStrD d = true) (hk : isStrD k = true) : ∀ d ∈ addKey ks k, isStrD d = true := by
  unfold addKey
  split
  · exact h
  · intro d hd
    rcases List.mem_append.mp hd with hd | hd
    · exact h d hd
    · rw [List.mem_singleton.mp hd]; exact hk
theorem addKey_len (ks : List D) (k : D) : (addKey ks k).length ≤ ks.length + 1 := by
  unfold addKey
  split
  · omega
  · simp
theorem wp_sub_tru {S : Sto} {E : EQ} {ks : List D} {k : D} {Q : Unit → Sto → Prop} (h : ∀ d ∈ ks, isStrD d = true) (hk : isStrD k = true) (hl : ks.length < sizeLine) (q : Q () (S ++ [.dct (tru (addKey ks k))])) :
    wp (subX (.dv (.loc S.length)) (.dv k) (.bl true)) (S ++ [.dct (tru ks)]) Q E := by
  have hko : keyOk (tru ks) k = true := by
    unfold keyOk tru
    have h1 : scalD k = true := by cases k <;> first | rfl | cases hk
    rw [h1]
    simp only [Bool.true_and, Bool.or_eq_true]
    left
    simp only [List.all_map, List.all_eq_true, Function.comp]
    intro d hd
    have := h d hd
    cases d <;> first | rfl | cases this
  unfold wp
  simp only [subX, look_S]
  rw [if_pos (by simp only [hko, Bool.true_and, decide_eq_true_eq]; simpa [tru] using hl)]
  simp only [putL]
  rw [if_pos (by simp)]
  simp only [set_S, putD_tru]
  exact q
structure PerOk (d : D) : Prop where
  ex : ∃ h r, d = .tup (.str h :: r) ∧ (h = "is" → 1 ≤ r.length) ∧ (h = "to" → 3 ≤ r.length)
  pl : Pl d
  st : ∀ x ∈ perOf d, isStrD x = true
theorem perOf_len (d : D) : (perOf d).length ≤ 2 := by
  unfold perOf
  split
  · split
    · simp; omega
    · split
      · simp; omega
      · simp
  · simp
theorem strs_sim : ∀ {ds : List D}, (∀ d ∈ ds, isStrD d = true) → D.sims ds = true ∧ D.deps ds = 0
  | [], _ => ⟨rfl, rfl⟩
  | d :: ds, h => by
    have h1 := h d (by simp)
    obtain ⟨a, b⟩ := strs_sim (ds := ds) fun x hx => h x (List.mem_cons_of_mem _ hx)
    cases d <;> first | (cases h1; done) | exact ⟨by simp [D.sims, D.sim, a], by simp [D.deps, D.dep, b]⟩
theorem sortOk_str {ds : List D} (h : ∀ d ∈ ds, isStrD d = true) : sortOk ds = true := by
  obtain ⟨a, b⟩ := strs_sim h
  unfold sortOk
  simp only [a, b, Bool.and_eq_true, Bool.or_eq_true, List.all_eq_true, decide_eq_true_eq]
  refine ⟨⟨⟨.inl (.inl (.inl (.inl h))), trivial⟩, by omega⟩, fun x hx y hy => ?_⟩
  have h1 := h x hx
  have h2 := h y hy
  obtain ⟨x', rfl⟩ : ∃ z, x = .str z := by cases x <;> first | exact ⟨_, rfl⟩ | cases h1
  obtain ⟨y', rfl⟩ : ∃ z, y = .str z := by cases y <;> first | exact ⟨_, rfl⟩ | cases h2
  rfl
theorem nub_in : ∀ {ds : List D} {d : D}, d ∈ nub ds → d ∈ ds
  | x :: ds, d, h => by
    simp only [nub, List.mem_cons, List.mem_filter] at h
    rcases h with rfl | h
    · simp
    · exact List.mem_cons_of_mem _ (nub_in h.1)
theorem wp_pin {P : Prg} {f ip k : Nat} (hs : P.fn f = some (fPin ip)) (hp : P.fn ip = some fPer) {fs : List D} {S : Sto} {E : EQ} {Q : D → Sto → Prop} (hf : ∀ d ∈ fs, PerOk d) (hl : 2 * fs.length < sizeLine)
    (hu : D.unds S.length (sortD (nub (fs.flatMap perOf))) = true) (q : Q (.tup (sortD (nub (fs.flatMap perOf)))) S) : wp (P.call (k + 2) f [.tup fs]) S Q E := by
  refine wp_call hs rfl ?_
  simp only [fPin, exL, exS, ev_var, ev_cbl, ev_call, ev_blt, ev_dct0, varX, evs, evx, asTf, asTt, wp_bind, wp_pure, wp_push, List.map, List.replicate, List.getElem?_cons_zero, List.cons_append, List.nil_append, List.getElem?_cons_succ, List.set_cons_zero, List.set_cons_succ, wp_force, wp_walk_tup]
  refine wp_forRun_inv (fun ds ρ S1 => ∃ acc x2 x3, S1 = S ++ [.dct (tru acc)] ∧ ρ = [some (.tup fs), some (.loc S.length), x2, x3] ∧ (∀ d ∈ ds, PerOk d) ∧ (∀ d ∈ acc, isStrD d = true) ∧ acc.length + 2 * ds.length ≤ 2 * fs.length ∧ (ds.flatMap perOf).foldl addKey acc = nub (fs.flatMap perOf))
    (fun _ _ _ _ => rfl) ?_ ?_ fs _ _ ⟨[], none, none, rfl, rfl, hf, by simp, by simp, foldl_nub _⟩
  · rintro d ds ρ S1 ⟨acc, x2, x3, rfl, rfl, h1, h2, h3, h4⟩
    obtain ⟨⟨h, r, rfl, i1, i2⟩, pl, st⟩ := h1 d (by simp)
    simp only [bindT, wp_pure, List.set_cons_zero, List.set_cons_succ, List.getElem?_cons_zero, List.getElem?_cons_succ, wp_bind, wp_force]
    refine wp_per (k := k) hp pl i1 i2 ?_
    rw [wp_walk_tup]
    simp only [List.length_cons] at h3
    have hpl := perOf_len (.tup (.str h :: r))
    refine wp_forRun_inv (fun es ρ S1 => ∃ acc x3, S1 = S ++ [.dct (tru acc)] ∧ ρ = [some (.tup fs), some (.loc S.length), some (.tup (.str h :: r)), x3] ∧ (∀ e ∈ es, isStrD e = true) ∧ (∀ d ∈ acc, isStrD d = true) ∧ acc.length + es.length + 2 * ds.length ≤ 2 * fs.length ∧ ((es ++ ds.flatMap perOf)).foldl addKey acc = nub (fs.flatMap perOf))
      (fun _ _ _ _ => rfl) ?_ ?_ _ _ _ ⟨acc, x3, rfl, rfl, st, h2, by show acc.length + (perOf (.tup (.str h :: r))).length + 2 * ds.length ≤ _; omega, by simpa only [List.flatMap_cons] using h4⟩
    · rintro e es ρ S1 ⟨acc, x3, rfl, rfl, j1, j2, j3, j4⟩
      simp only [bindT, wp_pure, List.set_cons_zero, List.set_cons_succ, List.getElem?_cons_zero, List.getElem?_cons_succ, wp_bind, wp_force]
      simp only [List.length_cons] at j3
      refine wp_sub_tru j2 (j1 e (by simp)) (by omega) ?_
      have := addKey_len acc e
      exact ⟨addKey acc e, _, rfl, rfl, fun x hx => j1 x (List.mem_cons_of_mem _ hx), addKey_str j2 (j1 e (by simp)), by omega, j4⟩
    · rintro ρ S1 ⟨acc, x3, rfl, rfl, j1, j2, j3, j4⟩
      simp only [wp_pure]
      exact ⟨acc, _, _, rfl, rfl, fun x hx => h1 x (List.mem_cons_of_mem _ hx), j2, by simpa using j3, by simpa using j4⟩
  · rintro ρ S1 ⟨acc, x2, x3, rfl, rfl, h1, h2, h3, h4⟩
    have e : acc = nub (fs.flatMap perOf) := by simpa using h4
    simp only [wp_bind, wp_pure, List.getElem?_cons_zero, List.getElem?_cons_succ]
    have hm : (tru acc).map (·.1) = acc := by
      unfold tru
      rw [List.map_map]
      exact List.map_id acc
    have w1 : ∀ (Q : X → Sto → Prop) (E : EQ), Q (.tl (sortD acc)) (S ++ [.dct (tru acc)]) → wp (bltX .sorted [.dv (.loc S.length)]) (S ++ [.dct (tru acc)]) Q E := fun Q E hq => by
      unfold wp
      simp only [bltX, isDct, look_S, hm, if_pos (sortOk_str h2)]
      exact hq
    refine w1 _ _ ?_
    show Q (.tup (sortD acc)) (tidy S (.tup (sortD acc)) (S ++ [.dct (tru acc)]))
    rw [tidy_app (by rw [e]; exact hu), e]
    exact q
end Kd
/-! Statements as wp rules, one at a time; calls of any depth. -/
namespace Kd
open PySem
section
variable {C : Ctx} {up : Nat → Nat → Bool} {ρ : Env} {S : Sto} {E : EQ} {Q : Fl × Env → Sto → Prop}
/-- what is wanted behind a statement -/
def seqQ (C : Ctx) (up : Nat → Nat → Bool) (ss : List St) (Q : Fl × Env → Sto → Prop) (E : EQ) (r : Fl × Env) (S : Sto) : Prop := match r.1 with
  | .nx => wp (exL C up ss r.2) S Q E
  | f => Q (f, r.2) S
theorem seqQ_nx (ss : List St) (r : Env) : seqQ C up ss Q E (.nx, r) S = wp (exL C up ss r) S Q E := rfl
theorem seqQ_ret (ss : List St) (d : D) (r : Env) : seqQ C up ss Q E (.ret d, r) S = Q (.ret d, r) S := rfl
theorem xs_cons (s : St) (ss : List St) : wp (exL C up (s :: ss) ρ) S Q E = wp (exS C up s ρ) S (seqQ C up ss Q E) E := by
  simp only [exL, wp_bind]
  congr 1
  funext r S1
  obtain ⟨f, r⟩ := r
  cases f <;> rfl
theorem xs_nil : wp (exL C up [] ρ) S Q E = Q (.nx, ρ) S := by simp only [exL]; rfl
theorem xs_set (i : Nat) (e : Ex) (ss : List St) : wp (exL C up (.set i e :: ss) ρ) S Q E = wp (ev C e false ρ) S (fun x S1 => wp (force x) S1 (fun d S2 => wp (exL C up ss (ρ.set i (some d))) S2 Q E) E) E := by
  rw [xs_cons]; simp only [exS, wp_bind]; rfl
theorem xs_setT (is : List Nat) (e : Ex) (ss : List St) : wp (exL C up (.setT is e :: ss) ρ) S Q E = wp (ev C e false ρ) S (fun x S1 => wp (force x) S1 (fun d S2 => wp (unpack d is.length) S2 (fun ds S3 => wp (exL C up ss (setAll ρ is ds)) S3 Q E) E) E) E := by
  rw [xs_cons]; simp only [exS, wp_bind]; rfl
theorem xs_par (i j : Nat) (a b : Ex) (ss : List St) : wp (exL C up (.par i j a b :: ss) ρ) S Q E = wp (ev C a false ρ) S (fun x S1 => wp (force x) S1 (fun d S2 => wp (ev C b false ρ) S2 (fun y S3 => wp (force y) S3 (fun e S4 => wp (exL C up ss ((ρ.set i (some d)).set j (some e))) S4 Q E) E) E) E) E := by
  rw [xs_cons]; simp only [exS, wp_bind]; rfl
theorem xs_sub (o i e : Ex) (ss : List St) : wp (exL C up (.sub o i e :: ss) ρ) S Q E = wp (ev C e false ρ) S (fun x S1 => wp (force x) S1 (fun d S2 => wp (ev C o false ρ) S2 (fun x S3 => wp (ev C i false ρ) S3 (fun y S4 => wp (subX x y d) S4 (fun _ S5 => wp (exL C up ss ρ) S5 Q E) E) E) E) E) E := by
  rw [xs_cons]; simp only [exS, wp_bind]; rfl
theorem xs_exp (e : Ex) (ss : List St) : wp (exL C up (.exp e :: ss) ρ) S Q E = wp (ev C e false ρ) S (fun _ S1 => wp (exL C up ss ρ) S1 Q E) E := by
  rw [xs_cons]; simp only [exS, wp_bind]; rfl
theorem xs_if (c : Ex) (a b ss : List St) : wp (exL C up (.if_ c a b :: ss) ρ) S Q E = wp (ev C c true ρ) S (fun x S1 => wp (theB x) S1 (fun k S2 => if k then wp (exL C up a ρ) S2 (seqQ C up ss Q E) E else wp (exL C up b ρ) S2 (seqQ C up ss Q E) E) E) E := by
  rw [xs_cons]; simp only [exS, wp_bind, wp_ite]
theorem xs_for (tg : Tg) (k : Ik) (es : List Ex) (body ss : List St) : wp (exL C up (.for_ tg k es body :: ss) ρ) S Q E = wp (evx C es ρ) S (fun xs S1 => wp (walk k xs) S1 (fun ig S2 => wp (forRun ig.2 (fun d ρ1 => bindT tg d ρ1) (fun ρ1 => exL C up body ρ1) ig.1 ρ) S2 (seqQ C up ss Q E) E) E) E := by
  rw [xs_cons]; simp only [exS, wp_bind]
theorem xs_ret (e : Ex) (ss : List St) : wp (exL C up (.ret e :: ss) ρ) S Q E = wp (ev C e false ρ) S (fun x S1 => wp (force x) S1 (fun d S2 => Q (.ret d, ρ) S2) E) E := by
  rw [xs_cons]; simp only [exS, wp_bind]; rfl
theorem xs_ret0 (ss : List St) : wp (exL C up (.ret0 :: ss) ρ) S Q E = Q (.ret .non, ρ) S := by
  rw [xs_cons]; simp only [exS]; rfl
theorem xs_rai0 (c : Nat) (ss : List St) : wp (exL C up (.rai c [] :: ss) ρ) S Q E = E c none S := by
  rw [xs_cons]; simp only [exS, wp_bind, evs]; rfl
theorem xs_pass (ss : List St) : wp (exL C up (.pass :: ss) ρ) S Q E = wp (exL C up ss ρ) S Q E := by
  rw [xs_cons]; simp only [exS]; rfl
/-- a def's end -/
def retQ (S : Sto) (Q : D → Sto → Prop) (r : Fl × Env) (S' : Sto) : Prop := match r.1 with
  | .ret d => Q d (tidy S d S')
  | .nx => Q .non (tidy S .non S')
  | _ => False
theorem retQ_ret {S S' : Sto} {Q : D → Sto → Prop} (d : D) (r : Env) : retQ S Q (.ret d, r) S' = Q d (tidy S d S') := rfl
theorem retQ_nx {S S' : Sto} {Q : D → Sto → Prop} (r : Env) : retQ S Q (.nx, r) S' = Q .non (tidy S .non S') := rfl
theorem wp_def {P : Prg} {k f : Nat} {g : Fn} {ds : List D} {Q : D → Sto → Prop} (hf : P.fn f = some g) (hk : 1 ≤ k) (hl : ds.length = g.np)
    (h : wp (exL ⟨P.call (k - 1), P.gl⟩ P.up g.body (ds.map some ++ List.replicate (g.nl - g.np) none)) S (retQ S Q) fun c d S' => E c d (tidy S (d.getD .non) S')) : wp (P.call k f ds) S Q E := by
  obtain ⟨k, rfl⟩ : ∃ k', k = k' + 1 := ⟨k - 1, by omega⟩
  exact wp_call hf hl h
end
section
variable {C : Ctx} {ρ : Env} {S : Sto} {E : EQ}
theorem ev_callk (f : Nat) (es ks : List Ex) (perm : List Nat) (t : Bool) : ev C (.callk f es ks perm) t ρ = asT t (evs C es ρ >>= fun ds => evs C ks ρ >>= fun ts => match perm.mapM (fun i => (ds ++ ts)[i]?) with
    | some us => C.cal f us >>= fun d => M.pure (.dv d)
    | none => M.bad) := by simp only [ev] <;> rfl
theorem ev_neg (a : Ex) (t : Bool) : ev C (.neg a) t ρ = asT t (ev C a false ρ >>= fun x => match x with
    | .dv (.int i) => M.pure (.dv (.int (-i)))
    | _ => M.bad) := by simp only [ev] <;> rfl
theorem bindT_nm (i : Nat) (d : D) (ρ : Env) : bindT (.nm i) d ρ = M.pure (ρ.set i (some d)) := rfl
theorem bindT2 (i j : Nat) (a b : D) (ρ : Env) : bindT (.tp [i, j]) (.tup [a, b]) ρ = M.pure (setAll ρ [i, j] [a, b]) := rfl
theorem wp_eq_bl (a b : Bool) {Q : Bool → Sto → Prop} : wp (eqX (.dv (.bl a)) (.dv (.bl b))) S Q E = Q (decide (a = b)) S := by
  cases a <;> cases b <;> rfl
theorem wp_len_tl (ds : List D) (Q : X → Sto → Prop) : wp (bltX .len [.tl ds]) S Q E = Q (.dv (.int ds.length)) S := rfl
theorem wp_len_loc {l : Nat} {ds : List D} (h : S[l]? = some (.lst ds)) (Q : X → Sto → Prop) : wp (bltX .len [.dv (.loc l)]) S Q E = Q (.dv (.int ds.length)) S := by
  unfold wp
  simp only [bltX, isDct, h, bindE, items, M.pure]
theorem wp_walk_tl (ds : List D) (Q : List D × List (Nat × List D) → Sto → Prop) : wp (walk .seq [.tl ds]) S Q E = Q (ds, []) S := rfl
theorem wp_tuple (x : X) (Q : X → Sto → Prop) : wp (bltX .tuple [x]) S Q E = wp (items x) S (fun ds S1 => Q (.dv (.tup ds)) S1) E := by
  show wp (items x >>= fun ds => M.pure (.dv (.tup ds))) S Q E = _
  rw [wp_bind]; rfl
theorem wp_list_tup (x : X) (Q : X → Sto → Prop) : wp (bltX .list [x]) S Q E = wp (items x) S (fun ds S1 => Q (.tl ds) S1) E := by
  show wp (items x >>= fun ds => M.pure (.tl ds)) S Q E = _
  rw [wp_bind]; rfl
theorem wp_int (i : Int) (Q : X → Sto → Prop) : wp (bltX .int [.dv (.int i)]) S Q E = Q (.dv (.int i)) S := rfl
theorem wp_addi (i j : Int) (Q : X → Sto → Prop) : wp (binX .add (.dv (.int i)) (.dv (.int j))) S Q E = Q (.dv (.int (i + j))) S := rfl
theorem wp_subi (i j : Int) (Q : X → Sto → Prop) : wp (binX .sub (.dv (.int i)) (.dv (.int j))) S Q E = Q (.dv (.int (i - j))) S := rfl
theorem wp_muli {i j : Int} (h : mulOk i j = true) (Q : X → Sto → Prop) : wp (binX .mul (.dv (.int i)) (.dv (.int j))) S Q E = Q (.dv (.int (i * j))) S := by
  unfold wp; simp only [binX, h, if_true]; rfl
theorem wp_modi {i j : Int} (h : 0 < j) (Q : X → Sto → Prop) : wp (binX .mod (.dv (.int i)) (.dv (.int j))) S Q E = Q (.dv (.int (i % j))) S := by
  unfold wp; simp only [binX, if_pos h]; rfl
theorem wp_fdivi {i j : Int} (h : 0 < j ∧ j.natAbs.log2 < 9000) (Q : X → Sto → Prop) : wp (binX .fdiv (.dv (.int i)) (.dv (.int j))) S Q E = Q (.dv (.int (i / j))) S := by
  unfold wp; simp only [binX, if_pos h]; rfl
theorem wp_addt {a b : List D} (h : a.length + b.length ≤ sizeLine) (Q : X → Sto → Prop) : wp (binX .add (.dv (.tup a)) (.dv (.tup b))) S Q E = Q (.dv (.tup (a ++ b))) S := by
  unfold wp; simp only [binX, if_pos h]; rfl
theorem wp_adds {a b : Str} (h : a.length + b.length ≤ sizeLine) (Q : X → Sto → Prop) : wp (binX .add (.dv (.str a)) (.dv (.str b))) S Q E = Q (.dv (.str (a ++ b))) S := by
  unfold wp; simp only [binX, if_pos h]; rfl
theorem wp_addl {a b : List D} (h : a.length + b.length ≤ sizeLine) (Q : X → Sto → Prop) : wp (binX .add (.tl a) (.tl b)) S Q E = Q (.tl (a ++ b)) S := by
  unfold wp; simp only [binX, litems, bindE, M.pure, if_pos h]
theorem wp_addlo {a b : List D} {l : Nat} (hl : S[l]? = some (.lst b)) (h : a.length + b.length ≤ sizeLine) (Q : X → Sto → Prop) : wp (binX .add (.tl a) (.dv (.loc l))) S Q E = Q (.tl (a ++ b)) S := by
  unfold wp; simp only [binX, litems, bindE, M.pure, hl, if_pos h]
theorem wp_addol {a b : List D} {l : Nat} (hl : S[l]? = some (.lst a)) (h : a.length + b.length ≤ sizeLine) (Q : X → Sto → Prop) : wp (binX .add (.dv (.loc l)) (.tl b)) S Q E = Q (.tl (a ++ b)) S := by
  unfold wp; simp only [binX, litems, bindE, M.pure, hl, if_pos h]
theorem wp_unpack_tup (ds : List D) (n : Nat) (Q : List D → Sto → Prop) : wp (unpack (.tup ds) n) S Q E = if ds.length = n then Q ds S else False := by
  unfold wp; simp only [unpack]; by_cases h : ds.length = n <;> simp [h]
theorem wp_unpack_loc {l : Nat} {ds : List D} {n : Nat} (h : S[l]? = some (.lst ds)) (hn : ds.length = n) (Q : List D → Sto → Prop) : wp (unpack (.loc l) n) S Q E = Q ds S := by
  unfold wp; simp only [unpack, h, if_pos hn]
theorem isiStr_str (x : Str) (Q : X → Sto → Prop) : wp (isiV .str (.dv (.str x))) S Q E = Q (.dv (.bl true)) S := rfl
theorem isiTup_tup (x : List D) (Q : X → Sto → Prop) : wp (isiV .tuple (.dv (.tup x))) S Q E = Q (.dv (.bl true)) S := rfl
theorem isiTl (x : List D) (t : Ty) (Q : X → Sto → Prop) : wp (isiV t (.tl x)) S Q E = Q (.dv (.bl (t = .list))) S := rfl
theorem wp_idx_loc {l : Nat} {ds : List D} {i : Int} {d : D} (hl : S[l]? = some (.lst ds)) (h : at_ ds i = some d) (Q : X → Sto → Prop) : wp (idxX (.dv (.loc l)) (.dv (.int i))) S Q E = Q (.dv d) S := by
  unfold wp
  simp only [idxX, isDct, hl, seqIx, bindE, items, M.pure, h]
theorem wp_idx_tl {ds : List D} {i : Int} {d : D} (h : at_ ds i = some d) (Q : X → Sto → Prop) : wp (idxX (.tl ds) (.dv (.int i))) S Q E = Q (.dv d) S := by
  unfold wp
  simp only [idxX, isDct, seqIx, bindE, items, M.pure, h]
theorem wp_slc_loc {l : Nat} {ds : List D} (hl : S[l]? = some (.lst ds)) (lo hi : Option Int) (Q : X → Sto → Prop) : wp (slcX (.dv (.loc l)) lo hi) S Q E = Q (.tl (cutD ds lo hi)) S := by
  unfold wp
  simp only [slcX, litems, hl, bindE, M.pure]
theorem wp_slc_tl (ds : List D) (lo hi : Option Int) (Q : X → Sto → Prop) : wp (slcX (.tl ds) lo hi) S Q E = Q (.tl (cutD ds lo hi)) S := rfl
theorem wp_slc_tup (ds : List D) (lo hi : Option Int) (Q : X → Sto → Prop) : wp (slcX (.dv (.tup ds)) lo hi) S Q E = Q (.dv (.tup (cutD ds lo hi))) S := rfl
theorem cutTo (ds : List D) (k : Nat) : cutD ds none (some (k : Int)) = ds.take k := by
  unfold cutD slEnd
  have h : ¬ ((k : Int) < 0) := by omega
  simp only [if_neg h, Int.toNat_natCast, List.drop_zero, Nat.sub_zero]
  rw [List.take_eq_take_iff]
  omega
theorem wp_walk_loc {l : Nat} {ds : List D} (hl : S[l]? = some (.lst ds)) (Q : List D × List (Nat × List D) → Sto → Prop) : wp (walk .seq [.dv (.loc l)]) S Q E = Q (ds, [(l, ds)]) S := by
  unfold wp
  simp only [walk, seqG, hl]
theorem wp_range {n : Int} (h : n ≤ sizeLine ∧ -(2 ^ 62) ≤ n) (Q : List D × List (Nat × List D) → Sto → Prop) : wp (walk .range [.dv (.int n)]) S Q E = Q ((List.range n.toNat).map fun (i : Nat) => D.int (i : Int), []) S := by
  unfold wp
  simp only [walk, if_pos h]
  rfl
/-- a list grows -/
theorem wp_append {l : Nat} {ds : List D} {d : D} (hl : S[l]? = some (.lst ds)) (h : ds.length < sizeLine) (Q : X → Sto → Prop) : wp (mthX .append (.dv (.loc l)) [.dv d]) S Q E = Q (.dv .non) (S.set l (.lst (ds ++ [d]))) := by
  have hi : l < S.length := (List.getElem?_eq_some_iff.mp hl).1
  unfold wp
  simp only [mthX, hl, if_pos h, bindE, putL, if_pos hi, M.pure]
theorem wp_recv_lst {l : Nat} {ds : List D} {m : Mt} (hl : S[l]? = some (.lst ds)) (hm : m.ty = .list) (Q : Unit → Sto → Prop) : wp (recv m (.dv (.loc l))) S Q E = Q () S := by
  unfold wp
  simp only [recv, isTy, hl, hm]
  rfl
/-- in: plain data of a tuple or list -/
theorem py_seq {x : D} (hx : x.sim = true) (hd : x.dep ≤ 59) {ds : List D} (hs : D.sims ds = true) : ofO (seqIn ds (X.py S (.dv x))) S = .ok (decide (x ∈ ds)) S := by
  obtain ⟨p, e1, h1⟩ := py_dep x hx
  obtain ⟨ps, e2, h2⟩ := pys_dep ds hs
  have q1 : X.py S (.dv x) = some p := by cases x <;> first | exact e1 | cases hx
  have any_eqv : ∀ {ds : List D} {ps : List PyData}, D.sims ds = true → D.pys ds = some ps → (ps.any fun z => PyData.eqv z p) = decide (x ∈ ds) := by
    intro ds
    induction ds with
    | nil => intro ps _ h; cases h; simp
    | cons d ds ih =>
      intro ps hs h
      simp only [D.pys] at h
      split at h
      · rename_i p0 ps0 e3 e4
        cases h
        simp only [D.sims, Bool.and_eq_true] at hs
        rw [List.any_cons, eqv_dec d x p0 p hs.1 hx e3 e1, ih hs.2 e4, Bool.eq_iff_iff]
        simp only [Bool.or_eq_true, decide_eq_true_eq, List.mem_cons]
        exact or_congr ⟨Eq.symm, Eq.symm⟩ Iff.rfl
      · cases h
  rw [q1]
  unfold seqIn
  simp only [e2, if_pos (show p.depth ≤ 60 by omega), any_eqv hs e2]
  rfl
theorem wp_in_tup {x : D} {ds : List D} {Q : Bool → Sto → Prop} (hx : x.sim = true) (hd : x.dep ≤ 59) (hs : D.sims ds = true) : wp (inX (.dv x) (.dv (.tup ds))) S Q E = Q (decide (x ∈ ds)) S := by
  have : inX (.dv x) (.dv (.tup ds)) S = .ok (decide (x ∈ ds)) S := py_seq hx hd hs
  unfold wp
  rw [this]
theorem wp_in_tl {x : D} {ds : List D} {Q : Bool → Sto → Prop} (hx : x.sim = true) (hd : x.dep ≤ 59) (hs : D.sims ds = true) : wp (inX (.dv x) (.tl ds)) S Q E = Q (decide (x ∈ ds)) S := by
  have : inX (.dv x) (.tl ds) S = .ok (decide (x ∈ ds)) S := py_seq hx hd hs
  unfold wp
  rw [this]
theorem wp_in_loc {x : D} {ds : List D} {l : Nat} {Q : Bool → Sto → Prop} (hl : S[l]? = some (.lst ds)) (hx : x.sim = true) (hd : x.dep ≤ 59) (hs : D.sims ds = true) : wp (inX (.dv x) (.dv (.loc l))) S Q E = Q (decide (x ∈ ds)) S := by
  have : inX (.dv x) (.dv (.loc l)) S = .ok (decide (x ∈ ds)) S := by
    show (match S[l]?, X.dv x with
    | some (.dct kvs), .dv k => if keyOk kvs k then R.ok (look kvs k).isSome S else .bad
    | some (.lst ds), _ => ofO (seqIn ds (X.py S (.dv x))) S
    | _, _ => .bad) = _
    rw [hl]
    exact py_seq hx hd hs
  unfold wp
  rw [this]
/-- a comprehension over a list of the store that stays as it is -/
theorem wp_lcRun_mapg {g0 : List (Nat × List D)} {bd : D → M Env} {c : Env → M Bool} {e : Env → M D} {g : D → Option D} {Q : List D → Sto → Prop} (hst : still g0 S = true) : ∀ {ds acc : List D}, (∀ d ∈ ds, wp (bd d) S (fun ρ S1 => S1 = S ∧ wp (c ρ) S (fun b S2 => S2 = S ∧ match g d with
      | some y => b = true ∧ wp (e ρ) S (fun z S3 => z = y ∧ S3 = S) E
      | none => b = false) E) E) → Q (acc.reverse ++ ds.filterMap g) S → wp (lcRun g0 bd c e ds acc) S Q E
  | [], acc, _, q => by
    unfold wp lcRun
    simp only [hst, if_true]
    simpa using q
  | d :: ds, acc, h, q => by
    have : wp (lcRun g0 bd c e (d :: ds) acc) S Q E = wp (bd d >>= fun ρ => c ρ >>= fun b => if b then e ρ >>= fun y => lcRun g0 bd c e ds (y :: acc) else lcRun g0 bd c e ds acc) S Q E := by
      unfold wp
      conv => lhs; unfold lcRun
      simp only [if_pos hst]
    rw [this]
    simp only [wp_bind, wp_ite]
    refine wp_mono (h d (by simp)) fun ρ S1 ⟨e1, h1⟩ => ?_
    rw [e1]
    refine wp_mono h1 fun b S2 ⟨e2, h2⟩ => ?_
    rw [e2]
    have hr : ∀ x ∈ ds, _ := fun x hx => h x (List.mem_cons_of_mem _ hx)
    split at h2
    · rename_i y hy
      obtain ⟨hb, h2⟩ := h2
      rw [if_pos hb]
      refine wp_mono h2 fun z S3 ⟨e3, e4⟩ => ?_
      rw [e3, e4]
      refine wp_lcRun_mapg hst hr ?_
      rw [List.filterMap_cons, hy] at q
      simpa using q
    · rename_i hy
      rw [if_neg (by simp [h2])]
      refine wp_lcRun_mapg hst hr ?_
      rw [List.filterMap_cons, hy] at q
      exact q
end
end Kd
/-! Tags differ. -/
namespace Kd
open PySem
theorem ne_any_none : (("any" : Str) = "none") = False := eq_false (by decide)
theorem ne_any_name : (("any" : Str) = "name") = False := eq_false (by decide)
theorem ne_any_some : (("any" : Str) = "some") = False := eq_false (by decide)
theorem ne_any_and : (("any" : Str) = "and") = False := eq_false (by decide)
theorem ne_any_below : (("any" : Str) = "below") = False := eq_false (by decide)
theorem ne_any_role : (("any" : Str) = "role") = False := eq_false (by decide)
theorem ne_any_chain : (("any" : Str) = "chain") = False := eq_false (by decide)
theorem ne_any_is : (("any" : Str) = "is") = False := eq_false (by decide)
theorem ne_any_to : (("any" : Str) = "to") = False := eq_false (by decide)
theorem ne_any_person : (("any" : Str) = "person") = False := eq_false (by decide)
theorem ne_any_link : (("any" : Str) = "link") = False := eq_false (by decide)
theorem ne_any_facts : (("any" : Str) = "facts") = False := eq_false (by decide)
theorem ne_any_saying : (("any" : Str) = "saying") = False := eq_false (by decide)
theorem ne_none_any : (("none" : Str) = "any") = False := eq_false (by decide)
theorem ne_none_name : (("none" : Str) = "name") = False := eq_false (by decide)
theorem ne_none_some : (("none" : Str) = "some") = False := eq_false (by decide)
theorem ne_none_and : (("none" : Str) = "and") = False := eq_false (by decide)
theorem ne_none_below : (("none" : Str) = "below") = False := eq_false (by decide)
theorem ne_none_role : (("none" : Str) = "role") = False := eq_false (by decide)
theorem ne_none_chain : (("none" : Str) = "chain") = False := eq_false (by decide)
theorem ne_none_is : (("none" : Str) = "is") = False := eq_false (by decide)
theorem ne_none_to : (("none" : Str) = "to") = False := eq_false (by decide)
theorem ne_none_person : (("none" : Str) = "person") = False := eq_false (by decide)
theorem ne_none_link : (("none" : Str) = "link") = False := eq_false (by decide)
theorem ne_none_facts : (("none" : Str) = "facts") = False := eq_false (by decide)
theorem ne_none_saying : (("none" : Str) = "saying") = False := eq_false (by decide)
theorem ne_name_any : (("name" : Str) = "any") = False := eq_false (by decide)
theorem ne_name_none : (("name" : Str) = "none") = False := eq_false (by decide)
theorem ne_name_some : (("name" : Str) = "some") = False := eq_false (by decide)
theorem ne_name_and : (("name" : Str) = "and") = False := eq_false (by decide)
theorem ne_name_below : (("name" : Str) = "below") = False := eq_false (by decide)
theorem ne_name_role : (("name" : Str) = "role") = False := eq_false (by decide)
theorem ne_name_chain : (("name" : Str) = "chain") = False := eq_false (by decide)
theorem ne_name_is : (("name" : Str) = "is") = False := eq_false (by decide)
theorem ne_name_to : (("name" : Str) = "to") = False := eq_false (by decide)
theorem ne_name_person : (("name" : Str) = "person") = False := eq_false (by decide)
theorem ne_name_link : (("name" : Str) = "link") = False := eq_false (by decide)
theorem ne_name_facts : (("name" : Str) = "facts") = False := eq_false (by decide)
theorem ne_name_saying : (("name" : Str) = "saying") = False := eq_false (by decide)
theorem ne_some_any : (("some" : Str) = "any") = False := eq_false (by decide)
theorem ne_some_none : (("some" : Str) = "none") = False := eq_false (by decide)
theorem ne_some_name : (("some" : Str) = "name") = False := eq_false (by decide)
theorem ne_some_and : (("some" : Str) = "and") = False := eq_false (by decide)
theorem ne_some_below : (("some" : Str) = "below") = False := eq_false (by decide)
theorem ne_some_role : (("some" : Str) = "role") = False := eq_false (by decide)
theorem ne_some_chain : (("some" : Str) = "chain") = False := eq_false (by decide)
theorem ne_some_is : (("some" : Str) = "is") = False := eq_false (by decide)
theorem ne_some_to : (("some" : Str) = "to") = False := eq_false (by decide)
theorem ne_some_person : (("some" : Str) = "person") = False := eq_false (by decide)
theorem ne_some_link : (("some" : Str) = "link") = False := eq_false (by decide)
theorem ne_some_facts : (("some" : Str) = "facts") = False := eq_false (by decide)
theorem ne_some_saying : (("some" : Str) = "saying") = False := eq_false (by decide)
theorem ne_and_any : (("and" : Str) = "any") = False := eq_false (by decide)
theorem ne_and_none : (("and" : Str) = "none") = False := eq_false (by decide)
theorem ne_and_name : (("and" : Str) = "name") = False := eq_false (by decide)
theorem ne_and_some : (("and" : Str) = "some") = False := eq_false (by decide)
theorem ne_and_below : (("and" : Str) = "below") = False := eq_false (by decide)
theorem ne_and_role : (("and" : Str) = "role") = False := eq_false (by decide)
theorem ne_and_chain : (("and" : Str) = "chain") = False := eq_false (by decide)
theorem ne_and_is : (("and" : Str) = "is") = False := eq_false (by decide)
theorem ne_and_to : (("and" : Str) = "to") = False := eq_false (by decide)
theorem ne_and_person : (("and" : Str) = "person") = False := eq_false (by decide)
theorem ne_and_link : (("and" : Str) = "link") = False := eq_false (by decide)
theorem ne_and_facts : (("and" : Str) = "facts") = False := eq_false (by decide)
theorem ne_and_saying : (("and" : Str) = "saying") = False := eq_false (by decide)
theorem ne_below_any : (("below" : Str) = "any") = False := eq_false (by decide)
theorem ne_below_none : (("below" : Str) = "none") = False := eq_false (by decide)
theorem ne_below_name : (("below" : Str) = "name") = False := eq_false (by decide)
theorem ne_below_some : (("below" : Str) = "some") = False := eq_false (by decide)
theorem ne_below_and : (("below" : Str) = "and") = False := eq_false (by decide)
theorem ne_below_role : (("below" : Str) = "role") = False := eq_false (by decide)
theorem ne_below_chain : (("below" : Str) = "chain") = False := eq_false (by decide)
theorem ne_below_is : (("below" : Str) = "is") = False := eq_false (by decide)
theorem ne_below_to : (("below" : Str) = "to") = False := eq_false (by decide)
theorem ne_below_person : (("below" : Str) = "person") = False := eq_false (by decide)
theorem ne_below_link : (("below" : Str) = "link") = False := eq_false (by decide)
theorem ne_below_facts : (("below" : Str) = "facts") = False := eq_false (by decide)
theorem ne_below_saying : (("below" : Str) = "saying") = False := eq_false (by decide)
theorem ne_role_any : (("role" : Str) = "any") = False := eq_false (by decide)
theorem ne_role_none : (("role" : Str) = "none") = False := eq_false (by decide)
theorem ne_role_name : (("role" : Str) = "name") = False := eq_false (by decide)
theorem ne_role_some : (("role" : Str) = "some") = False := eq_false (by decide)
theorem ne_role_and : (("role" : Str) = "and") = False := eq_false (by decide)
theorem ne_role_below : (("role" : Str) = "below") = False := eq_false (by decide)
theorem ne_role_chain : (("role" : Str) = "chain") = False := eq_false (by decide)
theorem ne_role_is : (("role" : Str) = "is") = False := eq_false (by decide)
theorem ne_role_to : (("role" : Str) = "to") = False := eq_false (by decide)
theorem ne_role_person : (("role" : Str) = "person") = False := eq_false (by decide)
theorem ne_role_link : (("role" : Str) = "link") = False := eq_false (by decide)
theorem ne_role_facts : (("role" : Str) = "facts") = False := eq_false (by decide)
theorem ne_role_saying : (("role" : Str) = "saying") = False := eq_false (by decide)
theorem ne_chain_any : (("chain" : Str) = "any") = False := eq_false (by decide)
theorem ne_chain_none : (("chain" : Str) = "none") = False := eq_false (by decide)
theorem ne_chain_name : (("chain" : Str) = "name") = False := eq_false (by decide)
theorem ne_chain_some : (("chain" : Str) = "some") = False := eq_false (by decide)
theorem ne_chain_and : (("chain" : Str) = "and") = False := eq_false (by decide)
theorem ne_chain_below : (("chain" : Str) = "below") = False := eq_false (by decide)
theorem ne_chain_role : (("chain" : Str) = "role") = False := eq_false (by decide)
theorem ne_chain_is : (("chain" : Str) = "is") = False := eq_false (by decide)
theorem ne_chain_to : (("chain" : Str) = "to") = False := eq_false (by decide)
theorem ne_chain_person : (("chain" : Str) = "person") = False := eq_false (by decide)
theorem ne_chain_link : (("chain" : Str) = "link") = False := eq_false (by decide)
theorem ne_chain_facts : (("chain" : Str) = "facts") = False := eq_false (by decide)
theorem ne_chain_saying : (("chain" : Str) = "saying") = False := eq_false (by decide)
theorem ne_is_any : (("is" : Str) = "any") = False := eq_false (by decide)
theorem ne_is_none : (("is" : Str) = "none") = False := eq_false (by decide)
theorem ne_is_name : (("is" : Str) = "name") = False := eq_false (by decide)
theorem ne_is_some : (("is" : Str) = "some") = False := eq_false (by decide)
theorem ne_is_and : (("is" : Str) = "and") = False := eq_false (by decide)
theorem ne_is_below : (("is" : Str) = "below") = False := eq_false (by decide)
theorem ne_is_role : (("is" : Str) = "role") = False := eq_false (by decide)
theorem ne_is_chain : (("is" : Str) = "chain") = False := eq_false (by decide)
theorem ne_is_to : (("is" : Str) = "to") = False := eq_false (by decide)
theorem ne_is_person : (("is" : Str) = "person") = False := eq_false (by decide)
theorem ne_is_link : (("is" : Str) = "link") = False := eq_false (by decide)
theorem ne_is_facts : (("is" : Str) = "facts") = False := eq_false (by decide)
theorem ne_is_saying : (("is" : Str) = "saying") = False := eq_false (by decide)
theorem ne_to_any : (("to" : Str) = "any") = False := eq_false (by decide)
theorem ne_to_none : (("to" : Str) = "none") = False := eq_false (by decide)
theorem ne_to_name : (("to" : Str) = "name") = False := eq_false (by decide)
theorem ne_to_some : (("to" : Str) = "some") = False := eq_false (by decide)
theorem ne_to_and : (("to" : Str) = "and") = False := eq_false (by decide)
theorem ne_to_below : (("to" : Str) = "below") = False := eq_false (by decide)
theorem ne_to_role : (("to" : Str) = "role") = False := eq_false (by decide)
theorem ne_to_chain : (("to" : Str) = "chain") = False := eq_false (by decide)
theorem ne_to_is : (("to" : Str) = "is") = False := eq_false (by decide)
theorem ne_to_person : (("to" : Str) = "person") = False := eq_false (by decide)
theorem ne_to_link : (("to" : Str) = "link") = False := eq_false (by decide)
theorem ne_to_facts : (("to" : Str) = "facts") = False := eq_false (by decide)
theorem ne_to_saying : (("to" : Str) = "saying") = False := eq_false (by decide)
theorem ne_person_any : (("person" : Str) = "any") = False := eq_false (by decide)
theorem ne_person_none : (("person" : Str) = "none") = False := eq_false (by decide)
theorem ne_person_name : (("person" : Str) = "name") = False := eq_false (by decide)
theorem ne_person_some : (("person" : Str) = "some") = False := eq_false (by decide)
theorem ne_person_and : (("person" : Str) = "and") = False := eq_false (by decide)
theorem ne_person_below : (("person" : Str) = "below") = False := eq_false (by decide)
theorem ne_person_role : (("person" : Str) = "role") = False := eq_false (by decide)
theorem ne_person_chain : (("person" : Str) = "chain") = False := eq_false (by decide)
theorem ne_person_is : (("person" : Str) = "is") = False := eq_false (by decide)
theorem ne_person_to : (("person" : Str) = "to") = False := eq_false (by decide)
theorem ne_person_link : (("person" : Str) = "link") = False := eq_false (by decide)
theorem ne_person_facts : (("person" : Str) = "facts") = False := eq_false (by decide)
theorem ne_person_saying : (("person" : Str) = "saying") = False := eq_false (by decide)
theorem ne_link_any : (("link" : Str) = "any") = False := eq_false (by decide)
theorem ne_link_none : (("link" : Str) = "none") = False := eq_false (by decide)
theorem ne_link_name : (("link" : Str) = "name") = False := eq_false (by decide)
theorem ne_link_some : (("link" : Str) = "some") = False := eq_false (by decide)
theorem ne_link_and : (("link" : Str) = "and") = False := eq_false (by decide)
theorem ne_link_below : (("link" : Str) = "below") = False := eq_false (by decide)
theorem ne_link_role : (("link" : Str) = "role") = False := eq_false (by decide)
theorem ne_link_chain : (("link" : Str) = "chain") = False := eq_false (by decide)
theorem ne_link_is : (("link" : Str) = "is") = False := eq_false (by decide)
theorem ne_link_to : (("link" : Str) = "to") = False := eq_false (by decide)
theorem ne_link_person : (("link" : Str) = "person") = False := eq_false (by decide)
theorem ne_link_facts : (("link" : Str) = "facts") = False := eq_false (by decide)
theorem ne_link_saying : (("link" : Str) = "saying") = False := eq_false (by decide)
theorem ne_facts_any : (("facts" : Str) = "any") = False := eq_false (by decide)
theorem ne_facts_none : (("facts" : Str) = "none") = False := eq_false (by decide)
theorem ne_facts_name : (("facts" : Str) = "name") = False := eq_false (by decide)
theorem ne_facts_some : (("facts" : Str) = "some") = False := eq_false (by decide)
theorem ne_facts_and : (("facts" : Str) = "and") = False := eq_false (by decide)
theorem ne_facts_below : (("facts" : Str) = "below") = False := eq_false (by decide)
theorem ne_facts_role : (("facts" : Str) = "role") = False := eq_false (by decide)
theorem ne_facts_chain : (("facts" : Str) = "chain") = False := eq_false (by decide)
theorem ne_facts_is : (("facts" : Str) = "is") = False := eq_false (by decide)
theorem ne_facts_to : (("facts" : Str) = "to") = False := eq_false (by decide)
theorem ne_facts_person : (("facts" : Str) = "person") = False := eq_false (by decide)
theorem ne_facts_link : (("facts" : Str) = "link") = False := eq_false (by decide)
theorem ne_facts_saying : (("facts" : Str) = "saying") = False := eq_false (by decide)
theorem ne_saying_any : (("saying" : Str) = "any") = False := eq_false (by decide)
theorem ne_saying_none : (("saying" : Str) = "none") = False := eq_false (by decide)
theorem ne_saying_name : (("saying" : Str) = "name") = False := eq_false (by decide)
theorem ne_saying_some : (("saying" : Str) = "some") = False := eq_false (by decide)
theorem ne_saying_and : (("saying" : Str) = "and") = False := eq_false (by decide)
theorem ne_saying_below : (("saying" : Str) = "below") = False := eq_false (by decide)
theorem ne_saying_role : (("saying" : Str) = "role") = False := eq_false (by decide)
theorem ne_saying_chain : (("saying" : Str) = "chain") = False := eq_false (by decide)
theorem ne_saying_is : (("saying" : Str) = "is") = False := eq_false (by decide)
theorem ne_saying_to : (("saying" : Str) = "to") = False := eq_false (by decide)
theorem ne_saying_person : (("saying" : Str) = "person") = False := eq_false (by decide)
theorem ne_saying_link : (("saying" : Str) = "link") = False := eq_false (by decide)
theorem ne_saying_facts : (("saying" : Str) = "facts") = False := eq_false (by decide)
end Kd
/-! Words, kinds, facts, claims as data; persons; fresh words. -/
namespace Kd
open PySem
theorem insD_mem {x a : D} : ∀ {l : List D}, x ∈ insD a l ↔ x = a ∨ x ∈ l
  | [] => by simp [insD]
  | b :: l => by
    unfold insD
    split
    · simp only [List.mem_cons, insD_mem (l := l)]
      constructor
      · rintro (h | h | h) <;> simp [h]
      · rintro (h | h | h) <;> simp [h]
    · simp
theorem sortD_mem {x : D} : ∀ {l : List D}, x ∈ sortD l ↔ x ∈ l
  | [] => by simp [sortD]
  | a :: l => by
    show x ∈ insD a (sortD l) ↔ _
    rw [insD_mem, sortD_mem (l := l)]
    simp
theorem nub_iff {x : D} : ∀ {l : List D}, x ∈ nub l ↔ x ∈ l
  | [] => by simp [nub]
  | a :: l => by
    simp only [nub, List.mem_cons, List.mem_filter, nub_iff (l := l), decide_eq_true_eq]
    by_cases h : x = a <;> simp [h]
theorem insD_len (a : D) : ∀ l : List D, (insD a l).length = l.length + 1
  | [] => rfl
  | b :: l => by
    unfold insD
    split
    · simp [insD_len a l]
    · simp
theorem sortD_len : ∀ l : List D, (sortD l).length = l.length
  | [] => rfl
  | a :: l => by
    show (insD a (sortD l)).length = _
    rw [insD_len, sortD_len l]
    rfl
theorem nub_ln : ∀ l : List D, (nub l).length ≤ l.length
  | [] => Nat.le_refl _
  | a :: l => by
    have h1 := nub_ln l
    have h2 := List.length_filter_le (fun e => decide (e ≠ a)) (nub l)
    simp only [nub, List.length_cons]
    omega
/-- the call gives v, from any store, and leaves the store -/
def Ret (P : Prg) (n f : Nat) (ds : List D) (v : D) : Prop := ∀ (k : Nat) (S : Sto) (E : EQ) (Q : D → Sto → Prop), n ≤ k → Q v S → wp (P.call k f ds) S Q E
structure WOk (d : D) : Prop where
  ok : wordB d = true
  nr : d ≠ .str "role"
def wordR (d : D) : Bool := wordB d && decide (d ≠ .str "role")
theorem WOk.of {d : D} (h : wordR d = true) : WOk d := by
  simp only [wordR, Bool.and_eq_true, decide_eq_true_eq] at h
  exact ⟨h.1, h.2⟩
structure KOk (d : D) : Prop where
  pl : Pl d
  dp : d.dep ≤ 7
  ok : kindN 8 d = true
theorem WOk.ex {d : D} (h : WOk d) : ∃ x, d = .str x ∧ x.length ≤ 8 := by
  have := h.ok
  cases d with
  | str x => refine ⟨x, rfl, ?_⟩; simp only [wordB, Bool.and_eq_true, decide_eq_true_eq] at this; omega
  | _ => cases this
theorem WOk.pl {d : D} (h : WOk d) : Pl d := by
  obtain ⟨x, rfl, hx⟩ := h.ex
  exact ⟨rfl, by simp only [D.shrt, decide_eq_true_eq]; unfold sizeLine; omega⟩
theorem WOk.dp {d : D} (h : WOk d) : d.dep = 0 := by
  obtain ⟨x, rfl, hx⟩ := h.ex
  rfl
theorem WOk.st {d : D} (h : WOk d) : isStrD d = true := by
  obtain ⟨x, rfl, hx⟩ := h.ex
  rfl
inductive Fc : D → Prop
  | is_ {p q : D} (wp : WOk p) (kq : KOk q) : Fc (.tup [.str "is", p, q])
  | to_ {p r q : D} (wp : WOk p) (wr : WOk r) (wq : WOk q) : Fc (.tup [.str "to", p, r, q])
inductive Cl : D → Prop
  | below {p q : D} (kp : KOk p) (kq : KOk q) : Cl (.tup [.str "below", p, q])
  | role {p q : D} (wp : WOk p) (wq : WOk q) : Cl (.tup [.str "role", p, q])
  | chain {p r q : D} (wp : WOk p) (wr : WOk r) (wq : WOk q) : Cl (.tup [.str "chain", p, r, q])
  | fact {d : D} (h : Fc d) : Cl d
theorem Pl.tup {ds : List D} (h : ∀ d ∈ ds, Pl d) (hl : ds.length ≤ 1000 := by simp) : Pl (.tup ds) := by
  have : D.sims ds = true ∧ D.shrts ds = true := by
    clear hl
    induction ds with
    | nil => exact ⟨rfl, rfl⟩
    | cons d ds ih =>
      have h1 := h d (by simp)
      obtain ⟨i1, i2⟩ := ih fun x hx => h x (List.mem_cons_of_mem _ hx)
      simp only [D.sims, D.shrts, Bool.and_eq_true]
      exact ⟨⟨h1.sim, i1⟩, h1.sh, i2⟩
  exact ⟨this.1, by simp only [D.shrt, Bool.and_eq_true, decide_eq_true_eq]; exact ⟨by unfold sizeLine; omega, this.2⟩⟩
theorem Pl.s {x : Str} (h : x.length ≤ 100) : Pl (.str x) := ⟨rfl, by simp only [D.shrt, decide_eq_true_eq]; unfold sizeLine; omega⟩
theorem deps_le {n : Nat} : ∀ {ds : List D}, (∀ d ∈ ds, d.dep ≤ n) → D.deps ds ≤ n
  | [], _ => by simp [D.deps]
  | d :: ds, h => by
    have h1 := h d (by simp)
    have h2 := deps_le (ds := ds) fun x hx => h x (List.mem_cons_of_mem _ hx)
    simp only [D.deps]
    omega
theorem Pl.t2 {a b : D} (ha : Pl a) (hb : Pl b) : Pl (.tup [a, b]) := .tup fun d hd => by
  simp only [List.mem_cons, List.not_mem_nil, or_false] at hd
  rcases hd with rfl | rfl <;> assumption
theorem Pl.t3 {a b c : D} (ha : Pl a) (hb : Pl b) (hc : Pl c) : Pl (.tup [a, b, c]) := .tup fun d hd => by
  simp only [List.mem_cons, List.not_mem_nil, or_false] at hd
  rcases hd with rfl | rfl | rfl <;> assumption
theorem Pl.t4 {a b c e : D} (ha : Pl a) (hb : Pl b) (hc : Pl c) (he : Pl e) : Pl (.tup [a, b, c, e]) := .tup fun d hd => by
  simp only [List.mem_cons, List.not_mem_nil, or_false] at hd
  rcases hd with rfl | rfl | rfl | rfl <;> assumption
theorem Fc.pl {d : D} (h : Fc d) : Pl d := by
  cases h with
  | is_ hp hq => exact .t3 (.s (by decide)) hp.pl hq.pl
  | to_ hp hr hq => exact .t4 (.s (by decide)) hp.pl hr.pl hq.pl
theorem Cl.pl {d : D} (h : Cl d) : Pl d := by
  cases h with
  | below hp hq => exact .t3 (.s (by decide)) hp.pl hq.pl
  | role hp hq => exact .t3 (.s (by decide)) hp.pl hq.pl
  | chain hp hr hq => exact .t4 (.s (by decide)) hp.pl hr.pl hq.pl
  | fact h => exact h.pl
theorem Fc.dp {d : D} (h : Fc d) : d.dep ≤ 8 := by
  cases h with
  | is_ hp hq => have := hp.dp; have := hq.dp; simp only [D.dep, D.deps]; omega
  | to_ hp hr hq => have := hp.dp; have := hq.dp; have := hr.dp; simp only [D.dep, D.deps]; omega
theorem Cl.dp {d : D} (h : Cl d) : d.dep ≤ 8 := by
  cases h with
  | below hp hq => have := hp.dp; have := hq.dp; simp only [D.dep, D.deps]; omega
  | role hp hq => have := hp.dp; have := hq.dp; simp only [D.dep, D.deps]; omega
  | chain hp hr hq => have := hp.dp; have := hq.dp; have := hr.dp; simp only [D.dep, D.deps]; omega
  | fact h => exact h.dp
theorem Fc.ok {d : D} (h : Fc d) : factB 8 d = true := by
  cases h with
  | is_ hp hq => simp [factB, hp.ok, hq.ok]
  | to_ hp hr hq => simp [factB, hp.ok, hq.ok, hr.ok, ne_to_is]
theorem Cl.ok {d : D} (h : Cl d) : claimB 8 d = true := by
  cases h with
  | below hp hq => simp [claimB, sayB, hp.ok, hq.ok]
  | role hp hq => simp [claimB, sayB, hp.ok, hq.ok, ne_role_below]
  | chain hp hr hq => simp [claimB, sayB, hp.ok, hq.ok, hr.ok, ne_chain_below, ne_chain_role]
  | fact h => simp [claimB, h.ok]
theorem Fc.per {d : D} (h : Fc d) : PerOk d := by
  refine ⟨?_, h.pl, ?_⟩
  · cases h with
    | is_ hp hq => exact ⟨_, _, rfl, by simp, by simp [ne_is_to]⟩
    | to_ hp hr hq => exact ⟨_, _, rfl, by simp, by simp⟩
  · cases h with
    | is_ hp hq => simpa [perOf] using hp.st
    | to_ hp hr hq => simpa [perOf, ne_to_is] using ⟨hp.st, hq.st⟩
/-- facts of a few members -/
structure Fs (fs : List D) : Prop where
  fc : ∀ d ∈ fs, Fc d
  ln : fs.length ≤ 9
theorem Fs.ok {fs : List D} (h : Fs fs) : factsB 8 (.tup fs) = true := by
  simp only [factsB, List.all_eq_true]
  exact fun d hd => (h.fc d hd).ok
theorem Fs.pl {fs : List D} (h : Fs fs) : Pl (.tup fs) := .tup (fun d hd => (h.fc d hd).pl) (by have := h.ln; omega)
theorem Fs.dp {fs : List D} (h : Fs fs) : D.deps fs ≤ 8 := deps_le fun d hd => (h.fc d hd).dp
def pers (fs : List D) : List D := sortD (nub (fs.flatMap perOf))
theorem pers_mem {fs : List D} {x : D} : x ∈ pers fs ↔ x ∈ fs.flatMap perOf := by unfold pers; rw [sortD_mem, nub_iff]
theorem Fs.pers_str {fs : List D} (h : Fs fs) : ∀ d ∈ pers fs, isStrD d = true := fun d hd => by
  rw [pers_mem, List.mem_flatMap] at hd
  obtain ⟨f, hf, hd⟩ := hd
  exact (h.fc f hf).per.st d hd
theorem Fs.pers_len {fs : List D} (h : Fs fs) : (pers fs).length ≤ 2 * fs.length := by
  have h1 : ∀ l : List D, (l.flatMap perOf).length ≤ 2 * l.length := by
    intro l
    induction l with
    | nil => simp
    | cons a l ih =>
      have := perOf_len a
      simp only [List.flatMap_cons, List.length_append, List.length_cons]
      omega
  have h2 := nub_ln (fs.flatMap perOf)
  have h3 := h1 fs
  unfold pers
  rw [sortD_len]
  omega
theorem unds_str {n : Nat} : ∀ {ds : List D}, (∀ d ∈ ds, isStrD d = true) → D.unds n ds = true
  | [], _ => rfl
  | d :: ds, h => by
    have h1 := h d (by simp)
    simp only [D.unds, Bool.and_eq_true]
    refine ⟨?_, unds_str fun x hx => h x (List.mem_cons_of_mem _ hx)⟩
    cases d <;> first | rfl | cases h1
theorem str_sim {d : D} (h : isStrD d = true) : d.sim = true ∧ d.dep ≤ 59 := by
  cases d <;> first | exact ⟨rfl, by simp [D.dep]⟩ | cases h
theorem pers_ret {P : Prg} {f ip : Nat} (hs : P.fn f = some (fPin ip)) (hp : P.fn ip = some fPer) {fs : List D} (F : Fs fs) : Ret P 2 f [.tup fs] (.tup (pers fs)) := fun k S E Q hk q => by
  obtain ⟨k, rfl⟩ : ∃ k', k = k' + 2 := ⟨k - 2, by omega⟩
  exact wp_pin hs hp (fun d hd => (F.fc d hd).per) (by have := F.ln; unfold sizeLine; omega) (unds_str F.pers_str) q
/-! ### fresh words -/
def nWord (c : Nat) : Str := ("n" : Str) ++ (⟨#[c]⟩ : Str)
def nWords : List D := abc.cps.toList.map fun c => D.str (nWord c)
def freshD (ps : List D) : List D := (nWords.filter fun d => decide (d ∉ ps)).take 3
theorem abc_len : abc.length ≤ sizeLine := by decide +kernel
theorem nodup_ne {l : List D} (h : l.Nodup) (p : D) : l.length ≤ (l.filter fun d => decide (d ≠ p)).length + 1 := by
  induction h with
  | nil => simp
  | @cons a l hne h ih =>
    by_cases e : a = p
    · subst e
      rw [List.filter_cons_of_neg (by simp)]
      have : l.filter (fun d => decide (d ≠ a)) = l := List.filter_eq_self.mpr fun x hx => by simpa using (hne x hx).symm
      rw [this]
      simp
    · rw [List.filter_cons_of_pos (by simpa using e)]
      simp only [List.length_cons]
      omega
theorem nodup_nin : ∀ (ps : List D) {l : List D}, l.Nodup → l.length ≤ (l.filter fun d => decide (d ∉ ps)).length + ps.length
  | [], l, h => by simp [List.filter_eq_self.mpr]
  | p :: ps, l, h => by
    have h1 := nodup_nin ps h
    have h2 := nodup_ne (h.filter (fun d => decide (d ∉ ps))) p
    rw [List.filter_filter] at h2
    have e : (l.filter fun d => decide (d ∉ p :: ps)) = l.filter (fun a => decide (a ≠ p) && decide (a ∉ ps)) := List.filter_congr fun x _ => by
      rw [Bool.eq_iff_iff]; simp
    rw [e]
    simp only [List.length_cons]
    omega
theorem nWords_nd : nWords.Nodup := by decide +kernel
theorem fresh3 {ps : List D} (h : ps.length ≤ 20) : ∃ x y z : Str, freshD ps = [.str x, .str y, .str z] ∧ x.length ≤ 8 ∧ y.length ≤ 8 ∧ z.length ≤ 8 := by
  have h1 := nodup_nin ps nWords_nd
  have h2 : nWords.length = 26 := by decide +kernel
  have h3 : (freshD ps).length = 3 := by
    unfold freshD
    rw [List.length_take]
    omega
  have h4 : ∀ d ∈ freshD ps, ∃ x : Str, d = .str x ∧ x.length ≤ 8 := fun d hd => by
    have := List.mem_of_mem_take hd
    rw [List.mem_filter] at this
    obtain ⟨c, hc, e⟩ := List.mem_map.mp this.1
    exact ⟨_, e.symm, by show (#['n'.toNat] ++ #[c]).size ≤ 8; simp⟩
  rcases e : freshD ps with _ | ⟨a, _ | ⟨b, _ | ⟨c, _ | ⟨d, r⟩⟩⟩⟩ <;> rw [e] at h3 h4 <;> simp at h3
  obtain ⟨x, rfl, hx⟩ := h4 a (by simp)
  obtain ⟨y, rfl, hy⟩ := h4 b (by simp)
  obtain ⟨z, rfl, hz⟩ := h4 c (by simp)
  exact ⟨x, y, z, rfl, hx, hy, hz⟩
end Kd
/-! fresh_persons, asked_facts, goal_of and the law's own. -/
namespace Kd
open PySem
def fFresh (ip g : Nat) : Fn := ⟨1, 4, 
  [.set 1 (.call ip [(.var 0)]),
  .ret (.slc (.lc (.var 2) (.nm 2) .seq [(.lc (.bin .add (.cstr "n") (.var 3)) (.nm 3) .seq [(.glb g)] [] [3])] [(.cmp .nin (.var 2) (.var 1))] [2]) [] [(.cint 3)])]⟩
def fLPers : Fn := ⟨1, 3, 
  [.set 1 (.lst []),
  .for_ (.nm 2) .seq [(.var 0)]
    [.exp (.mth .append (.var 1) [(.idx (.var 2) (.cint 1))]),
    .if_ (.cmp .eq (.idx (.var 2) (.cint 0)) (.cstr "to"))
      [.exp (.mth .append (.var 1) [(.idx (.var 2) (.cint 3))])]
      []],
  .ret (.blt .sortset [(.var 1)])]⟩
def fLFresh (ip : Nat) : Fn := ⟨1, 4, 
  [.set 1 (.call ip [(.var 0)]),
  .ret (.slc (.lc (.var 2) (.nm 2) .seq [(.lc (.bin .add (.cstr "n") (.var 3)) (.nm 3) .seq [(.cstr "abcdefghijklmnopqrstuvwxyz")] [] [3])] [(.cmp .nin (.var 2) (.var 1))] [2]) [] [(.cint 3)])]⟩
theorem nW_len (c : Nat) : ("n" : Str).length + (⟨#[c]⟩ : Str).length ≤ sizeLine := by show 1 + 1 ≤ _; unfold sizeLine; omega
theorem nW_sim {d : D} (h : d ∈ nWords) : d.sim = true ∧ d.dep ≤ 59 := by
  obtain ⟨c, _, rfl⟩ := List.mem_map.mp h
  exact ⟨rfl, by simp [D.dep]⟩
/-- "n" + char for char in abc -/
theorem nW_map : (abc.cps.toList.map fun c => D.str ⟨#[c]⟩).filterMap (fun d => match d with
    | .str c => some (D.str (("n" : Str) ++ c))
    | _ => none) = nWords := by
  rw [List.filterMap_map]
  exact filterMap_some _ _
theorem filterMap_if (p : D → Bool) : ∀ l : List D, l.filterMap (fun d => if p d then some d else none) = l.filter p
  | [] => rfl
  | a :: l => by
    rw [List.filterMap_cons, List.filter_cons]
    cases h : p a <;> simp [filterMap_if p l]
theorem fresh_ret {P : Prg} {f ip ipc g : Nat} (hf : P.fn f = some (fFresh ip g)) (hs : P.fn ip = some (fPin ipc)) (hp : P.fn ipc = some fPer) (hg : P.gl g = some (.str abc)) {fs : List D} (F : Fs fs) {k : Nat} {S : Sto} {E : EQ} {Q : D → Sto → Prop} (hk : 3 ≤ k)
    (q : Q (.loc S.length) (S ++ [.lst (freshD (pers fs))])) : wp (P.call k f [.tup fs]) S Q E := by
  refine wp_def hf (by omega) rfl ?_
  have hps := F.pers_str
  simp only [fFresh, ev_var, ev_glb, ev_isV, ev_cint, ev_cstr, ev_cnon, ev_cbl, ev_tup, ev_lst, ev_dct0, ev_bin, ev_notf, ev_nott, ev_and, ev_or, ev_cmp, ev_chn, ev_ite, ev_call, ev_blt, ev_mth, ev_idx, ev_slc, ev_frc, ev_lc, ev_callk, ev_neg, varX, glX, List.getElem?_cons_succ, List.getElem?_cons_zero, evs, evx, evc, asTf, asTt, wp_bind, wp_pure, wp_ite, if_true, if_false, wp_theB, Bool.not_true, Bool.not_false, Bool.not_not, wp_force, wp_forceT, wp_push, cmpX, Bool.false_eq_true, List.map_cons, List.map_nil, List.replicate, List.cons_append, List.nil_append, List.set_cons_zero, List.set_cons_succ, bindT_nm, bindT2, wipeE, partX, xs_nil, xs_set, xs_setT, xs_par, xs_sub, xs_exp, xs_if, xs_for, xs_ret, xs_ret0, xs_rai0, xs_pass, seqQ_nx, seqQ_ret, retQ_ret, retQ_nx, wp_tru_bl, wp_tru_tup, wp_tru_tl, wp_tru_int, wp_tru_non, wp_eq_str, wp_eq_int, wp_eq_bl, wp_lt_int, wp_len_tup, wp_len_tl, wp_items_tup, wp_items_tl, wp_litems_tl, wp_walk_tup, wp_walk_tl, wp_idx_tup (at0 _ _), wp_idx_tup (at1 _ _ _), wp_idx_tup (at2 _ _ _ _), wp_idx_tup (at3 _ _ _ _ _), cut1, decide_eq_true_eq, wp_tuple, wp_list_tup, wp_int, wp_addi, wp_subi, setAll, wp_unpack_tup, isiStr_str, isiTup_tup, isiTl]
  refine pers_ret hs hp F _ _ _ _ (by omega) ?_
  simp only [ev_var, ev_glb, ev_isV, ev_cint, ev_cstr, ev_cnon, ev_cbl, ev_tup, ev_lst, ev_dct0, ev_bin, ev_notf, ev_nott, ev_and, ev_or, ev_cmp, ev_chn, ev_ite, ev_call, ev_blt, ev_mth, ev_idx, ev_slc, ev_frc, ev_lc, ev_callk, ev_neg, varX, glX, List.getElem?_cons_succ, List.getElem?_cons_zero, evs, evx, evc, asTf, asTt, wp_bind, wp_pure, wp_ite, if_true, if_false, wp_theB, Bool.not_true, Bool.not_false, Bool.not_not, wp_force, wp_forceT, wp_push, cmpX, Bool.false_eq_true, List.map_cons, List.map_nil, List.replicate, List.cons_append, List.nil_append, List.set_cons_zero, List.set_cons_succ, bindT_nm, bindT2, wipeE, partX, xs_nil, xs_set, xs_setT, xs_par, xs_sub, xs_exp, xs_if, xs_for, xs_ret, xs_ret0, xs_rai0, xs_pass, seqQ_nx, seqQ_ret, retQ_ret, retQ_nx, wp_tru_bl, wp_tru_tup, wp_tru_tl, wp_tru_int, wp_tru_non, wp_eq_str, wp_eq_int, wp_eq_bl, wp_lt_int, wp_len_tup, wp_len_tl, wp_items_tup, wp_items_tl, wp_litems_tl, wp_walk_tup, wp_walk_tl, wp_idx_tup (at0 _ _), wp_idx_tup (at1 _ _ _), wp_idx_tup (at2 _ _ _ _), wp_idx_tup (at3 _ _ _ _ _), cut1, decide_eq_true_eq, wp_tuple, wp_list_tup, wp_int, wp_addi, wp_subi, setAll, wp_unpack_tup, isiStr_str, isiTup_tup, isiTl, hg, wp_walk_str abc_len]
  refine wp_calm (wp_lcRun_map (g := fun d => match d with
    | .str c => some (D.str (("n" : Str) ++ c))
    | _ => none) ?_ ?_)
  · intro d hd
    obtain ⟨c, _, rfl⟩ := List.mem_map.mp hd
    simp only [ev_var, ev_glb, ev_isV, ev_cint, ev_cstr, ev_cnon, ev_cbl, ev_tup, ev_lst, ev_dct0, ev_bin, ev_notf, ev_nott, ev_and, ev_or, ev_cmp, ev_chn, ev_ite, ev_call, ev_blt, ev_mth, ev_idx, ev_slc, ev_frc, ev_lc, ev_callk, ev_neg, varX, glX, List.getElem?_cons_succ, List.getElem?_cons_zero, evs, evx, evc, asTf, asTt, wp_bind, wp_pure, wp_ite, if_true, if_false, wp_theB, Bool.not_true, Bool.not_false, Bool.not_not, wp_force, wp_forceT, wp_push, cmpX, Bool.false_eq_true, List.map_cons, List.map_nil, List.replicate, List.cons_append, List.nil_append, List.set_cons_zero, List.set_cons_succ, bindT_nm, bindT2, wipeE, partX, xs_nil, xs_set, xs_setT, xs_par, xs_sub, xs_exp, xs_if, xs_for, xs_ret, xs_ret0, xs_rai0, xs_pass, seqQ_nx, seqQ_ret, retQ_ret, retQ_nx, wp_tru_bl, wp_tru_tup, wp_tru_tl, wp_tru_int, wp_tru_non, wp_eq_str, wp_eq_int, wp_eq_bl, wp_lt_int, wp_len_tup, wp_len_tl, wp_items_tup, wp_items_tl, wp_litems_tl, wp_walk_tup, wp_walk_tl, wp_idx_tup (at0 _ _), wp_idx_tup (at1 _ _ _), wp_idx_tup (at2 _ _ _ _), wp_idx_tup (at3 _ _ _ _ _), cut1, decide_eq_true_eq, wp_tuple, wp_list_tup, wp_int, wp_addi, wp_subi, setAll, wp_unpack_tup, isiStr_str, isiTup_tup, isiTl, wp_adds (nW_len _), true_and]
  · rw [List.reverse_nil, List.nil_append, nW_map]
    refine wp_calm (wp_lcRun_map (g := fun d => if decide (d ∉ pers fs) then some d else none) ?_ ?_)
    · intro d hd
      obtain ⟨h1, h2⟩ := nW_sim hd
      simp only [ev_var, ev_glb, ev_isV, ev_cint, ev_cstr, ev_cnon, ev_cbl, ev_tup, ev_lst, ev_dct0, ev_bin, ev_notf, ev_nott, ev_and, ev_or, ev_cmp, ev_chn, ev_ite, ev_call, ev_blt, ev_mth, ev_idx, ev_slc, ev_frc, ev_lc, ev_callk, ev_neg, varX, glX, List.getElem?_cons_succ, List.getElem?_cons_zero, evs, evx, evc, asTf, asTt, wp_bind, wp_pure, wp_ite, if_true, if_false, wp_theB, Bool.not_true, Bool.not_false, Bool.not_not, wp_force, wp_forceT, wp_push, cmpX, Bool.false_eq_true, List.map_cons, List.map_nil, List.replicate, List.cons_append, List.nil_append, List.set_cons_zero, List.set_cons_succ, bindT_nm, bindT2, wipeE, partX, xs_nil, xs_set, xs_setT, xs_par, xs_sub, xs_exp, xs_if, xs_for, xs_ret, xs_ret0, xs_rai0, xs_pass, seqQ_nx, seqQ_ret, retQ_ret, retQ_nx, wp_tru_bl, wp_tru_tup, wp_tru_tl, wp_tru_int, wp_tru_non, wp_eq_str, wp_eq_int, wp_eq_bl, wp_lt_int, wp_len_tup, wp_len_tl, wp_items_tup, wp_items_tl, wp_litems_tl, wp_walk_tup, wp_walk_tl, wp_idx_tup (at0 _ _), wp_idx_tup (at1 _ _ _), wp_idx_tup (at2 _ _ _ _), wp_idx_tup (at3 _ _ _ _ _), cut1, decide_eq_true_eq, wp_tuple, wp_list_tup, wp_int, wp_addi, wp_subi, setAll, wp_unpack_tup, isiStr_str, isiTup_tup, isiTl, wp_in_tup h1 h2 (strs_sim hps).1, true_and]
      by_cases h : d ∈ pers fs <;> simp [h]
    · rw [List.reverse_nil, List.nil_append, filterMap_if, wp_slc_tl, wp_forceT]
      show Q _ (tidy S (.loc S.length) (S ++ [.lst (cutD _ none (some ((3 : Nat) : Int)))]))
      rw [cutTo]
      have : ∀ T, tidy S (.loc S.length) T = T := fun T => by unfold tidy; simp [D.und]
      rw [this]
      exact q
/-- the law's list of persons -/
theorem setOk_str {l : List D} (h : ∀ d ∈ l, isStrD d = true) (hl : l.length ≤ 100) : setOk l = true := by
  unfold setOk
  simp only [Bool.and_eq_true, List.all_eq_true, decide_eq_true_eq]
  refine ⟨fun d hd => ?_, by unfold scanBound; omega⟩
  have := h d hd
  cases d <;> first | rfl | cases this
theorem tidy_new {S T : Sto} {l : Nat} (h : S.length ≤ l) : tidy S (.loc l) T = T := by
  unfold tidy
  rw [if_neg]
  simp only [D.und, Bool.and_eq_true, decide_eq_true_eq]
  omega
theorem getl_append {S : Sto} {o : Ob} : (S ++ [o])[S.length]? = some o := by simp
theorem lpers_ret {P : Prg} {f : Nat} (hf : P.fn f = some fLPers) {fs : List D} (F : Fs fs) {k : Nat} {S : Sto} {E : EQ} {Q : D → Sto → Prop} (hk : 1 ≤ k)
    (q : ∀ T, Q (.loc (S.length + 1)) (S ++ [T, .lst (pers fs)])) : wp (P.call k f [.tup fs]) S Q E := by
  refine wp_def hf (by omega) rfl ?_
  simp only [fLPers, ev_var, ev_glb, ev_isV, ev_cint, ev_cstr, ev_cnon, ev_cbl, ev_tup, ev_lst, ev_dct0, ev_bin, ev_notf, ev_nott, ev_and, ev_or, ev_cmp, ev_chn, ev_ite, ev_call, ev_blt, ev_mth, ev_idx, ev_slc, ev_frc, ev_lc, ev_callk, ev_neg, varX, glX, List.getElem?_cons_succ, List.getElem?_cons_zero, evs, evx, evc, asTf, asTt, wp_bind, wp_pure, wp_ite, if_true, if_false, wp_theB, Bool.not_true, Bool.not_false, Bool.not_not, wp_force, wp_forceT, wp_push, cmpX, Bool.false_eq_true, List.map_cons, List.map_nil, List.replicate, List.cons_append, List.nil_append, List.set_cons_zero, List.set_cons_succ, bindT_nm, bindT2, wipeE, partX, xs_nil, xs_set, xs_setT, xs_par, xs_sub, xs_exp, xs_if, xs_for, xs_ret, xs_ret0, xs_rai0, xs_pass, seqQ_nx, seqQ_ret, retQ_ret, retQ_nx, wp_tru_bl, wp_tru_tup, wp_tru_tl, wp_tru_int, wp_tru_non, wp_eq_str, wp_eq_int, wp_eq_bl, wp_lt_int, wp_len_tup, wp_len_tl, wp_items_tup, wp_items_tl, wp_litems_tl, wp_walk_tup, wp_walk_tl, wp_idx_tup (at0 _ _), wp_idx_tup (at1 _ _ _), wp_idx_tup (at2 _ _ _ _), wp_idx_tup (at3 _ _ _ _ _), cut1, decide_eq_true_eq, wp_tuple, wp_list_tup, wp_int, wp_addi, wp_subi, setAll, wp_unpack_tup, isiStr_str, isiTup_tup, isiTl]
  refine wp_forRun_inv (fun ds ρ S1 => ∃ acc x2, S1 = S ++ [.lst acc] ∧ ρ = [some (.tup fs), some (.loc S.length), x2] ∧ (∀ d ∈ ds, Fc d) ∧ (∀ d ∈ acc, isStrD d = true) ∧ acc.length + 2 * ds.length ≤ 2 * fs.length ∧ acc ++ ds.flatMap perOf = fs.flatMap perOf)
    (fun _ _ _ _ => rfl) ?_ ?_ fs _ _ ⟨[], none, rfl, rfl, F.fc, by simp, by simp, rfl⟩
  · rintro d ds ρ S1 ⟨acc, x2, rfl, rfl, h1, h2, h3, h4⟩
    have hln := F.ln
    have hd := h1 d (by simp)
    simp only [List.length_cons] at h3
    have hr : ∀ x ∈ ds, Fc x := fun x hx => h1 x (List.mem_cons_of_mem _ hx)
    cases hd with
    | @is_ p q hp hq =>
      simp only [ev_var, ev_glb, ev_isV, ev_cint, ev_cstr, ev_cnon, ev_cbl, ev_tup, ev_lst, ev_dct0, ev_bin, ev_notf, ev_nott, ev_and, ev_or, ev_cmp, ev_chn, ev_ite, ev_call, ev_blt, ev_mth, ev_idx, ev_slc, ev_frc, ev_lc, ev_callk, ev_neg, varX, glX, List.getElem?_cons_succ, List.getElem?_cons_zero, evs, evx, evc, asTf, asTt, wp_bind, wp_pure, wp_ite, if_true, if_false, wp_theB, Bool.not_true, Bool.not_false, Bool.not_not, wp_force, wp_forceT, wp_push, cmpX, Bool.false_eq_true, List.map_cons, List.map_nil, List.replicate, List.cons_append, List.nil_append, List.set_cons_zero, List.set_cons_succ, bindT_nm, bindT2, wipeE, partX, xs_nil, xs_set, xs_setT, xs_par, xs_sub, xs_exp, xs_if, xs_for, xs_ret, xs_ret0, xs_rai0, xs_pass, seqQ_nx, seqQ_ret, retQ_ret, retQ_nx, wp_tru_bl, wp_tru_tup, wp_tru_tl, wp_tru_int, wp_tru_non, wp_eq_str, wp_eq_int, wp_eq_bl, wp_lt_int, wp_len_tup, wp_len_tl, wp_items_tup, wp_items_tl, wp_litems_tl, wp_walk_tup, wp_walk_tl, wp_idx_tup (at0 _ _), wp_idx_tup (at1 _ _ _), wp_idx_tup (at2 _ _ _ _), wp_idx_tup (at3 _ _ _ _ _), cut1, decide_eq_true_eq, wp_tuple, wp_list_tup, wp_int, wp_addi, wp_subi, setAll, wp_unpack_tup, isiStr_str, isiTup_tup, isiTl, wp_recv_lst (m := .append) getl_append rfl, ne_is_to]
      rw [wp_append getl_append (by unfold sizeLine; omega)]
      refine ⟨acc ++ [p], _, by simp, rfl, hr, ?_, by simp only [List.length_append, List.length_cons, List.length_nil]; omega, ?_⟩
      · intro d hd
        rcases List.mem_append.mp hd with hd | hd
        · exact h2 d hd
        · rw [List.mem_singleton.mp hd]; exact hp.st
      · rw [← h4]; simp [perOf]
    | @to_ p r q hp hr' hq =>
      simp only [ev_var, ev_glb, ev_isV, ev_cint, ev_cstr, ev_cnon, ev_cbl, ev_tup, ev_lst, ev_dct0, ev_bin, ev_notf, ev_nott, ev_and, ev_or, ev_cmp, ev_chn, ev_ite, ev_call, ev_blt, ev_mth, ev_idx, ev_slc, ev_frc, ev_lc, ev_callk, ev_neg, varX, glX, List.getElem?_cons_succ, List.getElem?_cons_zero, evs, evx, evc, asTf, asTt, wp_bind, wp_pure, wp_ite, if_true, if_false, wp_theB, Bool.not_true, Bool.not_false, Bool.not_not, wp_force, wp_forceT, wp_push, cmpX, Bool.false_eq_true, List.map_cons, List.map_nil, List.replicate, List.cons_append, List.nil_append, List.set_cons_zero, List.set_cons_succ, bindT_nm, bindT2, wipeE, partX, xs_nil, xs_set, xs_setT, xs_par, xs_sub, xs_exp, xs_if, xs_for, xs_ret, xs_ret0, xs_rai0, xs_pass, seqQ_nx, seqQ_ret, retQ_ret, retQ_nx, wp_tru_bl, wp_tru_tup, wp_tru_tl, wp_tru_int, wp_tru_non, wp_eq_str, wp_eq_int, wp_eq_bl, wp_lt_int, wp_len_tup, wp_len_tl, wp_items_tup, wp_items_tl, wp_litems_tl, wp_walk_tup, wp_walk_tl, wp_idx_tup (at0 _ _), wp_idx_tup (at1 _ _ _), wp_idx_tup (at2 _ _ _ _), wp_idx_tup (at3 _ _ _ _ _), cut1, decide_eq_true_eq, wp_tuple, wp_list_tup, wp_int, wp_addi, wp_subi, setAll, wp_unpack_tup, isiStr_str, isiTup_tup, isiTl, wp_recv_lst (m := .append) getl_append rfl]
      rw [wp_append getl_append (by unfold sizeLine; omega)]
      have e : (S ++ [Ob.lst acc]).set S.length (.lst (acc ++ [p])) = S ++ [.lst (acc ++ [p])] := by simp
      simp only [e, ev_var, ev_glb, ev_isV, ev_cint, ev_cstr, ev_cnon, ev_cbl, ev_tup, ev_lst, ev_dct0, ev_bin, ev_notf, ev_nott, ev_and, ev_or, ev_cmp, ev_chn, ev_ite, ev_call, ev_blt, ev_mth, ev_idx, ev_slc, ev_frc, ev_lc, ev_callk, ev_neg, varX, glX, List.getElem?_cons_succ, List.getElem?_cons_zero, evs, evx, evc, asTf, asTt, wp_bind, wp_pure, wp_ite, if_true, if_false, wp_theB, Bool.not_true, Bool.not_false, Bool.not_not, wp_force, wp_forceT, wp_push, cmpX, Bool.false_eq_true, List.map_cons, List.map_nil, List.replicate, List.cons_append, List.nil_append, List.set_cons_zero, List.set_cons_succ, bindT_nm, bindT2, wipeE, partX, xs_nil, xs_set, xs_setT, xs_par, xs_sub, xs_exp, xs_if, xs_for, xs_ret, xs_ret0, xs_rai0, xs_pass, seqQ_nx, seqQ_ret, retQ_ret, retQ_nx, wp_tru_bl, wp_tru_tup, wp_tru_tl, wp_tru_int, wp_tru_non, wp_eq_str, wp_eq_int, wp_eq_bl, wp_lt_int, wp_len_tup, wp_len_tl, wp_items_tup, wp_items_tl, wp_litems_tl, wp_walk_tup, wp_walk_tl, wp_idx_tup (at0 _ _), wp_idx_tup (at1 _ _ _), wp_idx_tup (at2 _ _ _ _), wp_idx_tup (at3 _ _ _ _ _), cut1, decide_eq_true_eq, wp_tuple, wp_list_tup, wp_int, wp_addi, wp_subi, setAll, wp_unpack_tup, isiStr_str, isiTup_tup, isiTl, wp_recv_lst (m := .append) getl_append rfl]
      rw [wp_append getl_append (by unfold sizeLine; simp only [List.length_append, List.length_cons, List.length_nil]; omega)]
      refine ⟨acc ++ [p, q], _, by simp, rfl, hr, ?_, by simp only [List.length_append, List.length_cons, List.length_nil]; omega, ?_⟩
      · intro d hd
        rcases List.mem_append.mp hd with hd | hd
        · exact h2 d hd
        · simp only [List.mem_cons, List.not_mem_nil, or_false] at hd
          rcases hd with rfl | rfl
          · exact hp.st
          · exact hq.st
      · rw [← h4]; simp [perOf, ne_to_is]
  · rintro ρ S1 ⟨acc, x2, rfl, rfl, h1, h2, h3, h4⟩
    have e : acc = fs.flatMap perOf := by simpa using h4
    have hln := F.ln
    simp only [ev_var, ev_glb, ev_isV, ev_cint, ev_cstr, ev_cnon, ev_cbl, ev_tup, ev_lst, ev_dct0, ev_bin, ev_notf, ev_nott, ev_and, ev_or, ev_cmp, ev_chn, ev_ite, ev_call, ev_blt, ev_mth, ev_idx, ev_slc, ev_frc, ev_lc, ev_callk, ev_neg, varX, glX, List.getElem?_cons_succ, List.getElem?_cons_zero, evs, evx, evc, asTf, asTt, wp_bind, wp_pure, wp_ite, if_true, if_false, wp_theB, Bool.not_true, Bool.not_false, Bool.not_not, wp_force, wp_forceT, wp_push, cmpX, Bool.false_eq_true, List.map_cons, List.map_nil, List.replicate, List.cons_append, List.nil_append, List.set_cons_zero, List.set_cons_succ, bindT_nm, bindT2, wipeE, partX, xs_nil, xs_set, xs_setT, xs_par, xs_sub, xs_exp, xs_if, xs_for, xs_ret, xs_ret0, xs_rai0, xs_pass, seqQ_nx, seqQ_ret, retQ_ret, retQ_nx, wp_tru_bl, wp_tru_tup, wp_tru_tl, wp_tru_int, wp_tru_non, wp_eq_str, wp_eq_int, wp_eq_bl, wp_lt_int, wp_len_tup, wp_len_tl, wp_items_tup, wp_items_tl, wp_litems_tl, wp_walk_tup, wp_walk_tl, wp_idx_tup (at0 _ _), wp_idx_tup (at1 _ _ _), wp_idx_tup (at2 _ _ _ _), wp_idx_tup (at3 _ _ _ _ _), cut1, decide_eq_true_eq, wp_tuple, wp_list_tup, wp_int, wp_addi, wp_subi, setAll, wp_unpack_tup, isiStr_str, isiTup_tup, isiTl]
    have w1 : ∀ (Q : X → Sto → Prop) (E : EQ), Q (.tl (sortD (nub acc))) (S ++ [.lst acc]) → wp (bltX .sortset [.dv (.loc S.length)]) (S ++ [.lst acc]) Q E := fun Q E hq => by
      unfold wp
      have h5 : (setOk acc && sortOk (nub acc)) = true := by rw [setOk_str h2 (by simp at h3; omega), sortOk_str fun d hd => h2 d (nub_in hd)]; rfl
      simp only [bltX, bindE, litems, getl_append]
      rw [if_pos h5]
      exact hq
    refine w1 _ _ ?_
    rw [wp_forceT, tidy_new (by simp)]
    have := q (.lst acc)
    rw [e] at this ⊢
    unfold pers at this
    simpa using this
theorem lfresh_ret {P : Prg} {f ip : Nat} (hf : P.fn f = some (fLFresh ip)) (hs : P.fn ip = some fLPers) {fs : List D} (F : Fs fs) {k : Nat} {S : Sto} {E : EQ} {Q : D → Sto → Prop} (hk : 2 ≤ k)
    (q : ∀ T U, Q (.loc (S.length + 2)) (S ++ [T, U, .lst (freshD (pers fs))])) : wp (P.call k f [.tup fs]) S Q E := by
  refine wp_def hf (by omega) rfl ?_
  have hps := F.pers_str
  simp only [fLFresh, ev_var, ev_glb, ev_isV, ev_cint, ev_cstr, ev_cnon, ev_cbl, ev_tup, ev_lst, ev_dct0, ev_bin, ev_notf, ev_nott, ev_and, ev_or, ev_cmp, ev_chn, ev_ite, ev_call, ev_blt, ev_mth, ev_idx, ev_slc, ev_frc, ev_lc, ev_callk, ev_neg, varX, glX, List.getElem?_cons_succ, List.getElem?_cons_zero, evs, evx, evc, asTf, asTt, wp_bind, wp_pure, wp_ite, if_true, if_false, wp_theB, Bool.not_true, Bool.not_false, Bool.not_not, wp_force, wp_forceT, wp_push, cmpX, Bool.false_eq_true, List.map_cons, List.map_nil, List.replicate, List.cons_append, List.nil_append, List.set_cons_zero, List.set_cons_succ, bindT_nm, bindT2, wipeE, partX, xs_nil, xs_set, xs_setT, xs_par, xs_sub, xs_exp, xs_if, xs_for, xs_ret, xs_ret0, xs_rai0, xs_pass, seqQ_nx, seqQ_ret, retQ_ret, retQ_nx, wp_tru_bl, wp_tru_tup, wp_tru_tl, wp_tru_int, wp_tru_non, wp_eq_str, wp_eq_int, wp_eq_bl, wp_lt_int, wp_len_tup, wp_len_tl, wp_items_tup, wp_items_tl, wp_litems_tl, wp_walk_tup, wp_walk_tl, wp_idx_tup (at0 _ _), wp_idx_tup (at1 _ _ _), wp_idx_tup (at2 _ _ _ _), wp_idx_tup (at3 _ _ _ _ _), cut1, decide_eq_true_eq, wp_tuple, wp_list_tup, wp_int, wp_addi, wp_subi, setAll, wp_unpack_tup, isiStr_str, isiTup_tup, isiTl]
  refine lpers_ret hs F (by omega) fun T => ?_
  have eabc : ("abcdefghijklmnopqrstuvwxyz" : Str) = abc := rfl
  simp only [ev_var, ev_glb, ev_isV, ev_cint, ev_cstr, ev_cnon, ev_cbl, ev_tup, ev_lst, ev_dct0, ev_bin, ev_notf, ev_nott, ev_and, ev_or, ev_cmp, ev_chn, ev_ite, ev_call, ev_blt, ev_mth, ev_idx, ev_slc, ev_frc, ev_lc, ev_callk, ev_neg, varX, glX, List.getElem?_cons_succ, List.getElem?_cons_zero, evs, evx, evc, asTf, asTt, wp_bind, wp_pure, wp_ite, if_true, if_false, wp_theB, Bool.not_true, Bool.not_false, Bool.not_not, wp_force, wp_forceT, wp_push, cmpX, Bool.false_eq_true, List.map_cons, List.map_nil, List.replicate, List.cons_append, List.nil_append, List.set_cons_zero, List.set_cons_succ, bindT_nm, bindT2, wipeE, partX, xs_nil, xs_set, xs_setT, xs_par, xs_sub, xs_exp, xs_if, xs_for, xs_ret, xs_ret0, xs_rai0, xs_pass, seqQ_nx, seqQ_ret, retQ_ret, retQ_nx, wp_tru_bl, wp_tru_tup, wp_tru_tl, wp_tru_int, wp_tru_non, wp_eq_str, wp_eq_int, wp_eq_bl, wp_lt_int, wp_len_tup, wp_len_tl, wp_items_tup, wp_items_tl, wp_litems_tl, wp_walk_tup, wp_walk_tl, wp_idx_tup (at0 _ _), wp_idx_tup (at1 _ _ _), wp_idx_tup (at2 _ _ _ _), wp_idx_tup (at3 _ _ _ _ _), cut1, decide_eq_true_eq, wp_tuple, wp_list_tup, wp_int, wp_addi, wp_subi, setAll, wp_unpack_tup, isiStr_str, isiTup_tup, isiTl, eabc, wp_walk_str abc_len]
  refine wp_calm (wp_lcRun_map (g := fun d => match d with
    | .str c => some (D.str (("n" : Str) ++ c))
    | _ => none) ?_ ?_)
  · intro d hd
    obtain ⟨c, _, rfl⟩ := List.mem_map.mp hd
    simp only [ev_var, ev_glb, ev_isV, ev_cint, ev_cstr, ev_cnon, ev_cbl, ev_tup, ev_lst, ev_dct0, ev_bin, ev_notf, ev_nott, ev_and, ev_or, ev_cmp, ev_chn, ev_ite, ev_call, ev_blt, ev_mth, ev_idx, ev_slc, ev_frc, ev_lc, ev_callk, ev_neg, varX, glX, List.getElem?_cons_succ, List.getElem?_cons_zero, evs, evx, evc, asTf, asTt, wp_bind, wp_pure, wp_ite, if_true, if_false, wp_theB, Bool.not_true, Bool.not_false, Bool.not_not, wp_force, wp_forceT, wp_push, cmpX, Bool.false_eq_true, List.map_cons, List.map_nil, List.replicate, List.cons_append, List.nil_append, List.set_cons_zero, List.set_cons_succ, bindT_nm, bindT2, wipeE, partX, xs_nil, xs_set, xs_setT, xs_par, xs_sub, xs_exp, xs_if, xs_for, xs_ret, xs_ret0, xs_rai0, xs_pass, seqQ_nx, seqQ_ret, retQ_ret, retQ_nx, wp_tru_bl, wp_tru_tup, wp_tru_tl, wp_tru_int, wp_tru_non, wp_eq_str, wp_eq_int, wp_eq_bl, wp_lt_int, wp_len_tup, wp_len_tl, wp_items_tup, wp_items_tl, wp_litems_tl, wp_walk_tup, wp_walk_tl, wp_idx_tup (at0 _ _), wp_idx_tup (at1 _ _ _), wp_idx_tup (at2 _ _ _ _), wp_idx_tup (at3 _ _ _ _ _), cut1, decide_eq_true_eq, wp_tuple, wp_list_tup, wp_int, wp_addi, wp_subi, setAll, wp_unpack_tup, isiStr_str, isiTup_tup, isiTl, wp_adds (nW_len _), true_and]
  · rw [List.reverse_nil, List.nil_append, nW_map]
    refine wp_calm (wp_lcRun_map (g := fun d => if decide (d ∉ pers fs) then some d else none) ?_ ?_)
    · intro d hd
      obtain ⟨h1, h2⟩ := nW_sim hd
      have hl : (S ++ [T, Ob.lst (pers fs)])[S.length + 1]? = some (.lst (pers fs)) := by simp
      simp only [ev_var, ev_glb, ev_isV, ev_cint, ev_cstr, ev_cnon, ev_cbl, ev_tup, ev_lst, ev_dct0, ev_bin, ev_notf, ev_nott, ev_and, ev_or, ev_cmp, ev_chn, ev_ite, ev_call, ev_blt, ev_mth, ev_idx, ev_slc, ev_frc, ev_lc, ev_callk, ev_neg, varX, glX, List.getElem?_cons_succ, List.getElem?_cons_zero, evs, evx, evc, asTf, asTt, wp_bind, wp_pure, wp_ite, if_true, if_false, wp_theB, Bool.not_true, Bool.not_false, Bool.not_not, wp_force, wp_forceT, wp_push, cmpX, Bool.false_eq_true, List.map_cons, List.map_nil, List.replicate, List.cons_append, List.nil_append, List.set_cons_zero, List.set_cons_succ, bindT_nm, bindT2, wipeE, partX, xs_nil, xs_set, xs_setT, xs_par, xs_sub, xs_exp, xs_if, xs_for, xs_ret, xs_ret0, xs_rai0, xs_pass, seqQ_nx, seqQ_ret, retQ_ret, retQ_nx, wp_tru_bl, wp_tru_tup, wp_tru_tl, wp_tru_int, wp_tru_non, wp_eq_str, wp_eq_int, wp_eq_bl, wp_lt_int, wp_len_tup, wp_len_tl, wp_items_tup, wp_items_tl, wp_litems_tl, wp_walk_tup, wp_walk_tl, wp_idx_tup (at0 _ _), wp_idx_tup (at1 _ _ _), wp_idx_tup (at2 _ _ _ _), wp_idx_tup (at3 _ _ _ _ _), cut1, decide_eq_true_eq, wp_tuple, wp_list_tup, wp_int, wp_addi, wp_subi, setAll, wp_unpack_tup, isiStr_str, isiTup_tup, isiTl, wp_in_loc hl h1 h2 (strs_sim hps).1, true_and]
      by_cases h : d ∈ pers fs <;> simp [h]
    · rw [List.reverse_nil, List.nil_append, filterMap_if, wp_slc_tl, wp_forceT]
      show Q _ (tidy S (.loc _) (S ++ [T, .lst (pers fs)] ++ [.lst (cutD _ none (some ((3 : Nat) : Int)))]))
      rw [cutTo, tidy_new (by simp)]
      have e : S ++ [T, Ob.lst (pers fs)] ++ [Ob.lst (List.take 3 (nWords.filter fun d => decide (d ∉ pers fs)))] = S ++ [T, .lst (pers fs), .lst (freshD (pers fs))] := by rw [List.append_assoc]; rfl
      have e2 : (S ++ [T, Ob.lst (pers fs)]).length = S.length + 2 := by simp
      rw [e, e2]
      exact q T (.lst (pers fs))
end Kd
/-! asked_facts, goal_of and the law's own agree. -/
namespace Kd
open PySem
def fAskF (ifr ipc ip ga : Nat) : Fn := ⟨2, 7, 
  [.setT [4, 5, 6] (.call ifr [(.var 0)]),
  .if_ (.cmp .eq (.idx (.var 1) (.cint 0)) (.cstr "role"))
    [.ret (.bin .add (.var 0) (.tup [(.tup [(.cstr "to"), (.var 4), (.idx (.var 1) (.cint 1)), (.var 5)])]))]
    [],
  .if_ (.cmp .eq (.idx (.var 1) (.cint 0)) (.cstr "chain"))
    [.ret (.bin .add (.var 0) (.tup [(.tup [(.cstr "to"), (.var 4), (.idx (.var 1) (.cint 1)), (.var 5)]), (.tup [(.cstr "to"), (.var 5), (.idx (.var 1) (.cint 2)), (.var 6)])]))]
    [],
  .set 2 (.lst []),
  .for_ (.nm 3) .seq [(.call ipc [(.var 1)])]
    [.if_ (.and_ (.cmp .nin (.var 3) (.call ip [(.var 0)])) (.cmp .nin (.tup [(.cstr "is"), (.var 3), (.glb ga)]) (.var 2)))
      [.exp (.mth .append (.var 2) [(.tup [(.cstr "is"), (.var 3), (.glb ga)])])]
      []],
  .ret (.bin .add (.var 0) (.blt .tuple [(.var 2)]))]⟩
def fGoalO (ifr : Nat) : Fn := ⟨2, 6, 
  [.setT [2, 3, 4] (.lc (.tup [(.cstr "person"), (.var 5)]) (.nm 5) .seq [(.call ifr [(.var 0)])] [] [5]),
  .if_ (.cmp .eq (.idx (.var 1) (.cint 0)) (.cstr "below"))
    [.ret (.var 1)]
    [],
  .if_ (.cmp .eq (.idx (.var 1) (.cint 0)) (.cstr "is"))
    [.ret (.tup [(.cstr "below"), (.tup [(.cstr "person"), (.idx (.var 1) (.cint 1))]), (.idx (.var 1) (.cint 2))])]
    [],
  .if_ (.cmp .eq (.idx (.var 1) (.cint 0)) (.cstr "to"))
    [.ret (.tup [(.cstr "link"), (.tup [(.cstr "person"), (.idx (.var 1) (.cint 1))]), (.idx (.var 1) (.cint 2)), (.tup [(.cstr "person"), (.idx (.var 1) (.cint 3))])])]
    [],
  .if_ (.cmp .eq (.idx (.var 1) (.cint 0)) (.cstr "role"))
    [.ret (.tup [(.cstr "link"), (.var 2), (.idx (.var 1) (.cint 2)), (.var 3)])]
    [],
  .ret (.tup [(.cstr "link"), (.var 2), (.idx (.var 1) (.cint 3)), (.var 4)])]⟩
def fLAsk (ifr ip : Nat) : Fn := ⟨2, 7, 
  [.setT [4, 5, 6] (.call ifr [(.var 0)]),
  .if_ (.cmp .eq (.idx (.var 1) (.cint 0)) (.cstr "below"))
    [.ret (.var 0)]
    [],
  .if_ (.cmp .eq (.idx (.var 1) (.cint 0)) (.cstr "role"))
    [.ret (.bin .add (.var 0) (.tup [(.tup [(.cstr "to"), (.var 4), (.idx (.var 1) (.cint 1)), (.var 5)])]))]
    [],
  .if_ (.cmp .eq (.idx (.var 1) (.cint 0)) (.cstr "chain"))
    [.ret (.bin .add (.var 0) (.tup [(.tup [(.cstr "to"), (.var 4), (.idx (.var 1) (.cint 1)), (.var 5)]), (.tup [(.cstr "to"), (.var 5), (.idx (.var 1) (.cint 2)), (.var 6)])]))]
    [],
  .set 2 (.var 0),
  .for_ (.nm 3) .seq [(.bin .add (.lst [(.idx (.var 1) (.cint 1))]) (.ite (.cmp .eq (.idx (.var 1) (.cint 0)) (.cstr "to")) (.lst [(.idx (.var 1) (.cint 3))]) (.lst [])))]
    [.if_ (.cmp .nin (.var 3) (.call ip [(.var 2)]))
      [.set 2 (.bin .add (.var 2) (.tup [(.tup [(.cstr "is"), (.var 3), (.tup [(.cstr "any")])])]))]
      []],
  .ret (.var 2)]⟩
def fLGoal (ifr : Nat) : Fn := ⟨2, 5, 
  [.setT [2, 3, 4] (.call ifr [(.var 0)]),
  .if_ (.cmp .eq (.idx (.var 1) (.cint 0)) (.cstr "below"))
    [.ret (.var 1)]
    [],
  .if_ (.cmp .eq (.idx (.var 1) (.cint 0)) (.cstr "is"))
    [.ret (.tup [(.cstr "below"), (.tup [(.cstr "person"), (.idx (.var 1) (.cint 1))]), (.idx (.var 1) (.cint 2))])]
    [],
  .if_ (.cmp .eq (.idx (.var 1) (.cint 0)) (.cstr "to"))
    [.ret (.tup [(.cstr "link"), (.tup [(.cstr "person"), (.idx (.var 1) (.cint 1))]), (.idx (.var 1) (.cint 2)), (.tup [(.cstr "person"), (.idx (.var 1) (.cint 3))])])]
    [],
  .if_ (.cmp .eq (.idx (.var 1) (.cint 0)) (.cstr "role"))
    [.ret (.tup [(.cstr "link"), (.tup [(.cstr "person"), (.var 2)]), (.idx (.var 1) (.cint 2)), (.tup [(.cstr "person"), (.var 3)])])]
    [],
  .ret (.tup [(.cstr "link"), (.tup [(.cstr "person"), (.var 2)]), (.idx (.var 1) (.cint 3)), (.tup [(.cstr "person"), (.var 4)])])]⟩
def tTo (a b c : D) : D := .tup [.str "to", a, b, c]
def isAny (p : D) : D := .tup [.str "is", p, .tup [.str "any"]]
/-- the facts with which a claim is asked -/
def askD (fs : List D) (x y z : D) : D → List D
  | .tup [.str h, a, b] => if h = "role" then fs ++ [tTo x a y] else if h = "is" then (if a ∈ pers fs then fs else fs ++ [isAny a]) else fs
  | .tup [.str h, a, b, c] => if h = "chain" then fs ++ [tTo x a y, tTo y b z] else
      fs ++ (if a ∈ pers fs then (if c ∈ pers fs then [] else [isAny c]) else if c ∈ pers fs ∨ c = a then [isAny a] else [isAny a, isAny c])
  | _ => fs
def perD (x : D) : D := .tup [.str "person", x]
def goalD (x y z : D) : D → D
  | .tup [.str h, a, b] => if h = "below" then .tup [.str h, a, b] else if h = "is" then .tup [.str "below", perD a, b] else .tup [.str "link", perD x, b, perD y]
  | .tup [.str h, a, b, c] => if h = "to" then .tup [.str "link", perD a, b, perD c] else .tup [.str "link", perD x, c, perD z]
  | d => d
theorem und_any {n : Nat} : ∀ {d : D}, Pl d → d.und n = true := fun h => h.und n
section
variable {P : Prg} {k : Nat} {S : Sto} {E : EQ} {Q : D → Sto → Prop}
theorem pl_app {a b : List D} (ha : ∀ d ∈ a, Pl d) (hb : ∀ d ∈ b, Pl d) : ∀ d ∈ a ++ b, Pl d := fun d hd => by
  rcases List.mem_append.mp hd with h | h
  · exact ha d h
  · exact hb d h
theorem pl_isAny {p : D} (h : Pl p) : Pl (isAny p) := .t3 (.s (by decide)) h (.tup fun d hd => by rw [List.mem_singleton.mp hd]; exact .s (by decide))
theorem pl_tTo {a b c : D} (ha : Pl a) (hb : Pl b) (hc : Pl c) : Pl (tTo a b c) := .t4 (.s (by decide)) ha hb hc
theorem askD_pl {fs : List D} (F : Fs fs) {x y z : D} (hx : Pl x) (hy : Pl y) (hz : Pl z) {c : D} (h : Cl c) : (∀ d ∈ askD fs x y z c, Pl d) ∧ (askD fs x y z c).length ≤ fs.length + 2 := by
  have h0 : ∀ d ∈ fs, Pl d := fun d hd => (F.fc d hd).pl
  cases h with
  | below hp hq => simp only [askD, ne_below_role, ne_below_is, if_false]; exact ⟨h0, by omega⟩
  | role hp hq =>
    simp only [askD, if_true]
    refine ⟨pl_app h0 fun d hd => ?_, by simp⟩
    rw [List.mem_singleton.mp hd]
    exact pl_tTo hx hp.pl hy
  | chain hp hr hq =>
    simp only [askD, if_true]
    refine ⟨pl_app h0 fun d hd => ?_, by simp⟩
    simp only [List.mem_cons, List.not_mem_nil, or_false] at hd
    rcases hd with rfl | rfl
    · exact pl_tTo hx hp.pl hy
    · exact pl_tTo hy hr.pl hz
  | fact h =>
    cases h with
    | is_ hp hq =>
      simp only [askD, ne_is_role, if_false, if_true]
      split
      · exact ⟨h0, by omega⟩
      · refine ⟨pl_app h0 fun d hd => ?_, by simp⟩
        rw [List.mem_singleton.mp hd]
        exact pl_isAny hp.pl
    | to_ hp hr hq =>
      simp only [askD, ne_to_chain, if_false]
      have : ∀ l : List D, l.length ≤ 2 → (∀ d ∈ l, Pl d) → (∀ d ∈ fs ++ l, Pl d) ∧ (fs ++ l).length ≤ fs.length + 2 := fun l h1 h2 => ⟨pl_app h0 h2, by rw [List.length_append]; omega⟩
      split
      · split
        · exact this _ (by simp) (by simp)
        · refine this _ (by simp) fun d hd => ?_
          rw [List.mem_singleton.mp hd]
          exact pl_isAny hq.pl
      · split
        · refine this _ (by simp) fun d hd => ?_
          rw [List.mem_singleton.mp hd]
          exact pl_isAny hp.pl
        · refine this _ (by simp) fun d hd => ?_
          simp only [List.mem_cons, List.not_mem_nil, or_false] at hd
          rcases hd with rfl | rfl
          · exact pl_isAny hp.pl
          · exact pl_isAny hq.pl
theorem goalD_pl {x y z : D} (hx : Pl x) (hy : Pl y) (hz : Pl z) {c : D} (h : Cl c) : Pl (goalD x y z c) := by
  have hp : ∀ {a : D}, Pl a → Pl (perD a) := fun h => .t2 (.s (by decide)) h
  cases h with
  | below h1 h2 => exact .t3 (.s (by decide)) h1.pl h2.pl
  | role h1 h2 => simp only [goalD, ne_role_below, ne_role_is, if_false]; exact .t4 (.s (by decide)) (hp hx) h2.pl (hp hy)
  | chain h1 h2 h3 => simp only [goalD, ne_chain_to, if_false]; exact .t4 (.s (by decide)) (hp hx) h3.pl (hp hz)
  | fact h =>
    cases h with
    | is_ h1 h2 => simp only [goalD, ne_is_below, if_false, if_true]; exact .t3 (.s (by decide)) (hp h1.pl) h2.pl
    | to_ h1 h2 h3 => simp only [goalD, if_true]; exact .t4 (.s (by decide)) (hp h1.pl) h2.pl (hp h3.pl)
theorem tidy_pl {S T : Sto} {d : D} (h : Pl d) : tidy S d (S ++ T) = S := tidy_app (h.und _)
theorem goalO_ok {f ifr ip ipc g : Nat} (hf : P.fn f = some (fGoalO ifr)) (hfr : P.fn ifr = some (fFresh ip g)) (hs : P.fn ip = some (fPin ipc)) (hp : P.fn ipc = some fPer) (hg : P.gl g = some (.str abc)) {fs : List D} (F : Fs fs) {c : D} (hc : Cl c) {x y z : Str} (e : freshD (pers fs) = [.str x, .str y, .str z]) (hx : x.length ≤ 8) (hy : y.length ≤ 8) (hz : z.length ≤ 8) :
    Ret P 4 f [.tup fs, c] (goalD (.str x) (.str y) (.str z) c) := fun k S E Q hk q => by
  refine wp_def hf (by omega) rfl ?_
  have pg := goalD_pl (x := .str x) (y := .str y) (z := .str z) (.s (by omega)) (.s (by omega)) (.s (by omega)) hc
  simp only [fGoalO, ev_var, ev_glb, ev_isV, ev_cint, ev_cstr, ev_cnon, ev_cbl, ev_tup, ev_lst, ev_dct0, ev_bin, ev_notf, ev_nott, ev_and, ev_or, ev_cmp, ev_chn, ev_ite, ev_call, ev_blt, ev_mth, ev_idx, ev_slc, ev_frc, ev_lc, ev_callk, ev_neg, varX, glX, List.getElem?_cons_succ, List.getElem?_cons_zero, evs, evx, evc, asTf, asTt, wp_bind, wp_pure, wp_ite, if_true, if_false, wp_theB, Bool.not_true, Bool.not_false, Bool.not_not, wp_force, wp_forceT, wp_push, cmpX, Bool.false_eq_true, List.map_cons, List.map_nil, List.replicate, List.cons_append, List.nil_append, List.set_cons_zero, List.set_cons_succ, bindT_nm, bindT2, wipeE, partX, xs_nil, xs_set, xs_setT, xs_par, xs_sub, xs_exp, xs_if, xs_for, xs_ret, xs_ret0, xs_rai0, xs_pass, seqQ_nx, seqQ_ret, retQ_ret, retQ_nx, wp_tru_bl, wp_tru_tup, wp_tru_tl, wp_tru_int, wp_tru_non, wp_eq_str, wp_eq_int, wp_eq_bl, wp_lt_int, wp_len_tup, wp_len_tl, wp_items_tup, wp_items_tl, wp_litems_tl, wp_walk_tup, wp_walk_tl, wp_idx_tup (at0 _ _), wp_idx_tup (at1 _ _ _), wp_idx_tup (at2 _ _ _ _), wp_idx_tup (at3 _ _ _ _ _), cut1, decide_eq_true_eq, wp_tuple, wp_list_tup, wp_int, wp_addi, wp_subi, setAll, wp_unpack_tup, isiStr_str, isiTup_tup, isiTl]
  refine fresh_ret hfr hs hp hg F (by omega) ?_
  rw [e]
  simp only [ev_var, ev_glb, ev_isV, ev_cint, ev_cstr, ev_cnon, ev_cbl, ev_tup, ev_lst, ev_dct0, ev_bin, ev_notf, ev_nott, ev_and, ev_or, ev_cmp, ev_chn, ev_ite, ev_call, ev_blt, ev_mth, ev_idx, ev_slc, ev_frc, ev_lc, ev_callk, ev_neg, varX, glX, List.getElem?_cons_succ, List.getElem?_cons_zero, evs, evx, evc, asTf, asTt, wp_bind, wp_pure, wp_ite, if_true, if_false, wp_theB, Bool.not_true, Bool.not_false, Bool.not_not, wp_force, wp_forceT, wp_push, cmpX, Bool.false_eq_true, List.map_cons, List.map_nil, List.replicate, List.cons_append, List.nil_append, List.set_cons_zero, List.set_cons_succ, bindT_nm, bindT2, wipeE, partX, xs_nil, xs_set, xs_setT, xs_par, xs_sub, xs_exp, xs_if, xs_for, xs_ret, xs_ret0, xs_rai0, xs_pass, seqQ_nx, seqQ_ret, retQ_ret, retQ_nx, wp_tru_bl, wp_tru_tup, wp_tru_tl, wp_tru_int, wp_tru_non, wp_eq_str, wp_eq_int, wp_eq_bl, wp_lt_int, wp_len_tup, wp_len_tl, wp_items_tup, wp_items_tl, wp_litems_tl, wp_walk_tup, wp_walk_tl, wp_idx_tup (at0 _ _), wp_idx_tup (at1 _ _ _), wp_idx_tup (at2 _ _ _ _), wp_idx_tup (at3 _ _ _ _ _), cut1, decide_eq_true_eq, wp_tuple, wp_list_tup, wp_int, wp_addi, wp_subi, setAll, wp_unpack_tup, isiStr_str, isiTup_tup, isiTl, wp_walk_loc getl_append]
  have hst : ∀ T, still [(S.length, [D.str x, D.str y, D.str z])] (S ++ [Ob.lst [D.str x, D.str y, D.str z]] ++ T) = true := fun T => by simp [still]
  have T3 : ∀ {d : D} {T : Sto}, Pl d → tidy S d (S ++ [Ob.lst [D.str x, D.str y, D.str z]] ++ T) = S := fun h => by rw [List.append_assoc]; exact tidy_pl h
  have hs0 := hst []
  rw [List.append_nil] at hs0
  refine wp_calm (wp_lcRun_mapg (g := fun d => some (perD d)) hs0 ?_ ?_)
  · intro d hd
    simp only [ev_var, ev_glb, ev_isV, ev_cint, ev_cstr, ev_cnon, ev_cbl, ev_tup, ev_lst, ev_dct0, ev_bin, ev_notf, ev_nott, ev_and, ev_or, ev_cmp, ev_chn, ev_ite, ev_call, ev_blt, ev_mth, ev_idx, ev_slc, ev_frc, ev_lc, ev_callk, ev_neg, varX, glX, List.getElem?_cons_succ, List.getElem?_cons_zero, evs, evx, evc, asTf, asTt, wp_bind, wp_pure, wp_ite, if_true, if_false, wp_theB, Bool.not_true, Bool.not_false, Bool.not_not, wp_force, wp_forceT, wp_push, cmpX, Bool.false_eq_true, List.map_cons, List.map_nil, List.replicate, List.cons_append, List.nil_append, List.set_cons_zero, List.set_cons_succ, bindT_nm, bindT2, wipeE, partX, xs_nil, xs_set, xs_setT, xs_par, xs_sub, xs_exp, xs_if, xs_for, xs_ret, xs_ret0, xs_rai0, xs_pass, seqQ_nx, seqQ_ret, retQ_ret, retQ_nx, wp_tru_bl, wp_tru_tup, wp_tru_tl, wp_tru_int, wp_tru_non, wp_eq_str, wp_eq_int, wp_eq_bl, wp_lt_int, wp_len_tup, wp_len_tl, wp_items_tup, wp_items_tl, wp_litems_tl, wp_walk_tup, wp_walk_tl, wp_idx_tup (at0 _ _), wp_idx_tup (at1 _ _ _), wp_idx_tup (at2 _ _ _ _), wp_idx_tup (at3 _ _ _ _ _), cut1, decide_eq_true_eq, wp_tuple, wp_list_tup, wp_int, wp_addi, wp_subi, setAll, wp_unpack_tup, isiStr_str, isiTup_tup, isiTl, true_and]
    trivial
  rw [List.reverse_nil, List.nil_append, filterMap_some, List.map_cons, List.map_cons, List.map_cons, List.map_nil]
  have hl : ∀ (A : Sto) (o : Ob), (A ++ [o])[A.length]? = some o := fun A o => by simp
  rw [wp_unpack_loc (n := [2, 3, 4].length) (hl _ _) (by rfl)]
  cases hc with
  | below h1 h2 =>
    simp only [goalD, if_true] at pg q
    simp only [ev_var, ev_glb, ev_isV, ev_cint, ev_cstr, ev_cnon, ev_cbl, ev_tup, ev_lst, ev_dct0, ev_bin, ev_notf, ev_nott, ev_and, ev_or, ev_cmp, ev_chn, ev_ite, ev_call, ev_blt, ev_mth, ev_idx, ev_slc, ev_frc, ev_lc, ev_callk, ev_neg, varX, glX, List.getElem?_cons_succ, List.getElem?_cons_zero, evs, evx, evc, asTf, asTt, wp_bind, wp_pure, wp_ite, if_true, if_false, wp_theB, Bool.not_true, Bool.not_false, Bool.not_not, wp_force, wp_forceT, wp_push, cmpX, Bool.false_eq_true, List.map_cons, List.map_nil, List.replicate, List.cons_append, List.nil_append, List.set_cons_zero, List.set_cons_succ, bindT_nm, bindT2, wipeE, partX, xs_nil, xs_set, xs_setT, xs_par, xs_sub, xs_exp, xs_if, xs_for, xs_ret, xs_ret0, xs_rai0, xs_pass, seqQ_nx, seqQ_ret, retQ_ret, retQ_nx, wp_tru_bl, wp_tru_tup, wp_tru_tl, wp_tru_int, wp_tru_non, wp_eq_str, wp_eq_int, wp_eq_bl, wp_lt_int, wp_len_tup, wp_len_tl, wp_items_tup, wp_items_tl, wp_litems_tl, wp_walk_tup, wp_walk_tl, wp_idx_tup (at0 _ _), wp_idx_tup (at1 _ _ _), wp_idx_tup (at2 _ _ _ _), wp_idx_tup (at3 _ _ _ _ _), cut1, decide_eq_true_eq, wp_tuple, wp_list_tup, wp_int, wp_addi, wp_subi, setAll, wp_unpack_tup, isiStr_str, isiTup_tup, isiTl, T3 pg]; exact q
  | role h1 h2 =>
    simp only [ev_var, ev_glb, ev_isV, ev_cint, ev_cstr, ev_cnon, ev_cbl, ev_tup, ev_lst, ev_dct0, ev_bin, ev_notf, ev_nott, ev_and, ev_or, ev_cmp, ev_chn, ev_ite, ev_call, ev_blt, ev_mth, ev_idx, ev_slc, ev_frc, ev_lc, ev_callk, ev_neg, varX, glX, List.getElem?_cons_succ, List.getElem?_cons_zero, evs, evx, evc, asTf, asTt, wp_bind, wp_pure, wp_ite, if_true, if_false, wp_theB, Bool.not_true, Bool.not_false, Bool.not_not, wp_force, wp_forceT, wp_push, cmpX, Bool.false_eq_true, List.map_cons, List.map_nil, List.replicate, List.cons_append, List.nil_append, List.set_cons_zero, List.set_cons_succ, bindT_nm, bindT2, wipeE, partX, xs_nil, xs_set, xs_setT, xs_par, xs_sub, xs_exp, xs_if, xs_for, xs_ret, xs_ret0, xs_rai0, xs_pass, seqQ_nx, seqQ_ret, retQ_ret, retQ_nx, wp_tru_bl, wp_tru_tup, wp_tru_tl, wp_tru_int, wp_tru_non, wp_eq_str, wp_eq_int, wp_eq_bl, wp_lt_int, wp_len_tup, wp_len_tl, wp_items_tup, wp_items_tl, wp_litems_tl, wp_walk_tup, wp_walk_tl, wp_idx_tup (at0 _ _), wp_idx_tup (at1 _ _ _), wp_idx_tup (at2 _ _ _ _), wp_idx_tup (at3 _ _ _ _ _), cut1, decide_eq_true_eq, wp_tuple, wp_list_tup, wp_int, wp_addi, wp_subi, setAll, wp_unpack_tup, isiStr_str, isiTup_tup, isiTl, ne_role_below, ne_role_is, ne_role_to]
    simp only [goalD, ne_role_below, ne_role_is, if_false] at pg q
    rw [T3 pg]; exact q
  | chain h1 h2 h3 =>
    simp only [ev_var, ev_glb, ev_isV, ev_cint, ev_cstr, ev_cnon, ev_cbl, ev_tup, ev_lst, ev_dct0, ev_bin, ev_notf, ev_nott, ev_and, ev_or, ev_cmp, ev_chn, ev_ite, ev_call, ev_blt, ev_mth, ev_idx, ev_slc, ev_frc, ev_lc, ev_callk, ev_neg, varX, glX, List.getElem?_cons_succ, List.getElem?_cons_zero, evs, evx, evc, asTf, asTt, wp_bind, wp_pure, wp_ite, if_true, if_false, wp_theB, Bool.not_true, Bool.not_false, Bool.not_not, wp_force, wp_forceT, wp_push, cmpX, Bool.false_eq_true, List.map_cons, List.map_nil, List.replicate, List.cons_append, List.nil_append, List.set_cons_zero, List.set_cons_succ, bindT_nm, bindT2, wipeE, partX, xs_nil, xs_set, xs_setT, xs_par, xs_sub, xs_exp, xs_if, xs_for, xs_ret, xs_ret0, xs_rai0, xs_pass, seqQ_nx, seqQ_ret, retQ_ret, retQ_nx, wp_tru_bl, wp_tru_tup, wp_tru_tl, wp_tru_int, wp_tru_non, wp_eq_str, wp_eq_int, wp_eq_bl, wp_lt_int, wp_len_tup, wp_len_tl, wp_items_tup, wp_items_tl, wp_litems_tl, wp_walk_tup, wp_walk_tl, wp_idx_tup (at0 _ _), wp_idx_tup (at1 _ _ _), wp_idx_tup (at2 _ _ _ _), wp_idx_tup (at3 _ _ _ _ _), cut1, decide_eq_true_eq, wp_tuple, wp_list_tup, wp_int, wp_addi, wp_subi, setAll, wp_unpack_tup, isiStr_str, isiTup_tup, isiTl, ne_chain_below, ne_chain_is, ne_chain_to, ne_chain_role]
    simp only [goalD, ne_chain_to, if_false] at pg q
    rw [T3 pg]; exact q
  | fact h =>
    cases h with
    | is_ h1 h2 =>
      simp only [ev_var, ev_glb, ev_isV, ev_cint, ev_cstr, ev_cnon, ev_cbl, ev_tup, ev_lst, ev_dct0, ev_bin, ev_notf, ev_nott, ev_and, ev_or, ev_cmp, ev_chn, ev_ite, ev_call, ev_blt, ev_mth, ev_idx, ev_slc, ev_frc, ev_lc, ev_callk, ev_neg, varX, glX, List.getElem?_cons_succ, List.getElem?_cons_zero, evs, evx, evc, asTf, asTt, wp_bind, wp_pure, wp_ite, if_true, if_false, wp_theB, Bool.not_true, Bool.not_false, Bool.not_not, wp_force, wp_forceT, wp_push, cmpX, Bool.false_eq_true, List.map_cons, List.map_nil, List.replicate, List.cons_append, List.nil_append, List.set_cons_zero, List.set_cons_succ, bindT_nm, bindT2, wipeE, partX, xs_nil, xs_set, xs_setT, xs_par, xs_sub, xs_exp, xs_if, xs_for, xs_ret, xs_ret0, xs_rai0, xs_pass, seqQ_nx, seqQ_ret, retQ_ret, retQ_nx, wp_tru_bl, wp_tru_tup, wp_tru_tl, wp_tru_int, wp_tru_non, wp_eq_str, wp_eq_int, wp_eq_bl, wp_lt_int, wp_len_tup, wp_len_tl, wp_items_tup, wp_items_tl, wp_litems_tl, wp_walk_tup, wp_walk_tl, wp_idx_tup (at0 _ _), wp_idx_tup (at1 _ _ _), wp_idx_tup (at2 _ _ _ _), wp_idx_tup (at3 _ _ _ _ _), cut1, decide_eq_true_eq, wp_tuple, wp_list_tup, wp_int, wp_addi, wp_subi, setAll, wp_unpack_tup, isiStr_str, isiTup_tup, isiTl, ne_is_below]
      simp only [goalD, ne_is_below, if_false, if_true] at pg q
      rw [← perD, T3 pg]; exact q
    | to_ h1 h2 h3 =>
      simp only [ev_var, ev_glb, ev_isV, ev_cint, ev_cstr, ev_cnon, ev_cbl, ev_tup, ev_lst, ev_dct0, ev_bin, ev_notf, ev_nott, ev_and, ev_or, ev_cmp, ev_chn, ev_ite, ev_call, ev_blt, ev_mth, ev_idx, ev_slc, ev_frc, ev_lc, ev_callk, ev_neg, varX, glX, List.getElem?_cons_succ, List.getElem?_cons_zero, evs, evx, evc, asTf, asTt, wp_bind, wp_pure, wp_ite, if_true, if_false, wp_theB, Bool.not_true, Bool.not_false, Bool.not_not, wp_force, wp_forceT, wp_push, cmpX, Bool.false_eq_true, List.map_cons, List.map_nil, List.replicate, List.cons_append, List.nil_append, List.set_cons_zero, List.set_cons_succ, bindT_nm, bindT2, wipeE, partX, xs_nil, xs_set, xs_setT, xs_par, xs_sub, xs_exp, xs_if, xs_for, xs_ret, xs_ret0, xs_rai0, xs_pass, seqQ_nx, seqQ_ret, retQ_ret, retQ_nx, wp_tru_bl, wp_tru_tup, wp_tru_tl, wp_tru_int, wp_tru_non, wp_eq_str, wp_eq_int, wp_eq_bl, wp_lt_int, wp_len_tup, wp_len_tl, wp_items_tup, wp_items_tl, wp_litems_tl, wp_walk_tup, wp_walk_tl, wp_idx_tup (at0 _ _), wp_idx_tup (at1 _ _ _), wp_idx_tup (at2 _ _ _ _), wp_idx_tup (at3 _ _ _ _ _), cut1, decide_eq_true_eq, wp_tuple, wp_list_tup, wp_int, wp_addi, wp_subi, setAll, wp_unpack_tup, isiStr_str, isiTup_tup, isiTl, ne_to_below, ne_to_is]
      simp only [goalD, if_true] at pg q
      rw [← perD, ← perD, T3 pg]; exact q
theorem lgoal_ok {f ifr ip : Nat} (hf : P.fn f = some (fLGoal ifr)) (hfr : P.fn ifr = some (fLFresh ip)) (hs : P.fn ip = some fLPers) {fs : List D} (F : Fs fs) {c : D} (hc : Cl c) {x y z : Str} (e : freshD (pers fs) = [.str x, .str y, .str z]) (hx : x.length ≤ 8) (hy : y.length ≤ 8) (hz : z.length ≤ 8) :
    Ret P 3 f [.tup fs, c] (goalD (.str x) (.str y) (.str z) c) := fun k S E Q hk q => by
  refine wp_def hf (by omega) rfl ?_
  have pg := goalD_pl (x := .str x) (y := .str y) (z := .str z) (.s (by omega)) (.s (by omega)) (.s (by omega)) hc
  simp only [fLGoal, ev_var, ev_glb, ev_isV, ev_cint, ev_cstr, ev_cnon, ev_cbl, ev_tup, ev_lst, ev_dct0, ev_bin, ev_notf, ev_nott, ev_and, ev_or, ev_cmp, ev_chn, ev_ite, ev_call, ev_blt, ev_mth, ev_idx, ev_slc, ev_frc, ev_lc, ev_callk, ev_neg, varX, glX, List.getElem?_cons_succ, List.getElem?_cons_zero, evs, evx, evc, asTf, asTt, wp_bind, wp_pure, wp_ite, if_true, if_false, wp_theB, Bool.not_true, Bool.not_false, Bool.not_not, wp_force, wp_forceT, wp_push, cmpX, Bool.false_eq_true, List.map_cons, List.map_nil, List.replicate, List.cons_append, List.nil_append, List.set_cons_zero, List.set_cons_succ, bindT_nm, bindT2, wipeE, partX, xs_nil, xs_set, xs_setT, xs_par, xs_sub, xs_exp, xs_if, xs_for, xs_ret, xs_ret0, xs_rai0, xs_pass, seqQ_nx, seqQ_ret, retQ_ret, retQ_nx, wp_tru_bl, wp_tru_tup, wp_tru_tl, wp_tru_int, wp_tru_non, wp_eq_str, wp_eq_int, wp_eq_bl, wp_lt_int, wp_len_tup, wp_len_tl, wp_items_tup, wp_items_tl, wp_litems_tl, wp_walk_tup, wp_walk_tl, wp_idx_tup (at0 _ _), wp_idx_tup (at1 _ _ _), wp_idx_tup (at2 _ _ _ _), wp_idx_tup (at3 _ _ _ _ _), cut1, decide_eq_true_eq, wp_tuple, wp_list_tup, wp_int, wp_addi, wp_subi, setAll, wp_unpack_tup, isiStr_str, isiTup_tup, isiTl]
  refine lfresh_ret hfr hs F (by omega) fun T U => ?_
  rw [e]
  have hl : (S ++ [T, U, .lst [.str x, .str y, .str z]])[S.length + 2]? = some (.lst [.str x, .str y, .str z]) := by simp
  rw [wp_unpack_loc (n := [2, 3, 4].length) hl (by rfl)]
  cases hc with
  | below h1 h2 =>
    simp only [goalD, if_true] at pg q
    simp only [ev_var, ev_glb, ev_isV, ev_cint, ev_cstr, ev_cnon, ev_cbl, ev_tup, ev_lst, ev_dct0, ev_bin, ev_notf, ev_nott, ev_and, ev_or, ev_cmp, ev_chn, ev_ite, ev_call, ev_blt, ev_mth, ev_idx, ev_slc, ev_frc, ev_lc, ev_callk, ev_neg, varX, glX, List.getElem?_cons_succ, List.getElem?_cons_zero, evs, evx, evc, asTf, asTt, wp_bind, wp_pure, wp_ite, if_true, if_false, wp_theB, Bool.not_true, Bool.not_false, Bool.not_not, wp_force, wp_forceT, wp_push, cmpX, Bool.false_eq_true, List.map_cons, List.map_nil, List.replicate, List.cons_append, List.nil_append, List.set_cons_zero, List.set_cons_succ, bindT_nm, bindT2, wipeE, partX, xs_nil, xs_set, xs_setT, xs_par, xs_sub, xs_exp, xs_if, xs_for, xs_ret, xs_ret0, xs_rai0, xs_pass, seqQ_nx, seqQ_ret, retQ_ret, retQ_nx, wp_tru_bl, wp_tru_tup, wp_tru_tl, wp_tru_int, wp_tru_non, wp_eq_str, wp_eq_int, wp_eq_bl, wp_lt_int, wp_len_tup, wp_len_tl, wp_items_tup, wp_items_tl, wp_litems_tl, wp_walk_tup, wp_walk_tl, wp_idx_tup (at0 _ _), wp_idx_tup (at1 _ _ _), wp_idx_tup (at2 _ _ _ _), wp_idx_tup (at3 _ _ _ _ _), cut1, decide_eq_true_eq, wp_tuple, wp_list_tup, wp_int, wp_addi, wp_subi, setAll, wp_unpack_tup, isiStr_str, isiTup_tup, isiTl, tidy_pl pg]; exact q
  | role h1 h2 =>
    simp only [ev_var, ev_glb, ev_isV, ev_cint, ev_cstr, ev_cnon, ev_cbl, ev_tup, ev_lst, ev_dct0, ev_bin, ev_notf, ev_nott, ev_and, ev_or, ev_cmp, ev_chn, ev_ite, ev_call, ev_blt, ev_mth, ev_idx, ev_slc, ev_frc, ev_lc, ev_callk, ev_neg, varX, glX, List.getElem?_cons_succ, List.getElem?_cons_zero, evs, evx, evc, asTf, asTt, wp_bind, wp_pure, wp_ite, if_true, if_false, wp_theB, Bool.not_true, Bool.not_false, Bool.not_not, wp_force, wp_forceT, wp_push, cmpX, Bool.false_eq_true, List.map_cons, List.map_nil, List.replicate, List.cons_append, List.nil_append, List.set_cons_zero, List.set_cons_succ, bindT_nm, bindT2, wipeE, partX, xs_nil, xs_set, xs_setT, xs_par, xs_sub, xs_exp, xs_if, xs_for, xs_ret, xs_ret0, xs_rai0, xs_pass, seqQ_nx, seqQ_ret, retQ_ret, retQ_nx, wp_tru_bl, wp_tru_tup, wp_tru_tl, wp_tru_int, wp_tru_non, wp_eq_str, wp_eq_int, wp_eq_bl, wp_lt_int, wp_len_tup, wp_len_tl, wp_items_tup, wp_items_tl, wp_litems_tl, wp_walk_tup, wp_walk_tl, wp_idx_tup (at0 _ _), wp_idx_tup (at1 _ _ _), wp_idx_tup (at2 _ _ _ _), wp_idx_tup (at3 _ _ _ _ _), cut1, decide_eq_true_eq, wp_tuple, wp_list_tup, wp_int, wp_addi, wp_subi, setAll, wp_unpack_tup, isiStr_str, isiTup_tup, isiTl, ne_role_below, ne_role_is, ne_role_to]
    simp only [goalD, ne_role_below, ne_role_is, if_false] at pg q
    rw [← perD, ← perD, tidy_pl pg]; exact q
  | chain h1 h2 h3 =>
    simp only [ev_var, ev_glb, ev_isV, ev_cint, ev_cstr, ev_cnon, ev_cbl, ev_tup, ev_lst, ev_dct0, ev_bin, ev_notf, ev_nott, ev_and, ev_or, ev_cmp, ev_chn, ev_ite, ev_call, ev_blt, ev_mth, ev_idx, ev_slc, ev_frc, ev_lc, ev_callk, ev_neg, varX, glX, List.getElem?_cons_succ, List.getElem?_cons_zero, evs, evx, evc, asTf, asTt, wp_bind, wp_pure, wp_ite, if_true, if_false, wp_theB, Bool.not_true, Bool.not_false, Bool.not_not, wp_force, wp_forceT, wp_push, cmpX, Bool.false_eq_true, List.map_cons, List.map_nil, List.replicate, List.cons_append, List.nil_append, List.set_cons_zero, List.set_cons_succ, bindT_nm, bindT2, wipeE, partX, xs_nil, xs_set, xs_setT, xs_par, xs_sub, xs_exp, xs_if, xs_for, xs_ret, xs_ret0, xs_rai0, xs_pass, seqQ_nx, seqQ_ret, retQ_ret, retQ_nx, wp_tru_bl, wp_tru_tup, wp_tru_tl, wp_tru_int, wp_tru_non, wp_eq_str, wp_eq_int, wp_eq_bl, wp_lt_int, wp_len_tup, wp_len_tl, wp_items_tup, wp_items_tl, wp_litems_tl, wp_walk_tup, wp_walk_tl, wp_idx_tup (at0 _ _), wp_idx_tup (at1 _ _ _), wp_idx_tup (at2 _ _ _ _), wp_idx_tup (at3 _ _ _ _ _), cut1, decide_eq_true_eq, wp_tuple, wp_list_tup, wp_int, wp_addi, wp_subi, setAll, wp_unpack_tup, isiStr_str, isiTup_tup, isiTl, ne_chain_below, ne_chain_is, ne_chain_to, ne_chain_role]
    simp only [goalD, ne_chain_to, if_false] at pg q
    rw [← perD, ← perD, tidy_pl pg]; exact q
  | fact h =>
    cases h with
    | is_ h1 h2 =>
      simp only [ev_var, ev_glb, ev_isV, ev_cint, ev_cstr, ev_cnon, ev_cbl, ev_tup, ev_lst, ev_dct0, ev_bin, ev_notf, ev_nott, ev_and, ev_or, ev_cmp, ev_chn, ev_ite, ev_call, ev_blt, ev_mth, ev_idx, ev_slc, ev_frc, ev_lc, ev_callk, ev_neg, varX, glX, List.getElem?_cons_succ, List.getElem?_cons_zero, evs, evx, evc, asTf, asTt, wp_bind, wp_pure, wp_ite, if_true, if_false, wp_theB, Bool.not_true, Bool.not_false, Bool.not_not, wp_force, wp_forceT, wp_push, cmpX, Bool.false_eq_true, List.map_cons, List.map_nil, List.replicate, List.cons_append, List.nil_append, List.set_cons_zero, List.set_cons_succ, bindT_nm, bindT2, wipeE, partX, xs_nil, xs_set, xs_setT, xs_par, xs_sub, xs_exp, xs_if, xs_for, xs_ret, xs_ret0, xs_rai0, xs_pass, seqQ_nx, seqQ_ret, retQ_ret, retQ_nx, wp_tru_bl, wp_tru_tup, wp_tru_tl, wp_tru_int, wp_tru_non, wp_eq_str, wp_eq_int, wp_eq_bl, wp_lt_int, wp_len_tup, wp_len_tl, wp_items_tup, wp_items_tl, wp_litems_tl, wp_walk_tup, wp_walk_tl, wp_idx_tup (at0 _ _), wp_idx_tup (at1 _ _ _), wp_idx_tup (at2 _ _ _ _), wp_idx_tup (at3 _ _ _ _ _), cut1, decide_eq_true_eq, wp_tuple, wp_list_tup, wp_int, wp_addi, wp_subi, setAll, wp_unpack_tup, isiStr_str, isiTup_tup, isiTl, ne_is_below]
      simp only [goalD, ne_is_below, if_false, if_true] at pg q
      rw [← perD, tidy_pl pg]; exact q
    | to_ h1 h2 h3 =>
      simp only [ev_var, ev_glb, ev_isV, ev_cint, ev_cstr, ev_cnon, ev_cbl, ev_tup, ev_lst, ev_dct0, ev_bin, ev_notf, ev_nott, ev_and, ev_or, ev_cmp, ev_chn, ev_ite, ev_call, ev_blt, ev_mth, ev_idx, ev_slc, ev_frc, ev_lc, ev_callk, ev_neg, varX, glX, List.getElem?_cons_succ, List.getElem?_cons_zero, evs, evx, evc, asTf, asTt, wp_bind, wp_pure, wp_ite, if_true, if_false, wp_theB, Bool.not_true, Bool.not_false, Bool.not_not, wp_force, wp_forceT, wp_push, cmpX, Bool.false_eq_true, List.map_cons, List.map_nil, List.replicate, List.cons_append, List.nil_append, List.set_cons_zero, List.set_cons_succ, bindT_nm, bindT2, wipeE, partX, xs_nil, xs_set, xs_setT, xs_par, xs_sub, xs_exp, xs_if, xs_for, xs_ret, xs_ret0, xs_rai0, xs_pass, seqQ_nx, seqQ_ret, retQ_ret, retQ_nx, wp_tru_bl, wp_tru_tup, wp_tru_tl, wp_tru_int, wp_tru_non, wp_eq_str, wp_eq_int, wp_eq_bl, wp_lt_int, wp_len_tup, wp_len_tl, wp_items_tup, wp_items_tl, wp_litems_tl, wp_walk_tup, wp_walk_tl, wp_idx_tup (at0 _ _), wp_idx_tup (at1 _ _ _), wp_idx_tup (at2 _ _ _ _), wp_idx_tup (at3 _ _ _ _ _), cut1, decide_eq_true_eq, wp_tuple, wp_list_tup, wp_int, wp_addi, wp_subi, setAll, wp_unpack_tup, isiStr_str, isiTup_tup, isiTl, ne_to_below, ne_to_is]
      simp only [goalD, if_true] at pg q
      rw [← perD, ← perD, tidy_pl pg]; exact q
theorem per_ret {f : Nat} (hp : P.fn f = some fPer) {c : D} (hc : Cl c) : Ret P 1 f [c] (.tup (perOf c)) := fun k S E Q hk q => by
  obtain ⟨k, rfl⟩ : ∃ k', k = k' + 1 := ⟨k - 1, by omega⟩
  have pl := hc.pl
  cases hc with
  | below h1 h2 => exact wp_per hp pl (by simp) (by simp [ne_below_to]) q
  | role h1 h2 => exact wp_per hp pl (by simp) (by simp [ne_role_to]) q
  | chain h1 h2 h3 => exact wp_per hp pl (by simp) (by simp) q
  | fact h =>
    cases h with
    | is_ h1 h2 => exact wp_per hp pl (by simp) (by simp [ne_is_to]) q
    | to_ h1 h2 h3 => exact wp_per hp pl (by simp) (by simp) q
theorem gt2 {S : Sto} {a b : Ob} : (S ++ [a, b])[S.length + 1]? = some b := by simp
theorem st2 {S : Sto} {a b c : Ob} : (S ++ [a, b]).set (S.length + 1) c = S ++ [a, c] := by simp
theorem ap2 {S : Sto} {a b : Ob} : S ++ [a] ++ [b] = S ++ [a, b] := by simp
theorem ln1 {S : Sto} {a : Ob} : (S ++ [a]).length = S.length + 1 := by simp
theorem isAny_sim {p : D} (h : WOk p) : (D.tup [.str "is", p, .tup [.str "any"]]).sim = true ∧ (D.tup [.str "is", p, .tup [.str "any"]]).dep ≤ 59 := by
  obtain ⟨x, rfl, hx⟩ := h.ex
  exact ⟨rfl, by simp [D.dep, D.deps]⟩
end
end Kd
/-! asked_facts. -/
namespace Kd
open PySem
section
variable {P : Prg} {k : Nat} {S : Sto} {E : EQ} {Q : D → Sto → Prop}
theorem askF_ok {f ifr ip ipc g ga : Nat} (hf : P.fn f = some (fAskF ifr ipc ip ga)) (hfr : P.fn ifr = some (fFresh ip g)) (hs : P.fn ip = some (fPin ipc)) (hp : P.fn ipc = some fPer) (hg : P.gl g = some (.str abc)) (hga : P.gl ga = some (.tup [.str "any"])) {fs : List D} (F : Fs fs) {c : D} (hc : Cl c) {x y z : Str} (e : freshD (pers fs) = [.str x, .str y, .str z]) (hx : x.length ≤ 8) (hy : y.length ≤ 8) (hz : z.length ≤ 8) :
    Ret P 4 f [.tup fs, c] (.tup (askD fs (.str x) (.str y) (.str z) c)) := fun k S E Q hk q => by
  refine wp_def hf (by omega) rfl ?_
  obtain ⟨pg, pl⟩ := askD_pl (x := .str x) (y := .str y) (z := .str z) F (.s (by omega)) (.s (by omega)) (.s (by omega)) hc
  have pg := Pl.tup pg (by have := F.ln; omega)
  have hps := (strs_sim F.pers_str).1
  have fl := F.ln
  have hA : ∀ l : List D, l.length ≤ 2 → fs.length + l.length ≤ sizeLine := fun l hl => by unfold sizeLine; omega
  simp only [fAskF, ev_var, ev_glb, ev_isV, ev_cint, ev_cstr, ev_cnon, ev_cbl, ev_tup, ev_lst, ev_dct0, ev_bin, ev_notf, ev_nott, ev_and, ev_or, ev_cmp, ev_chn, ev_ite, ev_call, ev_blt, ev_mth, ev_idx, ev_slc, ev_frc, ev_lc, ev_callk, ev_neg, varX, glX, List.getElem?_cons_succ, List.getElem?_cons_zero, evs, evx, evc, asTf, asTt, wp_bind, wp_pure, wp_ite, if_true, if_false, wp_theB, Bool.not_true, Bool.not_false, Bool.not_not, wp_force, wp_forceT, wp_push, cmpX, Bool.false_eq_true, List.map_cons, List.map_nil, List.replicate, List.cons_append, List.nil_append, List.set_cons_zero, List.set_cons_succ, bindT_nm, bindT2, wipeE, partX, xs_nil, xs_set, xs_setT, xs_par, xs_sub, xs_exp, xs_if, xs_for, xs_ret, xs_ret0, xs_rai0, xs_pass, seqQ_nx, seqQ_ret, retQ_ret, retQ_nx, wp_tru_bl, wp_tru_tup, wp_tru_tl, wp_tru_int, wp_tru_non, wp_eq_str, wp_eq_int, wp_eq_bl, wp_lt_int, wp_len_tup, wp_len_tl, wp_items_tup, wp_items_tl, wp_litems_tl, wp_walk_tup, wp_walk_tl, wp_idx_tup (at0 _ _), wp_idx_tup (at1 _ _ _), wp_idx_tup (at2 _ _ _ _), wp_idx_tup (at3 _ _ _ _ _), cut1, decide_eq_true_eq, wp_tuple, wp_list_tup, wp_int, wp_addi, wp_subi, setAll, wp_unpack_tup, isiStr_str, isiTup_tup, isiTl]
  refine fresh_ret hfr hs hp hg F (by omega) ?_
  rw [e, wp_unpack_loc (n := [4, 5, 6].length) getl_append (by rfl)]
  have hc' := hc
  cases hc with
  | below h1 h2 =>
    simp only [ev_var, ev_glb, ev_isV, ev_cint, ev_cstr, ev_cnon, ev_cbl, ev_tup, ev_lst, ev_dct0, ev_bin, ev_notf, ev_nott, ev_and, ev_or, ev_cmp, ev_chn, ev_ite, ev_call, ev_blt, ev_mth, ev_idx, ev_slc, ev_frc, ev_lc, ev_callk, ev_neg, varX, glX, List.getElem?_cons_succ, List.getElem?_cons_zero, evs, evx, evc, asTf, asTt, wp_bind, wp_pure, wp_ite, if_true, if_false, wp_theB, Bool.not_true, Bool.not_false, Bool.not_not, wp_force, wp_forceT, wp_push, cmpX, Bool.false_eq_true, List.map_cons, List.map_nil, List.replicate, List.cons_append, List.nil_append, List.set_cons_zero, List.set_cons_succ, bindT_nm, bindT2, wipeE, partX, xs_nil, xs_set, xs_setT, xs_par, xs_sub, xs_exp, xs_if, xs_for, xs_ret, xs_ret0, xs_rai0, xs_pass, seqQ_nx, seqQ_ret, retQ_ret, retQ_nx, wp_tru_bl, wp_tru_tup, wp_tru_tl, wp_tru_int, wp_tru_non, wp_eq_str, wp_eq_int, wp_eq_bl, wp_lt_int, wp_len_tup, wp_len_tl, wp_items_tup, wp_items_tl, wp_litems_tl, wp_walk_tup, wp_walk_tl, wp_idx_tup (at0 _ _), wp_idx_tup (at1 _ _ _), wp_idx_tup (at2 _ _ _ _), wp_idx_tup (at3 _ _ _ _ _), cut1, decide_eq_true_eq, wp_tuple, wp_list_tup, wp_int, wp_addi, wp_subi, setAll, wp_unpack_tup, isiStr_str, isiTup_tup, isiTl, ne_below_role, ne_below_chain, ap2, ln1]
    refine per_ret hp hc' _ _ _ _ (by omega) ?_
    simp only [ev_var, ev_glb, ev_isV, ev_cint, ev_cstr, ev_cnon, ev_cbl, ev_tup, ev_lst, ev_dct0, ev_bin, ev_notf, ev_nott, ev_and, ev_or, ev_cmp, ev_chn, ev_ite, ev_call, ev_blt, ev_mth, ev_idx, ev_slc, ev_frc, ev_lc, ev_callk, ev_neg, varX, glX, List.getElem?_cons_succ, List.getElem?_cons_zero, evs, evx, evc, asTf, asTt, wp_bind, wp_pure, wp_ite, if_true, if_false, wp_theB, Bool.not_true, Bool.not_false, Bool.not_not, wp_force, wp_forceT, wp_push, cmpX, Bool.false_eq_true, List.map_cons, List.map_nil, List.replicate, List.cons_append, List.nil_append, List.set_cons_zero, List.set_cons_succ, bindT_nm, bindT2, wipeE, partX, xs_nil, xs_set, xs_setT, xs_par, xs_sub, xs_exp, xs_if, xs_for, xs_ret, xs_ret0, xs_rai0, xs_pass, seqQ_nx, seqQ_ret, retQ_ret, retQ_nx, wp_tru_bl, wp_tru_tup, wp_tru_tl, wp_tru_int, wp_tru_non, wp_eq_str, wp_eq_int, wp_eq_bl, wp_lt_int, wp_len_tup, wp_len_tl, wp_items_tup, wp_items_tl, wp_litems_tl, wp_walk_tup, wp_walk_tl, wp_idx_tup (at0 _ _), wp_idx_tup (at1 _ _ _), wp_idx_tup (at2 _ _ _ _), wp_idx_tup (at3 _ _ _ _ _), cut1, decide_eq_true_eq, wp_tuple, wp_list_tup, wp_int, wp_addi, wp_subi, setAll, wp_unpack_tup, isiStr_str, isiTup_tup, isiTl, perOf, ne_below_is, ne_below_to, wp_forRun_nil, wp_items_loc gt2, wp_addt (hA [] (by simp))]
    simp only [askD, ne_below_role, ne_below_is, if_false] at pg q
    rw [List.append_nil, tidy_pl pg]; exact q
  | role h1 h2 =>
    simp only [ev_var, ev_glb, ev_isV, ev_cint, ev_cstr, ev_cnon, ev_cbl, ev_tup, ev_lst, ev_dct0, ev_bin, ev_notf, ev_nott, ev_and, ev_or, ev_cmp, ev_chn, ev_ite, ev_call, ev_blt, ev_mth, ev_idx, ev_slc, ev_frc, ev_lc, ev_callk, ev_neg, varX, glX, List.getElem?_cons_succ, List.getElem?_cons_zero, evs, evx, evc, asTf, asTt, wp_bind, wp_pure, wp_ite, if_true, if_false, wp_theB, Bool.not_true, Bool.not_false, Bool.not_not, wp_force, wp_forceT, wp_push, cmpX, Bool.false_eq_true, List.map_cons, List.map_nil, List.replicate, List.cons_append, List.nil_append, List.set_cons_zero, List.set_cons_succ, bindT_nm, bindT2, wipeE, partX, xs_nil, xs_set, xs_setT, xs_par, xs_sub, xs_exp, xs_if, xs_for, xs_ret, xs_ret0, xs_rai0, xs_pass, seqQ_nx, seqQ_ret, retQ_ret, retQ_nx, wp_tru_bl, wp_tru_tup, wp_tru_tl, wp_tru_int, wp_tru_non, wp_eq_str, wp_eq_int, wp_eq_bl, wp_lt_int, wp_len_tup, wp_len_tl, wp_items_tup, wp_items_tl, wp_litems_tl, wp_walk_tup, wp_walk_tl, wp_idx_tup (at0 _ _), wp_idx_tup (at1 _ _ _), wp_idx_tup (at2 _ _ _ _), wp_idx_tup (at3 _ _ _ _ _), cut1, decide_eq_true_eq, wp_tuple, wp_list_tup, wp_int, wp_addi, wp_subi, setAll, wp_unpack_tup, isiStr_str, isiTup_tup, isiTl, wp_addt (hA [_] (by simp))]
    simp only [askD, if_true] at pg q
    rw [← tTo, tidy_pl pg]; exact q
  | chain h1 h2 h3 =>
    simp only [ev_var, ev_glb, ev_isV, ev_cint, ev_cstr, ev_cnon, ev_cbl, ev_tup, ev_lst, ev_dct0, ev_bin, ev_notf, ev_nott, ev_and, ev_or, ev_cmp, ev_chn, ev_ite, ev_call, ev_blt, ev_mth, ev_idx, ev_slc, ev_frc, ev_lc, ev_callk, ev_neg, varX, glX, List.getElem?_cons_succ, List.getElem?_cons_zero, evs, evx, evc, asTf, asTt, wp_bind, wp_pure, wp_ite, if_true, if_false, wp_theB, Bool.not_true, Bool.not_false, Bool.not_not, wp_force, wp_forceT, wp_push, cmpX, Bool.false_eq_true, List.map_cons, List.map_nil, List.replicate, List.cons_append, List.nil_append, List.set_cons_zero, List.set_cons_succ, bindT_nm, bindT2, wipeE, partX, xs_nil, xs_set, xs_setT, xs_par, xs_sub, xs_exp, xs_if, xs_for, xs_ret, xs_ret0, xs_rai0, xs_pass, seqQ_nx, seqQ_ret, retQ_ret, retQ_nx, wp_tru_bl, wp_tru_tup, wp_tru_tl, wp_tru_int, wp_tru_non, wp_eq_str, wp_eq_int, wp_eq_bl, wp_lt_int, wp_len_tup, wp_len_tl, wp_items_tup, wp_items_tl, wp_litems_tl, wp_walk_tup, wp_walk_tl, wp_idx_tup (at0 _ _), wp_idx_tup (at1 _ _ _), wp_idx_tup (at2 _ _ _ _), wp_idx_tup (at3 _ _ _ _ _), cut1, decide_eq_true_eq, wp_tuple, wp_list_tup, wp_int, wp_addi, wp_subi, setAll, wp_unpack_tup, isiStr_str, isiTup_tup, isiTl, ne_chain_role, wp_addt (hA [_, _] (by simp))]
    simp only [askD, if_true] at pg q
    rw [← tTo, ← tTo, tidy_pl pg]; exact q
  | fact h =>
    cases h with
    | @is_ p r h1 h2 =>
      obtain ⟨a1, a2⟩ := isAny_sim h1
      obtain ⟨s1, s2⟩ := str_sim h1.st
      simp only [ev_var, ev_glb, ev_isV, ev_cint, ev_cstr, ev_cnon, ev_cbl, ev_tup, ev_lst, ev_dct0, ev_bin, ev_notf, ev_nott, ev_and, ev_or, ev_cmp, ev_chn, ev_ite, ev_call, ev_blt, ev_mth, ev_idx, ev_slc, ev_frc, ev_lc, ev_callk, ev_neg, varX, glX, List.getElem?_cons_succ, List.getElem?_cons_zero, evs, evx, evc, asTf, asTt, wp_bind, wp_pure, wp_ite, if_true, if_false, wp_theB, Bool.not_true, Bool.not_false, Bool.not_not, wp_force, wp_forceT, wp_push, cmpX, Bool.false_eq_true, List.map_cons, List.map_nil, List.replicate, List.cons_append, List.nil_append, List.set_cons_zero, List.set_cons_succ, bindT_nm, bindT2, wipeE, partX, xs_nil, xs_set, xs_setT, xs_par, xs_sub, xs_exp, xs_if, xs_for, xs_ret, xs_ret0, xs_rai0, xs_pass, seqQ_nx, seqQ_ret, retQ_ret, retQ_nx, wp_tru_bl, wp_tru_tup, wp_tru_tl, wp_tru_int, wp_tru_non, wp_eq_str, wp_eq_int, wp_eq_bl, wp_lt_int, wp_len_tup, wp_len_tl, wp_items_tup, wp_items_tl, wp_litems_tl, wp_walk_tup, wp_walk_tl, wp_idx_tup (at0 _ _), wp_idx_tup (at1 _ _ _), wp_idx_tup (at2 _ _ _ _), wp_idx_tup (at3 _ _ _ _ _), cut1, decide_eq_true_eq, wp_tuple, wp_list_tup, wp_int, wp_addi, wp_subi, setAll, wp_unpack_tup, isiStr_str, isiTup_tup, isiTl, ne_is_role, ne_is_chain, ap2, ln1]
      refine per_ret hp hc' _ _ _ _ (by omega) ?_
      simp only [ev_var, ev_glb, ev_isV, ev_cint, ev_cstr, ev_cnon, ev_cbl, ev_tup, ev_lst, ev_dct0, ev_bin, ev_notf, ev_nott, ev_and, ev_or, ev_cmp, ev_chn, ev_ite, ev_call, ev_blt, ev_mth, ev_idx, ev_slc, ev_frc, ev_lc, ev_callk, ev_neg, varX, glX, List.getElem?_cons_succ, List.getElem?_cons_zero, evs, evx, evc, asTf, asTt, wp_bind, wp_pure, wp_ite, if_true, if_false, wp_theB, Bool.not_true, Bool.not_false, Bool.not_not, wp_force, wp_forceT, wp_push, cmpX, Bool.false_eq_true, List.map_cons, List.map_nil, List.replicate, List.cons_append, List.nil_append, List.set_cons_zero, List.set_cons_succ, bindT_nm, bindT2, wipeE, partX, xs_nil, xs_set, xs_setT, xs_par, xs_sub, xs_exp, xs_if, xs_for, xs_ret, xs_ret0, xs_rai0, xs_pass, seqQ_nx, seqQ_ret, retQ_ret, retQ_nx, wp_tru_bl, wp_tru_tup, wp_tru_tl, wp_tru_int, wp_tru_non, wp_eq_str, wp_eq_int, wp_eq_bl, wp_lt_int, wp_len_tup, wp_len_tl, wp_items_tup, wp_items_tl, wp_litems_tl, wp_walk_tup, wp_walk_tl, wp_idx_tup (at0 _ _), wp_idx_tup (at1 _ _ _), wp_idx_tup (at2 _ _ _ _), wp_idx_tup (at3 _ _ _ _ _), cut1, decide_eq_true_eq, wp_tuple, wp_list_tup, wp_int, wp_addi, wp_subi, setAll, wp_unpack_tup, isiStr_str, isiTup_tup, isiTl, perOf, List.take, wp_forRun_cons]
      refine pers_ret hs hp F _ _ _ _ (by omega) ?_
      simp only [ev_var, ev_glb, ev_isV, ev_cint, ev_cstr, ev_cnon, ev_cbl, ev_tup, ev_lst, ev_dct0, ev_bin, ev_notf, ev_nott, ev_and, ev_or, ev_cmp, ev_chn, ev_ite, ev_call, ev_blt, ev_mth, ev_idx, ev_slc, ev_frc, ev_lc, ev_callk, ev_neg, varX, glX, List.getElem?_cons_succ, List.getElem?_cons_zero, evs, evx, evc, asTf, asTt, wp_bind, wp_pure, wp_ite, if_true, if_false, wp_theB, Bool.not_true, Bool.not_false, Bool.not_not, wp_force, wp_forceT, wp_push, cmpX, Bool.false_eq_true, List.map_cons, List.map_nil, List.replicate, List.cons_append, List.nil_append, List.set_cons_zero, List.set_cons_succ, bindT_nm, bindT2, wipeE, partX, xs_nil, xs_set, xs_setT, xs_par, xs_sub, xs_exp, xs_if, xs_for, xs_ret, xs_ret0, xs_rai0, xs_pass, seqQ_nx, seqQ_ret, retQ_ret, retQ_nx, wp_tru_bl, wp_tru_tup, wp_tru_tl, wp_tru_int, wp_tru_non, wp_eq_str, wp_eq_int, wp_eq_bl, wp_lt_int, wp_len_tup, wp_len_tl, wp_items_tup, wp_items_tl, wp_litems_tl, wp_walk_tup, wp_walk_tl, wp_idx_tup (at0 _ _), wp_idx_tup (at1 _ _ _), wp_idx_tup (at2 _ _ _ _), wp_idx_tup (at3 _ _ _ _ _), cut1, decide_eq_true_eq, wp_tuple, wp_list_tup, wp_int, wp_addi, wp_subi, setAll, wp_unpack_tup, isiStr_str, isiTup_tup, isiTl, hga, wp_in_tup s1 s2 hps, wp_in_loc gt2 a1 a2 (show D.sims [] = true from rfl), Bool.not_eq_true', decide_eq_false_iff_not]
      simp only [askD, ne_is_role, if_false, if_true] at pg q
      by_cases hm : p ∈ pers fs
      · rw [if_pos hm] at pg q
        rw [if_neg (by simpa using hm)]
        simp only [ev_var, ev_glb, ev_isV, ev_cint, ev_cstr, ev_cnon, ev_cbl, ev_tup, ev_lst, ev_dct0, ev_bin, ev_notf, ev_nott, ev_and, ev_or, ev_cmp, ev_chn, ev_ite, ev_call, ev_blt, ev_mth, ev_idx, ev_slc, ev_frc, ev_lc, ev_callk, ev_neg, varX, glX, List.getElem?_cons_succ, List.getElem?_cons_zero, evs, evx, evc, asTf, asTt, wp_bind, wp_pure, wp_ite, if_true, if_false, wp_theB, Bool.not_true, Bool.not_false, Bool.not_not, wp_force, wp_forceT, wp_push, cmpX, Bool.false_eq_true, List.map_cons, List.map_nil, List.replicate, List.cons_append, List.nil_append, List.set_cons_zero, List.set_cons_succ, bindT_nm, bindT2, wipeE, partX, xs_nil, xs_set, xs_setT, xs_par, xs_sub, xs_exp, xs_if, xs_for, xs_ret, xs_ret0, xs_rai0, xs_pass, seqQ_nx, seqQ_ret, retQ_ret, retQ_nx, wp_tru_bl, wp_tru_tup, wp_tru_tl, wp_tru_int, wp_tru_non, wp_eq_str, wp_eq_int, wp_eq_bl, wp_lt_int, wp_len_tup, wp_len_tl, wp_items_tup, wp_items_tl, wp_litems_tl, wp_walk_tup, wp_walk_tl, wp_idx_tup (at0 _ _), wp_idx_tup (at1 _ _ _), wp_idx_tup (at2 _ _ _ _), wp_idx_tup (at3 _ _ _ _ _), cut1, decide_eq_true_eq, wp_tuple, wp_list_tup, wp_int, wp_addi, wp_subi, setAll, wp_unpack_tup, isiStr_str, isiTup_tup, isiTl, wp_forRun_nil, wp_items_loc gt2, wp_addt (hA [] (by simp))]
        rw [List.append_nil, tidy_pl pg]; exact q
      · rw [if_neg hm] at pg q
        rw [if_pos (by simpa using hm), if_pos (by simp)]
        simp only [ev_var, ev_glb, ev_isV, ev_cint, ev_cstr, ev_cnon, ev_cbl, ev_tup, ev_lst, ev_dct0, ev_bin, ev_notf, ev_nott, ev_and, ev_or, ev_cmp, ev_chn, ev_ite, ev_call, ev_blt, ev_mth, ev_idx, ev_slc, ev_frc, ev_lc, ev_callk, ev_neg, varX, glX, List.getElem?_cons_succ, List.getElem?_cons_zero, evs, evx, evc, asTf, asTt, wp_bind, wp_pure, wp_ite, if_true, if_false, wp_theB, Bool.not_true, Bool.not_false, Bool.not_not, wp_force, wp_forceT, wp_push, cmpX, Bool.false_eq_true, List.map_cons, List.map_nil, List.replicate, List.cons_append, List.nil_append, List.set_cons_zero, List.set_cons_succ, bindT_nm, bindT2, wipeE, partX, xs_nil, xs_set, xs_setT, xs_par, xs_sub, xs_exp, xs_if, xs_for, xs_ret, xs_ret0, xs_rai0, xs_pass, seqQ_nx, seqQ_ret, retQ_ret, retQ_nx, wp_tru_bl, wp_tru_tup, wp_tru_tl, wp_tru_int, wp_tru_non, wp_eq_str, wp_eq_int, wp_eq_bl, wp_lt_int, wp_len_tup, wp_len_tl, wp_items_tup, wp_items_tl, wp_litems_tl, wp_walk_tup, wp_walk_tl, wp_idx_tup (at0 _ _), wp_idx_tup (at1 _ _ _), wp_idx_tup (at2 _ _ _ _), wp_idx_tup (at3 _ _ _ _ _), cut1, decide_eq_true_eq, wp_tuple, wp_list_tup, wp_int, wp_addi, wp_subi, setAll, wp_unpack_tup, isiStr_str, isiTup_tup, isiTl, hga, wp_recv_lst (m := .append) gt2 rfl]
        rw [wp_append gt2 (by unfold sizeLine; simp)]
        simp only [ev_var, ev_glb, ev_isV, ev_cint, ev_cstr, ev_cnon, ev_cbl, ev_tup, ev_lst, ev_dct0, ev_bin, ev_notf, ev_nott, ev_and, ev_or, ev_cmp, ev_chn, ev_ite, ev_call, ev_blt, ev_mth, ev_idx, ev_slc, ev_frc, ev_lc, ev_callk, ev_neg, varX, glX, List.getElem?_cons_succ, List.getElem?_cons_zero, evs, evx, evc, asTf, asTt, wp_bind, wp_pure, wp_ite, if_true, if_false, wp_theB, Bool.not_true, Bool.not_false, Bool.not_not, wp_force, wp_forceT, wp_push, cmpX, Bool.false_eq_true, List.map_cons, List.map_nil, List.replicate, List.cons_append, List.nil_append, List.set_cons_zero, List.set_cons_succ, bindT_nm, bindT2, wipeE, partX, xs_nil, xs_set, xs_setT, xs_par, xs_sub, xs_exp, xs_if, xs_for, xs_ret, xs_ret0, xs_rai0, xs_pass, seqQ_nx, seqQ_ret, retQ_ret, retQ_nx, wp_tru_bl, wp_tru_tup, wp_tru_tl, wp_tru_int, wp_tru_non, wp_eq_str, wp_eq_int, wp_eq_bl, wp_lt_int, wp_len_tup, wp_len_tl, wp_items_tup, wp_items_tl, wp_litems_tl, wp_walk_tup, wp_walk_tl, wp_idx_tup (at0 _ _), wp_idx_tup (at1 _ _ _), wp_idx_tup (at2 _ _ _ _), wp_idx_tup (at3 _ _ _ _ _), cut1, decide_eq_true_eq, wp_tuple, wp_list_tup, wp_int, wp_addi, wp_subi, setAll, wp_unpack_tup, isiStr_str, isiTup_tup, isiTl, wp_forRun_nil, st2, wp_items_loc gt2, wp_addt (hA [_] (by simp))]
        rw [← isAny, tidy_pl pg]; exact q
    | @to_ p r p2 h1 h2 h3 =>
      obtain ⟨a1, a2⟩ := isAny_sim h1
      obtain ⟨s1, s2⟩ := str_sim h1.st
      obtain ⟨a3, a4⟩ := isAny_sim h3
      obtain ⟨s3, s4⟩ := str_sim h3.st
      simp only [ev_var, ev_glb, ev_isV, ev_cint, ev_cstr, ev_cnon, ev_cbl, ev_tup, ev_lst, ev_dct0, ev_bin, ev_notf, ev_nott, ev_and, ev_or, ev_cmp, ev_chn, ev_ite, ev_call, ev_blt, ev_mth, ev_idx, ev_slc, ev_frc, ev_lc, ev_callk, ev_neg, varX, glX, List.getElem?_cons_succ, List.getElem?_cons_zero, evs, evx, evc, asTf, asTt, wp_bind, wp_pure, wp_ite, if_true, if_false, wp_theB, Bool.not_true, Bool.not_false, Bool.not_not, wp_force, wp_forceT, wp_push, cmpX, Bool.false_eq_true, List.map_cons, List.map_nil, List.replicate, List.cons_append, List.nil_append, List.set_cons_zero, List.set_cons_succ, bindT_nm, bindT2, wipeE, partX, xs_nil, xs_set, xs_setT, xs_par, xs_sub, xs_exp, xs_if, xs_for, xs_ret, xs_ret0, xs_rai0, xs_pass, seqQ_nx, seqQ_ret, retQ_ret, retQ_nx, wp_tru_bl, wp_tru_tup, wp_tru_tl, wp_tru_int, wp_tru_non, wp_eq_str, wp_eq_int, wp_eq_bl, wp_lt_int, wp_len_tup, wp_len_tl, wp_items_tup, wp_items_tl, wp_litems_tl, wp_walk_tup, wp_walk_tl, wp_idx_tup (at0 _ _), wp_idx_tup (at1 _ _ _), wp_idx_tup (at2 _ _ _ _), wp_idx_tup (at3 _ _ _ _ _), cut1, decide_eq_true_eq, wp_tuple, wp_list_tup, wp_int, wp_addi, wp_subi, setAll, wp_unpack_tup, isiStr_str, isiTup_tup, isiTl, ne_to_role, ne_to_chain, ap2, ln1]
      refine per_ret hp hc' _ _ _ _ (by omega) ?_
      simp only [ev_var, ev_glb, ev_isV, ev_cint, ev_cstr, ev_cnon, ev_cbl, ev_tup, ev_lst, ev_dct0, ev_bin, ev_notf, ev_nott, ev_and, ev_or, ev_cmp, ev_chn, ev_ite, ev_call, ev_blt, ev_mth, ev_idx, ev_slc, ev_frc, ev_lc, ev_callk, ev_neg, varX, glX, List.getElem?_cons_succ, List.getElem?_cons_zero, evs, evx, evc, asTf, asTt, wp_bind, wp_pure, wp_ite, if_true, if_false, wp_theB, Bool.not_true, Bool.not_false, Bool.not_not, wp_force, wp_forceT, wp_push, cmpX, Bool.false_eq_true, List.map_cons, List.map_nil, List.replicate, List.cons_append, List.nil_append, List.set_cons_zero, List.set_cons_succ, bindT_nm, bindT2, wipeE, partX, xs_nil, xs_set, xs_setT, xs_par, xs_sub, xs_exp, xs_if, xs_for, xs_ret, xs_ret0, xs_rai0, xs_pass, seqQ_nx, seqQ_ret, retQ_ret, retQ_nx, wp_tru_bl, wp_tru_tup, wp_tru_tl, wp_tru_int, wp_tru_non, wp_eq_str, wp_eq_int, wp_eq_bl, wp_lt_int, wp_len_tup, wp_len_tl, wp_items_tup, wp_items_tl, wp_litems_tl, wp_walk_tup, wp_walk_tl, wp_idx_tup (at0 _ _), wp_idx_tup (at1 _ _ _), wp_idx_tup (at2 _ _ _ _), wp_idx_tup (at3 _ _ _ _ _), cut1, decide_eq_true_eq, wp_tuple, wp_list_tup, wp_int, wp_addi, wp_subi, setAll, wp_unpack_tup, isiStr_str, isiTup_tup, isiTl, perOf, ne_to_is, List.take, List.drop]
      rw [wp_forRun_cons]
      simp only [ev_var, ev_glb, ev_isV, ev_cint, ev_cstr, ev_cnon, ev_cbl, ev_tup, ev_lst, ev_dct0, ev_bin, ev_notf, ev_nott, ev_and, ev_or, ev_cmp, ev_chn, ev_ite, ev_call, ev_blt, ev_mth, ev_idx, ev_slc, ev_frc, ev_lc, ev_callk, ev_neg, varX, glX, List.getElem?_cons_succ, List.getElem?_cons_zero, evs, evx, evc, asTf, asTt, wp_bind, wp_pure, wp_ite, if_true, if_false, wp_theB, Bool.not_true, Bool.not_false, Bool.not_not, wp_force, wp_forceT, wp_push, cmpX, Bool.false_eq_true, List.map_cons, List.map_nil, List.replicate, List.cons_append, List.nil_append, List.set_cons_zero, List.set_cons_succ, bindT_nm, bindT2, wipeE, partX, xs_nil, xs_set, xs_setT, xs_par, xs_sub, xs_exp, xs_if, xs_for, xs_ret, xs_ret0, xs_rai0, xs_pass, seqQ_nx, seqQ_ret, retQ_ret, retQ_nx, wp_tru_bl, wp_tru_tup, wp_tru_tl, wp_tru_int, wp_tru_non, wp_eq_str, wp_eq_int, wp_eq_bl, wp_lt_int, wp_len_tup, wp_len_tl, wp_items_tup, wp_items_tl, wp_litems_tl, wp_walk_tup, wp_walk_tl, wp_idx_tup (at0 _ _), wp_idx_tup (at1 _ _ _), wp_idx_tup (at2 _ _ _ _), wp_idx_tup (at3 _ _ _ _ _), cut1, decide_eq_true_eq, wp_tuple, wp_list_tup, wp_int, wp_addi, wp_subi, setAll, wp_unpack_tup, isiStr_str, isiTup_tup, isiTl]
      refine pers_ret hs hp F _ _ _ _ (by omega) ?_
      simp only [ev_var, ev_glb, ev_isV, ev_cint, ev_cstr, ev_cnon, ev_cbl, ev_tup, ev_lst, ev_dct0, ev_bin, ev_notf, ev_nott, ev_and, ev_or, ev_cmp, ev_chn, ev_ite, ev_call, ev_blt, ev_mth, ev_idx, ev_slc, ev_frc, ev_lc, ev_callk, ev_neg, varX, glX, List.getElem?_cons_succ, List.getElem?_cons_zero, evs, evx, evc, asTf, asTt, wp_bind, wp_pure, wp_ite, if_true, if_false, wp_theB, Bool.not_true, Bool.not_false, Bool.not_not, wp_force, wp_forceT, wp_push, cmpX, Bool.false_eq_true, List.map_cons, List.map_nil, List.replicate, List.cons_append, List.nil_append, List.set_cons_zero, List.set_cons_succ, bindT_nm, bindT2, wipeE, partX, xs_nil, xs_set, xs_setT, xs_par, xs_sub, xs_exp, xs_if, xs_for, xs_ret, xs_ret0, xs_rai0, xs_pass, seqQ_nx, seqQ_ret, retQ_ret, retQ_nx, wp_tru_bl, wp_tru_tup, wp_tru_tl, wp_tru_int, wp_tru_non, wp_eq_str, wp_eq_int, wp_eq_bl, wp_lt_int, wp_len_tup, wp_len_tl, wp_items_tup, wp_items_tl, wp_litems_tl, wp_walk_tup, wp_walk_tl, wp_idx_tup (at0 _ _), wp_idx_tup (at1 _ _ _), wp_idx_tup (at2 _ _ _ _), wp_idx_tup (at3 _ _ _ _ _), cut1, decide_eq_true_eq, wp_tuple, wp_list_tup, wp_int, wp_addi, wp_subi, setAll, wp_unpack_tup, isiStr_str, isiTup_tup, isiTl, hga, wp_in_tup s1 s2 hps, wp_in_loc gt2 a1 a2 (show D.sims [] = true from rfl), Bool.not_eq_true', decide_eq_false_iff_not]
      simp only [askD, ne_to_chain, if_false] at pg q
      by_cases hm : p ∈ pers fs
      · rw [if_pos hm] at pg q
        rw [if_neg (by simpa using hm)]
        rw [wp_forRun_cons]
        simp only [ev_var, ev_glb, ev_isV, ev_cint, ev_cstr, ev_cnon, ev_cbl, ev_tup, ev_lst, ev_dct0, ev_bin, ev_notf, ev_nott, ev_and, ev_or, ev_cmp, ev_chn, ev_ite, ev_call, ev_blt, ev_mth, ev_idx, ev_slc, ev_frc, ev_lc, ev_callk, ev_neg, varX, glX, List.getElem?_cons_succ, List.getElem?_cons_zero, evs, evx, evc, asTf, asTt, wp_bind, wp_pure, wp_ite, if_true, if_false, wp_theB, Bool.not_true, Bool.not_false, Bool.not_not, wp_force, wp_forceT, wp_push, cmpX, Bool.false_eq_true, List.map_cons, List.map_nil, List.replicate, List.cons_append, List.nil_append, List.set_cons_zero, List.set_cons_succ, bindT_nm, bindT2, wipeE, partX, xs_nil, xs_set, xs_setT, xs_par, xs_sub, xs_exp, xs_if, xs_for, xs_ret, xs_ret0, xs_rai0, xs_pass, seqQ_nx, seqQ_ret, retQ_ret, retQ_nx, wp_tru_bl, wp_tru_tup, wp_tru_tl, wp_tru_int, wp_tru_non, wp_eq_str, wp_eq_int, wp_eq_bl, wp_lt_int, wp_len_tup, wp_len_tl, wp_items_tup, wp_items_tl, wp_litems_tl, wp_walk_tup, wp_walk_tl, wp_idx_tup (at0 _ _), wp_idx_tup (at1 _ _ _), wp_idx_tup (at2 _ _ _ _), wp_idx_tup (at3 _ _ _ _ _), cut1, decide_eq_true_eq, wp_tuple, wp_list_tup, wp_int, wp_addi, wp_subi, setAll, wp_unpack_tup, isiStr_str, isiTup_tup, isiTl]
        refine pers_ret hs hp F _ _ _ _ (by omega) ?_
        simp only [ev_var, ev_glb, ev_isV, ev_cint, ev_cstr, ev_cnon, ev_cbl, ev_tup, ev_lst, ev_dct0, ev_bin, ev_notf, ev_nott, ev_and, ev_or, ev_cmp, ev_chn, ev_ite, ev_call, ev_blt, ev_mth, ev_idx, ev_slc, ev_frc, ev_lc, ev_callk, ev_neg, varX, glX, List.getElem?_cons_succ, List.getElem?_cons_zero, evs, evx, evc, asTf, asTt, wp_bind, wp_pure, wp_ite, if_true, if_false, wp_theB, Bool.not_true, Bool.not_false, Bool.not_not, wp_force, wp_forceT, wp_push, cmpX, Bool.false_eq_true, List.map_cons, List.map_nil, List.replicate, List.cons_append, List.nil_append, List.set_cons_zero, List.set_cons_succ, bindT_nm, bindT2, wipeE, partX, xs_nil, xs_set, xs_setT, xs_par, xs_sub, xs_exp, xs_if, xs_for, xs_ret, xs_ret0, xs_rai0, xs_pass, seqQ_nx, seqQ_ret, retQ_ret, retQ_nx, wp_tru_bl, wp_tru_tup, wp_tru_tl, wp_tru_int, wp_tru_non, wp_eq_str, wp_eq_int, wp_eq_bl, wp_lt_int, wp_len_tup, wp_len_tl, wp_items_tup, wp_items_tl, wp_litems_tl, wp_walk_tup, wp_walk_tl, wp_idx_tup (at0 _ _), wp_idx_tup (at1 _ _ _), wp_idx_tup (at2 _ _ _ _), wp_idx_tup (at3 _ _ _ _ _), cut1, decide_eq_true_eq, wp_tuple, wp_list_tup, wp_int, wp_addi, wp_subi, setAll, wp_unpack_tup, isiStr_str, isiTup_tup, isiTl, hga, wp_in_tup s3 s4 hps, wp_in_loc gt2 a3 a4 (show D.sims [] = true from rfl), Bool.not_eq_true', decide_eq_false_iff_not]
        by_cases hm2 : p2 ∈ pers fs
        · rw [if_pos hm2] at pg q
          rw [if_neg (by simpa using hm2)]
          simp only [ev_var, ev_glb, ev_isV, ev_cint, ev_cstr, ev_cnon, ev_cbl, ev_tup, ev_lst, ev_dct0, ev_bin, ev_notf, ev_nott, ev_and, ev_or, ev_cmp, ev_chn, ev_ite, ev_call, ev_blt, ev_mth, ev_idx, ev_slc, ev_frc, ev_lc, ev_callk, ev_neg, varX, glX, List.getElem?_cons_succ, List.getElem?_cons_zero, evs, evx, evc, asTf, asTt, wp_bind, wp_pure, wp_ite, if_true, if_false, wp_theB, Bool.not_true, Bool.not_false, Bool.not_not, wp_force, wp_forceT, wp_push, cmpX, Bool.false_eq_true, List.map_cons, List.map_nil, List.replicate, List.cons_append, List.nil_append, List.set_cons_zero, List.set_cons_succ, bindT_nm, bindT2, wipeE, partX, xs_nil, xs_set, xs_setT, xs_par, xs_sub, xs_exp, xs_if, xs_for, xs_ret, xs_ret0, xs_rai0, xs_pass, seqQ_nx, seqQ_ret, retQ_ret, retQ_nx, wp_tru_bl, wp_tru_tup, wp_tru_tl, wp_tru_int, wp_tru_non, wp_eq_str, wp_eq_int, wp_eq_bl, wp_lt_int, wp_len_tup, wp_len_tl, wp_items_tup, wp_items_tl, wp_litems_tl, wp_walk_tup, wp_walk_tl, wp_idx_tup (at0 _ _), wp_idx_tup (at1 _ _ _), wp_idx_tup (at2 _ _ _ _), wp_idx_tup (at3 _ _ _ _ _), cut1, decide_eq_true_eq, wp_tuple, wp_list_tup, wp_int, wp_addi, wp_subi, setAll, wp_unpack_tup, isiStr_str, isiTup_tup, isiTl, wp_forRun_nil, wp_items_loc gt2, wp_addt (hA [] (by simp))]
          rw [tidy_pl pg]; exact q
        · rw [if_neg hm2] at pg q
          rw [if_pos (by simpa using hm2), if_pos (by simp)]
          simp only [ev_var, ev_glb, ev_isV, ev_cint, ev_cstr, ev_cnon, ev_cbl, ev_tup, ev_lst, ev_dct0, ev_bin, ev_notf, ev_nott, ev_and, ev_or, ev_cmp, ev_chn, ev_ite, ev_call, ev_blt, ev_mth, ev_idx, ev_slc, ev_frc, ev_lc, ev_callk, ev_neg, varX, glX, List.getElem?_cons_succ, List.getElem?_cons_zero, evs, evx, evc, asTf, asTt, wp_bind, wp_pure, wp_ite, if_true, if_false, wp_theB, Bool.not_true, Bool.not_false, Bool.not_not, wp_force, wp_forceT, wp_push, cmpX, Bool.false_eq_true, List.map_cons, List.map_nil, List.replicate, List.cons_append, List.nil_append, List.set_cons_zero, List.set_cons_succ, bindT_nm, bindT2, wipeE, partX, xs_nil, xs_set, xs_setT, xs_par, xs_sub, xs_exp, xs_if, xs_for, xs_ret, xs_ret0, xs_rai0, xs_pass, seqQ_nx, seqQ_ret, retQ_ret, retQ_nx, wp_tru_bl, wp_tru_tup, wp_tru_tl, wp_tru_int, wp_tru_non, wp_eq_str, wp_eq_int, wp_eq_bl, wp_lt_int, wp_len_tup, wp_len_tl, wp_items_tup, wp_items_tl, wp_litems_tl, wp_walk_tup, wp_walk_tl, wp_idx_tup (at0 _ _), wp_idx_tup (at1 _ _ _), wp_idx_tup (at2 _ _ _ _), wp_idx_tup (at3 _ _ _ _ _), cut1, decide_eq_true_eq, wp_tuple, wp_list_tup, wp_int, wp_addi, wp_subi, setAll, wp_unpack_tup, isiStr_str, isiTup_tup, isiTl, hga, wp_recv_lst (m := .append) gt2 rfl]
          rw [wp_append gt2 (by unfold sizeLine; simp)]
          simp only [ev_var, ev_glb, ev_isV, ev_cint, ev_cstr, ev_cnon, ev_cbl, ev_tup, ev_lst, ev_dct0, ev_bin, ev_notf, ev_nott, ev_and, ev_or, ev_cmp, ev_chn, ev_ite, ev_call, ev_blt, ev_mth, ev_idx, ev_slc, ev_frc, ev_lc, ev_callk, ev_neg, varX, glX, List.getElem?_cons_succ, List.getElem?_cons_zero, evs, evx, evc, asTf, asTt, wp_bind, wp_pure, wp_ite, if_true, if_false, wp_theB, Bool.not_true, Bool.not_false, Bool.not_not, wp_force, wp_forceT, wp_push, cmpX, Bool.false_eq_true, List.map_cons, List.map_nil, List.replicate, List.cons_append, List.nil_append, List.set_cons_zero, List.set_cons_succ, bindT_nm, bindT2, wipeE, partX, xs_nil, xs_set, xs_setT, xs_par, xs_sub, xs_exp, xs_if, xs_for, xs_ret, xs_ret0, xs_rai0, xs_pass, seqQ_nx, seqQ_ret, retQ_ret, retQ_nx, wp_tru_bl, wp_tru_tup, wp_tru_tl, wp_tru_int, wp_tru_non, wp_eq_str, wp_eq_int, wp_eq_bl, wp_lt_int, wp_len_tup, wp_len_tl, wp_items_tup, wp_items_tl, wp_litems_tl, wp_walk_tup, wp_walk_tl, wp_idx_tup (at0 _ _), wp_idx_tup (at1 _ _ _), wp_idx_tup (at2 _ _ _ _), wp_idx_tup (at3 _ _ _ _ _), cut1, decide_eq_true_eq, wp_tuple, wp_list_tup, wp_int, wp_addi, wp_subi, setAll, wp_unpack_tup, isiStr_str, isiTup_tup, isiTl, wp_forRun_nil, st2, wp_items_loc gt2, wp_addt (hA [_] (by simp))]
          rw [← isAny, tidy_pl pg]; exact q
      · rw [if_neg hm] at pg q
        rw [if_pos (by simpa using hm), if_pos (by simp)]
        simp only [ev_var, ev_glb, ev_isV, ev_cint, ev_cstr, ev_cnon, ev_cbl, ev_tup, ev_lst, ev_dct0, ev_bin, ev_notf, ev_nott, ev_and, ev_or, ev_cmp, ev_chn, ev_ite, ev_call, ev_blt, ev_mth, ev_idx, ev_slc, ev_frc, ev_lc, ev_callk, ev_neg, varX, glX, List.getElem?_cons_succ, List.getElem?_cons_zero, evs, evx, evc, asTf, asTt, wp_bind, wp_pure, wp_ite, if_true, if_false, wp_theB, Bool.not_true, Bool.not_false, Bool.not_not, wp_force, wp_forceT, wp_push, cmpX, Bool.false_eq_true, List.map_cons, List.map_nil, List.replicate, List.cons_append, List.nil_append, List.set_cons_zero, List.set_cons_succ, bindT_nm, bindT2, wipeE, partX, xs_nil, xs_set, xs_setT, xs_par, xs_sub, xs_exp, xs_if, xs_for, xs_ret, xs_ret0, xs_rai0, xs_pass, seqQ_nx, seqQ_ret, retQ_ret, retQ_nx, wp_tru_bl, wp_tru_tup, wp_tru_tl, wp_tru_int, wp_tru_non, wp_eq_str, wp_eq_int, wp_eq_bl, wp_lt_int, wp_len_tup, wp_len_tl, wp_items_tup, wp_items_tl, wp_litems_tl, wp_walk_tup, wp_walk_tl, wp_idx_tup (at0 _ _), wp_idx_tup (at1 _ _ _), wp_idx_tup (at2 _ _ _ _), wp_idx_tup (at3 _ _ _ _ _), cut1, decide_eq_true_eq, wp_tuple, wp_list_tup, wp_int, wp_addi, wp_subi, setAll, wp_unpack_tup, isiStr_str, isiTup_tup, isiTl, hga, wp_recv_lst (m := .append) gt2 rfl]
        rw [wp_append gt2 (by unfold sizeLine; simp)]
        simp only [ev_var, ev_glb, ev_isV, ev_cint, ev_cstr, ev_cnon, ev_cbl, ev_tup, ev_lst, ev_dct0, ev_bin, ev_notf, ev_nott, ev_and, ev_or, ev_cmp, ev_chn, ev_ite, ev_call, ev_blt, ev_mth, ev_idx, ev_slc, ev_frc, ev_lc, ev_callk, ev_neg, varX, glX, List.getElem?_cons_succ, List.getElem?_cons_zero, evs, evx, evc, asTf, asTt, wp_bind, wp_pure, wp_ite, if_true, if_false, wp_theB, Bool.not_true, Bool.not_false, Bool.not_not, wp_force, wp_forceT, wp_push, cmpX, Bool.false_eq_true, List.map_cons, List.map_nil, List.replicate, List.cons_append, List.nil_append, List.set_cons_zero, List.set_cons_succ, bindT_nm, bindT2, wipeE, partX, xs_nil, xs_set, xs_setT, xs_par, xs_sub, xs_exp, xs_if, xs_for, xs_ret, xs_ret0, xs_rai0, xs_pass, seqQ_nx, seqQ_ret, retQ_ret, retQ_nx, wp_tru_bl, wp_tru_tup, wp_tru_tl, wp_tru_int, wp_tru_non, wp_eq_str, wp_eq_int, wp_eq_bl, wp_lt_int, wp_len_tup, wp_len_tl, wp_items_tup, wp_items_tl, wp_litems_tl, wp_walk_tup, wp_walk_tl, wp_idx_tup (at0 _ _), wp_idx_tup (at1 _ _ _), wp_idx_tup (at2 _ _ _ _), wp_idx_tup (at3 _ _ _ _ _), cut1, decide_eq_true_eq, wp_tuple, wp_list_tup, wp_int, wp_addi, wp_subi, setAll, wp_unpack_tup, isiStr_str, isiTup_tup, isiTl, st2]
        rw [wp_forRun_cons]
        simp only [ev_var, ev_glb, ev_isV, ev_cint, ev_cstr, ev_cnon, ev_cbl, ev_tup, ev_lst, ev_dct0, ev_bin, ev_notf, ev_nott, ev_and, ev_or, ev_cmp, ev_chn, ev_ite, ev_call, ev_blt, ev_mth, ev_idx, ev_slc, ev_frc, ev_lc, ev_callk, ev_neg, varX, glX, List.getElem?_cons_succ, List.getElem?_cons_zero, evs, evx, evc, asTf, asTt, wp_bind, wp_pure, wp_ite, if_true, if_false, wp_theB, Bool.not_true, Bool.not_false, Bool.not_not, wp_force, wp_forceT, wp_push, cmpX, Bool.false_eq_true, List.map_cons, List.map_nil, List.replicate, List.cons_append, List.nil_append, List.set_cons_zero, List.set_cons_succ, bindT_nm, bindT2, wipeE, partX, xs_nil, xs_set, xs_setT, xs_par, xs_sub, xs_exp, xs_if, xs_for, xs_ret, xs_ret0, xs_rai0, xs_pass, seqQ_nx, seqQ_ret, retQ_ret, retQ_nx, wp_tru_bl, wp_tru_tup, wp_tru_tl, wp_tru_int, wp_tru_non, wp_eq_str, wp_eq_int, wp_eq_bl, wp_lt_int, wp_len_tup, wp_len_tl, wp_items_tup, wp_items_tl, wp_litems_tl, wp_walk_tup, wp_walk_tl, wp_idx_tup (at0 _ _), wp_idx_tup (at1 _ _ _), wp_idx_tup (at2 _ _ _ _), wp_idx_tup (at3 _ _ _ _ _), cut1, decide_eq_true_eq, wp_tuple, wp_list_tup, wp_int, wp_addi, wp_subi, setAll, wp_unpack_tup, isiStr_str, isiTup_tup, isiTl]
        refine pers_ret hs hp F _ _ _ _ (by omega) ?_
        have sm : D.sims [D.tup [.str "is", p, .tup [.str "any"]]] = true := by simp only [D.sims, a1, Bool.and_self]
        simp only [ev_var, ev_glb, ev_isV, ev_cint, ev_cstr, ev_cnon, ev_cbl, ev_tup, ev_lst, ev_dct0, ev_bin, ev_notf, ev_nott, ev_and, ev_or, ev_cmp, ev_chn, ev_ite, ev_call, ev_blt, ev_mth, ev_idx, ev_slc, ev_frc, ev_lc, ev_callk, ev_neg, varX, glX, List.getElem?_cons_succ, List.getElem?_cons_zero, evs, evx, evc, asTf, asTt, wp_bind, wp_pure, wp_ite, if_true, if_false, wp_theB, Bool.not_true, Bool.not_false, Bool.not_not, wp_force, wp_forceT, wp_push, cmpX, Bool.false_eq_true, List.map_cons, List.map_nil, List.replicate, List.cons_append, List.nil_append, List.set_cons_zero, List.set_cons_succ, bindT_nm, bindT2, wipeE, partX, xs_nil, xs_set, xs_setT, xs_par, xs_sub, xs_exp, xs_if, xs_for, xs_ret, xs_ret0, xs_rai0, xs_pass, seqQ_nx, seqQ_ret, retQ_ret, retQ_nx, wp_tru_bl, wp_tru_tup, wp_tru_tl, wp_tru_int, wp_tru_non, wp_eq_str, wp_eq_int, wp_eq_bl, wp_lt_int, wp_len_tup, wp_len_tl, wp_items_tup, wp_items_tl, wp_litems_tl, wp_walk_tup, wp_walk_tl, wp_idx_tup (at0 _ _), wp_idx_tup (at1 _ _ _), wp_idx_tup (at2 _ _ _ _), wp_idx_tup (at3 _ _ _ _ _), cut1, decide_eq_true_eq, wp_tuple, wp_list_tup, wp_int, wp_addi, wp_subi, setAll, wp_unpack_tup, isiStr_str, isiTup_tup, isiTl, hga, wp_in_tup s3 s4 hps, wp_in_loc gt2 a3 a4 sm, Bool.not_eq_true', decide_eq_false_iff_not]
        by_cases hm2 : p2 ∈ pers fs
        · rw [if_pos (.inl hm2)] at pg q
          rw [if_neg (by simpa using hm2)]
          simp only [ev_var, ev_glb, ev_isV, ev_cint, ev_cstr, ev_cnon, ev_cbl, ev_tup, ev_lst, ev_dct0, ev_bin, ev_notf, ev_nott, ev_and, ev_or, ev_cmp, ev_chn, ev_ite, ev_call, ev_blt, ev_mth, ev_idx, ev_slc, ev_frc, ev_lc, ev_callk, ev_neg, varX, glX, List.getElem?_cons_succ, List.getElem?_cons_zero, evs, evx, evc, asTf, asTt, wp_bind, wp_pure, wp_ite, if_true, if_false, wp_theB, Bool.not_true, Bool.not_false, Bool.not_not, wp_force, wp_forceT, wp_push, cmpX, Bool.false_eq_true, List.map_cons, List.map_nil, List.replicate, List.cons_append, List.nil_append, List.set_cons_zero, List.set_cons_succ, bindT_nm, bindT2, wipeE, partX, xs_nil, xs_set, xs_setT, xs_par, xs_sub, xs_exp, xs_if, xs_for, xs_ret, xs_ret0, xs_rai0, xs_pass, seqQ_nx, seqQ_ret, retQ_ret, retQ_nx, wp_tru_bl, wp_tru_tup, wp_tru_tl, wp_tru_int, wp_tru_non, wp_eq_str, wp_eq_int, wp_eq_bl, wp_lt_int, wp_len_tup, wp_len_tl, wp_items_tup, wp_items_tl, wp_litems_tl, wp_walk_tup, wp_walk_tl, wp_idx_tup (at0 _ _), wp_idx_tup (at1 _ _ _), wp_idx_tup (at2 _ _ _ _), wp_idx_tup (at3 _ _ _ _ _), cut1, decide_eq_true_eq, wp_tuple, wp_list_tup, wp_int, wp_addi, wp_subi, setAll, wp_unpack_tup, isiStr_str, isiTup_tup, isiTl, wp_forRun_nil, wp_items_loc gt2, wp_addt (hA [_] (by simp))]
          rw [← isAny, tidy_pl pg]; exact q
        · rw [if_pos (by simpa using hm2)]
          by_cases he : p2 = p
          · rw [if_pos (.inr he)] at pg q
            rw [if_neg (by simp [he])]
            simp only [ev_var, ev_glb, ev_isV, ev_cint, ev_cstr, ev_cnon, ev_cbl, ev_tup, ev_lst, ev_dct0, ev_bin, ev_notf, ev_nott, ev_and, ev_or, ev_cmp, ev_chn, ev_ite, ev_call, ev_blt, ev_mth, ev_idx, ev_slc, ev_frc, ev_lc, ev_callk, ev_neg, varX, glX, List.getElem?_cons_succ, List.getElem?_cons_zero, evs, evx, evc, asTf, asTt, wp_bind, wp_pure, wp_ite, if_true, if_false, wp_theB, Bool.not_true, Bool.not_false, Bool.not_not, wp_force, wp_forceT, wp_push, cmpX, Bool.false_eq_true, List.map_cons, List.map_nil, List.replicate, List.cons_append, List.nil_append, List.set_cons_zero, List.set_cons_succ, bindT_nm, bindT2, wipeE, partX, xs_nil, xs_set, xs_setT, xs_par, xs_sub, xs_exp, xs_if, xs_for, xs_ret, xs_ret0, xs_rai0, xs_pass, seqQ_nx, seqQ_ret, retQ_ret, retQ_nx, wp_tru_bl, wp_tru_tup, wp_tru_tl, wp_tru_int, wp_tru_non, wp_eq_str, wp_eq_int, wp_eq_bl, wp_lt_int, wp_len_tup, wp_len_tl, wp_items_tup, wp_items_tl, wp_litems_tl, wp_walk_tup, wp_walk_tl, wp_idx_tup (at0 _ _), wp_idx_tup (at1 _ _ _), wp_idx_tup (at2 _ _ _ _), wp_idx_tup (at3 _ _ _ _ _), cut1, decide_eq_true_eq, wp_tuple, wp_list_tup, wp_int, wp_addi, wp_subi, setAll, wp_unpack_tup, isiStr_str, isiTup_tup, isiTl, wp_forRun_nil, wp_items_loc gt2, wp_addt (hA [_] (by simp))]
            rw [← isAny, tidy_pl pg]; exact q
          · rw [if_neg (by simp [hm2, he])] at pg q
            rw [if_pos (by simp [he])]
            simp only [ev_var, ev_glb, ev_isV, ev_cint, ev_cstr, ev_cnon, ev_cbl, ev_tup, ev_lst, ev_dct0, ev_bin, ev_notf, ev_nott, ev_and, ev_or, ev_cmp, ev_chn, ev_ite, ev_call, ev_blt, ev_mth, ev_idx, ev_slc, ev_frc, ev_lc, ev_callk, ev_neg, varX, glX, List.getElem?_cons_succ, List.getElem?_cons_zero, evs, evx, evc, asTf, asTt, wp_bind, wp_pure, wp_ite, if_true, if_false, wp_theB, Bool.not_true, Bool.not_false, Bool.not_not, wp_force, wp_forceT, wp_push, cmpX, Bool.false_eq_true, List.map_cons, List.map_nil, List.replicate, List.cons_append, List.nil_append, List.set_cons_zero, List.set_cons_succ, bindT_nm, bindT2, wipeE, partX, xs_nil, xs_set, xs_setT, xs_par, xs_sub, xs_exp, xs_if, xs_for, xs_ret, xs_ret0, xs_rai0, xs_pass, seqQ_nx, seqQ_ret, retQ_ret, retQ_nx, wp_tru_bl, wp_tru_tup, wp_tru_tl, wp_tru_int, wp_tru_non, wp_eq_str, wp_eq_int, wp_eq_bl, wp_lt_int, wp_len_tup, wp_len_tl, wp_items_tup, wp_items_tl, wp_litems_tl, wp_walk_tup, wp_walk_tl, wp_idx_tup (at0 _ _), wp_idx_tup (at1 _ _ _), wp_idx_tup (at2 _ _ _ _), wp_idx_tup (at3 _ _ _ _ _), cut1, decide_eq_true_eq, wp_tuple, wp_list_tup, wp_int, wp_addi, wp_subi, setAll, wp_unpack_tup, isiStr_str, isiTup_tup, isiTl, hga, wp_recv_lst (m := .append) gt2 rfl]
            rw [wp_append gt2 (by unfold sizeLine; simp)]
            simp only [ev_var, ev_glb, ev_isV, ev_cint, ev_cstr, ev_cnon, ev_cbl, ev_tup, ev_lst, ev_dct0, ev_bin, ev_notf, ev_nott, ev_and, ev_or, ev_cmp, ev_chn, ev_ite, ev_call, ev_blt, ev_mth, ev_idx, ev_slc, ev_frc, ev_lc, ev_callk, ev_neg, varX, glX, List.getElem?_cons_succ, List.getElem?_cons_zero, evs, evx, evc, asTf, asTt, wp_bind, wp_pure, wp_ite, if_true, if_false, wp_theB, Bool.not_true, Bool.not_false, Bool.not_not, wp_force, wp_forceT, wp_push, cmpX, Bool.false_eq_true, List.map_cons, List.map_nil, List.replicate, List.cons_append, List.nil_append, List.set_cons_zero, List.set_cons_succ, bindT_nm, bindT2, wipeE, partX, xs_nil, xs_set, xs_setT, xs_par, xs_sub, xs_exp, xs_if, xs_for, xs_ret, xs_ret0, xs_rai0, xs_pass, seqQ_nx, seqQ_ret, retQ_ret, retQ_nx, wp_tru_bl, wp_tru_tup, wp_tru_tl, wp_tru_int, wp_tru_non, wp_eq_str, wp_eq_int, wp_eq_bl, wp_lt_int, wp_len_tup, wp_len_tl, wp_items_tup, wp_items_tl, wp_litems_tl, wp_walk_tup, wp_walk_tl, wp_idx_tup (at0 _ _), wp_idx_tup (at1 _ _ _), wp_idx_tup (at2 _ _ _ _), wp_idx_tup (at3 _ _ _ _ _), cut1, decide_eq_true_eq, wp_tuple, wp_list_tup, wp_int, wp_addi, wp_subi, setAll, wp_unpack_tup, isiStr_str, isiTup_tup, isiTl, wp_forRun_nil, st2, wp_items_loc gt2, wp_addt (hA [_, _] (by simp))]
            rw [← isAny, ← isAny, tidy_pl pg]; exact q
end
end Kd
/-! The law's asked. -/
namespace Kd
open PySem
theorem anyK : KOk (.tup [.str "any"]) := ⟨.tup fun d hd => by rw [List.mem_singleton.mp hd]; exact .s (by decide), by simp [D.dep, D.deps], by decide⟩
theorem noneK : KOk (.tup [.str "none"]) := ⟨.tup fun d hd => by rw [List.mem_singleton.mp hd]; exact .s (by decide), by simp [D.dep, D.deps], by decide⟩
theorem fc_isAny {p : D} (h : WOk p) : Fc (isAny p) := .is_ h anyK
theorem Fs.add {fs : List D} (F : Fs fs) {d : D} (h : Fc d) (hl : fs.length ≤ 8) : Fs (fs ++ [d]) := ⟨fun x hx => by
  rcases List.mem_append.mp hx with hx | hx
  · exact F.fc x hx
  · rw [List.mem_singleton.mp hx]; exact h, by simp; omega⟩
theorem pers_isAny {fs : List D} {p x : D} : x ∈ pers (fs ++ [isAny p]) ↔ x ∈ pers fs ∨ x = p := by
  rw [pers_mem, pers_mem, List.flatMap_append, List.mem_append]
  simp [isAny, perOf]
section
variable {P : Prg} {k : Nat} {S : Sto} {E : EQ} {Q : D → Sto → Prop}
theorem gt21 {S : Sto} {a b : Ob} : (S ++ [a] ++ [b])[S.length + 1]? = some b := by simp
theorem lask_ok {f ifr ip : Nat} (hf : P.fn f = some (fLAsk ifr ip)) (hfr : P.fn ifr = some (fLFresh ip)) (hs : P.fn ip = some fLPers) {fs : List D} (F : Fs fs) (hl8 : fs.length ≤ 8) {c : D} (hc : Cl c) {x y z : Str} (e : freshD (pers fs) = [.str x, .str y, .str z]) (hx : x.length ≤ 8) (hy : y.length ≤ 8) (hz : z.length ≤ 8) :
    Ret P 4 f [.tup fs, c] (.tup (askD fs (.str x) (.str y) (.str z) c)) := fun k S E Q hk q => by
  refine wp_def hf (by omega) rfl ?_
  obtain ⟨pg, pl⟩ := askD_pl (x := .str x) (y := .str y) (z := .str z) F (.s (by omega)) (.s (by omega)) (.s (by omega)) hc
  have pg := Pl.tup pg (by have := F.ln; omega)
  have fl := F.ln
  have hA : ∀ l : List D, l.length ≤ 2 → fs.length + l.length ≤ sizeLine := fun l hl => by unfold sizeLine; omega
  have hA2 : ∀ p q : D, (fs ++ [p]).length + [q].length ≤ sizeLine := fun p q => by unfold sizeLine; simp; omega
  have hB : ∀ a b : D, [a].length + [b].length ≤ sizeLine := fun a b => by unfold sizeLine; simp
  have hB0 : ∀ a : D, [a].length + ([] : List D).length ≤ sizeLine := fun a => by unfold sizeLine; simp
  simp only [fLAsk, ev_var, ev_glb, ev_isV, ev_cint, ev_cstr, ev_cnon, ev_cbl, ev_tup, ev_lst, ev_dct0, ev_bin, ev_notf, ev_nott, ev_and, ev_or, ev_cmp, ev_chn, ev_ite, ev_call, ev_blt, ev_mth, ev_idx, ev_slc, ev_frc, ev_lc, ev_callk, ev_neg, varX, glX, List.getElem?_cons_succ, List.getElem?_cons_zero, evs, evx, evc, asTf, asTt, wp_bind, wp_pure, wp_ite, if_true, if_false, wp_theB, Bool.not_true, Bool.not_false, Bool.not_not, wp_force, wp_forceT, wp_push, cmpX, Bool.false_eq_true, List.map_cons, List.map_nil, List.replicate, List.cons_append, List.nil_append, List.set_cons_zero, List.set_cons_succ, bindT_nm, bindT2, wipeE, partX, xs_nil, xs_set, xs_setT, xs_par, xs_sub, xs_exp, xs_if, xs_for, xs_ret, xs_ret0, xs_rai0, xs_pass, seqQ_nx, seqQ_ret, retQ_ret, retQ_nx, wp_tru_bl, wp_tru_tup, wp_tru_tl, wp_tru_int, wp_tru_non, wp_eq_str, wp_eq_int, wp_eq_bl, wp_lt_int, wp_len_tup, wp_len_tl, wp_items_tup, wp_items_tl, wp_litems_tl, wp_walk_tup, wp_walk_tl, wp_idx_tup (at0 _ _), wp_idx_tup (at1 _ _ _), wp_idx_tup (at2 _ _ _ _), wp_idx_tup (at3 _ _ _ _ _), cut1, decide_eq_true_eq, wp_tuple, wp_list_tup, wp_int, wp_addi, wp_subi, setAll, wp_unpack_tup, isiStr_str, isiTup_tup, isiTl]
  refine lfresh_ret hfr hs F (by omega) fun T U => ?_
  have hl : (S ++ [T, U, .lst [.str x, .str y, .str z]])[S.length + 2]? = some (.lst [.str x, .str y, .str z]) := by simp
  rw [e, wp_unpack_loc (n := [4, 5, 6].length) hl (by rfl)]
  have hc' := hc
  cases hc with
  | below h1 h2 =>
    simp only [askD, ne_below_role, ne_below_is, if_false] at pg q
    simp only [ev_var, ev_glb, ev_isV, ev_cint, ev_cstr, ev_cnon, ev_cbl, ev_tup, ev_lst, ev_dct0, ev_bin, ev_notf, ev_nott, ev_and, ev_or, ev_cmp, ev_chn, ev_ite, ev_call, ev_blt, ev_mth, ev_idx, ev_slc, ev_frc, ev_lc, ev_callk, ev_neg, varX, glX, List.getElem?_cons_succ, List.getElem?_cons_zero, evs, evx, evc, asTf, asTt, wp_bind, wp_pure, wp_ite, if_true, if_false, wp_theB, Bool.not_true, Bool.not_false, Bool.not_not, wp_force, wp_forceT, wp_push, cmpX, Bool.false_eq_true, List.map_cons, List.map_nil, List.replicate, List.cons_append, List.nil_append, List.set_cons_zero, List.set_cons_succ, bindT_nm, bindT2, wipeE, partX, xs_nil, xs_set, xs_setT, xs_par, xs_sub, xs_exp, xs_if, xs_for, xs_ret, xs_ret0, xs_rai0, xs_pass, seqQ_nx, seqQ_ret, retQ_ret, retQ_nx, wp_tru_bl, wp_tru_tup, wp_tru_tl, wp_tru_int, wp_tru_non, wp_eq_str, wp_eq_int, wp_eq_bl, wp_lt_int, wp_len_tup, wp_len_tl, wp_items_tup, wp_items_tl, wp_litems_tl, wp_walk_tup, wp_walk_tl, wp_idx_tup (at0 _ _), wp_idx_tup (at1 _ _ _), wp_idx_tup (at2 _ _ _ _), wp_idx_tup (at3 _ _ _ _ _), cut1, decide_eq_true_eq, wp_tuple, wp_list_tup, wp_int, wp_addi, wp_subi, setAll, wp_unpack_tup, isiStr_str, isiTup_tup, isiTl, tidy_pl pg]
    exact q
  | role h1 h2 =>
    simp only [ev_var, ev_glb, ev_isV, ev_cint, ev_cstr, ev_cnon, ev_cbl, ev_tup, ev_lst, ev_dct0, ev_bin, ev_notf, ev_nott, ev_and, ev_or, ev_cmp, ev_chn, ev_ite, ev_call, ev_blt, ev_mth, ev_idx, ev_slc, ev_frc, ev_lc, ev_callk, ev_neg, varX, glX, List.getElem?_cons_succ, List.getElem?_cons_zero, evs, evx, evc, asTf, asTt, wp_bind, wp_pure, wp_ite, if_true, if_false, wp_theB, Bool.not_true, Bool.not_false, Bool.not_not, wp_force, wp_forceT, wp_push, cmpX, Bool.false_eq_true, List.map_cons, List.map_nil, List.replicate, List.cons_append, List.nil_append, List.set_cons_zero, List.set_cons_succ, bindT_nm, bindT2, wipeE, partX, xs_nil, xs_set, xs_setT, xs_par, xs_sub, xs_exp, xs_if, xs_for, xs_ret, xs_ret0, xs_rai0, xs_pass, seqQ_nx, seqQ_ret, retQ_ret, retQ_nx, wp_tru_bl, wp_tru_tup, wp_tru_tl, wp_tru_int, wp_tru_non, wp_eq_str, wp_eq_int, wp_eq_bl, wp_lt_int, wp_len_tup, wp_len_tl, wp_items_tup, wp_items_tl, wp_litems_tl, wp_walk_tup, wp_walk_tl, wp_idx_tup (at0 _ _), wp_idx_tup (at1 _ _ _), wp_idx_tup (at2 _ _ _ _), wp_idx_tup (at3 _ _ _ _ _), cut1, decide_eq_true_eq, wp_tuple, wp_list_tup, wp_int, wp_addi, wp_subi, setAll, wp_unpack_tup, isiStr_str, isiTup_tup, isiTl, ne_role_below, wp_addt (hA [_] (by simp))]
    simp only [askD, if_true] at pg q
    rw [← tTo, tidy_pl pg]; exact q
  | chain h1 h2 h3 =>
    simp only [ev_var, ev_glb, ev_isV, ev_cint, ev_cstr, ev_cnon, ev_cbl, ev_tup, ev_lst, ev_dct0, ev_bin, ev_notf, ev_nott, ev_and, ev_or, ev_cmp, ev_chn, ev_ite, ev_call, ev_blt, ev_mth, ev_idx, ev_slc, ev_frc, ev_lc, ev_callk, ev_neg, varX, glX, List.getElem?_cons_succ, List.getElem?_cons_zero, evs, evx, evc, asTf, asTt, wp_bind, wp_pure, wp_ite, if_true, if_false, wp_theB, Bool.not_true, Bool.not_false, Bool.not_not, wp_force, wp_forceT, wp_push, cmpX, Bool.false_eq_true, List.map_cons, List.map_nil, List.replicate, List.cons_append, List.nil_append, List.set_cons_zero, List.set_cons_succ, bindT_nm, bindT2, wipeE, partX, xs_nil, xs_set, xs_setT, xs_par, xs_sub, xs_exp, xs_if, xs_for, xs_ret, xs_ret0, xs_rai0, xs_pass, seqQ_nx, seqQ_ret, retQ_ret, retQ_nx, wp_tru_bl, wp_tru_tup, wp_tru_tl, wp_tru_int, wp_tru_non, wp_eq_str, wp_eq_int, wp_eq_bl, wp_lt_int, wp_len_tup, wp_len_tl, wp_items_tup, wp_items_tl, wp_litems_tl, wp_walk_tup, wp_walk_tl, wp_idx_tup (at0 _ _), wp_idx_tup (at1 _ _ _), wp_idx_tup (at2 _ _ _ _), wp_idx_tup (at3 _ _ _ _ _), cut1, decide_eq_true_eq, wp_tuple, wp_list_tup, wp_int, wp_addi, wp_subi, setAll, wp_unpack_tup, isiStr_str, isiTup_tup, isiTl, ne_chain_below, ne_chain_role, wp_addt (hA [_, _] (by simp))]
    simp only [askD, if_true] at pg q
    rw [← tTo, ← tTo, tidy_pl pg]; exact q
  | fact h =>
    cases h with
    | @is_ p r h1 h2 =>
      obtain ⟨s1, s2⟩ := str_sim h1.st
      simp only [ev_var, ev_glb, ev_isV, ev_cint, ev_cstr, ev_cnon, ev_cbl, ev_tup, ev_lst, ev_dct0, ev_bin, ev_notf, ev_nott, ev_and, ev_or, ev_cmp, ev_chn, ev_ite, ev_call, ev_blt, ev_mth, ev_idx, ev_slc, ev_frc, ev_lc, ev_callk, ev_neg, varX, glX, List.getElem?_cons_succ, List.getElem?_cons_zero, evs, evx, evc, asTf, asTt, wp_bind, wp_pure, wp_ite, if_true, if_false, wp_theB, Bool.not_true, Bool.not_false, Bool.not_not, wp_force, wp_forceT, wp_push, cmpX, Bool.false_eq_true, List.map_cons, List.map_nil, List.replicate, List.cons_append, List.nil_append, List.set_cons_zero, List.set_cons_succ, bindT_nm, bindT2, wipeE, partX, xs_nil, xs_set, xs_setT, xs_par, xs_sub, xs_exp, xs_if, xs_for, xs_ret, xs_ret0, xs_rai0, xs_pass, seqQ_nx, seqQ_ret, retQ_ret, retQ_nx, wp_tru_bl, wp_tru_tup, wp_tru_tl, wp_tru_int, wp_tru_non, wp_eq_str, wp_eq_int, wp_eq_bl, wp_lt_int, wp_len_tup, wp_len_tl, wp_items_tup, wp_items_tl, wp_litems_tl, wp_walk_tup, wp_walk_tl, wp_idx_tup (at0 _ _), wp_idx_tup (at1 _ _ _), wp_idx_tup (at2 _ _ _ _), wp_idx_tup (at3 _ _ _ _ _), cut1, decide_eq_true_eq, wp_tuple, wp_list_tup, wp_int, wp_addi, wp_subi, setAll, wp_unpack_tup, isiStr_str, isiTup_tup, isiTl, ne_is_below, ne_is_role, ne_is_chain, ne_is_to, wp_addl (hB0 _)]
      rw [wp_forRun_cons]
      simp only [ev_var, ev_glb, ev_isV, ev_cint, ev_cstr, ev_cnon, ev_cbl, ev_tup, ev_lst, ev_dct0, ev_bin, ev_notf, ev_nott, ev_and, ev_or, ev_cmp, ev_chn, ev_ite, ev_call, ev_blt, ev_mth, ev_idx, ev_slc, ev_frc, ev_lc, ev_callk, ev_neg, varX, glX, List.getElem?_cons_succ, List.getElem?_cons_zero, evs, evx, evc, asTf, asTt, wp_bind, wp_pure, wp_ite, if_true, if_false, wp_theB, Bool.not_true, Bool.not_false, Bool.not_not, wp_force, wp_forceT, wp_push, cmpX, Bool.false_eq_true, List.map_cons, List.map_nil, List.replicate, List.cons_append, List.nil_append, List.set_cons_zero, List.set_cons_succ, bindT_nm, bindT2, wipeE, partX, xs_nil, xs_set, xs_setT, xs_par, xs_sub, xs_exp, xs_if, xs_for, xs_ret, xs_ret0, xs_rai0, xs_pass, seqQ_nx, seqQ_ret, retQ_ret, retQ_nx, wp_tru_bl, wp_tru_tup, wp_tru_tl, wp_tru_int, wp_tru_non, wp_eq_str, wp_eq_int, wp_eq_bl, wp_lt_int, wp_len_tup, wp_len_tl, wp_items_tup, wp_items_tl, wp_litems_tl, wp_walk_tup, wp_walk_tl, wp_idx_tup (at0 _ _), wp_idx_tup (at1 _ _ _), wp_idx_tup (at2 _ _ _ _), wp_idx_tup (at3 _ _ _ _ _), cut1, decide_eq_true_eq, wp_tuple, wp_list_tup, wp_int, wp_addi, wp_subi, setAll, wp_unpack_tup, isiStr_str, isiTup_tup, isiTl]
      refine lpers_ret hs F (by omega) fun V => ?_
      have hps := (strs_sim F.pers_str).1
      have gp : ∀ A : Sto, (A ++ [V, Ob.lst (pers fs)])[A.length + 1]? = some (.lst (pers fs)) := fun A => gt2
      simp only [ev_var, ev_glb, ev_isV, ev_cint, ev_cstr, ev_cnon, ev_cbl, ev_tup, ev_lst, ev_dct0, ev_bin, ev_notf, ev_nott, ev_and, ev_or, ev_cmp, ev_chn, ev_ite, ev_call, ev_blt, ev_mth, ev_idx, ev_slc, ev_frc, ev_lc, ev_callk, ev_neg, varX, glX, List.getElem?_cons_succ, List.getElem?_cons_zero, evs, evx, evc, asTf, asTt, wp_bind, wp_pure, wp_ite, if_true, if_false, wp_theB, Bool.not_true, Bool.not_false, Bool.not_not, wp_force, wp_forceT, wp_push, cmpX, Bool.false_eq_true, List.map_cons, List.map_nil, List.replicate, List.cons_append, List.nil_append, List.set_cons_zero, List.set_cons_succ, bindT_nm, bindT2, wipeE, partX, xs_nil, xs_set, xs_setT, xs_par, xs_sub, xs_exp, xs_if, xs_for, xs_ret, xs_ret0, xs_rai0, xs_pass, seqQ_nx, seqQ_ret, retQ_ret, retQ_nx, wp_tru_bl, wp_tru_tup, wp_tru_tl, wp_tru_int, wp_tru_non, wp_eq_str, wp_eq_int, wp_eq_bl, wp_lt_int, wp_len_tup, wp_len_tl, wp_items_tup, wp_items_tl, wp_litems_tl, wp_walk_tup, wp_walk_tl, wp_idx_tup (at0 _ _), wp_idx_tup (at1 _ _ _), wp_idx_tup (at2 _ _ _ _), wp_idx_tup (at3 _ _ _ _ _), cut1, decide_eq_true_eq, wp_tuple, wp_list_tup, wp_int, wp_addi, wp_subi, setAll, wp_unpack_tup, isiStr_str, isiTup_tup, isiTl, wp_in_loc (gp _) s1 s2 hps, Bool.not_eq_true', decide_eq_false_iff_not]
      simp only [askD, ne_is_role, if_false, if_true] at pg q
      by_cases hm : p ∈ pers fs
      · rw [if_pos hm] at pg q
        rw [if_neg (by simpa using hm)]
        rw [wp_forRun_nil]
        simp only [ev_var, ev_glb, ev_isV, ev_cint, ev_cstr, ev_cnon, ev_cbl, ev_tup, ev_lst, ev_dct0, ev_bin, ev_notf, ev_nott, ev_and, ev_or, ev_cmp, ev_chn, ev_ite, ev_call, ev_blt, ev_mth, ev_idx, ev_slc, ev_frc, ev_lc, ev_callk, ev_neg, varX, glX, List.getElem?_cons_succ, List.getElem?_cons_zero, evs, evx, evc, asTf, asTt, wp_bind, wp_pure, wp_ite, if_true, if_false, wp_theB, Bool.not_true, Bool.not_false, Bool.not_not, wp_force, wp_forceT, wp_push, cmpX, Bool.false_eq_true, List.map_cons, List.map_nil, List.replicate, List.cons_append, List.nil_append, List.set_cons_zero, List.set_cons_succ, bindT_nm, bindT2, wipeE, partX, xs_nil, xs_set, xs_setT, xs_par, xs_sub, xs_exp, xs_if, xs_for, xs_ret, xs_ret0, xs_rai0, xs_pass, seqQ_nx, seqQ_ret, retQ_ret, retQ_nx, wp_tru_bl, wp_tru_tup, wp_tru_tl, wp_tru_int, wp_tru_non, wp_eq_str, wp_eq_int, wp_eq_bl, wp_lt_int, wp_len_tup, wp_len_tl, wp_items_tup, wp_items_tl, wp_litems_tl, wp_walk_tup, wp_walk_tl, wp_idx_tup (at0 _ _), wp_idx_tup (at1 _ _ _), wp_idx_tup (at2 _ _ _ _), wp_idx_tup (at3 _ _ _ _ _), cut1, decide_eq_true_eq, wp_tuple, wp_list_tup, wp_int, wp_addi, wp_subi, setAll, wp_unpack_tup, isiStr_str, isiTup_tup, isiTl]
        rw [List.append_assoc, tidy_pl pg]; exact q
      · rw [if_neg hm] at pg q
        rw [if_pos (by simpa using hm)]
        simp only [ev_var, ev_glb, ev_isV, ev_cint, ev_cstr, ev_cnon, ev_cbl, ev_tup, ev_lst, ev_dct0, ev_bin, ev_notf, ev_nott, ev_and, ev_or, ev_cmp, ev_chn, ev_ite, ev_call, ev_blt, ev_mth, ev_idx, ev_slc, ev_frc, ev_lc, ev_callk, ev_neg, varX, glX, List.getElem?_cons_succ, List.getElem?_cons_zero, evs, evx, evc, asTf, asTt, wp_bind, wp_pure, wp_ite, if_true, if_false, wp_theB, Bool.not_true, Bool.not_false, Bool.not_not, wp_force, wp_forceT, wp_push, cmpX, Bool.false_eq_true, List.map_cons, List.map_nil, List.replicate, List.cons_append, List.nil_append, List.set_cons_zero, List.set_cons_succ, bindT_nm, bindT2, wipeE, partX, xs_nil, xs_set, xs_setT, xs_par, xs_sub, xs_exp, xs_if, xs_for, xs_ret, xs_ret0, xs_rai0, xs_pass, seqQ_nx, seqQ_ret, retQ_ret, retQ_nx, wp_tru_bl, wp_tru_tup, wp_tru_tl, wp_tru_int, wp_tru_non, wp_eq_str, wp_eq_int, wp_eq_bl, wp_lt_int, wp_len_tup, wp_len_tl, wp_items_tup, wp_items_tl, wp_litems_tl, wp_walk_tup, wp_walk_tl, wp_idx_tup (at0 _ _), wp_idx_tup (at1 _ _ _), wp_idx_tup (at2 _ _ _ _), wp_idx_tup (at3 _ _ _ _ _), cut1, decide_eq_true_eq, wp_tuple, wp_list_tup, wp_int, wp_addi, wp_subi, setAll, wp_unpack_tup, isiStr_str, isiTup_tup, isiTl, wp_addt (hA [_] (by simp)), wp_forRun_nil]
        rw [List.append_assoc, ← isAny, tidy_pl pg]; exact q
    | @to_ p r p2 h1 h2 h3 =>
      obtain ⟨s1, s2⟩ := str_sim h1.st
      obtain ⟨s3, s4⟩ := str_sim h3.st
      simp only [ev_var, ev_glb, ev_isV, ev_cint, ev_cstr, ev_cnon, ev_cbl, ev_tup, ev_lst, ev_dct0, ev_bin, ev_notf, ev_nott, ev_and, ev_or, ev_cmp, ev_chn, ev_ite, ev_call, ev_blt, ev_mth, ev_idx, ev_slc, ev_frc, ev_lc, ev_callk, ev_neg, varX, glX, List.getElem?_cons_succ, List.getElem?_cons_zero, evs, evx, evc, asTf, asTt, wp_bind, wp_pure, wp_ite, if_true, if_false, wp_theB, Bool.not_true, Bool.not_false, Bool.not_not, wp_force, wp_forceT, wp_push, cmpX, Bool.false_eq_true, List.map_cons, List.map_nil, List.replicate, List.cons_append, List.nil_append, List.set_cons_zero, List.set_cons_succ, bindT_nm, bindT2, wipeE, partX, xs_nil, xs_set, xs_setT, xs_par, xs_sub, xs_exp, xs_if, xs_for, xs_ret, xs_ret0, xs_rai0, xs_pass, seqQ_nx, seqQ_ret, retQ_ret, retQ_nx, wp_tru_bl, wp_tru_tup, wp_tru_tl, wp_tru_int, wp_tru_non, wp_eq_str, wp_eq_int, wp_eq_bl, wp_lt_int, wp_len_tup, wp_len_tl, wp_items_tup, wp_items_tl, wp_litems_tl, wp_walk_tup, wp_walk_tl, wp_idx_tup (at0 _ _), wp_idx_tup (at1 _ _ _), wp_idx_tup (at2 _ _ _ _), wp_idx_tup (at3 _ _ _ _ _), cut1, decide_eq_true_eq, wp_tuple, wp_list_tup, wp_int, wp_addi, wp_subi, setAll, wp_unpack_tup, isiStr_str, isiTup_tup, isiTl, ne_to_below, ne_to_role, ne_to_chain, wp_addl (hB _ _)]
      rw [wp_forRun_cons]
      simp only [ev_var, ev_glb, ev_isV, ev_cint, ev_cstr, ev_cnon, ev_cbl, ev_tup, ev_lst, ev_dct0, ev_bin, ev_notf, ev_nott, ev_and, ev_or, ev_cmp, ev_chn, ev_ite, ev_call, ev_blt, ev_mth, ev_idx, ev_slc, ev_frc, ev_lc, ev_callk, ev_neg, varX, glX, List.getElem?_cons_succ, List.getElem?_cons_zero, evs, evx, evc, asTf, asTt, wp_bind, wp_pure, wp_ite, if_true, if_false, wp_theB, Bool.not_true, Bool.not_false, Bool.not_not, wp_force, wp_forceT, wp_push, cmpX, Bool.false_eq_true, List.map_cons, List.map_nil, List.replicate, List.cons_append, List.nil_append, List.set_cons_zero, List.set_cons_succ, bindT_nm, bindT2, wipeE, partX, xs_nil, xs_set, xs_setT, xs_par, xs_sub, xs_exp, xs_if, xs_for, xs_ret, xs_ret0, xs_rai0, xs_pass, seqQ_nx, seqQ_ret, retQ_ret, retQ_nx, wp_tru_bl, wp_tru_tup, wp_tru_tl, wp_tru_int, wp_tru_non, wp_eq_str, wp_eq_int, wp_eq_bl, wp_lt_int, wp_len_tup, wp_len_tl, wp_items_tup, wp_items_tl, wp_litems_tl, wp_walk_tup, wp_walk_tl, wp_idx_tup (at0 _ _), wp_idx_tup (at1 _ _ _), wp_idx_tup (at2 _ _ _ _), wp_idx_tup (at3 _ _ _ _ _), cut1, decide_eq_true_eq, wp_tuple, wp_list_tup, wp_int, wp_addi, wp_subi, setAll, wp_unpack_tup, isiStr_str, isiTup_tup, isiTl]
      refine lpers_ret hs F (by omega) fun V => ?_
      have hps := (strs_sim F.pers_str).1
      have gp : ∀ A : Sto, (A ++ [V, Ob.lst (pers fs)])[A.length + 1]? = some (.lst (pers fs)) := fun A => gt2
      simp only [ev_var, ev_glb, ev_isV, ev_cint, ev_cstr, ev_cnon, ev_cbl, ev_tup, ev_lst, ev_dct0, ev_bin, ev_notf, ev_nott, ev_and, ev_or, ev_cmp, ev_chn, ev_ite, ev_call, ev_blt, ev_mth, ev_idx, ev_slc, ev_frc, ev_lc, ev_callk, ev_neg, varX, glX, List.getElem?_cons_succ, List.getElem?_cons_zero, evs, evx, evc, asTf, asTt, wp_bind, wp_pure, wp_ite, if_true, if_false, wp_theB, Bool.not_true, Bool.not_false, Bool.not_not, wp_force, wp_forceT, wp_push, cmpX, Bool.false_eq_true, List.map_cons, List.map_nil, List.replicate, List.cons_append, List.nil_append, List.set_cons_zero, List.set_cons_succ, bindT_nm, bindT2, wipeE, partX, xs_nil, xs_set, xs_setT, xs_par, xs_sub, xs_exp, xs_if, xs_for, xs_ret, xs_ret0, xs_rai0, xs_pass, seqQ_nx, seqQ_ret, retQ_ret, retQ_nx, wp_tru_bl, wp_tru_tup, wp_tru_tl, wp_tru_int, wp_tru_non, wp_eq_str, wp_eq_int, wp_eq_bl, wp_lt_int, wp_len_tup, wp_len_tl, wp_items_tup, wp_items_tl, wp_litems_tl, wp_walk_tup, wp_walk_tl, wp_idx_tup (at0 _ _), wp_idx_tup (at1 _ _ _), wp_idx_tup (at2 _ _ _ _), wp_idx_tup (at3 _ _ _ _ _), cut1, decide_eq_true_eq, wp_tuple, wp_list_tup, wp_int, wp_addi, wp_subi, setAll, wp_unpack_tup, isiStr_str, isiTup_tup, isiTl, wp_in_loc (gp _) s1 s2 hps, Bool.not_eq_true', decide_eq_false_iff_not]
      simp only [askD, ne_to_chain, if_false] at pg q
      by_cases hm : p ∈ pers fs
      · rw [if_pos hm] at pg q
        rw [if_neg (by simpa using hm)]
        rw [wp_forRun_cons]
        simp only [ev_var, ev_glb, ev_isV, ev_cint, ev_cstr, ev_cnon, ev_cbl, ev_tup, ev_lst, ev_dct0, ev_bin, ev_notf, ev_nott, ev_and, ev_or, ev_cmp, ev_chn, ev_ite, ev_call, ev_blt, ev_mth, ev_idx, ev_slc, ev_frc, ev_lc, ev_callk, ev_neg, varX, glX, List.getElem?_cons_succ, List.getElem?_cons_zero, evs, evx, evc, asTf, asTt, wp_bind, wp_pure, wp_ite, if_true, if_false, wp_theB, Bool.not_true, Bool.not_false, Bool.not_not, wp_force, wp_forceT, wp_push, cmpX, Bool.false_eq_true, List.map_cons, List.map_nil, List.replicate, List.cons_append, List.nil_append, List.set_cons_zero, List.set_cons_succ, bindT_nm, bindT2, wipeE, partX, xs_nil, xs_set, xs_setT, xs_par, xs_sub, xs_exp, xs_if, xs_for, xs_ret, xs_ret0, xs_rai0, xs_pass, seqQ_nx, seqQ_ret, retQ_ret, retQ_nx, wp_tru_bl, wp_tru_tup, wp_tru_tl, wp_tru_int, wp_tru_non, wp_eq_str, wp_eq_int, wp_eq_bl, wp_lt_int, wp_len_tup, wp_len_tl, wp_items_tup, wp_items_tl, wp_litems_tl, wp_walk_tup, wp_walk_tl, wp_idx_tup (at0 _ _), wp_idx_tup (at1 _ _ _), wp_idx_tup (at2 _ _ _ _), wp_idx_tup (at3 _ _ _ _ _), cut1, decide_eq_true_eq, wp_tuple, wp_list_tup, wp_int, wp_addi, wp_subi, setAll, wp_unpack_tup, isiStr_str, isiTup_tup, isiTl]
        refine lpers_ret hs F (by omega) fun V2 => ?_
        have gp : ∀ A : Sto, (A ++ [V2, Ob.lst (pers fs)])[A.length + 1]? = some (.lst (pers fs)) := fun A => gt2
        simp only [ev_var, ev_glb, ev_isV, ev_cint, ev_cstr, ev_cnon, ev_cbl, ev_tup, ev_lst, ev_dct0, ev_bin, ev_notf, ev_nott, ev_and, ev_or, ev_cmp, ev_chn, ev_ite, ev_call, ev_blt, ev_mth, ev_idx, ev_slc, ev_frc, ev_lc, ev_callk, ev_neg, varX, glX, List.getElem?_cons_succ, List.getElem?_cons_zero, evs, evx, evc, asTf, asTt, wp_bind, wp_pure, wp_ite, if_true, if_false, wp_theB, Bool.not_true, Bool.not_false, Bool.not_not, wp_force, wp_forceT, wp_push, cmpX, Bool.false_eq_true, List.map_cons, List.map_nil, List.replicate, List.cons_append, List.nil_append, List.set_cons_zero, List.set_cons_succ, bindT_nm, bindT2, wipeE, partX, xs_nil, xs_set, xs_setT, xs_par, xs_sub, xs_exp, xs_if, xs_for, xs_ret, xs_ret0, xs_rai0, xs_pass, seqQ_nx, seqQ_ret, retQ_ret, retQ_nx, wp_tru_bl, wp_tru_tup, wp_tru_tl, wp_tru_int, wp_tru_non, wp_eq_str, wp_eq_int, wp_eq_bl, wp_lt_int, wp_len_tup, wp_len_tl, wp_items_tup, wp_items_tl, wp_litems_tl, wp_walk_tup, wp_walk_tl, wp_idx_tup (at0 _ _), wp_idx_tup (at1 _ _ _), wp_idx_tup (at2 _ _ _ _), wp_idx_tup (at3 _ _ _ _ _), cut1, decide_eq_true_eq, wp_tuple, wp_list_tup, wp_int, wp_addi, wp_subi, setAll, wp_unpack_tup, isiStr_str, isiTup_tup, isiTl, wp_in_loc (gp _) s3 s4 hps, Bool.not_eq_true', decide_eq_false_iff_not]
        by_cases hm2 : p2 ∈ pers fs
        · rw [if_pos hm2] at pg q
          rw [if_neg (by simpa using hm2)]
          simp only [ev_var, ev_glb, ev_isV, ev_cint, ev_cstr, ev_cnon, ev_cbl, ev_tup, ev_lst, ev_dct0, ev_bin, ev_notf, ev_nott, ev_and, ev_or, ev_cmp, ev_chn, ev_ite, ev_call, ev_blt, ev_mth, ev_idx, ev_slc, ev_frc, ev_lc, ev_callk, ev_neg, varX, glX, List.getElem?_cons_succ, List.getElem?_cons_zero, evs, evx, evc, asTf, asTt, wp_bind, wp_pure, wp_ite, if_true, if_false, wp_theB, Bool.not_true, Bool.not_false, Bool.not_not, wp_force, wp_forceT, wp_push, cmpX, Bool.false_eq_true, List.map_cons, List.map_nil, List.replicate, List.cons_append, List.nil_append, List.set_cons_zero, List.set_cons_succ, bindT_nm, bindT2, wipeE, partX, xs_nil, xs_set, xs_setT, xs_par, xs_sub, xs_exp, xs_if, xs_for, xs_ret, xs_ret0, xs_rai0, xs_pass, seqQ_nx, seqQ_ret, retQ_ret, retQ_nx, wp_tru_bl, wp_tru_tup, wp_tru_tl, wp_tru_int, wp_tru_non, wp_eq_str, wp_eq_int, wp_eq_bl, wp_lt_int, wp_len_tup, wp_len_tl, wp_items_tup, wp_items_tl, wp_litems_tl, wp_walk_tup, wp_walk_tl, wp_idx_tup (at0 _ _), wp_idx_tup (at1 _ _ _), wp_idx_tup (at2 _ _ _ _), wp_idx_tup (at3 _ _ _ _ _), cut1, decide_eq_true_eq, wp_tuple, wp_list_tup, wp_int, wp_addi, wp_subi, setAll, wp_unpack_tup, isiStr_str, isiTup_tup, isiTl, wp_forRun_nil]
          rw [List.append_nil] at pg q
          rw [List.append_assoc, List.append_assoc, tidy_pl pg]; exact q
        · rw [if_neg hm2] at pg q
          rw [if_pos (by simpa using hm2)]
          simp only [ev_var, ev_glb, ev_isV, ev_cint, ev_cstr, ev_cnon, ev_cbl, ev_tup, ev_lst, ev_dct0, ev_bin, ev_notf, ev_nott, ev_and, ev_or, ev_cmp, ev_chn, ev_ite, ev_call, ev_blt, ev_mth, ev_idx, ev_slc, ev_frc, ev_lc, ev_callk, ev_neg, varX, glX, List.getElem?_cons_succ, List.getElem?_cons_zero, evs, evx, evc, asTf, asTt, wp_bind, wp_pure, wp_ite, if_true, if_false, wp_theB, Bool.not_true, Bool.not_false, Bool.not_not, wp_force, wp_forceT, wp_push, cmpX, Bool.false_eq_true, List.map_cons, List.map_nil, List.replicate, List.cons_append, List.nil_append, List.set_cons_zero, List.set_cons_succ, bindT_nm, bindT2, wipeE, partX, xs_nil, xs_set, xs_setT, xs_par, xs_sub, xs_exp, xs_if, xs_for, xs_ret, xs_ret0, xs_rai0, xs_pass, seqQ_nx, seqQ_ret, retQ_ret, retQ_nx, wp_tru_bl, wp_tru_tup, wp_tru_tl, wp_tru_int, wp_tru_non, wp_eq_str, wp_eq_int, wp_eq_bl, wp_lt_int, wp_len_tup, wp_len_tl, wp_items_tup, wp_items_tl, wp_litems_tl, wp_walk_tup, wp_walk_tl, wp_idx_tup (at0 _ _), wp_idx_tup (at1 _ _ _), wp_idx_tup (at2 _ _ _ _), wp_idx_tup (at3 _ _ _ _ _), cut1, decide_eq_true_eq, wp_tuple, wp_list_tup, wp_int, wp_addi, wp_subi, setAll, wp_unpack_tup, isiStr_str, isiTup_tup, isiTl, wp_addt (hA [_] (by simp)), wp_forRun_nil]
          rw [List.append_assoc, List.append_assoc, ← isAny, tidy_pl pg]; exact q
      · rw [if_neg hm] at pg q
        rw [if_pos (by simpa using hm)]
        simp only [ev_var, ev_glb, ev_isV, ev_cint, ev_cstr, ev_cnon, ev_cbl, ev_tup, ev_lst, ev_dct0, ev_bin, ev_notf, ev_nott, ev_and, ev_or, ev_cmp, ev_chn, ev_ite, ev_call, ev_blt, ev_mth, ev_idx, ev_slc, ev_frc, ev_lc, ev_callk, ev_neg, varX, glX, List.getElem?_cons_succ, List.getElem?_cons_zero, evs, evx, evc, asTf, asTt, wp_bind, wp_pure, wp_ite, if_true, if_false, wp_theB, Bool.not_true, Bool.not_false, Bool.not_not, wp_force, wp_forceT, wp_push, cmpX, Bool.false_eq_true, List.map_cons, List.map_nil, List.replicate, List.cons_append, List.nil_append, List.set_cons_zero, List.set_cons_succ, bindT_nm, bindT2, wipeE, partX, xs_nil, xs_set, xs_setT, xs_par, xs_sub, xs_exp, xs_if, xs_for, xs_ret, xs_ret0, xs_rai0, xs_pass, seqQ_nx, seqQ_ret, retQ_ret, retQ_nx, wp_tru_bl, wp_tru_tup, wp_tru_tl, wp_tru_int, wp_tru_non, wp_eq_str, wp_eq_int, wp_eq_bl, wp_lt_int, wp_len_tup, wp_len_tl, wp_items_tup, wp_items_tl, wp_litems_tl, wp_walk_tup, wp_walk_tl, wp_idx_tup (at0 _ _), wp_idx_tup (at1 _ _ _), wp_idx_tup (at2 _ _ _ _), wp_idx_tup (at3 _ _ _ _ _), cut1, decide_eq_true_eq, wp_tuple, wp_list_tup, wp_int, wp_addi, wp_subi, setAll, wp_unpack_tup, isiStr_str, isiTup_tup, isiTl, wp_addt (hA [_] (by simp))]
        rw [wp_forRun_cons]
        simp only [ev_var, ev_glb, ev_isV, ev_cint, ev_cstr, ev_cnon, ev_cbl, ev_tup, ev_lst, ev_dct0, ev_bin, ev_notf, ev_nott, ev_and, ev_or, ev_cmp, ev_chn, ev_ite, ev_call, ev_blt, ev_mth, ev_idx, ev_slc, ev_frc, ev_lc, ev_callk, ev_neg, varX, glX, List.getElem?_cons_succ, List.getElem?_cons_zero, evs, evx, evc, asTf, asTt, wp_bind, wp_pure, wp_ite, if_true, if_false, wp_theB, Bool.not_true, Bool.not_false, Bool.not_not, wp_force, wp_forceT, wp_push, cmpX, Bool.false_eq_true, List.map_cons, List.map_nil, List.replicate, List.cons_append, List.nil_append, List.set_cons_zero, List.set_cons_succ, bindT_nm, bindT2, wipeE, partX, xs_nil, xs_set, xs_setT, xs_par, xs_sub, xs_exp, xs_if, xs_for, xs_ret, xs_ret0, xs_rai0, xs_pass, seqQ_nx, seqQ_ret, retQ_ret, retQ_nx, wp_tru_bl, wp_tru_tup, wp_tru_tl, wp_tru_int, wp_tru_non, wp_eq_str, wp_eq_int, wp_eq_bl, wp_lt_int, wp_len_tup, wp_len_tl, wp_items_tup, wp_items_tl, wp_litems_tl, wp_walk_tup, wp_walk_tl, wp_idx_tup (at0 _ _), wp_idx_tup (at1 _ _ _), wp_idx_tup (at2 _ _ _ _), wp_idx_tup (at3 _ _ _ _ _), cut1, decide_eq_true_eq, wp_tuple, wp_list_tup, wp_int, wp_addi, wp_subi, setAll, wp_unpack_tup, isiStr_str, isiTup_tup, isiTl]
        have F2 := F.add (fc_isAny h1) hl8
        refine lpers_ret hs F2 (by omega) fun V2 => ?_
        have hps2 := (strs_sim F2.pers_str).1
        have gp : ∀ A : Sto, (A ++ [V2, Ob.lst (pers (fs ++ [isAny p]))])[A.length + 1]? = some (.lst (pers (fs ++ [isAny p]))) := fun A => gt2
        simp only [ev_var, ev_glb, ev_isV, ev_cint, ev_cstr, ev_cnon, ev_cbl, ev_tup, ev_lst, ev_dct0, ev_bin, ev_notf, ev_nott, ev_and, ev_or, ev_cmp, ev_chn, ev_ite, ev_call, ev_blt, ev_mth, ev_idx, ev_slc, ev_frc, ev_lc, ev_callk, ev_neg, varX, glX, List.getElem?_cons_succ, List.getElem?_cons_zero, evs, evx, evc, asTf, asTt, wp_bind, wp_pure, wp_ite, if_true, if_false, wp_theB, Bool.not_true, Bool.not_false, Bool.not_not, wp_force, wp_forceT, wp_push, cmpX, Bool.false_eq_true, List.map_cons, List.map_nil, List.replicate, List.cons_append, List.nil_append, List.set_cons_zero, List.set_cons_succ, bindT_nm, bindT2, wipeE, partX, xs_nil, xs_set, xs_setT, xs_par, xs_sub, xs_exp, xs_if, xs_for, xs_ret, xs_ret0, xs_rai0, xs_pass, seqQ_nx, seqQ_ret, retQ_ret, retQ_nx, wp_tru_bl, wp_tru_tup, wp_tru_tl, wp_tru_int, wp_tru_non, wp_eq_str, wp_eq_int, wp_eq_bl, wp_lt_int, wp_len_tup, wp_len_tl, wp_items_tup, wp_items_tl, wp_litems_tl, wp_walk_tup, wp_walk_tl, wp_idx_tup (at0 _ _), wp_idx_tup (at1 _ _ _), wp_idx_tup (at2 _ _ _ _), wp_idx_tup (at3 _ _ _ _ _), cut1, decide_eq_true_eq, wp_tuple, wp_list_tup, wp_int, wp_addi, wp_subi, setAll, wp_unpack_tup, isiStr_str, isiTup_tup, isiTl, wp_in_loc (gp _) s3 s4 hps2, pers_isAny, Bool.not_eq_true', decide_eq_false_iff_not]
        by_cases hm2 : p2 ∈ pers fs ∨ p2 = p
        · rw [if_pos hm2] at pg q
          rw [if_neg (not_not_intro hm2)]
          simp only [ev_var, ev_glb, ev_isV, ev_cint, ev_cstr, ev_cnon, ev_cbl, ev_tup, ev_lst, ev_dct0, ev_bin, ev_notf, ev_nott, ev_and, ev_or, ev_cmp, ev_chn, ev_ite, ev_call, ev_blt, ev_mth, ev_idx, ev_slc, ev_frc, ev_lc, ev_callk, ev_neg, varX, glX, List.getElem?_cons_succ, List.getElem?_cons_zero, evs, evx, evc, asTf, asTt, wp_bind, wp_pure, wp_ite, if_true, if_false, wp_theB, Bool.not_true, Bool.not_false, Bool.not_not, wp_force, wp_forceT, wp_push, cmpX, Bool.false_eq_true, List.map_cons, List.map_nil, List.replicate, List.cons_append, List.nil_append, List.set_cons_zero, List.set_cons_succ, bindT_nm, bindT2, wipeE, partX, xs_nil, xs_set, xs_setT, xs_par, xs_sub, xs_exp, xs_if, xs_for, xs_ret, xs_ret0, xs_rai0, xs_pass, seqQ_nx, seqQ_ret, retQ_ret, retQ_nx, wp_tru_bl, wp_tru_tup, wp_tru_tl, wp_tru_int, wp_tru_non, wp_eq_str, wp_eq_int, wp_eq_bl, wp_lt_int, wp_len_tup, wp_len_tl, wp_items_tup, wp_items_tl, wp_litems_tl, wp_walk_tup, wp_walk_tl, wp_idx_tup (at0 _ _), wp_idx_tup (at1 _ _ _), wp_idx_tup (at2 _ _ _ _), wp_idx_tup (at3 _ _ _ _ _), cut1, decide_eq_true_eq, wp_tuple, wp_list_tup, wp_int, wp_addi, wp_subi, setAll, wp_unpack_tup, isiStr_str, isiTup_tup, isiTl, wp_forRun_nil]
          rw [List.append_assoc, List.append_assoc, ← isAny, tidy_pl pg]; exact q
        · rw [if_neg hm2] at pg q
          rw [if_pos hm2]
          simp only [ev_var, ev_glb, ev_isV, ev_cint, ev_cstr, ev_cnon, ev_cbl, ev_tup, ev_lst, ev_dct0, ev_bin, ev_notf, ev_nott, ev_and, ev_or, ev_cmp, ev_chn, ev_ite, ev_call, ev_blt, ev_mth, ev_idx, ev_slc, ev_frc, ev_lc, ev_callk, ev_neg, varX, glX, List.getElem?_cons_succ, List.getElem?_cons_zero, evs, evx, evc, asTf, asTt, wp_bind, wp_pure, wp_ite, if_true, if_false, wp_theB, Bool.not_true, Bool.not_false, Bool.not_not, wp_force, wp_forceT, wp_push, cmpX, Bool.false_eq_true, List.map_cons, List.map_nil, List.replicate, List.cons_append, List.nil_append, List.set_cons_zero, List.set_cons_succ, bindT_nm, bindT2, wipeE, partX, xs_nil, xs_set, xs_setT, xs_par, xs_sub, xs_exp, xs_if, xs_for, xs_ret, xs_ret0, xs_rai0, xs_pass, seqQ_nx, seqQ_ret, retQ_ret, retQ_nx, wp_tru_bl, wp_tru_tup, wp_tru_tl, wp_tru_int, wp_tru_non, wp_eq_str, wp_eq_int, wp_eq_bl, wp_lt_int, wp_len_tup, wp_len_tl, wp_items_tup, wp_items_tl, wp_litems_tl, wp_walk_tup, wp_walk_tl, wp_idx_tup (at0 _ _), wp_idx_tup (at1 _ _ _), wp_idx_tup (at2 _ _ _ _), wp_idx_tup (at3 _ _ _ _ _), cut1, decide_eq_true_eq, wp_tuple, wp_list_tup, wp_int, wp_addi, wp_subi, setAll, wp_unpack_tup, isiStr_str, isiTup_tup, isiTl, wp_addt (hA2 _ _), wp_forRun_nil]
          rw [← isAny, ← isAny, List.append_assoc fs, List.append_assoc S, List.append_assoc S]
          show Q (.tup (fs ++ [isAny p, isAny p2])) _
          rw [List.singleton_append, tidy_pl pg]; exact q
end
end Kd
/-! The law's draws: the pool. -/
namespace Kd
open PySem
def pOb (c m k : Int) : Ob := .lst [.int c, .int m, .int k]
/-- a pool from which at least b more may be drawn -/
structure PS (b : Nat) (c m k : Int) : Prop where
  c0 : 0 ≤ c
  m0 : 0 ≤ m
  m1 : m < 2147483648
  k0 : 0 ≤ k
  k1 : k + b ≤ 1099511627776
theorem PS.less {b b' : Nat} {c m k : Int} (h : PS b c m k) (hb : b' ≤ b) : PS b' c m k := ⟨h.c0, h.m0, h.m1, h.k0, by have := h.k1; omega⟩
theorem log2_le {n a : Nat} (h : n < 2 ^ a) : n.log2 ≤ a := by
  by_cases h0 : n = 0
  · subst h0; simp [Nat.log2_zero]
  · have := (Nat.log2_lt h0).mpr h
    omega
theorem mulOk_of {i j : Int} {a b : Nat} (hi : i.natAbs < 2 ^ a) (hj : j.natAbs < 2 ^ b) (h : a + b < 100000000) : mulOk i j = true := by
  have h1 := log2_le hi
  have h2 := log2_le hj
  unfold mulOk
  rw [decide_eq_true_eq]
  omega
theorem mulOk_s {i j : Int} (h1 : i.natAbs < 1208925819614629174706176) (h2 : j.natAbs < 1208925819614629174706176) : mulOk i j = true := mulOk_of (a := 80) (b := 80) h1 h2 (by omega)
theorem bits_lt {z : Int} {m : Nat} (h : Builtin.Int.intBits z ≤ m) : z.natAbs < 2 ^ m := by
  unfold Builtin.Int.intBits at h
  split at h
  · rename_i e
    have : z = 0 := by simpa using e
    subst this
    exact Nat.two_pow_pos m
  · rename_i e
    have e : z ≠ 0 := by simpa using e
    exact (Nat.log2_lt (by omega)).mp (by omega)
theorem fdiv_s {j : Int} (h : 0 < j) (h2 : j < 1208925819614629174706176) : 0 < j ∧ j.natAbs.log2 < 9000 := by
  refine ⟨h, ?_⟩
  have : j.natAbs < 2 ^ 80 := by
    have : (2 : Nat) ^ 80 = 1208925819614629174706176 := by decide
    omega
  have := log2_le this
  omega
section
variable {S : Sto} {E : EQ}
theorem tidy_set {S T : Sto} {l : Nat} {a b : Ob} {d : D} (hd : d.und S.length = true) (hb : b.und S.length = true) : tidy (S.set l a) d (S.set l b ++ T) = S.set l b := by
  refine tidy_of (by simp) (by simpa using hd) fun i x y h1 h2 => ?_
  by_cases e : l = i
  · subst e
    right
    by_cases hl : l < S.length
    · rw [List.getElem?_set_self hl] at h2
      cases h2
      simpa using hb
    · rw [List.getElem?_eq_none (by simpa using hl)] at h2
      cases h2
  · rw [List.getElem?_set_ne e] at h1 h2
    left
    exact Option.some.inj (h1.symm.trans h2)
theorem tidy_set0 {S : Sto} {l : Nat} {a b : Ob} {d : D} (hd : d.und S.length = true) (hb : b.und S.length = true) : tidy (S.set l a) d (S.set l b) = S.set l b := by
  have := tidy_set (T := []) (a := a) (l := l) hd hb
  rwa [List.append_nil] at this
theorem pOb_und (n : Nat) (c m k : Int) : (pOb c m k).und n = true := rfl
theorem getl_set {l : Nat} {a : Ob} (hl : l < S.length) : (S.set l a)[l]? = some a := List.getElem?_set_self hl
theorem wp_sub_lst {l j : Nat} {ds : List D} {i : Int} {d : D} (h : S[l]? = some (.lst ds)) (hj : ixAt ds.length i = some j) (Q : Unit → Sto → Prop) : wp (subX (.dv (.loc l)) (.dv (.int i)) d) S Q E = Q () (S.set l (.lst (ds.set j d))) := by
  have hi : l < S.length := (List.getElem?_eq_some_iff.mp h).1
  unfold wp
  simp only [subX, h, hj, putL, if_pos hi]
def fPull : Fn := ⟨2, 3, 
  [.sub (.var 0) (.cint 2) (.bin .add (.idx (.var 0) (.cint 2)) (.cint 1)),
  .if_ (.cmp .gt (.idx (.var 0) (.cint 0)) (.cint 0))
    [.set 2 (.bin .mod (.blt .int [(.idx (.var 0) (.cint 0))]) (.var 1)),
    .sub (.var 0) (.cint 0) (.bin .fdiv (.blt .int [(.idx (.var 0) (.cint 0))]) (.var 1)),
    .ret (.var 2)]
    [],
  .sub (.var 0) (.cint 1) (.bin .mod (.blt .int [(.bin .add (.bin .add (.bin .mul (.idx (.var 0) (.cint 1)) (.cint 16807)) (.bin .mul (.bin .mul (.idx (.var 0) (.cint 2)) (.idx (.var 0) (.cint 2))) (.cint 40692))) (.cint 977))]) (.cint 2147483629)),
  .ret (.bin .mod (.bin .fdiv (.blt .int [(.bin .mod (.bin .mul (.idx (.var 0) (.cint 1)) (.cint 1583458089)) (.cint 2147483587))]) (.cint 11)) (.var 1))]⟩
theorem pull_ok {P : Prg} {f k : Nat} (hf : P.fn f = some fPull) {l : Nat} (hl : l < S.length) {b : Nat} {c m q : Int} (h : PS (b + 1) c m q) {n : Int} (hn : 0 < n) (hn2 : n < 1000) (hk : 1 ≤ k) {Q : D → Sto → Prop}
    (next : ∀ r c' m' q', 0 ≤ r → r < n → PS b c' m' q' → Q (.int r) (S.set l (pOb c' m' q'))) : wp (P.call k f [.loc l, .int n]) (S.set l (pOb c m q)) Q E := by
  refine wp_def hf hk rfl ?_
  obtain ⟨h0, h1, h2, h3, h4⟩ := h
  simp only [fPull, ev_var, ev_glb, ev_isV, ev_cint, ev_cstr, ev_cnon, ev_cbl, ev_tup, ev_lst, ev_dct0, ev_bin, ev_notf, ev_nott, ev_and, ev_or, ev_cmp, ev_chn, ev_ite, ev_call, ev_blt, ev_mth, ev_idx, ev_slc, ev_frc, ev_lc, ev_callk, ev_neg, varX, glX, List.getElem?_cons_succ, List.getElem?_cons_zero, evs, evx, evc, asTf, asTt, wp_bind, wp_pure, wp_ite, if_true, if_false, wp_theB, Bool.not_true, Bool.not_false, Bool.not_not, wp_force, wp_forceT, wp_push, cmpX, Bool.false_eq_true, List.map_cons, List.map_nil, List.replicate, List.cons_append, List.nil_append, List.set_cons_zero, List.set_cons_succ, bindT_nm, bindT2, wipeE, partX, xs_nil, xs_set, xs_setT, xs_par, xs_sub, xs_exp, xs_if, xs_for, xs_ret, xs_ret0, xs_rai0, xs_pass, seqQ_nx, seqQ_ret, retQ_ret, retQ_nx, wp_tru_bl, wp_tru_tup, wp_tru_tl, wp_tru_int, wp_tru_non, wp_eq_str, wp_eq_int, wp_eq_bl, wp_lt_int, wp_len_tup, wp_len_tl, wp_items_tup, wp_items_tl, wp_litems_tl, wp_walk_tup, wp_walk_tl, wp_idx_tup (at0 _ _), wp_idx_tup (at1 _ _ _), wp_idx_tup (at2 _ _ _ _), wp_idx_tup (at3 _ _ _ _ _), cut1, decide_eq_true_eq, wp_tuple, wp_list_tup, wp_int, wp_addi, wp_subi, setAll, wp_unpack_tup, isiStr_str, isiTup_tup, isiTl]
  have g : ∀ {c m k}, (S.set l (pOb c m k))[l]? = some (.lst [.int c, .int m, .int k]) := getl_set hl
  rw [wp_idx_loc g (at2 _ _ _ _)]
  simp only [ev_var, ev_glb, ev_isV, ev_cint, ev_cstr, ev_cnon, ev_cbl, ev_tup, ev_lst, ev_dct0, ev_bin, ev_notf, ev_nott, ev_and, ev_or, ev_cmp, ev_chn, ev_ite, ev_call, ev_blt, ev_mth, ev_idx, ev_slc, ev_frc, ev_lc, ev_callk, ev_neg, varX, glX, List.getElem?_cons_succ, List.getElem?_cons_zero, evs, evx, evc, asTf, asTt, wp_bind, wp_pure, wp_ite, if_true, if_false, wp_theB, Bool.not_true, Bool.not_false, Bool.not_not, wp_force, wp_forceT, wp_push, cmpX, Bool.false_eq_true, List.map_cons, List.map_nil, List.replicate, List.cons_append, List.nil_append, List.set_cons_zero, List.set_cons_succ, bindT_nm, bindT2, wipeE, partX, xs_nil, xs_set, xs_setT, xs_par, xs_sub, xs_exp, xs_if, xs_for, xs_ret, xs_ret0, xs_rai0, xs_pass, seqQ_nx, seqQ_ret, retQ_ret, retQ_nx, wp_tru_bl, wp_tru_tup, wp_tru_tl, wp_tru_int, wp_tru_non, wp_eq_str, wp_eq_int, wp_eq_bl, wp_lt_int, wp_len_tup, wp_len_tl, wp_items_tup, wp_items_tl, wp_litems_tl, wp_walk_tup, wp_walk_tl, wp_idx_tup (at0 _ _), wp_idx_tup (at1 _ _ _), wp_idx_tup (at2 _ _ _ _), wp_idx_tup (at3 _ _ _ _ _), cut1, decide_eq_true_eq, wp_tuple, wp_list_tup, wp_int, wp_addi, wp_subi, setAll, wp_unpack_tup, isiStr_str, isiTup_tup, isiTl]
  rw [wp_sub_lst (j := 2) g (by rfl)]
  have e1 : ∀ c m k, List.set [D.int c, D.int m, D.int k] 2 (.int (q + 1)) = [.int c, .int m, .int (q + 1)] := fun _ _ _ => rfl
  simp only [ev_var, ev_glb, ev_isV, ev_cint, ev_cstr, ev_cnon, ev_cbl, ev_tup, ev_lst, ev_dct0, ev_bin, ev_notf, ev_nott, ev_and, ev_or, ev_cmp, ev_chn, ev_ite, ev_call, ev_blt, ev_mth, ev_idx, ev_slc, ev_frc, ev_lc, ev_callk, ev_neg, varX, glX, List.getElem?_cons_succ, List.getElem?_cons_zero, evs, evx, evc, asTf, asTt, wp_bind, wp_pure, wp_ite, if_true, if_false, wp_theB, Bool.not_true, Bool.not_false, Bool.not_not, wp_force, wp_forceT, wp_push, cmpX, Bool.false_eq_true, List.map_cons, List.map_nil, List.replicate, List.cons_append, List.nil_append, List.set_cons_zero, List.set_cons_succ, bindT_nm, bindT2, wipeE, partX, xs_nil, xs_set, xs_setT, xs_par, xs_sub, xs_exp, xs_if, xs_for, xs_ret, xs_ret0, xs_rai0, xs_pass, seqQ_nx, seqQ_ret, retQ_ret, retQ_nx, wp_tru_bl, wp_tru_tup, wp_tru_tl, wp_tru_int, wp_tru_non, wp_eq_str, wp_eq_int, wp_eq_bl, wp_lt_int, wp_len_tup, wp_len_tl, wp_items_tup, wp_items_tl, wp_litems_tl, wp_walk_tup, wp_walk_tl, wp_idx_tup (at0 _ _), wp_idx_tup (at1 _ _ _), wp_idx_tup (at2 _ _ _ _), wp_idx_tup (at3 _ _ _ _ _), cut1, decide_eq_true_eq, wp_tuple, wp_list_tup, wp_int, wp_addi, wp_subi, setAll, wp_unpack_tup, isiStr_str, isiTup_tup, isiTl, e1, List.set_set]
  have e2 : ∀ c m k, Ob.lst [.int c, .int m, .int k] = pOb c m k := fun _ _ _ => rfl
  rw [e2, wp_idx_loc g (at0 _ _)]
  simp only [ev_var, ev_glb, ev_isV, ev_cint, ev_cstr, ev_cnon, ev_cbl, ev_tup, ev_lst, ev_dct0, ev_bin, ev_notf, ev_nott, ev_and, ev_or, ev_cmp, ev_chn, ev_ite, ev_call, ev_blt, ev_mth, ev_idx, ev_slc, ev_frc, ev_lc, ev_callk, ev_neg, varX, glX, List.getElem?_cons_succ, List.getElem?_cons_zero, evs, evx, evc, asTf, asTt, wp_bind, wp_pure, wp_ite, if_true, if_false, wp_theB, Bool.not_true, Bool.not_false, Bool.not_not, wp_force, wp_forceT, wp_push, cmpX, Bool.false_eq_true, List.map_cons, List.map_nil, List.replicate, List.cons_append, List.nil_append, List.set_cons_zero, List.set_cons_succ, bindT_nm, bindT2, wipeE, partX, xs_nil, xs_set, xs_setT, xs_par, xs_sub, xs_exp, xs_if, xs_for, xs_ret, xs_ret0, xs_rai0, xs_pass, seqQ_nx, seqQ_ret, retQ_ret, retQ_nx, wp_tru_bl, wp_tru_tup, wp_tru_tl, wp_tru_int, wp_tru_non, wp_eq_str, wp_eq_int, wp_eq_bl, wp_lt_int, wp_len_tup, wp_len_tl, wp_items_tup, wp_items_tl, wp_litems_tl, wp_walk_tup, wp_walk_tl, wp_idx_tup (at0 _ _), wp_idx_tup (at1 _ _ _), wp_idx_tup (at2 _ _ _ _), wp_idx_tup (at3 _ _ _ _ _), cut1, decide_eq_true_eq, wp_tuple, wp_list_tup, wp_int, wp_addi, wp_subi, setAll, wp_unpack_tup, isiStr_str, isiTup_tup, isiTl]
  by_cases hc : 0 < c
  · rw [if_pos hc]
    simp only [wp_idx_loc g (at0 _ _), ev_var, ev_glb, ev_isV, ev_cint, ev_cstr, ev_cnon, ev_cbl, ev_tup, ev_lst, ev_dct0, ev_bin, ev_notf, ev_nott, ev_and, ev_or, ev_cmp, ev_chn, ev_ite, ev_call, ev_blt, ev_mth, ev_idx, ev_slc, ev_frc, ev_lc, ev_callk, ev_neg, varX, glX, List.getElem?_cons_succ, List.getElem?_cons_zero, evs, evx, evc, asTf, asTt, wp_bind, wp_pure, wp_ite, if_true, if_false, wp_theB, Bool.not_true, Bool.not_false, Bool.not_not, wp_force, wp_forceT, wp_push, cmpX, Bool.false_eq_true, List.map_cons, List.map_nil, List.replicate, List.cons_append, List.nil_append, List.set_cons_zero, List.set_cons_succ, bindT_nm, bindT2, wipeE, partX, xs_nil, xs_set, xs_setT, xs_par, xs_sub, xs_exp, xs_if, xs_for, xs_ret, xs_ret0, xs_rai0, xs_pass, seqQ_nx, seqQ_ret, retQ_ret, retQ_nx, wp_tru_bl, wp_tru_tup, wp_tru_tl, wp_tru_int, wp_tru_non, wp_eq_str, wp_eq_int, wp_eq_bl, wp_lt_int, wp_len_tup, wp_len_tl, wp_items_tup, wp_items_tl, wp_litems_tl, wp_walk_tup, wp_walk_tl, wp_idx_tup (at0 _ _), wp_idx_tup (at1 _ _ _), wp_idx_tup (at2 _ _ _ _), wp_idx_tup (at3 _ _ _ _ _), cut1, decide_eq_true_eq, wp_tuple, wp_list_tup, wp_int, wp_addi, wp_subi, setAll, wp_unpack_tup, isiStr_str, isiTup_tup, isiTl, wp_modi hn, wp_fdivi (fdiv_s hn (by omega))]
    rw [wp_sub_lst (j := 0) g (by rfl)]
    have e3 : ∀ c m k d, List.set [D.int c, D.int m, D.int k] 0 d = [d, .int m, .int k] := fun _ _ _ _ => rfl
    simp only [ev_var, ev_glb, ev_isV, ev_cint, ev_cstr, ev_cnon, ev_cbl, ev_tup, ev_lst, ev_dct0, ev_bin, ev_notf, ev_nott, ev_and, ev_or, ev_cmp, ev_chn, ev_ite, ev_call, ev_blt, ev_mth, ev_idx, ev_slc, ev_frc, ev_lc, ev_callk, ev_neg, varX, glX, List.getElem?_cons_succ, List.getElem?_cons_zero, evs, evx, evc, asTf, asTt, wp_bind, wp_pure, wp_ite, if_true, if_false, wp_theB, Bool.not_true, Bool.not_false, Bool.not_not, wp_force, wp_forceT, wp_push, cmpX, Bool.false_eq_true, List.map_cons, List.map_nil, List.replicate, List.cons_append, List.nil_append, List.set_cons_zero, List.set_cons_succ, bindT_nm, bindT2, wipeE, partX, xs_nil, xs_set, xs_setT, xs_par, xs_sub, xs_exp, xs_if, xs_for, xs_ret, xs_ret0, xs_rai0, xs_pass, seqQ_nx, seqQ_ret, retQ_ret, retQ_nx, wp_tru_bl, wp_tru_tup, wp_tru_tl, wp_tru_int, wp_tru_non, wp_eq_str, wp_eq_int, wp_eq_bl, wp_lt_int, wp_len_tup, wp_len_tl, wp_items_tup, wp_items_tl, wp_litems_tl, wp_walk_tup, wp_walk_tl, wp_idx_tup (at0 _ _), wp_idx_tup (at1 _ _ _), wp_idx_tup (at2 _ _ _ _), wp_idx_tup (at3 _ _ _ _ _), cut1, decide_eq_true_eq, wp_tuple, wp_list_tup, wp_int, wp_addi, wp_subi, setAll, wp_unpack_tup, isiStr_str, isiTup_tup, isiTl, e3, List.set_set, e2]
    rw [tidy_set0 (by rfl) (by rfl)]
    exact next _ _ _ _ (Int.emod_nonneg _ (by omega)) (Int.emod_lt_of_pos _ hn) ⟨Int.ediv_nonneg h0 (by omega), h1, h2, by omega, by omega⟩
  · rw [if_neg hc]
    have hq : (q + 1).natAbs < 1208925819614629174706176 := by omega
    have hqq : ((q + 1) * (q + 1)).natAbs < 1208925819614629174706177 := by
      rw [Int.natAbs_mul]
      have a1 : (q + 1).natAbs ≤ 1099511627776 := by omega
      exact Nat.lt_succ_of_le (Nat.le_trans (Nat.mul_le_mul a1 a1) (by decide))
    have hqq2 : mulOk ((q + 1) * (q + 1)) 40692 = true := mulOk_of (a := 90) (b := 20) (Nat.lt_trans hqq (by decide)) (by decide) (by omega)
    simp only [wp_idx_loc g (at1 _ _ _), wp_idx_loc g (at2 _ _ _ _), ev_var, ev_glb, ev_isV, ev_cint, ev_cstr, ev_cnon, ev_cbl, ev_tup, ev_lst, ev_dct0, ev_bin, ev_notf, ev_nott, ev_and, ev_or, ev_cmp, ev_chn, ev_ite, ev_call, ev_blt, ev_mth, ev_idx, ev_slc, ev_frc, ev_lc, ev_callk, ev_neg, varX, glX, List.getElem?_cons_succ, List.getElem?_cons_zero, evs, evx, evc, asTf, asTt, wp_bind, wp_pure, wp_ite, if_true, if_false, wp_theB, Bool.not_true, Bool.not_false, Bool.not_not, wp_force, wp_forceT, wp_push, cmpX, Bool.false_eq_true, List.map_cons, List.map_nil, List.replicate, List.cons_append, List.nil_append, List.set_cons_zero, List.set_cons_succ, bindT_nm, bindT2, wipeE, partX, xs_nil, xs_set, xs_setT, xs_par, xs_sub, xs_exp, xs_if, xs_for, xs_ret, xs_ret0, xs_rai0, xs_pass, seqQ_nx, seqQ_ret, retQ_ret, retQ_nx, wp_tru_bl, wp_tru_tup, wp_tru_tl, wp_tru_int, wp_tru_non, wp_eq_str, wp_eq_int, wp_eq_bl, wp_lt_int, wp_len_tup, wp_len_tl, wp_items_tup, wp_items_tl, wp_litems_tl, wp_walk_tup, wp_walk_tl, wp_idx_tup (at0 _ _), wp_idx_tup (at1 _ _ _), wp_idx_tup (at2 _ _ _ _), wp_idx_tup (at3 _ _ _ _ _), cut1, decide_eq_true_eq, wp_tuple, wp_list_tup, wp_int, wp_addi, wp_subi, setAll, wp_unpack_tup, isiStr_str, isiTup_tup, isiTl, wp_muli (mulOk_s (i := m) (j := 16807) (by omega) (by omega)), wp_muli (mulOk_s hq hq), wp_muli hqq2, wp_modi (show (0 : Int) < 2147483629 by omega)]
    rw [wp_sub_lst (j := 1) g (by rfl)]
    have e3 : ∀ c m k d, List.set [D.int c, D.int m, D.int k] 1 d = [.int c, d, .int k] := fun _ _ _ _ => rfl
    simp only [ev_var, ev_glb, ev_isV, ev_cint, ev_cstr, ev_cnon, ev_cbl, ev_tup, ev_lst, ev_dct0, ev_bin, ev_notf, ev_nott, ev_and, ev_or, ev_cmp, ev_chn, ev_ite, ev_call, ev_blt, ev_mth, ev_idx, ev_slc, ev_frc, ev_lc, ev_callk, ev_neg, varX, glX, List.getElem?_cons_succ, List.getElem?_cons_zero, evs, evx, evc, asTf, asTt, wp_bind, wp_pure, wp_ite, if_true, if_false, wp_theB, Bool.not_true, Bool.not_false, Bool.not_not, wp_force, wp_forceT, wp_push, cmpX, Bool.false_eq_true, List.map_cons, List.map_nil, List.replicate, List.cons_append, List.nil_append, List.set_cons_zero, List.set_cons_succ, bindT_nm, bindT2, wipeE, partX, xs_nil, xs_set, xs_setT, xs_par, xs_sub, xs_exp, xs_if, xs_for, xs_ret, xs_ret0, xs_rai0, xs_pass, seqQ_nx, seqQ_ret, retQ_ret, retQ_nx, wp_tru_bl, wp_tru_tup, wp_tru_tl, wp_tru_int, wp_tru_non, wp_eq_str, wp_eq_int, wp_eq_bl, wp_lt_int, wp_len_tup, wp_len_tl, wp_items_tup, wp_items_tl, wp_litems_tl, wp_walk_tup, wp_walk_tl, wp_idx_tup (at0 _ _), wp_idx_tup (at1 _ _ _), wp_idx_tup (at2 _ _ _ _), wp_idx_tup (at3 _ _ _ _ _), cut1, decide_eq_true_eq, wp_tuple, wp_list_tup, wp_int, wp_addi, wp_subi, setAll, wp_unpack_tup, isiStr_str, isiTup_tup, isiTl, e3, List.set_set, e2]
    generalize hM : (m * 16807 + (q + 1) * (q + 1) * 40692 + 977) % 2147483629 = M
    have hM0 : 0 ≤ M := by rw [← hM]; exact Int.emod_nonneg _ (by omega)
    have hM1 : M < 2147483629 := by rw [← hM]; exact Int.emod_lt_of_pos _ (by omega)
    simp only [wp_idx_loc g (at1 _ _ _), ev_var, ev_glb, ev_isV, ev_cint, ev_cstr, ev_cnon, ev_cbl, ev_tup, ev_lst, ev_dct0, ev_bin, ev_notf, ev_nott, ev_and, ev_or, ev_cmp, ev_chn, ev_ite, ev_call, ev_blt, ev_mth, ev_idx, ev_slc, ev_frc, ev_lc, ev_callk, ev_neg, varX, glX, List.getElem?_cons_succ, List.getElem?_cons_zero, evs, evx, evc, asTf, asTt, wp_bind, wp_pure, wp_ite, if_true, if_false, wp_theB, Bool.not_true, Bool.not_false, Bool.not_not, wp_force, wp_forceT, wp_push, cmpX, Bool.false_eq_true, List.map_cons, List.map_nil, List.replicate, List.cons_append, List.nil_append, List.set_cons_zero, List.set_cons_succ, bindT_nm, bindT2, wipeE, partX, xs_nil, xs_set, xs_setT, xs_par, xs_sub, xs_exp, xs_if, xs_for, xs_ret, xs_ret0, xs_rai0, xs_pass, seqQ_nx, seqQ_ret, retQ_ret, retQ_nx, wp_tru_bl, wp_tru_tup, wp_tru_tl, wp_tru_int, wp_tru_non, wp_eq_str, wp_eq_int, wp_eq_bl, wp_lt_int, wp_len_tup, wp_len_tl, wp_items_tup, wp_items_tl, wp_litems_tl, wp_walk_tup, wp_walk_tl, wp_idx_tup (at0 _ _), wp_idx_tup (at1 _ _ _), wp_idx_tup (at2 _ _ _ _), wp_idx_tup (at3 _ _ _ _ _), cut1, decide_eq_true_eq, wp_tuple, wp_list_tup, wp_int, wp_addi, wp_subi, setAll, wp_unpack_tup, isiStr_str, isiTup_tup, isiTl, wp_muli (mulOk_s (i := M) (j := 1583458089) (by omega) (by omega)), wp_modi (show (0 : Int) < 2147483587 by omega), wp_fdivi (fdiv_s (show (0 : Int) < 11 by omega) (by omega)), wp_modi hn]
    rw [tidy_set0 (by rfl) (by rfl)]
    exact next _ _ _ _ (Int.emod_nonneg _ (by omega)) (Int.emod_lt_of_pos _ hn) ⟨h0, hM0, by omega, by omega, by omega⟩
end
end Kd
/-! The law's draws: kinds, sayings, facts. -/
namespace Kd
open PySem
theorem all_mono {n m : Nat} (h : ∀ d, kindN n d = true → kindN m d = true) {ks : List D} (hk : ks.all (kindN n) = true) : ks.all (kindN m) = true := by
  rw [List.all_eq_true] at hk ⊢
  exact fun d hd => h d (hk d hd)
theorem kindN_succ : ∀ (n : Nat) (d : D), kindN n d = true → kindN (n + 1) d = true
  | 0, d, h => by cases h
  | n + 1, d, h => by
    have ih := kindN_succ n
    unfold kindN at h ⊢
    split at h
    · rename_i x r
      split at h
      · rename_i h1; rw [if_pos h1]; exact h
      · rename_i h1
        rw [if_neg h1]
        split at h
        · rename_i h2; rw [if_pos h2]; exact h
        · rename_i h2
          rw [if_neg h2]
          split at h
          · rename_i h3
            rw [if_pos h3]
            split at h
            · simp only [Bool.and_eq_true] at h ⊢
              exact ⟨h.1, ih _ h.2⟩
            · cases h
          · rename_i h3
            rw [if_neg h3]
            split at h
            · rename_i h4
              rw [if_pos h4]
              split at h
              · simp only [Bool.and_eq_true] at h ⊢
                exact ⟨h.1, all_mono ih h.2⟩
              · cases h
            · cases h
    · cases h
theorem kindN_le {n m : Nat} (hm : n ≤ m) {d : D} (h : kindN n d = true) : kindN m d = true := by
  obtain ⟨k, rfl⟩ : ∃ k, m = n + k := ⟨m - n, by omega⟩
  clear hm
  induction k with
  | zero => exact h
  | succ k ih => exact kindN_succ _ _ ih
/-- a kind n deep -/
structure KD (n : Nat) (d : D) : Prop where
  pl : Pl d
  dp : d.dep ≤ 2 * n + 1
  ok : kindN (n + 1) d = true
theorem KD.k {n : Nat} {d : D} (h : KD n d) (hn : n ≤ 3) : KOk d := ⟨h.pl, by have := h.dp; omega, kindN_le (by omega) h.ok⟩
theorem KD.any (n : Nat) : KD n (.tup [.str "any"]) := ⟨anyK.pl, by simp [D.dep, D.deps], by simp [kindN]⟩
theorem KD.none (n : Nat) : KD n (.tup [.str "none"]) := ⟨noneK.pl, by simp [D.dep, D.deps], by simp [kindN]⟩
theorem KD.name (n : Nat) {w : D} (h : WOk w) : KD n (.tup [.str "name", w]) := ⟨.t2 (.s (by decide)) h.pl, by simp [D.dep, D.deps, h.dp], by simp [kindN, ne_name_any, ne_name_none, h.ok]⟩
theorem KD.some {n : Nat} {w q : D} (h : WOk w) (hq : KD n q) : KD (n + 1) (.tup [.str "some", w, q]) := ⟨.t3 (.s (by decide)) h.pl hq.pl, by have := hq.dp; simp only [D.dep, D.deps, h.dp]; omega, by
  have := hq.ok
  simp [kindN, ne_some_any, ne_some_none, ne_some_name, h.ok]
  simpa [kindN] using this⟩
theorem KD.and {n : Nat} {p q : D} (hp : KD 0 p) (hq : KD n q) : KD (n + 1) (.tup [.str "and", .tup [p, q]]) := ⟨.t2 (.s (by decide)) (.t2 hp.pl hq.pl), by have := hp.dp; have := hq.dp; simp only [D.dep, D.deps]; omega, by
  have h1 := kindN_le (m := n + 1) (by omega) hp.ok
  have h2 := hq.ok
  unfold kindN
  simp only [ne_and_any, ne_and_none, ne_and_name, ne_and_some, or_self, if_false, if_true, List.all_cons, List.all_nil, h1, h2]
  rfl⟩
/-- lists of words that stand beside the pool -/
structure WL (S : Sto) (l a : Nat) (ws : List D) : Prop where
  ne : l ≠ a
  ate : S[a]? = some (.lst ws)
  ok : ∀ w ∈ ws, WOk w
  pos : 0 < ws.length
  few : ws.length < 900
theorem WL.get {S : Sto} {l a : Nat} {ws : List D} (h : WL S l a ws) (o : Ob) : (S.set l o)[a]? = some (.lst ws) := by rw [List.getElem?_set_ne h.ne]; exact h.ate
theorem WL.pick {S : Sto} {l a : Nat} {ws : List D} (h : WL S l a ws) {r : Int} (h0 : 0 ≤ r) (h1 : r < ws.length) : ∃ w, at_ ws r = some w ∧ WOk w := by
  obtain ⟨n, rfl⟩ : ∃ n : Nat, r = n := ⟨r.toNat, by omega⟩
  have hn : n < ws.length := by omega
  exact ⟨ws[n], by rw [at_nat _ _ hn, List.getElem?_eq_getElem hn], h.ok _ (List.getElem_mem hn)⟩
def fLKind (ip ik : Nat) : Fn := ⟨4, 5, 
  [.set 4 (.call ip [(.var 0), (.cint 9)]),
  .if_ (.cmp .eq (.var 4) (.cint 0))
    [.ret (.tup [(.cstr "any")])]
    [],
  .if_ (.and_ (.cmp .eq (.var 4) (.cint 1)) (.cmp .eq (.call ip [(.var 0), (.cint 3)]) (.cint 0)))
    [.ret (.tup [(.cstr "none")])]
    [],
  .if_ (.and_ (.cmp .gt (.var 4) (.cint 5)) (.cmp .gt (.var 3) (.cint 0)))
    [.ret (.tup [(.cstr "some"), (.idx (.var 2) (.call ip [(.var 0), (.blt .len [(.var 2)])])), (.call ik [(.var 0), (.var 1), (.var 2), (.bin .sub (.var 3) (.cint 1))])])]
    [],
  .if_ (.and_ (.cmp .gt (.var 4) (.cint 3)) (.cmp .gt (.var 3) (.cint 0)))
    [.ret (.tup [(.cstr "and"), (.tup [(.call ik [(.var 0), (.var 1), (.var 2), (.cint 0)]), (.call ik [(.var 0), (.var 1), (.var 2), (.bin .sub (.var 3) (.cint 1))])])])]
    [],
  .ret (.tup [(.cstr "name"), (.idx (.var 1) (.call ip [(.var 0), (.blt .len [(.var 1)])]))])]⟩
section
variable {P : Prg} {S : Sto} {E : EQ}
theorem tidy_setP {S : Sto} {l : Nat} {c m q c' m' q' : Int} {d : D} (hd : Pl d) : tidy (S.set l (pOb c m q)) d (S.set l (pOb c' m' q')) = S.set l (pOb c' m' q') := tidy_set0 (hd.und _) rfl
theorem wp_len_set {l a : Nat} {ws : List D} {o : Ob} (h : WL S l a ws) (Q : X → Sto → Prop) : wp (bltX .len [.dv (.loc a)]) (S.set l o) Q E = Q (.dv (.int ws.length)) (S.set l o) := wp_len_loc (h.get o) Q
theorem lkind_ok {ip ik : Nat} (hp : P.fn ip = some fPull) (hf : P.fn ik = some (fLKind ip ik)) {l a1 a2 : Nat} {w1 w2 : List D} (hl : l < S.length) (W1 : WL S l a1 w1) (W2 : WL S l a2 w2) (n : Nat) : ∀ {b k : Nat} {c m q : Int} {E : EQ} {Q : D → Sto → Prop}, PS (b + 3 + 4 * n) c m q → n + 2 ≤ k →
    (∀ d c' m' q', KD n d → PS b c' m' q' → Q d (S.set l (pOb c' m' q'))) → wp (P.call k ik [.loc l, .loc a1, .loc a2, .int (n : Int)]) (S.set l (pOb c m q)) Q E := by
  induction n using Nat.strongRecOn with
  | ind n ih =>
    intro b k c0 m0 q0 E Q h hk next
    refine wp_def hf (by omega) rfl ?_
    simp only [fLKind, ev_var, ev_glb, ev_isV, ev_cint, ev_cstr, ev_cnon, ev_cbl, ev_tup, ev_lst, ev_dct0, ev_bin, ev_notf, ev_nott, ev_and, ev_or, ev_cmp, ev_chn, ev_ite, ev_call, ev_blt, ev_mth, ev_idx, ev_slc, ev_frc, ev_lc, ev_callk, ev_neg, varX, glX, List.getElem?_cons_succ, List.getElem?_cons_zero, evs, evx, evc, asTf, asTt, wp_bind, wp_pure, wp_ite, if_true, if_false, wp_theB, Bool.not_true, Bool.not_false, Bool.not_not, wp_force, wp_forceT, wp_push, cmpX, Bool.false_eq_true, List.map_cons, List.map_nil, List.replicate, List.cons_append, List.nil_append, List.set_cons_zero, List.set_cons_succ, bindT_nm, bindT2, wipeE, partX, xs_nil, xs_set, xs_setT, xs_par, xs_sub, xs_exp, xs_if, xs_for, xs_ret, xs_ret0, xs_rai0, xs_pass, seqQ_nx, seqQ_ret, retQ_ret, retQ_nx, wp_tru_bl, wp_tru_tup, wp_tru_tl, wp_tru_int, wp_tru_non, wp_eq_str, wp_eq_int, wp_eq_bl, wp_lt_int, wp_len_tup, wp_len_tl, wp_items_tup, wp_items_tl, wp_litems_tl, wp_walk_tup, wp_walk_tl, wp_idx_tup (at0 _ _), wp_idx_tup (at1 _ _ _), wp_idx_tup (at2 _ _ _ _), wp_idx_tup (at3 _ _ _ _ _), cut1, decide_eq_true_eq, wp_tuple, wp_list_tup, wp_int, wp_addi, wp_subi, setAll, wp_unpack_tup, isiStr_str, isiTup_tup, isiTl]
    refine pull_ok hp hl (b := b + 2 + 4 * n) (h.less (by omega)) (by omega) (by omega) (by omega) fun r c m q r0 r1 h => ?_
    simp only [ev_var, ev_glb, ev_isV, ev_cint, ev_cstr, ev_cnon, ev_cbl, ev_tup, ev_lst, ev_dct0, ev_bin, ev_notf, ev_nott, ev_and, ev_or, ev_cmp, ev_chn, ev_ite, ev_call, ev_blt, ev_mth, ev_idx, ev_slc, ev_frc, ev_lc, ev_callk, ev_neg, varX, glX, List.getElem?_cons_succ, List.getElem?_cons_zero, evs, evx, evc, asTf, asTt, wp_bind, wp_pure, wp_ite, if_true, if_false, wp_theB, Bool.not_true, Bool.not_false, Bool.not_not, wp_force, wp_forceT, wp_push, cmpX, Bool.false_eq_true, List.map_cons, List.map_nil, List.replicate, List.cons_append, List.nil_append, List.set_cons_zero, List.set_cons_succ, bindT_nm, bindT2, wipeE, partX, xs_nil, xs_set, xs_setT, xs_par, xs_sub, xs_exp, xs_if, xs_for, xs_ret, xs_ret0, xs_rai0, xs_pass, seqQ_nx, seqQ_ret, retQ_ret, retQ_nx, wp_tru_bl, wp_tru_tup, wp_tru_tl, wp_tru_int, wp_tru_non, wp_eq_str, wp_eq_int, wp_eq_bl, wp_lt_int, wp_len_tup, wp_len_tl, wp_items_tup, wp_items_tl, wp_litems_tl, wp_walk_tup, wp_walk_tl, wp_idx_tup (at0 _ _), wp_idx_tup (at1 _ _ _), wp_idx_tup (at2 _ _ _ _), wp_idx_tup (at3 _ _ _ _ _), cut1, decide_eq_true_eq, wp_tuple, wp_list_tup, wp_int, wp_addi, wp_subi, setAll, wp_unpack_tup, isiStr_str, isiTup_tup, isiTl]
    by_cases e1 : r = 0
    · rw [if_pos e1, tidy_setP anyK.pl]
      exact next _ _ _ _ (.any _) (h.less (by omega))
    rw [if_neg e1]
    have hnm : ∀ {E : EQ} {c m q}, PS (b + 1) c m q → wp (P.call (k - 1) ip [.loc l, .int w1.length]) (S.set l (pOb c m q)) (fun a S1 => wp (idxX (.dv (.loc a1)) (.dv a)) S1 (fun a_1 S1 => wp (force a_1) S1 (fun a_2 S1 => Q (.tup [.str "name", a_2]) (tidy (S.set l (pOb c0 m0 q0)) (.tup [.str "name", a_2]) S1)) E) E) E := by
      intro E c m q h
      refine pull_ok hp hl h (by have := W1.pos; omega) (by have := W1.few; omega) (by omega) fun r c m q r0 r1 h => ?_
      obtain ⟨w, e, hw⟩ := W1.pick r0 r1
      rw [wp_idx_loc (W1.get _) e, wp_force, tidy_setP (KD.name 0 hw).pl]
      exact next _ _ _ _ (.name _ hw) h
    by_cases e2 : r = 1
    · subst e2
      rw [if_pos rfl]
      refine pull_ok hp hl (b := b + 1 + 4 * n) (h.less (by omega)) (by omega) (by omega) (by omega) fun r c m q r0 r1 h => ?_
      simp only [ev_var, ev_glb, ev_isV, ev_cint, ev_cstr, ev_cnon, ev_cbl, ev_tup, ev_lst, ev_dct0, ev_bin, ev_notf, ev_nott, ev_and, ev_or, ev_cmp, ev_chn, ev_ite, ev_call, ev_blt, ev_mth, ev_idx, ev_slc, ev_frc, ev_lc, ev_callk, ev_neg, varX, glX, List.getElem?_cons_succ, List.getElem?_cons_zero, evs, evx, evc, asTf, asTt, wp_bind, wp_pure, wp_ite, if_true, if_false, wp_theB, Bool.not_true, Bool.not_false, Bool.not_not, wp_force, wp_forceT, wp_push, cmpX, Bool.false_eq_true, List.map_cons, List.map_nil, List.replicate, List.cons_append, List.nil_append, List.set_cons_zero, List.set_cons_succ, bindT_nm, bindT2, wipeE, partX, xs_nil, xs_set, xs_setT, xs_par, xs_sub, xs_exp, xs_if, xs_for, xs_ret, xs_ret0, xs_rai0, xs_pass, seqQ_nx, seqQ_ret, retQ_ret, retQ_nx, wp_tru_bl, wp_tru_tup, wp_tru_tl, wp_tru_int, wp_tru_non, wp_eq_str, wp_eq_int, wp_eq_bl, wp_lt_int, wp_len_tup, wp_len_tl, wp_items_tup, wp_items_tl, wp_litems_tl, wp_walk_tup, wp_walk_tl, wp_idx_tup (at0 _ _), wp_idx_tup (at1 _ _ _), wp_idx_tup (at2 _ _ _ _), wp_idx_tup (at3 _ _ _ _ _), cut1, decide_eq_true_eq, wp_tuple, wp_list_tup, wp_int, wp_addi, wp_subi, setAll, wp_unpack_tup, isiStr_str, isiTup_tup, isiTl]
      by_cases e3 : r = 0
      · rw [if_pos e3, tidy_setP noneK.pl]
        exact next _ _ _ _ (.none _) (h.less (by omega))
      · rw [if_neg e3, if_neg (by omega), if_neg (by omega), wp_len_set W1]
        exact hnm (h.less (by omega))
    rw [if_neg e2]
    by_cases e5 : 5 < r
    · rw [if_pos e5]
      by_cases hn : (0 : Int) < n
      · rw [if_pos hn, wp_len_set W2]
        refine pull_ok hp hl (b := b + 1 + 4 * n) (h.less (by omega)) (by have := W2.pos; omega) (by have := W2.few; omega) (by omega) fun r c m q r0 r1 h => ?_
        obtain ⟨w, e, hw⟩ := W2.pick r0 r1
        obtain ⟨n', rfl⟩ : ∃ n', n = n' + 1 := ⟨n - 1, by omega⟩
        have en : ((n' + 1 : Nat) : Int) - 1 = (n' : Int) := by omega
        rw [wp_idx_loc (W2.get _) e, wp_force]
        simp only [ev_var, ev_glb, ev_isV, ev_cint, ev_cstr, ev_cnon, ev_cbl, ev_tup, ev_lst, ev_dct0, ev_bin, ev_notf, ev_nott, ev_and, ev_or, ev_cmp, ev_chn, ev_ite, ev_call, ev_blt, ev_mth, ev_idx, ev_slc, ev_frc, ev_lc, ev_callk, ev_neg, varX, glX, List.getElem?_cons_succ, List.getElem?_cons_zero, evs, evx, evc, asTf, asTt, wp_bind, wp_pure, wp_ite, if_true, if_false, wp_theB, Bool.not_true, Bool.not_false, Bool.not_not, wp_force, wp_forceT, wp_push, cmpX, Bool.false_eq_true, List.map_cons, List.map_nil, List.replicate, List.cons_append, List.nil_append, List.set_cons_zero, List.set_cons_succ, bindT_nm, bindT2, wipeE, partX, xs_nil, xs_set, xs_setT, xs_par, xs_sub, xs_exp, xs_if, xs_for, xs_ret, xs_ret0, xs_rai0, xs_pass, seqQ_nx, seqQ_ret, retQ_ret, retQ_nx, wp_tru_bl, wp_tru_tup, wp_tru_tl, wp_tru_int, wp_tru_non, wp_eq_str, wp_eq_int, wp_eq_bl, wp_lt_int, wp_len_tup, wp_len_tl, wp_items_tup, wp_items_tl, wp_litems_tl, wp_walk_tup, wp_walk_tl, wp_idx_tup (at0 _ _), wp_idx_tup (at1 _ _ _), wp_idx_tup (at2 _ _ _ _), wp_idx_tup (at3 _ _ _ _ _), cut1, decide_eq_true_eq, wp_tuple, wp_list_tup, wp_int, wp_addi, wp_subi, setAll, wp_unpack_tup, isiStr_str, isiTup_tup, isiTl, en]
        refine ih n' (by omega) (b := b) (h.less (by omega)) (by omega) fun d c m q hd h => ?_
        rw [tidy_setP (KD.some hw hd).pl]
        exact next _ _ _ _ (.some hw hd) h
      · rw [if_neg hn, if_neg hn]
        by_cases e3 : 3 < r
        · rw [if_pos e3, wp_len_set W1]
          exact hnm (h.less (by omega))
        · omega
    rw [if_neg e5]
    by_cases e3 : 3 < r
    · rw [if_pos e3]
      by_cases hn : (0 : Int) < n
      · rw [if_pos hn]
        obtain ⟨n', rfl⟩ : ∃ n', n = n' + 1 := ⟨n - 1, by omega⟩
        have en : ((n' + 1 : Nat) : Int) - 1 = (n' : Int) := by omega
        refine ih 0 (by omega) (b := b + 3 + 4 * n') (h.less (by omega)) (by omega) fun d c m q hd h => ?_
        simp only [ev_var, ev_glb, ev_isV, ev_cint, ev_cstr, ev_cnon, ev_cbl, ev_tup, ev_lst, ev_dct0, ev_bin, ev_notf, ev_nott, ev_and, ev_or, ev_cmp, ev_chn, ev_ite, ev_call, ev_blt, ev_mth, ev_idx, ev_slc, ev_frc, ev_lc, ev_callk, ev_neg, varX, glX, List.getElem?_cons_succ, List.getElem?_cons_zero, evs, evx, evc, asTf, asTt, wp_bind, wp_pure, wp_ite, if_true, if_false, wp_theB, Bool.not_true, Bool.not_false, Bool.not_not, wp_force, wp_forceT, wp_push, cmpX, Bool.false_eq_true, List.map_cons, List.map_nil, List.replicate, List.cons_append, List.nil_append, List.set_cons_zero, List.set_cons_succ, bindT_nm, bindT2, wipeE, partX, xs_nil, xs_set, xs_setT, xs_par, xs_sub, xs_exp, xs_if, xs_for, xs_ret, xs_ret0, xs_rai0, xs_pass, seqQ_nx, seqQ_ret, retQ_ret, retQ_nx, wp_tru_bl, wp_tru_tup, wp_tru_tl, wp_tru_int, wp_tru_non, wp_eq_str, wp_eq_int, wp_eq_bl, wp_lt_int, wp_len_tup, wp_len_tl, wp_items_tup, wp_items_tl, wp_litems_tl, wp_walk_tup, wp_walk_tl, wp_idx_tup (at0 _ _), wp_idx_tup (at1 _ _ _), wp_idx_tup (at2 _ _ _ _), wp_idx_tup (at3 _ _ _ _ _), cut1, decide_eq_true_eq, wp_tuple, wp_list_tup, wp_int, wp_addi, wp_subi, setAll, wp_unpack_tup, isiStr_str, isiTup_tup, isiTl, en]
        refine ih n' (by omega) (b := b) h (by omega) fun d2 c m q hd2 h => ?_
        rw [tidy_setP (KD.and hd hd2).pl]
        exact next _ _ _ _ (.and hd hd2) h
      · rw [if_neg hn, wp_len_set W1]
        exact hnm (h.less (by omega))
    · rw [if_neg e3, wp_len_set W1]
      exact hnm (h.less (by omega))
end
end Kd
/-! The law's draws: sayings, facts, words, the pool itself. -/
namespace Kd
open PySem
section
variable {P : Prg} {S : Sto} {E : EQ}
/-- a comprehension without a test: each element has p, J counts down -/
theorem wp_lcRun_all {p : D → Prop} (J : Nat → Sto → Prop) {bd : D → M Env} {e : Env → M D} {Q : List D → Sto → Prop} : ∀ {ds acc : List D} {S : Sto}, (∀ d ∈ ds, ∀ n S1, n < ds.length → J (n + 1) S1 → wp (bd d) S1 (fun ρ S2 => wp (e ρ) S2 (fun y S3 => p y ∧ J n S3) E) E) → J ds.length S →
    (∀ ys S1, ys.length = ds.length → (∀ y ∈ ys, p y) → J 0 S1 → Q (acc.reverse ++ ys) S1) → wp (lcRun [] bd (fun _ => M.pure true) e ds acc) S Q E
  | [], acc, S, _, j, q => by
    rw [wp_lcRun_nil]
    simpa using q [] S rfl (by simp) j
  | d :: ds, acc, S, h, j, q => by
    rw [wp_lcRun_cons]
    refine wp_mono (h d (by simp) ds.length S (by simp) j) fun ρ S2 h2 => ?_
    simp only [wp_pure, if_true]
    refine wp_mono h2 fun y S3 ⟨hy, j3⟩ => ?_
    refine wp_lcRun_all J (fun x hx n S1 hn => h x (List.mem_cons_of_mem _ hx) n S1 (by simp only [List.length_cons]; omega)) j3 fun ys S1 hl hp j1 => ?_
    have := q (y :: ys) S1 (by simp [hl]) (fun z hz => (List.mem_cons.mp hz).elim (fun e => e ▸ hy) (hp z)) j1
    simpa using this
theorem pick_ok {ip k : Nat} (hp : P.fn ip = some fPull) {l a : Nat} {ws : List D} (hl : l < S.length) (W : WL S l a ws) {b : Nat} {c m q : Int} (h : PS (b + 1) c m q) (hk : 1 ≤ k) {Q : X → Sto → Prop}
    (next : ∀ w c m q, WOk w → PS b c m q → Q (.dv w) (S.set l (pOb c m q))) : wp (P.call k ip [.loc l, .int ws.length]) (S.set l (pOb c m q)) (fun x S1 => wp (idxX (.dv (.loc a)) (.dv x)) S1 Q E) E := by
  refine pull_ok hp hl h (by have := W.pos; omega) (by have := W.few; omega) hk fun r c m q r0 r1 h => ?_
  obtain ⟨w, e, hw⟩ := W.pick r0 r1
  rw [wp_idx_loc (W.get _) e]
  exact next _ _ _ _ hw h
def fLSay (ip ik : Nat) : Fn := ⟨4, 8, 
  [.set 4 (.call ip [(.var 0), (.cint 8)]),
  .if_ (.cmp .eq (.var 4) (.cint 0))
    [.ret (.tup [(.cstr "role"), (.idx (.var 2) (.call ip [(.var 0), (.blt .len [(.var 2)])])), (.idx (.var 2) (.call ip [(.var 0), (.blt .len [(.var 2)])]))])]
    [],
  .if_ (.cmp .eq (.var 4) (.cint 1))
    [.ret (.bin .add (.tup [(.cstr "chain")]) (.blt .tuple [(.lc (.idx (.var 2) (.call ip [(.var 0), (.blt .len [(.var 2)])])) (.nm 7) .range [(.cint 3)] [] [7])]))]
    [],
  .set 5 (.call ik [(.var 0), (.var 1), (.var 2), (.var 3)]),
  .if_ (.cmp .lt (.var 4) (.cint 5))
    [.set 5 (.tup [(.cstr "name"), (.idx (.var 1) (.call ip [(.var 0), (.blt .len [(.var 1)])]))])]
    [],
  .set 6 (.call ik [(.var 0), (.var 1), (.var 2), (.var 3)]),
  .if_ (.and_ (.cmp .eq (.var 6) (.tup [(.cstr "none")])) (.cmp .eq (.call ip [(.var 0), (.cint 2)]) (.cint 0)))
    [.set 6 (.tup [(.cstr "name"), (.idx (.var 1) (.call ip [(.var 0), (.blt .len [(.var 1)])]))])]
    [],
  .ret (.tup [(.cstr "below"), (.var 5), (.var 6)])]⟩
def fLFact (ip ik : Nat) : Fn := ⟨5, 6, 
  [.set 5 (.idx (.var 3) (.call ip [(.var 0), (.blt .len [(.var 3)])])),
  .if_ (.cmp .eq (.call ip [(.var 0), (.cint 2)]) (.cint 0))
    [.ret (.tup [(.cstr "is"), (.var 5), (.call ik [(.var 0), (.var 1), (.var 2), (.var 4)])])]
    [],
  .ret (.tup [(.cstr "to"), (.var 5), (.idx (.var 2) (.call ip [(.var 0), (.blt .len [(.var 2)])])), (.idx (.var 3) (.call ip [(.var 0), (.blt .len [(.var 3)])]))])]⟩
theorem lfact_ok {ip ik f : Nat} (hp : P.fn ip = some fPull) (hk0 : P.fn ik = some (fLKind ip ik)) (hf : P.fn f = some (fLFact ip ik)) {l a1 a2 a3 : Nat} {w1 w2 w3 : List D} (hl : l < S.length) (W1 : WL S l a1 w1) (W2 : WL S l a2 w2) (W3 : WL S l a3 w3) {b k : Nat} {c m q : Int} {Q : D → Sto → Prop}
    (h : PS (b + 20) c m q) (hk : 6 ≤ k) (next : ∀ d c' m' q', Fc d → PS b c' m' q' → Q d (S.set l (pOb c' m' q'))) : wp (P.call k f [.loc l, .loc a1, .loc a2, .loc a3, .int 2]) (S.set l (pOb c m q)) Q E := by
  refine wp_def hf (by omega) rfl ?_
  simp only [fLFact, ev_var, ev_glb, ev_isV, ev_cint, ev_cstr, ev_cnon, ev_cbl, ev_tup, ev_lst, ev_dct0, ev_bin, ev_notf, ev_nott, ev_and, ev_or, ev_cmp, ev_chn, ev_ite, ev_call, ev_blt, ev_mth, ev_idx, ev_slc, ev_frc, ev_lc, ev_callk, ev_neg, varX, glX, List.getElem?_cons_succ, List.getElem?_cons_zero, evs, evx, evc, asTf, asTt, wp_bind, wp_pure, wp_ite, if_true, if_false, wp_theB, Bool.not_true, Bool.not_false, Bool.not_not, wp_force, wp_forceT, wp_push, cmpX, Bool.false_eq_true, List.map_cons, List.map_nil, List.replicate, List.cons_append, List.nil_append, List.set_cons_zero, List.set_cons_succ, bindT_nm, bindT2, wipeE, partX, xs_nil, xs_set, xs_setT, xs_par, xs_sub, xs_exp, xs_if, xs_for, xs_ret, xs_ret0, xs_rai0, xs_pass, seqQ_nx, seqQ_ret, retQ_ret, retQ_nx, wp_tru_bl, wp_tru_tup, wp_tru_tl, wp_tru_int, wp_tru_non, wp_eq_str, wp_eq_int, wp_eq_bl, wp_lt_int, wp_len_tup, wp_len_tl, wp_items_tup, wp_items_tl, wp_litems_tl, wp_walk_tup, wp_walk_tl, wp_idx_tup (at0 _ _), wp_idx_tup (at1 _ _ _), wp_idx_tup (at2 _ _ _ _), wp_idx_tup (at3 _ _ _ _ _), cut1, decide_eq_true_eq, wp_tuple, wp_list_tup, wp_int, wp_addi, wp_subi, setAll, wp_unpack_tup, isiStr_str, isiTup_tup, isiTl]
  rw [wp_len_set W3]
  refine pick_ok hp hl W3 (b := b + 19) h (by omega) fun p c m q hp1 h => ?_
  simp only [ev_var, ev_glb, ev_isV, ev_cint, ev_cstr, ev_cnon, ev_cbl, ev_tup, ev_lst, ev_dct0, ev_bin, ev_notf, ev_nott, ev_and, ev_or, ev_cmp, ev_chn, ev_ite, ev_call, ev_blt, ev_mth, ev_idx, ev_slc, ev_frc, ev_lc, ev_callk, ev_neg, varX, glX, List.getElem?_cons_succ, List.getElem?_cons_zero, evs, evx, evc, asTf, asTt, wp_bind, wp_pure, wp_ite, if_true, if_false, wp_theB, Bool.not_true, Bool.not_false, Bool.not_not, wp_force, wp_forceT, wp_push, cmpX, Bool.false_eq_true, List.map_cons, List.map_nil, List.replicate, List.cons_append, List.nil_append, List.set_cons_zero, List.set_cons_succ, bindT_nm, bindT2, wipeE, partX, xs_nil, xs_set, xs_setT, xs_par, xs_sub, xs_exp, xs_if, xs_for, xs_ret, xs_ret0, xs_rai0, xs_pass, seqQ_nx, seqQ_ret, retQ_ret, retQ_nx, wp_tru_bl, wp_tru_tup, wp_tru_tl, wp_tru_int, wp_tru_non, wp_eq_str, wp_eq_int, wp_eq_bl, wp_lt_int, wp_len_tup, wp_len_tl, wp_items_tup, wp_items_tl, wp_litems_tl, wp_walk_tup, wp_walk_tl, wp_idx_tup (at0 _ _), wp_idx_tup (at1 _ _ _), wp_idx_tup (at2 _ _ _ _), wp_idx_tup (at3 _ _ _ _ _), cut1, decide_eq_true_eq, wp_tuple, wp_list_tup, wp_int, wp_addi, wp_subi, setAll, wp_unpack_tup, isiStr_str, isiTup_tup, isiTl]
  refine pull_ok hp hl (b := b + 18) h (by omega) (by omega) (by omega) fun r c m q r0 r1 h => ?_
  simp only [ev_var, ev_glb, ev_isV, ev_cint, ev_cstr, ev_cnon, ev_cbl, ev_tup, ev_lst, ev_dct0, ev_bin, ev_notf, ev_nott, ev_and, ev_or, ev_cmp, ev_chn, ev_ite, ev_call, ev_blt, ev_mth, ev_idx, ev_slc, ev_frc, ev_lc, ev_callk, ev_neg, varX, glX, List.getElem?_cons_succ, List.getElem?_cons_zero, evs, evx, evc, asTf, asTt, wp_bind, wp_pure, wp_ite, if_true, if_false, wp_theB, Bool.not_true, Bool.not_false, Bool.not_not, wp_force, wp_forceT, wp_push, cmpX, Bool.false_eq_true, List.map_cons, List.map_nil, List.replicate, List.cons_append, List.nil_append, List.set_cons_zero, List.set_cons_succ, bindT_nm, bindT2, wipeE, partX, xs_nil, xs_set, xs_setT, xs_par, xs_sub, xs_exp, xs_if, xs_for, xs_ret, xs_ret0, xs_rai0, xs_pass, seqQ_nx, seqQ_ret, retQ_ret, retQ_nx, wp_tru_bl, wp_tru_tup, wp_tru_tl, wp_tru_int, wp_tru_non, wp_eq_str, wp_eq_int, wp_eq_bl, wp_lt_int, wp_len_tup, wp_len_tl, wp_items_tup, wp_items_tl, wp_litems_tl, wp_walk_tup, wp_walk_tl, wp_idx_tup (at0 _ _), wp_idx_tup (at1 _ _ _), wp_idx_tup (at2 _ _ _ _), wp_idx_tup (at3 _ _ _ _ _), cut1, decide_eq_true_eq, wp_tuple, wp_list_tup, wp_int, wp_addi, wp_subi, setAll, wp_unpack_tup, isiStr_str, isiTup_tup, isiTl]
  by_cases e : r = 0
  · rw [if_pos e]
    refine lkind_ok hp hk0 hl W1 W2 2 (b := b) (h.less (by omega)) (by omega) fun d c m q hd h => ?_
    have := Fc.is_ hp1 (hd.k (by omega))
    rw [tidy_setP this.pl]
    exact next _ _ _ _ this h
  · rw [if_neg e, wp_len_set W2]
    refine pick_ok hp hl W2 (b := b + 17) h (by omega) fun r c m q hp2 h => ?_
    rw [wp_force, wp_len_set W3]
    refine pick_ok hp hl W3 (b := b + 16) h (by omega) fun p2 c m q hp3 h => ?_
    rw [wp_force]
    have := Fc.to_ hp1 hp2 hp3
    rw [tidy_setP this.pl]
    exact next _ _ _ _ this (h.less (by omega))
theorem lsay_ok {ip ik f : Nat} (hp : P.fn ip = some fPull) (hk0 : P.fn ik = some (fLKind ip ik)) (hf : P.fn f = some (fLSay ip ik)) {l a1 a2 : Nat} {w1 w2 : List D} (hl : l < S.length) (W1 : WL S l a1 w1) (W2 : WL S l a2 w2) {b k : Nat} {c0 m0 q0 : Int} {Q : D → Sto → Prop}
    (h : PS (b + 40) c0 m0 q0) (hk : 6 ≤ k) (next : ∀ d c' m' q', Cl d → ¬ Fc d → PS b c' m' q' → Q d (S.set l (pOb c' m' q'))) : wp (P.call k f [.loc l, .loc a1, .loc a2, .int 2]) (S.set l (pOb c0 m0 q0)) Q E := by
  refine wp_def hf (by omega) rfl ?_
  simp only [fLSay, ev_var, ev_glb, ev_isV, ev_cint, ev_cstr, ev_cnon, ev_cbl, ev_tup, ev_lst, ev_dct0, ev_bin, ev_notf, ev_nott, ev_and, ev_or, ev_cmp, ev_chn, ev_ite, ev_call, ev_blt, ev_mth, ev_idx, ev_slc, ev_frc, ev_lc, ev_callk, ev_neg, varX, glX, List.getElem?_cons_succ, List.getElem?_cons_zero, evs, evx, evc, asTf, asTt, wp_bind, wp_pure, wp_ite, if_true, if_false, wp_theB, Bool.not_true, Bool.not_false, Bool.not_not, wp_force, wp_forceT, wp_push, cmpX, Bool.false_eq_true, List.map_cons, List.map_nil, List.replicate, List.cons_append, List.nil_append, List.set_cons_zero, List.set_cons_succ, bindT_nm, bindT2, wipeE, partX, xs_nil, xs_set, xs_setT, xs_par, xs_sub, xs_exp, xs_if, xs_for, xs_ret, xs_ret0, xs_rai0, xs_pass, seqQ_nx, seqQ_ret, retQ_ret, retQ_nx, wp_tru_bl, wp_tru_tup, wp_tru_tl, wp_tru_int, wp_tru_non, wp_eq_str, wp_eq_int, wp_eq_bl, wp_lt_int, wp_len_tup, wp_len_tl, wp_items_tup, wp_items_tl, wp_litems_tl, wp_walk_tup, wp_walk_tl, wp_idx_tup (at0 _ _), wp_idx_tup (at1 _ _ _), wp_idx_tup (at2 _ _ _ _), wp_idx_tup (at3 _ _ _ _ _), cut1, decide_eq_true_eq, wp_tuple, wp_list_tup, wp_int, wp_addi, wp_subi, setAll, wp_unpack_tup, isiStr_str, isiTup_tup, isiTl]
  refine pull_ok hp hl (b := b + 39) h (by omega) (by omega) (by omega) fun r c m q r0 r1 h => ?_
  simp only [ev_var, ev_glb, ev_isV, ev_cint, ev_cstr, ev_cnon, ev_cbl, ev_tup, ev_lst, ev_dct0, ev_bin, ev_notf, ev_nott, ev_and, ev_or, ev_cmp, ev_chn, ev_ite, ev_call, ev_blt, ev_mth, ev_idx, ev_slc, ev_frc, ev_lc, ev_callk, ev_neg, varX, glX, List.getElem?_cons_succ, List.getElem?_cons_zero, evs, evx, evc, asTf, asTt, wp_bind, wp_pure, wp_ite, if_true, if_false, wp_theB, Bool.not_true, Bool.not_false, Bool.not_not, wp_force, wp_forceT, wp_push, cmpX, Bool.false_eq_true, List.map_cons, List.map_nil, List.replicate, List.cons_append, List.nil_append, List.set_cons_zero, List.set_cons_succ, bindT_nm, bindT2, wipeE, partX, xs_nil, xs_set, xs_setT, xs_par, xs_sub, xs_exp, xs_if, xs_for, xs_ret, xs_ret0, xs_rai0, xs_pass, seqQ_nx, seqQ_ret, retQ_ret, retQ_nx, wp_tru_bl, wp_tru_tup, wp_tru_tl, wp_tru_int, wp_tru_non, wp_eq_str, wp_eq_int, wp_eq_bl, wp_lt_int, wp_len_tup, wp_len_tl, wp_items_tup, wp_items_tl, wp_litems_tl, wp_walk_tup, wp_walk_tl, wp_idx_tup (at0 _ _), wp_idx_tup (at1 _ _ _), wp_idx_tup (at2 _ _ _ _), wp_idx_tup (at3 _ _ _ _ _), cut1, decide_eq_true_eq, wp_tuple, wp_list_tup, wp_int, wp_addi, wp_subi, setAll, wp_unpack_tup, isiStr_str, isiTup_tup, isiTl]
  by_cases e : r = 0
  · rw [if_pos e, wp_len_set W2]
    refine pick_ok hp hl W2 (b := b + 38) h (by omega) fun x c m q hx h => ?_
    rw [wp_force, wp_len_set W2]
    refine pick_ok hp hl W2 (b := b + 37) h (by omega) fun y c m q hy h => ?_
    rw [wp_force]
    have := Cl.role hx hy
    rw [tidy_setP this.pl]
    exact next _ _ _ _ this (by rintro ⟨⟩) (h.less (by omega))
  rw [if_neg e]
  by_cases e1 : r = 1
  · rw [if_pos e1, wp_range (by unfold sizeLine; omega)]
    refine wp_calm (wp_lcRun_all (p := WOk) (fun n S1 => ∃ c m q, S1 = S.set l (pOb c m q) ∧ PS (b + 10 + n) c m q) ?_ ⟨c, m, q, rfl, h.less (by simp)⟩ ?_)
    · rintro d hd n S1 hn ⟨c, m, q, rfl, h⟩
      simp only [ev_var, ev_glb, ev_isV, ev_cint, ev_cstr, ev_cnon, ev_cbl, ev_tup, ev_lst, ev_dct0, ev_bin, ev_notf, ev_nott, ev_and, ev_or, ev_cmp, ev_chn, ev_ite, ev_call, ev_blt, ev_mth, ev_idx, ev_slc, ev_frc, ev_lc, ev_callk, ev_neg, varX, glX, List.getElem?_cons_succ, List.getElem?_cons_zero, evs, evx, evc, asTf, asTt, wp_bind, wp_pure, wp_ite, if_true, if_false, wp_theB, Bool.not_true, Bool.not_false, Bool.not_not, wp_force, wp_forceT, wp_push, cmpX, Bool.false_eq_true, List.map_cons, List.map_nil, List.replicate, List.cons_append, List.nil_append, List.set_cons_zero, List.set_cons_succ, bindT_nm, bindT2, wipeE, partX, xs_nil, xs_set, xs_setT, xs_par, xs_sub, xs_exp, xs_if, xs_for, xs_ret, xs_ret0, xs_rai0, xs_pass, seqQ_nx, seqQ_ret, retQ_ret, retQ_nx, wp_tru_bl, wp_tru_tup, wp_tru_tl, wp_tru_int, wp_tru_non, wp_eq_str, wp_eq_int, wp_eq_bl, wp_lt_int, wp_len_tup, wp_len_tl, wp_items_tup, wp_items_tl, wp_litems_tl, wp_walk_tup, wp_walk_tl, wp_idx_tup (at0 _ _), wp_idx_tup (at1 _ _ _), wp_idx_tup (at2 _ _ _ _), wp_idx_tup (at3 _ _ _ _ _), cut1, decide_eq_true_eq, wp_tuple, wp_list_tup, wp_int, wp_addi, wp_subi, setAll, wp_unpack_tup, isiStr_str, isiTup_tup, isiTl]
      rw [wp_len_set W2]
      refine pick_ok hp hl W2 (b := b + 10 + n) h (by omega) fun x c m q hx h => ?_
      rw [wp_force]
      exact ⟨hx, _, _, _, rfl, h⟩
    · rintro ys S1 hy hys ⟨c, m, q, rfl, h⟩
      have hy : ys.length = 3 := by simpa using hy
      rw [List.reverse_nil, List.nil_append, wp_addt (by rw [hy]; unfold sizeLine; simp), wp_force]
      obtain ⟨x, y, z, rfl⟩ : ∃ x y z, ys = [x, y, z] := by
        rcases ys with _ | ⟨x, _ | ⟨y, _ | ⟨z, _ | ⟨w, r⟩⟩⟩⟩ <;> simp at hy
        exact ⟨_, _, _, rfl⟩
      have := Cl.chain (hys x (by simp)) (hys y (by simp)) (hys z (by simp))
      rw [List.singleton_append, tidy_setP this.pl]
      exact next _ _ _ _ this (by rintro ⟨⟩) (h.less (by omega))
  rw [if_neg e1]
  refine lkind_ok hp hk0 hl W1 W2 2 (b := b + 28) (h.less (by omega)) (by omega) fun p c m q hd h => ?_
  have nameTail : ∀ {p} {c m q} {E : EQ}, KD 2 p → PS (b + 27) c m q → wp (P.call (k - 1) ik [.loc l, .loc a1, .loc a2, .int 2]) (S.set l (pOb c m q)) (fun a S1 => wp (eqX (.dv a) (.dv (.tup [.str "none"]))) S1 (fun x S1 => if x = true then
      wp (P.call (k - 1) ip [.loc l, .int 2]) S1 (fun z S1 => wp (eqX (.dv z) (.dv (.int 0))) S1 (fun x S1 => if x = true then wp (bltX .len [.dv (.loc a1)]) S1 (fun z S1 => wp (force z) S1 (fun z S1 => wp (P.call (k - 1) ip [.loc l, z]) S1 (fun z S1 => wp (idxX (.dv (.loc a1)) (.dv z)) S1 (fun z S1 => wp (force z) S1 (fun z S1 => Q (.tup [.str "below", p, .tup [.str "name", z]]) (tidy (S.set l (pOb c0 m0 q0)) (.tup [.str "below", p, .tup [.str "name", z]]) S1)) E) E) E) E) E else Q (.tup [.str "below", p, a]) (tidy (S.set l (pOb c0 m0 q0)) (.tup [.str "below", p, a]) S1)) E) E
      else Q (.tup [.str "below", p, a]) (tidy (S.set l (pOb c0 m0 q0)) (.tup [.str "below", p, a]) S1)) E) E := by
    intro p c m q E hd h
    refine lkind_ok hp hk0 hl W1 W2 2 (b := b + 16) (h.less (by omega)) (by omega) fun p2 c m q hd2 h => ?_
    have hb := Cl.below (hd.k (by omega)) (hd2.k (by omega))
    rw [wp_eqX hd2.pl.sim (by rfl) (by have := hd2.dp; omega)]
    by_cases e : p2 = .tup [.str "none"]
    · rw [if_pos (by simpa using e)]
      refine pull_ok hp hl (b := b + 15) (h.less (by omega)) (by omega) (by omega) (by omega) fun r c m q r0 r1 h => ?_
      rw [wp_eq_int]
      by_cases e2 : r = 0
      · rw [if_pos (by simpa using e2), wp_len_set W1, wp_force]
        refine pick_ok hp hl W1 (b := b + 14) h (by omega) fun x c m q hx h => ?_
        rw [wp_force]
        have := Cl.below (hd.k (by omega)) ((KD.name 2 hx).k (by omega))
        rw [tidy_setP this.pl]
        exact next _ _ _ _ this (by rintro ⟨⟩) (h.less (by omega))
      · rw [if_neg (by simpa using e2), tidy_setP hb.pl]
        exact next _ _ _ _ hb (by rintro ⟨⟩) (h.less (by omega))
    · rw [if_neg (by simpa using e), tidy_setP hb.pl]
      exact next _ _ _ _ hb (by rintro ⟨⟩) (h.less (by omega))
  by_cases e5 : r < 5
  · rw [if_pos e5, wp_len_set W1]
    refine pick_ok hp hl W1 (b := b + 27) h (by omega) fun x c m q hx h => ?_
    rw [wp_force]
    have := nameTail (E := fun c d S' => E c d (tidy (S.set l (pOb c0 m0 q0)) (d.getD .non) S')) (KD.name 2 hx) h
    simpa only [ev_var, ev_glb, ev_isV, ev_cint, ev_cstr, ev_cnon, ev_cbl, ev_tup, ev_lst, ev_dct0, ev_bin, ev_notf, ev_nott, ev_and, ev_or, ev_cmp, ev_chn, ev_ite, ev_call, ev_blt, ev_mth, ev_idx, ev_slc, ev_frc, ev_lc, ev_callk, ev_neg, varX, glX, List.getElem?_cons_succ, List.getElem?_cons_zero, evs, evx, evc, asTf, asTt, wp_bind, wp_pure, wp_ite, if_true, if_false, wp_theB, Bool.not_true, Bool.not_false, Bool.not_not, wp_force, wp_forceT, wp_push, cmpX, Bool.false_eq_true, List.map_cons, List.map_nil, List.replicate, List.cons_append, List.nil_append, List.set_cons_zero, List.set_cons_succ, bindT_nm, bindT2, wipeE, partX, xs_nil, xs_set, xs_setT, xs_par, xs_sub, xs_exp, xs_if, xs_for, xs_ret, xs_ret0, xs_rai0, xs_pass, seqQ_nx, seqQ_ret, retQ_ret, retQ_nx, wp_tru_bl, wp_tru_tup, wp_tru_tl, wp_tru_int, wp_tru_non, wp_eq_str, wp_eq_int, wp_eq_bl, wp_lt_int, wp_len_tup, wp_len_tl, wp_items_tup, wp_items_tl, wp_litems_tl, wp_walk_tup, wp_walk_tl, wp_idx_tup (at0 _ _), wp_idx_tup (at1 _ _ _), wp_idx_tup (at2 _ _ _ _), wp_idx_tup (at3 _ _ _ _ _), cut1, decide_eq_true_eq, wp_tuple, wp_list_tup, wp_int, wp_addi, wp_subi, setAll, wp_unpack_tup, isiStr_str, isiTup_tup, isiTl] using this
  · rw [if_neg e5]
    have := nameTail (E := fun c d S' => E c d (tidy (S.set l (pOb c0 m0 q0)) (d.getD .non) S')) hd (h.less (by omega))
    simpa only [ev_var, ev_glb, ev_isV, ev_cint, ev_cstr, ev_cnon, ev_cbl, ev_tup, ev_lst, ev_dct0, ev_bin, ev_notf, ev_nott, ev_and, ev_or, ev_cmp, ev_chn, ev_ite, ev_call, ev_blt, ev_mth, ev_idx, ev_slc, ev_frc, ev_lc, ev_callk, ev_neg, varX, glX, List.getElem?_cons_succ, List.getElem?_cons_zero, evs, evx, evc, asTf, asTt, wp_bind, wp_pure, wp_ite, if_true, if_false, wp_theB, Bool.not_true, Bool.not_false, Bool.not_not, wp_force, wp_forceT, wp_push, cmpX, Bool.false_eq_true, List.map_cons, List.map_nil, List.replicate, List.cons_append, List.nil_append, List.set_cons_zero, List.set_cons_succ, bindT_nm, bindT2, wipeE, partX, xs_nil, xs_set, xs_setT, xs_par, xs_sub, xs_exp, xs_if, xs_for, xs_ret, xs_ret0, xs_rai0, xs_pass, seqQ_nx, seqQ_ret, retQ_ret, retQ_nx, wp_tru_bl, wp_tru_tup, wp_tru_tl, wp_tru_int, wp_tru_non, wp_eq_str, wp_eq_int, wp_eq_bl, wp_lt_int, wp_len_tup, wp_len_tl, wp_items_tup, wp_items_tl, wp_litems_tl, wp_walk_tup, wp_walk_tl, wp_idx_tup (at0 _ _), wp_idx_tup (at1 _ _ _), wp_idx_tup (at2 _ _ _ _), wp_idx_tup (at3 _ _ _ _ _), cut1, decide_eq_true_eq, wp_tuple, wp_list_tup, wp_int, wp_addi, wp_subi, setAll, wp_unpack_tup, isiStr_str, isiTup_tup, isiTl] using this
end
end Kd
/-! The law's draws: words, the pool itself. -/
namespace Kd
open PySem
section
variable {P : Prg} {S : Sto} {E : EQ}
def fWords (ip : Nat) : Fn := ⟨1, 4, 
  [.set 1 (.idx (.lst [(.lst [(.cstr "a"), (.cstr "b"), (.cstr "c")]), (.lst [(.cstr "nurse"), (.cstr "carer"), (.cstr "robot"), (.cstr "a")]), (.lst [(.cstr "x"), (.cstr "y")])]) (.call ip [(.var 0), (.cint 3)])),
  .set 2 (.idx (.lst [(.lst [(.cstr "r"), (.cstr "s")]), (.lst [(.cstr "child"), (.cstr "kin"), (.cstr "part")]), (.lst [(.cstr "r")])]) (.call ip [(.var 0), (.cint 3)])),
  .set 3 (.idx (.lst [(.lst [(.cstr "ann"), (.cstr "bob")]), (.lst [(.cstr "p"), (.cstr "q"), (.cstr "na")]), (.lst [(.cstr "nb"), (.cstr "na"), (.cstr "nc"), (.cstr "ann")])]) (.call ip [(.var 0), (.cint 3)])),
  .ret (.tup [(.var 1), (.var 2), (.var 3)])]⟩
/-- one of three lists -/
theorem at3l (a b c : D) {r : Int} (h0 : 0 ≤ r) (h1 : r < 3) : (r = 0 ∧ at_ [a, b, c] r = some a) ∨ (r = 1 ∧ at_ [a, b, c] r = some b) ∨ (r = 2 ∧ at_ [a, b, c] r = some c) := by
  have : r = 0 ∨ r = 1 ∨ r = 2 := by omega
  rcases this with rfl | rfl | rfl
  · exact .inl ⟨rfl, rfl⟩
  · exact .inr (.inl ⟨rfl, rfl⟩)
  · exact .inr (.inr ⟨rfl, rfl⟩)
theorem tidy_keep {S T : Sto} {d : D} (h : d.und S.length = false) : tidy S d T = T := by
  unfold tidy
  rw [if_neg]
  simp [h]
theorem set_app {S T : Sto} {l : Nat} {o : Ob} (hl : l < S.length) : S.set l o ++ T = (S ++ T).set l o := by rw [List.set_append_left _ _ hl]
theorem ap3 {S : Sto} {a b c : Ob} : S ++ [a, b] ++ [c] = S ++ [a, b, c] := by simp
theorem ln2 {S : Sto} {a b : Ob} : (S ++ [a, b]).length = S.length + 2 := by simp
/-- three lists behind a store, one of them picked -/
theorem three_ok {A : Sto} {ip k : Nat} (hp : P.fn ip = some fPull) {l : Nat} (hl : l < A.length) {b : Nat} {c m q : Int} (h : PS (b + 1) c m q) (hk : 1 ≤ k) {x y z : List D} (hx : ∀ w ∈ x, WOk w) (hy : ∀ w ∈ y, WOk w) (hz : ∀ w ∈ z, WOk w) (px : 0 < x.length) (py : 0 < y.length) (pz : 0 < z.length) (fx : x.length ≤ 9) (fy : y.length ≤ 9) (fz : z.length ≤ 9)
    {Q : X → Sto → Prop} (next : ∀ T a w c m q, A.length ≤ a → WL (A ++ T) l a w → w.length ≤ 9 → PS b c m q → Q (.dv (.loc a)) ((A ++ T).set l (pOb c m q))) :
    wp (P.call k ip [.loc l, .int 3]) (A.set l (pOb c m q) ++ [Ob.lst x] ++ [Ob.lst y, Ob.lst z]) (fun a S1 => wp (idxX (.tl [.loc A.length, .loc (A.length + 1), .loc (A.length + 1 + 1)]) (.dv a)) S1 Q E) E := by
  rw [List.append_assoc, List.singleton_append, set_app hl]
  refine pull_ok hp (by simp; omega) h (by omega) (by omega) hk fun r c m q r0 r1 h => ?_
  rcases at3l (.loc A.length) (.loc (A.length + 1)) (.loc (A.length + 1 + 1)) r0 r1 with ⟨_, e⟩ | ⟨_, e⟩ | ⟨_, e⟩
  · rw [wp_idx_tl e]
    exact next _ _ _ _ _ _ (by omega) ⟨by omega, by simp, hx, px, by omega⟩ fx h
  · rw [wp_idx_tl e]
    exact next _ _ _ _ _ _ (by omega) ⟨by omega, by simp, hy, py, by omega⟩ fy h
  · rw [wp_idx_tl e]
    exact next _ _ _ _ _ _ (by omega) ⟨by omega, by rw [List.getElem?_append_right (by omega), show A.length + 1 + 1 - A.length = 2 by omega]; rfl, hz, pz, by omega⟩ fz h
theorem WL.more {l a : Nat} {ws : List D} (h : WL S l a ws) (T : Sto) : WL (S ++ T) l a ws := ⟨h.ne, by
  have := (List.getElem?_eq_some_iff.mp h.ate).1
  rw [List.getElem?_append_left this]; exact h.ate, h.ok, h.pos, h.few⟩
theorem wOk_list {ws : List D} (h : ws.all wordR = true) : ∀ w ∈ ws, WOk w := fun w hw => .of (List.all_eq_true.mp h w hw)
theorem words_ok {ip f k : Nat} (hp : P.fn ip = some fPull) (hf : P.fn f = some (fWords ip)) {l : Nat} (hl : l < S.length) {b : Nat} {c m q : Int} (h : PS (b + 3) c m q) (hk : 2 ≤ k) {Q : D → Sto → Prop}
    (next : ∀ T a1 a2 a3 w1 w2 w3 c m q, WL (S ++ T) l a1 w1 → WL (S ++ T) l a2 w2 → WL (S ++ T) l a3 w3 → w1.length ≤ 9 → w2.length ≤ 9 → w3.length ≤ 9 → PS b c m q → Q (.tup [.loc a1, .loc a2, .loc a3]) ((S ++ T).set l (pOb c m q))) : wp (P.call k f [.loc l]) (S.set l (pOb c m q)) Q E := by
  refine wp_def hf (by omega) rfl ?_
  have W : ∀ {ws : List D}, ws.all wordR = true → ∀ w ∈ ws, WOk w := wOk_list
  simp only [fWords, ev_var, ev_glb, ev_isV, ev_cint, ev_cstr, ev_cnon, ev_cbl, ev_tup, ev_lst, ev_dct0, ev_bin, ev_notf, ev_nott, ev_and, ev_or, ev_cmp, ev_chn, ev_ite, ev_call, ev_blt, ev_mth, ev_idx, ev_slc, ev_frc, ev_lc, ev_callk, ev_neg, varX, glX, List.getElem?_cons_succ, List.getElem?_cons_zero, evs, evx, evc, asTf, asTt, wp_bind, wp_pure, wp_ite, if_true, if_false, wp_theB, Bool.not_true, Bool.not_false, Bool.not_not, wp_force, wp_forceT, wp_push, cmpX, Bool.false_eq_true, List.map_cons, List.map_nil, List.replicate, List.cons_append, List.nil_append, List.set_cons_zero, List.set_cons_succ, bindT_nm, bindT2, wipeE, partX, xs_nil, xs_set, xs_setT, xs_par, xs_sub, xs_exp, xs_if, xs_for, xs_ret, xs_ret0, xs_rai0, xs_pass, seqQ_nx, seqQ_ret, retQ_ret, retQ_nx, wp_tru_bl, wp_tru_tup, wp_tru_tl, wp_tru_int, wp_tru_non, wp_eq_str, wp_eq_int, wp_eq_bl, wp_lt_int, wp_len_tup, wp_len_tl, wp_items_tup, wp_items_tl, wp_litems_tl, wp_walk_tup, wp_walk_tl, wp_idx_tup (at0 _ _), wp_idx_tup (at1 _ _ _), wp_idx_tup (at2 _ _ _ _), wp_idx_tup (at3 _ _ _ _ _), cut1, decide_eq_true_eq, wp_tuple, wp_list_tup, wp_int, wp_addi, wp_subi, setAll, wp_unpack_tup, isiStr_str, isiTup_tup, isiTl, ap2, ap3, ln1, ln2, List.length_set]
  refine three_ok hp hl (b := b + 2) h (by omega) (W (by decide +kernel)) (W (by decide +kernel)) (W (by decide +kernel)) (by simp) (by simp) (by simp) (by simp) (by simp) (by simp) fun T1 a1 w1 c m q g1 W1 L1 h => ?_
  simp only [ev_var, ev_glb, ev_isV, ev_cint, ev_cstr, ev_cnon, ev_cbl, ev_tup, ev_lst, ev_dct0, ev_bin, ev_notf, ev_nott, ev_and, ev_or, ev_cmp, ev_chn, ev_ite, ev_call, ev_blt, ev_mth, ev_idx, ev_slc, ev_frc, ev_lc, ev_callk, ev_neg, varX, glX, List.getElem?_cons_succ, List.getElem?_cons_zero, evs, evx, evc, asTf, asTt, wp_bind, wp_pure, wp_ite, if_true, if_false, wp_theB, Bool.not_true, Bool.not_false, Bool.not_not, wp_force, wp_forceT, wp_push, cmpX, Bool.false_eq_true, List.map_cons, List.map_nil, List.replicate, List.cons_append, List.nil_append, List.set_cons_zero, List.set_cons_succ, bindT_nm, bindT2, wipeE, partX, xs_nil, xs_set, xs_setT, xs_par, xs_sub, xs_exp, xs_if, xs_for, xs_ret, xs_ret0, xs_rai0, xs_pass, seqQ_nx, seqQ_ret, retQ_ret, retQ_nx, wp_tru_bl, wp_tru_tup, wp_tru_tl, wp_tru_int, wp_tru_non, wp_eq_str, wp_eq_int, wp_eq_bl, wp_lt_int, wp_len_tup, wp_len_tl, wp_items_tup, wp_items_tl, wp_litems_tl, wp_walk_tup, wp_walk_tl, wp_idx_tup (at0 _ _), wp_idx_tup (at1 _ _ _), wp_idx_tup (at2 _ _ _ _), wp_idx_tup (at3 _ _ _ _ _), cut1, decide_eq_true_eq, wp_tuple, wp_list_tup, wp_int, wp_addi, wp_subi, setAll, wp_unpack_tup, isiStr_str, isiTup_tup, isiTl, ap2, ap3, ln1, ln2, List.length_set]
  refine three_ok hp (by simp; omega) (b := b + 1) h (by omega) (W (by decide +kernel)) (W (by decide +kernel)) (W (by decide +kernel)) (by simp) (by simp) (by simp) (by simp) (by simp) (by simp) fun T2 a2 w2 c m q g2 W2 L2 h => ?_
  simp only [ev_var, ev_glb, ev_isV, ev_cint, ev_cstr, ev_cnon, ev_cbl, ev_tup, ev_lst, ev_dct0, ev_bin, ev_notf, ev_nott, ev_and, ev_or, ev_cmp, ev_chn, ev_ite, ev_call, ev_blt, ev_mth, ev_idx, ev_slc, ev_frc, ev_lc, ev_callk, ev_neg, varX, glX, List.getElem?_cons_succ, List.getElem?_cons_zero, evs, evx, evc, asTf, asTt, wp_bind, wp_pure, wp_ite, if_true, if_false, wp_theB, Bool.not_true, Bool.not_false, Bool.not_not, wp_force, wp_forceT, wp_push, cmpX, Bool.false_eq_true, List.map_cons, List.map_nil, List.replicate, List.cons_append, List.nil_append, List.set_cons_zero, List.set_cons_succ, bindT_nm, bindT2, wipeE, partX, xs_nil, xs_set, xs_setT, xs_par, xs_sub, xs_exp, xs_if, xs_for, xs_ret, xs_ret0, xs_rai0, xs_pass, seqQ_nx, seqQ_ret, retQ_ret, retQ_nx, wp_tru_bl, wp_tru_tup, wp_tru_tl, wp_tru_int, wp_tru_non, wp_eq_str, wp_eq_int, wp_eq_bl, wp_lt_int, wp_len_tup, wp_len_tl, wp_items_tup, wp_items_tl, wp_litems_tl, wp_walk_tup, wp_walk_tl, wp_idx_tup (at0 _ _), wp_idx_tup (at1 _ _ _), wp_idx_tup (at2 _ _ _ _), wp_idx_tup (at3 _ _ _ _ _), cut1, decide_eq_true_eq, wp_tuple, wp_list_tup, wp_int, wp_addi, wp_subi, setAll, wp_unpack_tup, isiStr_str, isiTup_tup, isiTl, ap2, ap3, ln1, ln2, List.length_set]
  refine three_ok hp (by simp; omega) (b := b) h (by omega) (W (by decide +kernel)) (W (by decide +kernel)) (W (by decide +kernel)) (by simp) (by simp) (by simp) (by simp) (by simp) (by simp) fun T3 a3 w3 c m q g3 W3 L3 h => ?_
  have g : ¬ a1 < S.length := by omega
  simp only [ev_var, ev_glb, ev_isV, ev_cint, ev_cstr, ev_cnon, ev_cbl, ev_tup, ev_lst, ev_dct0, ev_bin, ev_notf, ev_nott, ev_and, ev_or, ev_cmp, ev_chn, ev_ite, ev_call, ev_blt, ev_mth, ev_idx, ev_slc, ev_frc, ev_lc, ev_callk, ev_neg, varX, glX, List.getElem?_cons_succ, List.getElem?_cons_zero, evs, evx, evc, asTf, asTt, wp_bind, wp_pure, wp_ite, if_true, if_false, wp_theB, Bool.not_true, Bool.not_false, Bool.not_not, wp_force, wp_forceT, wp_push, cmpX, Bool.false_eq_true, List.map_cons, List.map_nil, List.replicate, List.cons_append, List.nil_append, List.set_cons_zero, List.set_cons_succ, bindT_nm, bindT2, wipeE, partX, xs_nil, xs_set, xs_setT, xs_par, xs_sub, xs_exp, xs_if, xs_for, xs_ret, xs_ret0, xs_rai0, xs_pass, seqQ_nx, seqQ_ret, retQ_ret, retQ_nx, wp_tru_bl, wp_tru_tup, wp_tru_tl, wp_tru_int, wp_tru_non, wp_eq_str, wp_eq_int, wp_eq_bl, wp_lt_int, wp_len_tup, wp_len_tl, wp_items_tup, wp_items_tl, wp_litems_tl, wp_walk_tup, wp_walk_tl, wp_idx_tup (at0 _ _), wp_idx_tup (at1 _ _ _), wp_idx_tup (at2 _ _ _ _), wp_idx_tup (at3 _ _ _ _ _), cut1, decide_eq_true_eq, wp_tuple, wp_list_tup, wp_int, wp_addi, wp_subi, setAll, wp_unpack_tup, isiStr_str, isiTup_tup, isiTl, tidy_keep (S := S.set l _) (d := .tup [.loc a1, .loc a2, .loc a3]) (by simp [D.und, D.unds, g])]
  have W1' := (W1.more T2).more T3
  have W2' := W2.more T3
  have n1 := next (T1 ++ (T2 ++ T3)) a1 a2 a3 w1 w2 w3
  simp only [List.append_assoc] at n1 W1' W2' W3 ⊢
  exact n1 _ _ _ W1' W2' W3 L1 L2 L3 h
def fPool : Fn := ⟨2, 6, 
  [.set 2 (.cint 1),
  .for_ (.tp [5, 3]) .enum [(.slc (.var 0) [] [(.cint 63)])]
    [.set 2 (.bin .mod (.blt .int [(.bin .add (.bin .add (.bin .mul (.var 2) (.cint 31)) (.bin .mul (.var 3) (.bin .add (.bin .mul (.cint 2) (.var 5)) (.cint 3)))) (.var 5))]) (.cint 2147483587))],
  .set 3 (.bin .add (.bin .mul (.var 2) (.cint 7)) (.var 1)),
  .if_ (.cmp .lt (.var 1) (.blt .len [(.var 0)]))
    [.set 3 (.blt .abs [(.idx (.var 0) (.var 1))])]
    [],
  .set 4 (.bin .mod (.blt .int [(.bin .add (.bin .add (.bin .add (.bin .mul (.var 3) (.cint 48271)) (.bin .mul (.var 2) (.cint 69621))) (.bin .mul (.var 1) (.cint 7919))) (.cint 5))]) (.cint 2147483647)),
  .if_ (.cmp .lt (.var 3) (.bin .pow (.cint 10) (.cint 18)))
    [.set 3 (.cint 0)]
    [],
  .ret (.lst [(.var 3), (.var 4), (.var 1)])]⟩
theorem enum_mem : ∀ {ds : List D} {i : Nat} {d : D}, d ∈ enumD i ds → ∃ j x, d = .tup [.int ((j : Nat) : Int), x] ∧ i ≤ j ∧ j < i + ds.length ∧ x ∈ ds
  | [], _, _, h => by simp [enumD] at h
  | x :: ds, i, d, h => by
    simp only [enumD, List.mem_cons] at h
    rcases h with rfl | h
    · exact ⟨i, x, rfl, by omega, by simp, by simp⟩
    · obtain ⟨j, y, e, h1, h2, h3⟩ := enum_mem h
      exact ⟨j, y, e, by omega, by simp only [List.length_cons]; omega, List.mem_cons_of_mem _ h3⟩
theorem wp_abs (i : Int) (Q : X → Sto → Prop) : wp (bltX .abs [.dv (.int i)]) S Q E = Q (.dv (.int (if i < 0 then -i else i))) S := rfl
theorem wp_len_rol (ns : List Int) (Q : X → Sto → Prop) : wp (bltX .len [.dv (.rol ns)]) S Q E = Q (.dv (.int ns.length)) S := by
  show Q (.dv (.int ((ns.map D.int).length : Nat))) S = _
  rw [List.length_map]
theorem wp_idx_rol {ns : List Int} {n : Nat} (h : n < ns.length) (Q : X → Sto → Prop) : wp (idxX (.dv (.rol ns)) (.dv (.int n))) S Q E = Q (.dv (.int ns[n])) S := by
  unfold wp
  have : at_ (ns.map D.int) (n : Int) = some (.int ns[n]) := by rw [at_nat _ _ (by simpa using h)]; simp [h]
  simp only [idxX, isDct, seqIx, bindE, items, M.pure, this]
theorem wp_slc_rol (ns : List Int) (lo hi : Option Int) (Q : X → Sto → Prop) : wp (slcX (.dv (.rol ns)) lo hi) S Q E = Q (.tl (cutD (ns.map .int) lo hi)) S := rfl
theorem wp_enum_tl {ds : List D} (h : ds.length ≤ sizeLine) (Q : List D × List (Nat × List D) → Sto → Prop) : wp (walk .enum [.tl ds]) S Q E = Q (enumD 0 ds, []) S := by
  unfold wp
  simp only [walk, tupX, seqG, bindE, items, M.pure, h, if_true, if_false, Bool.false_eq_true]
theorem big_mul {i j : Int} (hi : i.natAbs < 2 ^ 1048576) (hj : j.natAbs < 1208925819614629174706176) : mulOk i j = true := mulOk_of (b := 80) hi hj (by decide)
theorem abs_mul {z : Int} {N : Nat} (h : z.natAbs < N) : (if z < 0 then -z else z).natAbs < N ∧ 0 ≤ (if z < 0 then -z else z) := by split <;> omega
theorem wp_pow1018 (Q : X → Sto → Prop) : wp (binX .pow (.dv (.int 10)) (.dv (.int 18))) S Q E = Q (.dv (.int 1000000000000000000)) S := by
  have h : (0 : Int) ≤ 18 ∧ (18 : Int) ≤ 1000000 ∧ (10 : Int).natAbs < 2 ^ 64 := by decide
  unfold wp
  simp only [binX, if_pos h]
  rfl
theorem pool_ok {f k : Nat} (hf : P.fn f = some fPool) {ns : List Int} (hl : ns.length ≤ 63) (hb : ∀ z ∈ ns, Builtin.Int.intBits z ≤ 1048576) {n : Nat} (hn : n < 1000) (hk : 1 ≤ k) {Q : D → Sto → Prop}
    (next : ∀ c m q, PS 1000000000 c m q → Q (.loc S.length) (S ++ [pOb c m q])) : wp (P.call k f [.rol ns, .int n]) S Q E := by
  refine wp_def hf hk rfl ?_
  have ht : cutD (ns.map D.int) none (some 63) = (ns.map D.int).take 63 := cutTo _ 63
  simp only [fPool, ev_var, ev_glb, ev_isV, ev_cint, ev_cstr, ev_cnon, ev_cbl, ev_tup, ev_lst, ev_dct0, ev_bin, ev_notf, ev_nott, ev_and, ev_or, ev_cmp, ev_chn, ev_ite, ev_call, ev_blt, ev_mth, ev_idx, ev_slc, ev_frc, ev_lc, ev_callk, ev_neg, varX, glX, List.getElem?_cons_succ, List.getElem?_cons_zero, evs, evx, evc, asTf, asTt, wp_bind, wp_pure, wp_ite, if_true, if_false, wp_theB, Bool.not_true, Bool.not_false, Bool.not_not, wp_force, wp_forceT, wp_push, cmpX, Bool.false_eq_true, List.map_cons, List.map_nil, List.replicate, List.cons_append, List.nil_append, List.set_cons_zero, List.set_cons_succ, bindT_nm, bindT2, wipeE, partX, xs_nil, xs_set, xs_setT, xs_par, xs_sub, xs_exp, xs_if, xs_for, xs_ret, xs_ret0, xs_rai0, xs_pass, seqQ_nx, seqQ_ret, retQ_ret, retQ_nx, wp_tru_bl, wp_tru_tup, wp_tru_tl, wp_tru_int, wp_tru_non, wp_eq_str, wp_eq_int, wp_eq_bl, wp_lt_int, wp_len_tup, wp_len_tl, wp_items_tup, wp_items_tl, wp_litems_tl, wp_walk_tup, wp_walk_tl, wp_idx_tup (at0 _ _), wp_idx_tup (at1 _ _ _), wp_idx_tup (at2 _ _ _ _), wp_idx_tup (at3 _ _ _ _ _), cut1, decide_eq_true_eq, wp_tuple, wp_list_tup, wp_int, wp_addi, wp_subi, setAll, wp_unpack_tup, isiStr_str, isiTup_tup, isiTl, wp_slc_rol, ht]
  rw [wp_enum_tl (by unfold sizeLine; simp; omega)]
  refine wp_forRun_inv (fun ds ρ S1 => ∃ t x3 x5, 0 ≤ t ∧ t < 2147483587 ∧ S1 = S ∧ ρ = [some (.rol ns), some (.int n), some (.int t), x3, none, x5] ∧ ∀ d ∈ ds, d ∈ enumD 0 ((ns.map D.int).take 63))
    (fun _ _ _ _ => rfl) ?_ ?_ _ _ _ ⟨1, none, none, by omega, by omega, rfl, rfl, fun d h => h⟩
  · rintro d ds ρ S1 ⟨t, x3, x5, t0, t1, rfl, rfl, hd⟩
    obtain ⟨j, x, rfl, j0, j1, hx⟩ := enum_mem (hd d (by simp))
    have hx := List.mem_of_mem_take hx
    obtain ⟨z, hz, rfl⟩ := List.mem_map.mp hx
    have j2 : j < 63 := by
      have := List.length_take_le 63 (ns.map D.int)
      omega
    have bz := bits_lt (hb z hz)
    have h2 : mulOk z (2 * (j : Int) + 3) = true := big_mul bz (by omega)
    clear bz
    simp only [ev_var, ev_glb, ev_isV, ev_cint, ev_cstr, ev_cnon, ev_cbl, ev_tup, ev_lst, ev_dct0, ev_bin, ev_notf, ev_nott, ev_and, ev_or, ev_cmp, ev_chn, ev_ite, ev_call, ev_blt, ev_mth, ev_idx, ev_slc, ev_frc, ev_lc, ev_callk, ev_neg, varX, glX, List.getElem?_cons_succ, List.getElem?_cons_zero, evs, evx, evc, asTf, asTt, wp_bind, wp_pure, wp_ite, if_true, if_false, wp_theB, Bool.not_true, Bool.not_false, Bool.not_not, wp_force, wp_forceT, wp_push, cmpX, Bool.false_eq_true, List.map_cons, List.map_nil, List.replicate, List.cons_append, List.nil_append, List.set_cons_zero, List.set_cons_succ, bindT_nm, bindT2, wipeE, partX, xs_nil, xs_set, xs_setT, xs_par, xs_sub, xs_exp, xs_if, xs_for, xs_ret, xs_ret0, xs_rai0, xs_pass, seqQ_nx, seqQ_ret, retQ_ret, retQ_nx, wp_tru_bl, wp_tru_tup, wp_tru_tl, wp_tru_int, wp_tru_non, wp_eq_str, wp_eq_int, wp_eq_bl, wp_lt_int, wp_len_tup, wp_len_tl, wp_items_tup, wp_items_tl, wp_litems_tl, wp_walk_tup, wp_walk_tl, wp_idx_tup (at0 _ _), wp_idx_tup (at1 _ _ _), wp_idx_tup (at2 _ _ _ _), wp_idx_tup (at3 _ _ _ _ _), cut1, decide_eq_true_eq, wp_tuple, wp_list_tup, wp_int, wp_addi, wp_subi, setAll, wp_unpack_tup, isiStr_str, isiTup_tup, isiTl, wp_muli (mulOk_s (i := t) (j := 31) (by omega) (by omega)), wp_muli (mulOk_s (i := 2) (j := (j : Int)) (by omega) (by omega)), wp_muli h2, wp_modi (show (0 : Int) < 2147483587 by omega)]
    exact ⟨_, _, _, Int.emod_nonneg _ (by omega), Int.emod_lt_of_pos _ (by omega), trivial, rfl, fun d h => hd d (List.mem_cons_of_mem _ h)⟩
  · rintro ρ S1 ⟨t, x3, x5, t0, t1, rfl, rfl, hd⟩
    have tail : ∀ z x5, 0 ≤ z → mulOk z 48271 = true → wp (exL ⟨P.call (k - 1), P.gl⟩ P.up (fPool.body.drop 4) [some (.rol ns), some (.int n), some (.int t), some (.int z), none, x5]) S1 (retQ S1 Q) (fun c d S' => E c d (tidy S1 (d.getD .non) S')) := by
      intro z x5 hz hm
      have e : fPool.body.drop 4 = [.set 4 (.bin .mod (.blt .int [(.bin .add (.bin .add (.bin .add (.bin .mul (.var 3) (.cint 48271)) (.bin .mul (.var 2) (.cint 69621))) (.bin .mul (.var 1) (.cint 7919))) (.cint 5))]) (.cint 2147483647)),
        .if_ (.cmp .lt (.var 3) (.bin .pow (.cint 10) (.cint 18))) [.set 3 (.cint 0)] [],
        .ret (.lst [(.var 3), (.var 4), (.var 1)])] := rfl
      have hT : ∀ T, tidy S1 (.loc S1.length) T = T := fun T => tidy_new (Nat.le_refl _)
      rw [e]
      simp only [ev_var, ev_glb, ev_isV, ev_cint, ev_cstr, ev_cnon, ev_cbl, ev_tup, ev_lst, ev_dct0, ev_bin, ev_notf, ev_nott, ev_and, ev_or, ev_cmp, ev_chn, ev_ite, ev_call, ev_blt, ev_mth, ev_idx, ev_slc, ev_frc, ev_lc, ev_callk, ev_neg, varX, glX, List.getElem?_cons_succ, List.getElem?_cons_zero, evs, evx, evc, asTf, asTt, wp_bind, wp_pure, wp_ite, if_true, if_false, wp_theB, Bool.not_true, Bool.not_false, Bool.not_not, wp_force, wp_forceT, wp_push, cmpX, Bool.false_eq_true, List.map_cons, List.map_nil, List.replicate, List.cons_append, List.nil_append, List.set_cons_zero, List.set_cons_succ, bindT_nm, bindT2, wipeE, partX, xs_nil, xs_set, xs_setT, xs_par, xs_sub, xs_exp, xs_if, xs_for, xs_ret, xs_ret0, xs_rai0, xs_pass, seqQ_nx, seqQ_ret, retQ_ret, retQ_nx, wp_tru_bl, wp_tru_tup, wp_tru_tl, wp_tru_int, wp_tru_non, wp_eq_str, wp_eq_int, wp_eq_bl, wp_lt_int, wp_len_tup, wp_len_tl, wp_items_tup, wp_items_tl, wp_litems_tl, wp_walk_tup, wp_walk_tl, wp_idx_tup (at0 _ _), wp_idx_tup (at1 _ _ _), wp_idx_tup (at2 _ _ _ _), wp_idx_tup (at3 _ _ _ _ _), cut1, decide_eq_true_eq, wp_tuple, wp_list_tup, wp_int, wp_addi, wp_subi, setAll, wp_unpack_tup, isiStr_str, isiTup_tup, isiTl, wp_muli hm, wp_muli (mulOk_s (i := t) (j := 69621) (by omega) (by omega)), wp_muli (mulOk_s (i := (n : Int)) (j := 7919) (by omega) (by omega)), wp_modi (show (0 : Int) < 2147483647 by omega), wp_pow1018, hT]
      split
      · exact next 0 _ _ ⟨by omega, Int.emod_nonneg _ (by omega), by have := Int.emod_lt_of_pos (z * 48271 + t * 69621 + n * 7919 + 5) (show (0 : Int) < 2147483647 by omega); omega, by omega, by omega⟩
      · exact next z _ _ ⟨by omega, Int.emod_nonneg _ (by omega), by have := Int.emod_lt_of_pos (z * 48271 + t * 69621 + n * 7919 + 5) (show (0 : Int) < 2147483647 by omega); omega, by omega, by omega⟩
    rw [seqQ_nx, xs_set]
    simp only [ev_var, ev_glb, ev_isV, ev_cint, ev_cstr, ev_cnon, ev_cbl, ev_tup, ev_lst, ev_dct0, ev_bin, ev_notf, ev_nott, ev_and, ev_or, ev_cmp, ev_chn, ev_ite, ev_call, ev_blt, ev_mth, ev_idx, ev_slc, ev_frc, ev_lc, ev_callk, ev_neg, varX, glX, List.getElem?_cons_succ, List.getElem?_cons_zero, evs, evx, evc, asTf, asTt, wp_bind, wp_pure, wp_ite, if_true, if_false, wp_theB, Bool.not_true, Bool.not_false, Bool.not_not, wp_force, wp_forceT, wp_push, cmpX, Bool.false_eq_true, List.map_cons, List.map_nil, List.replicate, List.cons_append, List.nil_append, List.set_cons_zero, List.set_cons_succ, bindT_nm, bindT2, wipeE, partX, wp_tru_bl, wp_tru_tup, wp_tru_tl, wp_tru_int, wp_tru_non, wp_eq_str, wp_eq_int, wp_eq_bl, wp_lt_int, wp_len_tup, wp_len_tl, wp_items_tup, wp_items_tl, wp_litems_tl, wp_walk_tup, wp_walk_tl, wp_idx_tup (at0 _ _), wp_idx_tup (at1 _ _ _), wp_idx_tup (at2 _ _ _ _), wp_idx_tup (at3 _ _ _ _ _), cut1, decide_eq_true_eq, wp_tuple, wp_list_tup, wp_int, wp_addi, wp_subi, setAll, wp_unpack_tup, isiStr_str, isiTup_tup, isiTl, wp_muli (mulOk_s (i := t) (j := 7) (by omega) (by omega))]
    rw [xs_if]
    simp only [ev_var, ev_glb, ev_isV, ev_cint, ev_cstr, ev_cnon, ev_cbl, ev_tup, ev_lst, ev_dct0, ev_bin, ev_notf, ev_nott, ev_and, ev_or, ev_cmp, ev_chn, ev_ite, ev_call, ev_blt, ev_mth, ev_idx, ev_slc, ev_frc, ev_lc, ev_callk, ev_neg, varX, glX, List.getElem?_cons_succ, List.getElem?_cons_zero, evs, evx, evc, asTf, asTt, wp_bind, wp_pure, wp_ite, if_true, if_false, wp_theB, Bool.not_true, Bool.not_false, Bool.not_not, wp_force, wp_forceT, wp_push, cmpX, Bool.false_eq_true, List.map_cons, List.map_nil, List.replicate, List.cons_append, List.nil_append, List.set_cons_zero, List.set_cons_succ, bindT_nm, bindT2, wipeE, partX, wp_tru_bl, wp_tru_tup, wp_tru_tl, wp_tru_int, wp_tru_non, wp_eq_str, wp_eq_int, wp_eq_bl, wp_lt_int, wp_len_tup, wp_len_tl, wp_items_tup, wp_items_tl, wp_litems_tl, wp_walk_tup, wp_walk_tl, wp_idx_tup (at0 _ _), wp_idx_tup (at1 _ _ _), wp_idx_tup (at2 _ _ _ _), wp_idx_tup (at3 _ _ _ _ _), cut1, decide_eq_true_eq, wp_tuple, wp_list_tup, wp_int, wp_addi, wp_subi, setAll, wp_unpack_tup, isiStr_str, isiTup_tup, isiTl, wp_len_rol]
    by_cases hlt : n < ns.length
    · rw [if_pos (by omega), xs_set]
      simp only [ev_var, ev_glb, ev_isV, ev_cint, ev_cstr, ev_cnon, ev_cbl, ev_tup, ev_lst, ev_dct0, ev_bin, ev_notf, ev_nott, ev_and, ev_or, ev_cmp, ev_chn, ev_ite, ev_call, ev_blt, ev_mth, ev_idx, ev_slc, ev_frc, ev_lc, ev_callk, ev_neg, varX, glX, List.getElem?_cons_succ, List.getElem?_cons_zero, evs, evx, evc, asTf, asTt, wp_bind, wp_pure, wp_ite, if_true, if_false, wp_theB, Bool.not_true, Bool.not_false, Bool.not_not, wp_force, wp_forceT, wp_push, cmpX, Bool.false_eq_true, List.map_cons, List.map_nil, List.replicate, List.cons_append, List.nil_append, List.set_cons_zero, List.set_cons_succ, bindT_nm, bindT2, wipeE, partX, wp_tru_bl, wp_tru_tup, wp_tru_tl, wp_tru_int, wp_tru_non, wp_eq_str, wp_eq_int, wp_eq_bl, wp_lt_int, wp_len_tup, wp_len_tl, wp_items_tup, wp_items_tl, wp_litems_tl, wp_walk_tup, wp_walk_tl, wp_idx_tup (at0 _ _), wp_idx_tup (at1 _ _ _), wp_idx_tup (at2 _ _ _ _), wp_idx_tup (at3 _ _ _ _ _), cut1, decide_eq_true_eq, wp_tuple, wp_list_tup, wp_int, wp_addi, wp_subi, setAll, wp_unpack_tup, isiStr_str, isiTup_tup, isiTl, wp_idx_rol hlt, wp_abs]
      rw [xs_nil, seqQ_nx]
      have bz := abs_mul (bits_lt (hb _ (List.getElem_mem hlt)))
      exact tail _ _ bz.2 (big_mul bz.1 (by omega))
    · rw [if_neg (by omega), xs_nil, seqQ_nx]
      exact tail _ _ (by omega) (mulOk_s (by omega) (by omega))
end
end Kd
/-! same, asked, goal, refused. -/
namespace Kd
open PySem
section
variable {P : Prg} {S : Sto} {E : EQ}
def fSame (is : Nat) : Fn := ⟨2, 4, 
  [.if_ (.or_ (.isi (.var 1) .tuple) (.isi (.var 1) .list))
    [.if_ (.or_ (.cmp .ne (.isi (.var 1) .tuple) (.isi (.var 0) .tuple)) (.cmp .ne (.isi (.var 1) .list) (.isi (.var 0) .list)))
      [.ret (.cbl false)]
      [],
    .if_ (.cmp .ne (.blt .len [(.var 0)]) (.blt .len [(.var 1)]))
      [.ret (.cbl false)]
      [],
    .for_ (.tp [2, 3]) .zip [(.var 0), (.var 1)]
      [.if_ (.not_ (.call is [(.var 2), (.var 3)]))
        [.ret (.cbl false)]
        []],
    .ret (.cbl true)]
    [],
  .if_ (.cmp .is_ (.var 1) .cnon)
    [.ret (.cmp .is_ (.var 0) .cnon)]
    [],
  .if_ (.isi (.var 1) .bool)
    [.ret (.and_ (.isi (.var 0) .bool) (.cmp .eq (.var 0) (.var 1)))]
    [],
  .if_ (.isi (.var 1) .int)
    [.ret (.and_ (.isi (.var 0) .int) (.and_ (.not_ (.isi (.var 0) .bool)) (.cmp .eq (.var 0) (.var 1))))]
    [],
  .ret (.and_ (.isi (.var 0) .str) (.cmp .eq (.var 0) (.var 1)))]⟩
theorem isi_non (t : Ty) (Q : X → Sto → Prop) : wp (isiV t (.dv .non)) S Q E = Q (.dv (.bl false)) S := rfl
theorem isi_int (t : Ty) (i : Int) (Q : X → Sto → Prop) : wp (isiV t (.dv (.int i))) S Q E = Q (.dv (.bl (t = .int))) S := rfl
theorem isi_str (t : Ty) (x : Str) (Q : X → Sto → Prop) : wp (isiV t (.dv (.str x))) S Q E = Q (.dv (.bl (t = .str))) S := rfl
theorem isi_tup (t : Ty) (x : List D) (Q : X → Sto → Prop) : wp (isiV t (.dv (.tup x))) S Q E = Q (.dv (.bl (t = .tuple))) S := rfl
theorem wp_is_non (d : D) (Q : Bool → Sto → Prop) : wp (isX (.dv d) (.dv .non)) S Q E = Q (decide (d = .non)) S := by
  cases d <;> rfl
theorem wp_zip_tup {a b : List D} (h : a.length ≤ sizeLine) (Q : List D × List (Nat × List D) → Sto → Prop) : wp (walk .zip [.dv (.tup a), .dv (.tup b)]) S Q E = Q (zipD a b, []) S := by
  unfold wp
  simp only [walk, tupX, seqG, bindE, items, M.pure, h, if_true]
  rfl
theorem same_ok {is : Nat} (hf : P.fn is = some (fSame is)) : ∀ (n : Nat) {k : Nat} {d : D} {S : Sto} {E : EQ} {Q : D → Sto → Prop}, d.dep ≤ n → n + 1 ≤ k → Pl d → Q (.bl true) S → wp (P.call k is [d, d]) S Q E := by
  intro n
  induction n with
  | zero =>
    intro k d S E Q hd hk pl q
    refine wp_def hf (by omega) rfl ?_
    have T : ∀ b, tidy S (.bl b) S = S := fun b => tidy_self rfl
    cases d with
    | non => simp only [fSame, ev_var, ev_glb, ev_isV, ev_cint, ev_cstr, ev_cnon, ev_cbl, ev_tup, ev_lst, ev_dct0, ev_bin, ev_notf, ev_nott, ev_and, ev_or, ev_cmp, ev_chn, ev_ite, ev_call, ev_blt, ev_mth, ev_idx, ev_slc, ev_frc, ev_lc, ev_callk, ev_neg, varX, glX, List.getElem?_cons_succ, List.getElem?_cons_zero, evs, evx, evc, asTf, asTt, wp_bind, wp_pure, wp_ite, if_true, if_false, wp_theB, Bool.not_true, Bool.not_false, Bool.not_not, wp_force, wp_forceT, wp_push, cmpX, Bool.false_eq_true, List.map_cons, List.map_nil, List.replicate, List.cons_append, List.nil_append, List.set_cons_zero, List.set_cons_succ, bindT_nm, bindT2, wipeE, partX, xs_nil, xs_set, xs_setT, xs_par, xs_sub, xs_exp, xs_if, xs_for, xs_ret, xs_ret0, xs_rai0, xs_pass, seqQ_nx, seqQ_ret, retQ_ret, retQ_nx, wp_tru_bl, wp_tru_tup, wp_tru_tl, wp_tru_int, wp_tru_non, wp_eq_str, wp_eq_int, wp_eq_bl, wp_lt_int, wp_len_tup, wp_len_tl, wp_items_tup, wp_items_tl, wp_litems_tl, wp_walk_tup, wp_walk_tl, wp_idx_tup (at0 _ _), wp_idx_tup (at1 _ _ _), wp_idx_tup (at2 _ _ _ _), wp_idx_tup (at3 _ _ _ _ _), cut1, decide_eq_true_eq, wp_tuple, wp_list_tup, wp_int, wp_addi, wp_subi, setAll, wp_unpack_tup, isiStr_str, isiTup_tup, isiTl, isi_non, wp_is_non, decide_true, T]; exact q
    | int i => simp only [fSame, ev_var, ev_glb, ev_isV, ev_cint, ev_cstr, ev_cnon, ev_cbl, ev_tup, ev_lst, ev_dct0, ev_bin, ev_notf, ev_nott, ev_and, ev_or, ev_cmp, ev_chn, ev_ite, ev_call, ev_blt, ev_mth, ev_idx, ev_slc, ev_frc, ev_lc, ev_callk, ev_neg, varX, glX, List.getElem?_cons_succ, List.getElem?_cons_zero, evs, evx, evc, asTf, asTt, wp_bind, wp_pure, wp_ite, if_true, if_false, wp_theB, Bool.not_true, Bool.not_false, Bool.not_not, wp_force, wp_forceT, wp_push, cmpX, Bool.false_eq_true, List.map_cons, List.map_nil, List.replicate, List.cons_append, List.nil_append, List.set_cons_zero, List.set_cons_succ, bindT_nm, bindT2, wipeE, partX, xs_nil, xs_set, xs_setT, xs_par, xs_sub, xs_exp, xs_if, xs_for, xs_ret, xs_ret0, xs_rai0, xs_pass, seqQ_nx, seqQ_ret, retQ_ret, retQ_nx, wp_tru_bl, wp_tru_tup, wp_tru_tl, wp_tru_int, wp_tru_non, wp_eq_str, wp_eq_int, wp_eq_bl, wp_lt_int, wp_len_tup, wp_len_tl, wp_items_tup, wp_items_tl, wp_litems_tl, wp_walk_tup, wp_walk_tl, wp_idx_tup (at0 _ _), wp_idx_tup (at1 _ _ _), wp_idx_tup (at2 _ _ _ _), wp_idx_tup (at3 _ _ _ _ _), cut1, decide_eq_true_eq, wp_tuple, wp_list_tup, wp_int, wp_addi, wp_subi, setAll, wp_unpack_tup, isiStr_str, isiTup_tup, isiTl, isi_int, wp_is_non, reduceCtorEq, decide_true, decide_false, T]; exact q
    | str x => simp only [fSame, ev_var, ev_glb, ev_isV, ev_cint, ev_cstr, ev_cnon, ev_cbl, ev_tup, ev_lst, ev_dct0, ev_bin, ev_notf, ev_nott, ev_and, ev_or, ev_cmp, ev_chn, ev_ite, ev_call, ev_blt, ev_mth, ev_idx, ev_slc, ev_frc, ev_lc, ev_callk, ev_neg, varX, glX, List.getElem?_cons_succ, List.getElem?_cons_zero, evs, evx, evc, asTf, asTt, wp_bind, wp_pure, wp_ite, if_true, if_false, wp_theB, Bool.not_true, Bool.not_false, Bool.not_not, wp_force, wp_forceT, wp_push, cmpX, Bool.false_eq_true, List.map_cons, List.map_nil, List.replicate, List.cons_append, List.nil_append, List.set_cons_zero, List.set_cons_succ, bindT_nm, bindT2, wipeE, partX, xs_nil, xs_set, xs_setT, xs_par, xs_sub, xs_exp, xs_if, xs_for, xs_ret, xs_ret0, xs_rai0, xs_pass, seqQ_nx, seqQ_ret, retQ_ret, retQ_nx, wp_tru_bl, wp_tru_tup, wp_tru_tl, wp_tru_int, wp_tru_non, wp_eq_str, wp_eq_int, wp_eq_bl, wp_lt_int, wp_len_tup, wp_len_tl, wp_items_tup, wp_items_tl, wp_litems_tl, wp_walk_tup, wp_walk_tl, wp_idx_tup (at0 _ _), wp_idx_tup (at1 _ _ _), wp_idx_tup (at2 _ _ _ _), wp_idx_tup (at3 _ _ _ _ _), cut1, decide_eq_true_eq, wp_tuple, wp_list_tup, wp_int, wp_addi, wp_subi, setAll, wp_unpack_tup, isiStr_str, isiTup_tup, isiTl, isi_str, wp_is_non, reduceCtorEq, decide_true, decide_false, T]; exact q
    | tup ds => simp [D.dep] at hd
    | _ => cases pl.sim
  | succ n ih =>
    intro k d S E Q hd hk pl q
    refine wp_def hf (by omega) rfl ?_
    have T : ∀ b, tidy S (.bl b) S = S := fun b => tidy_self rfl
    cases d with
    | non => simp only [fSame, ev_var, ev_glb, ev_isV, ev_cint, ev_cstr, ev_cnon, ev_cbl, ev_tup, ev_lst, ev_dct0, ev_bin, ev_notf, ev_nott, ev_and, ev_or, ev_cmp, ev_chn, ev_ite, ev_call, ev_blt, ev_mth, ev_idx, ev_slc, ev_frc, ev_lc, ev_callk, ev_neg, varX, glX, List.getElem?_cons_succ, List.getElem?_cons_zero, evs, evx, evc, asTf, asTt, wp_bind, wp_pure, wp_ite, if_true, if_false, wp_theB, Bool.not_true, Bool.not_false, Bool.not_not, wp_force, wp_forceT, wp_push, cmpX, Bool.false_eq_true, List.map_cons, List.map_nil, List.replicate, List.cons_append, List.nil_append, List.set_cons_zero, List.set_cons_succ, bindT_nm, bindT2, wipeE, partX, xs_nil, xs_set, xs_setT, xs_par, xs_sub, xs_exp, xs_if, xs_for, xs_ret, xs_ret0, xs_rai0, xs_pass, seqQ_nx, seqQ_ret, retQ_ret, retQ_nx, wp_tru_bl, wp_tru_tup, wp_tru_tl, wp_tru_int, wp_tru_non, wp_eq_str, wp_eq_int, wp_eq_bl, wp_lt_int, wp_len_tup, wp_len_tl, wp_items_tup, wp_items_tl, wp_litems_tl, wp_walk_tup, wp_walk_tl, wp_idx_tup (at0 _ _), wp_idx_tup (at1 _ _ _), wp_idx_tup (at2 _ _ _ _), wp_idx_tup (at3 _ _ _ _ _), cut1, decide_eq_true_eq, wp_tuple, wp_list_tup, wp_int, wp_addi, wp_subi, setAll, wp_unpack_tup, isiStr_str, isiTup_tup, isiTl, isi_non, wp_is_non, decide_true, T]; exact q
    | int i => simp only [fSame, ev_var, ev_glb, ev_isV, ev_cint, ev_cstr, ev_cnon, ev_cbl, ev_tup, ev_lst, ev_dct0, ev_bin, ev_notf, ev_nott, ev_and, ev_or, ev_cmp, ev_chn, ev_ite, ev_call, ev_blt, ev_mth, ev_idx, ev_slc, ev_frc, ev_lc, ev_callk, ev_neg, varX, glX, List.getElem?_cons_succ, List.getElem?_cons_zero, evs, evx, evc, asTf, asTt, wp_bind, wp_pure, wp_ite, if_true, if_false, wp_theB, Bool.not_true, Bool.not_false, Bool.not_not, wp_force, wp_forceT, wp_push, cmpX, Bool.false_eq_true, List.map_cons, List.map_nil, List.replicate, List.cons_append, List.nil_append, List.set_cons_zero, List.set_cons_succ, bindT_nm, bindT2, wipeE, partX, xs_nil, xs_set, xs_setT, xs_par, xs_sub, xs_exp, xs_if, xs_for, xs_ret, xs_ret0, xs_rai0, xs_pass, seqQ_nx, seqQ_ret, retQ_ret, retQ_nx, wp_tru_bl, wp_tru_tup, wp_tru_tl, wp_tru_int, wp_tru_non, wp_eq_str, wp_eq_int, wp_eq_bl, wp_lt_int, wp_len_tup, wp_len_tl, wp_items_tup, wp_items_tl, wp_litems_tl, wp_walk_tup, wp_walk_tl, wp_idx_tup (at0 _ _), wp_idx_tup (at1 _ _ _), wp_idx_tup (at2 _ _ _ _), wp_idx_tup (at3 _ _ _ _ _), cut1, decide_eq_true_eq, wp_tuple, wp_list_tup, wp_int, wp_addi, wp_subi, setAll, wp_unpack_tup, isiStr_str, isiTup_tup, isiTl, isi_int, wp_is_non, reduceCtorEq, decide_true, decide_false, T]; exact q
    | str x => simp only [fSame, ev_var, ev_glb, ev_isV, ev_cint, ev_cstr, ev_cnon, ev_cbl, ev_tup, ev_lst, ev_dct0, ev_bin, ev_notf, ev_nott, ev_and, ev_or, ev_cmp, ev_chn, ev_ite, ev_call, ev_blt, ev_mth, ev_idx, ev_slc, ev_frc, ev_lc, ev_callk, ev_neg, varX, glX, List.getElem?_cons_succ, List.getElem?_cons_zero, evs, evx, evc, asTf, asTt, wp_bind, wp_pure, wp_ite, if_true, if_false, wp_theB, Bool.not_true, Bool.not_false, Bool.not_not, wp_force, wp_forceT, wp_push, cmpX, Bool.false_eq_true, List.map_cons, List.map_nil, List.replicate, List.cons_append, List.nil_append, List.set_cons_zero, List.set_cons_succ, bindT_nm, bindT2, wipeE, partX, xs_nil, xs_set, xs_setT, xs_par, xs_sub, xs_exp, xs_if, xs_for, xs_ret, xs_ret0, xs_rai0, xs_pass, seqQ_nx, seqQ_ret, retQ_ret, retQ_nx, wp_tru_bl, wp_tru_tup, wp_tru_tl, wp_tru_int, wp_tru_non, wp_eq_str, wp_eq_int, wp_eq_bl, wp_lt_int, wp_len_tup, wp_len_tl, wp_items_tup, wp_items_tl, wp_litems_tl, wp_walk_tup, wp_walk_tl, wp_idx_tup (at0 _ _), wp_idx_tup (at1 _ _ _), wp_idx_tup (at2 _ _ _ _), wp_idx_tup (at3 _ _ _ _ _), cut1, decide_eq_true_eq, wp_tuple, wp_list_tup, wp_int, wp_addi, wp_subi, setAll, wp_unpack_tup, isiStr_str, isiTup_tup, isiTl, isi_str, wp_is_non, reduceCtorEq, decide_true, decide_false, T]; exact q
    | tup ds =>
      have hl : ds.length ≤ sizeLine := by have := pl.sh; simp only [D.shrt, Bool.and_eq_true, decide_eq_true_eq] at this; exact this.1
      simp only [D.dep] at hd
      simp only [fSame, ev_var, ev_glb, ev_isV, ev_cint, ev_cstr, ev_cnon, ev_cbl, ev_tup, ev_lst, ev_dct0, ev_bin, ev_notf, ev_nott, ev_and, ev_or, ev_cmp, ev_chn, ev_ite, ev_call, ev_blt, ev_mth, ev_idx, ev_slc, ev_frc, ev_lc, ev_callk, ev_neg, varX, glX, List.getElem?_cons_succ, List.getElem?_cons_zero, evs, evx, evc, asTf, asTt, wp_bind, wp_pure, wp_ite, if_true, if_false, wp_theB, Bool.not_true, Bool.not_false, Bool.not_not, wp_force, wp_forceT, wp_push, cmpX, Bool.false_eq_true, List.map_cons, List.map_nil, List.replicate, List.cons_append, List.nil_append, List.set_cons_zero, List.set_cons_succ, bindT_nm, bindT2, wipeE, partX, xs_nil, xs_set, xs_setT, xs_par, xs_sub, xs_exp, xs_if, xs_for, xs_ret, xs_ret0, xs_rai0, xs_pass, seqQ_nx, seqQ_ret, retQ_ret, retQ_nx, wp_tru_bl, wp_tru_tup, wp_tru_tl, wp_tru_int, wp_tru_non, wp_eq_str, wp_eq_int, wp_eq_bl, wp_lt_int, wp_len_tup, wp_len_tl, wp_items_tup, wp_items_tl, wp_litems_tl, wp_walk_tup, wp_walk_tl, wp_idx_tup (at0 _ _), wp_idx_tup (at1 _ _ _), wp_idx_tup (at2 _ _ _ _), wp_idx_tup (at3 _ _ _ _ _), cut1, decide_eq_true_eq, wp_tuple, wp_list_tup, wp_int, wp_addi, wp_subi, setAll, wp_unpack_tup, isiStr_str, isiTup_tup, isiTl, isi_tup, wp_is_non, reduceCtorEq, decide_true, decide_false]
      rw [wp_zip_tup hl]
      refine wp_forRun_inv (fun es ρ S1 => ∃ xs x2 x3, es = zipD xs xs ∧ (∀ x ∈ xs, x ∈ ds) ∧ S1 = S ∧ ρ = [some (.tup ds), some (.tup ds), x2, x3]) (fun _ _ _ _ => rfl) ?_ ?_ _ _ _ ⟨ds, none, none, rfl, fun _ h => h, rfl, rfl⟩
      · rintro e es ρ S1 ⟨xs, x2, x3, he, hx, rfl, rfl⟩
        cases xs with
        | nil => cases he
        | cons x xs =>
          simp only [zipD, List.zipWith_cons_cons, List.cons.injEq] at he
          obtain ⟨rfl, he⟩ := he
          have hm := hx x (by simp)
          simp only [ev_var, ev_glb, ev_isV, ev_cint, ev_cstr, ev_cnon, ev_cbl, ev_tup, ev_lst, ev_dct0, ev_bin, ev_notf, ev_nott, ev_and, ev_or, ev_cmp, ev_chn, ev_ite, ev_call, ev_blt, ev_mth, ev_idx, ev_slc, ev_frc, ev_lc, ev_callk, ev_neg, varX, glX, List.getElem?_cons_succ, List.getElem?_cons_zero, evs, evx, evc, asTf, asTt, wp_bind, wp_pure, wp_ite, if_true, if_false, wp_theB, Bool.not_true, Bool.not_false, Bool.not_not, wp_force, wp_forceT, wp_push, cmpX, Bool.false_eq_true, List.map_cons, List.map_nil, List.replicate, List.cons_append, List.nil_append, List.set_cons_zero, List.set_cons_succ, bindT_nm, bindT2, wipeE, partX, xs_nil, xs_set, xs_setT, xs_par, xs_sub, xs_exp, xs_if, xs_for, xs_ret, xs_ret0, xs_rai0, xs_pass, seqQ_nx, seqQ_ret, retQ_ret, retQ_nx, wp_tru_bl, wp_tru_tup, wp_tru_tl, wp_tru_int, wp_tru_non, wp_eq_str, wp_eq_int, wp_eq_bl, wp_lt_int, wp_len_tup, wp_len_tl, wp_items_tup, wp_items_tl, wp_litems_tl, wp_walk_tup, wp_walk_tl, wp_idx_tup (at0 _ _), wp_idx_tup (at1 _ _ _), wp_idx_tup (at2 _ _ _ _), wp_idx_tup (at3 _ _ _ _ _), cut1, decide_eq_true_eq, wp_tuple, wp_list_tup, wp_int, wp_addi, wp_subi, setAll, wp_unpack_tup, isiStr_str, isiTup_tup, isiTl]
          refine ih (Nat.le_trans (dep_mem hm) (by omega)) (by omega) (pl.items x hm) ?_
          simp only [ev_var, ev_glb, ev_isV, ev_cint, ev_cstr, ev_cnon, ev_cbl, ev_tup, ev_lst, ev_dct0, ev_bin, ev_notf, ev_nott, ev_and, ev_or, ev_cmp, ev_chn, ev_ite, ev_call, ev_blt, ev_mth, ev_idx, ev_slc, ev_frc, ev_lc, ev_callk, ev_neg, varX, glX, List.getElem?_cons_succ, List.getElem?_cons_zero, evs, evx, evc, asTf, asTt, wp_bind, wp_pure, wp_ite, if_true, if_false, wp_theB, Bool.not_true, Bool.not_false, Bool.not_not, wp_force, wp_forceT, wp_push, cmpX, Bool.false_eq_true, List.map_cons, List.map_nil, List.replicate, List.cons_append, List.nil_append, List.set_cons_zero, List.set_cons_succ, bindT_nm, bindT2, wipeE, partX, xs_nil, xs_set, xs_setT, xs_par, xs_sub, xs_exp, xs_if, xs_for, xs_ret, xs_ret0, xs_rai0, xs_pass, seqQ_nx, seqQ_ret, retQ_ret, retQ_nx, wp_tru_bl, wp_tru_tup, wp_tru_tl, wp_tru_int, wp_tru_non, wp_eq_str, wp_eq_int, wp_eq_bl, wp_lt_int, wp_len_tup, wp_len_tl, wp_items_tup, wp_items_tl, wp_litems_tl, wp_walk_tup, wp_walk_tl, wp_idx_tup (at0 _ _), wp_idx_tup (at1 _ _ _), wp_idx_tup (at2 _ _ _ _), wp_idx_tup (at3 _ _ _ _ _), cut1, decide_eq_true_eq, wp_tuple, wp_list_tup, wp_int, wp_addi, wp_subi, setAll, wp_unpack_tup, isiStr_str, isiTup_tup, isiTl]
          exact ⟨xs, _, _, he, fun y hy => hx y (List.mem_cons_of_mem _ hy), trivial, rfl⟩
      · rintro ρ S1 ⟨xs, x2, x3, he, hx, rfl, rfl⟩
        simp only [ev_var, ev_glb, ev_isV, ev_cint, ev_cstr, ev_cnon, ev_cbl, ev_tup, ev_lst, ev_dct0, ev_bin, ev_notf, ev_nott, ev_and, ev_or, ev_cmp, ev_chn, ev_ite, ev_call, ev_blt, ev_mth, ev_idx, ev_slc, ev_frc, ev_lc, ev_callk, ev_neg, varX, glX, List.getElem?_cons_succ, List.getElem?_cons_zero, evs, evx, evc, asTf, asTt, wp_bind, wp_pure, wp_ite, if_true, if_false, wp_theB, Bool.not_true, Bool.not_false, Bool.not_not, wp_force, wp_forceT, wp_push, cmpX, Bool.false_eq_true, List.map_cons, List.map_nil, List.replicate, List.cons_append, List.nil_append, List.set_cons_zero, List.set_cons_succ, bindT_nm, bindT2, wipeE, partX, xs_nil, xs_set, xs_setT, xs_par, xs_sub, xs_exp, xs_if, xs_for, xs_ret, xs_ret0, xs_rai0, xs_pass, seqQ_nx, seqQ_ret, retQ_ret, retQ_nx, wp_tru_bl, wp_tru_tup, wp_tru_tl, wp_tru_int, wp_tru_non, wp_eq_str, wp_eq_int, wp_eq_bl, wp_lt_int, wp_len_tup, wp_len_tl, wp_items_tup, wp_items_tl, wp_litems_tl, wp_walk_tup, wp_walk_tl, wp_idx_tup (at0 _ _), wp_idx_tup (at1 _ _ _), wp_idx_tup (at2 _ _ _ _), wp_idx_tup (at3 _ _ _ _ _), cut1, decide_eq_true_eq, wp_tuple, wp_list_tup, wp_int, wp_addi, wp_subi, setAll, wp_unpack_tup, isiStr_str, isiTup_tup, isiTl, T]
        exact q
    | _ => cases pl.sim
/-! ### asked and goal -/
def fAG (i1 i2 i3 : Nat) : Fn := ⟨2, 2, 
  [.exp (.call i1 [(.var 0)]),
  .exp (.call i2 [(.var 1)]),
  .ret (.call i3 [(.var 0), (.var 1)])]⟩
/-- the call raises c -/
theorem ag_ok {f i1 i2 i3 k : Nat} (hf : P.fn f = some (fAG i1 i2 i3)) {a b v : D} (hk : 1 ≤ k) (h1 : ∀ {E : EQ} {Q : D → Sto → Prop}, Q .non S → wp (P.call (k - 1) i1 [a]) S Q E) (h2 : ∀ {E : EQ} {Q : D → Sto → Prop}, Q .non S → wp (P.call (k - 1) i2 [b]) S Q E)
    (h3 : ∀ {E : EQ} {Q : D → Sto → Prop}, Q v S → wp (P.call (k - 1) i3 [a, b]) S Q E) (hv : Pl v) {Q : D → Sto → Prop} (q : Q v S) : wp (P.call k f [a, b]) S Q E := by
  refine wp_def hf hk rfl ?_
  simp only [fAG, ev_var, ev_glb, ev_isV, ev_cint, ev_cstr, ev_cnon, ev_cbl, ev_tup, ev_lst, ev_dct0, ev_bin, ev_notf, ev_nott, ev_and, ev_or, ev_cmp, ev_chn, ev_ite, ev_call, ev_blt, ev_mth, ev_idx, ev_slc, ev_frc, ev_lc, ev_callk, ev_neg, varX, glX, List.getElem?_cons_succ, List.getElem?_cons_zero, evs, evx, evc, asTf, asTt, wp_bind, wp_pure, wp_ite, if_true, if_false, wp_theB, Bool.not_true, Bool.not_false, Bool.not_not, wp_force, wp_forceT, wp_push, cmpX, Bool.false_eq_true, List.map_cons, List.map_nil, List.replicate, List.cons_append, List.nil_append, List.set_cons_zero, List.set_cons_succ, bindT_nm, bindT2, wipeE, partX, xs_nil, xs_set, xs_setT, xs_par, xs_sub, xs_exp, xs_if, xs_for, xs_ret, xs_ret0, xs_rai0, xs_pass, seqQ_nx, seqQ_ret, retQ_ret, retQ_nx, wp_tru_bl, wp_tru_tup, wp_tru_tl, wp_tru_int, wp_tru_non, wp_eq_str, wp_eq_int, wp_eq_bl, wp_lt_int, wp_len_tup, wp_len_tl, wp_items_tup, wp_items_tl, wp_litems_tl, wp_walk_tup, wp_walk_tl, wp_idx_tup (at0 _ _), wp_idx_tup (at1 _ _ _), wp_idx_tup (at2 _ _ _ _), wp_idx_tup (at3 _ _ _ _ _), cut1, decide_eq_true_eq, wp_tuple, wp_list_tup, wp_int, wp_addi, wp_subi, setAll, wp_unpack_tup, isiStr_str, isiTup_tup, isiTl]
  refine h1 ?_
  refine h2 ?_
  refine h3 ?_
  rw [tidy_self (hv.und _)]
  exact q
theorem ag_bad1 {f i1 i2 i3 k : Nat} (hf : P.fn f = some (fAG i1 i2 i3)) {a b : D} {c : Nat} (hk : 1 ≤ k) (h1 : ∀ {E : EQ} {Q : D → Sto → Prop}, E c none S → wp (P.call (k - 1) i1 [a]) S Q E) {Q : D → Sto → Prop} (q : E c none S) : wp (P.call k f [a, b]) S Q E := by
  refine wp_def hf hk rfl ?_
  simp only [fAG, ev_var, ev_glb, ev_isV, ev_cint, ev_cstr, ev_cnon, ev_cbl, ev_tup, ev_lst, ev_dct0, ev_bin, ev_notf, ev_nott, ev_and, ev_or, ev_cmp, ev_chn, ev_ite, ev_call, ev_blt, ev_mth, ev_idx, ev_slc, ev_frc, ev_lc, ev_callk, ev_neg, varX, glX, List.getElem?_cons_succ, List.getElem?_cons_zero, evs, evx, evc, asTf, asTt, wp_bind, wp_pure, wp_ite, if_true, if_false, wp_theB, Bool.not_true, Bool.not_false, Bool.not_not, wp_force, wp_forceT, wp_push, cmpX, Bool.false_eq_true, List.map_cons, List.map_nil, List.replicate, List.cons_append, List.nil_append, List.set_cons_zero, List.set_cons_succ, bindT_nm, bindT2, wipeE, partX, xs_nil, xs_set, xs_setT, xs_par, xs_sub, xs_exp, xs_if, xs_for, xs_ret, xs_ret0, xs_rai0, xs_pass, seqQ_nx, seqQ_ret, retQ_ret, retQ_nx, wp_tru_bl, wp_tru_tup, wp_tru_tl, wp_tru_int, wp_tru_non, wp_eq_str, wp_eq_int, wp_eq_bl, wp_lt_int, wp_len_tup, wp_len_tl, wp_items_tup, wp_items_tl, wp_litems_tl, wp_walk_tup, wp_walk_tl, wp_idx_tup (at0 _ _), wp_idx_tup (at1 _ _ _), wp_idx_tup (at2 _ _ _ _), wp_idx_tup (at3 _ _ _ _ _), cut1, decide_eq_true_eq, wp_tuple, wp_list_tup, wp_int, wp_addi, wp_subi, setAll, wp_unpack_tup, isiStr_str, isiTup_tup, isiTl]
  refine h1 ?_
  show E c none (tidy S .non S)
  rw [tidy_self rfl]
  exact q
theorem ag_bad2 {f i1 i2 i3 k : Nat} (hf : P.fn f = some (fAG i1 i2 i3)) {a b : D} {c : Nat} (hk : 1 ≤ k) (h1 : ∀ {E : EQ} {Q : D → Sto → Prop}, Q .non S → wp (P.call (k - 1) i1 [a]) S Q E) (h2 : ∀ {E : EQ} {Q : D → Sto → Prop}, E c none S → wp (P.call (k - 1) i2 [b]) S Q E) {Q : D → Sto → Prop} (q : E c none S) : wp (P.call k f [a, b]) S Q E := by
  refine wp_def hf hk rfl ?_
  simp only [fAG, ev_var, ev_glb, ev_isV, ev_cint, ev_cstr, ev_cnon, ev_cbl, ev_tup, ev_lst, ev_dct0, ev_bin, ev_notf, ev_nott, ev_and, ev_or, ev_cmp, ev_chn, ev_ite, ev_call, ev_blt, ev_mth, ev_idx, ev_slc, ev_frc, ev_lc, ev_callk, ev_neg, varX, glX, List.getElem?_cons_succ, List.getElem?_cons_zero, evs, evx, evc, asTf, asTt, wp_bind, wp_pure, wp_ite, if_true, if_false, wp_theB, Bool.not_true, Bool.not_false, Bool.not_not, wp_force, wp_forceT, wp_push, cmpX, Bool.false_eq_true, List.map_cons, List.map_nil, List.replicate, List.cons_append, List.nil_append, List.set_cons_zero, List.set_cons_succ, bindT_nm, bindT2, wipeE, partX, xs_nil, xs_set, xs_setT, xs_par, xs_sub, xs_exp, xs_if, xs_for, xs_ret, xs_ret0, xs_rai0, xs_pass, seqQ_nx, seqQ_ret, retQ_ret, retQ_nx, wp_tru_bl, wp_tru_tup, wp_tru_tl, wp_tru_int, wp_tru_non, wp_eq_str, wp_eq_int, wp_eq_bl, wp_lt_int, wp_len_tup, wp_len_tl, wp_items_tup, wp_items_tl, wp_litems_tl, wp_walk_tup, wp_walk_tl, wp_idx_tup (at0 _ _), wp_idx_tup (at1 _ _ _), wp_idx_tup (at2 _ _ _ _), wp_idx_tup (at3 _ _ _ _ _), cut1, decide_eq_true_eq, wp_tuple, wp_list_tup, wp_int, wp_addi, wp_subi, setAll, wp_unpack_tup, isiStr_str, isiTup_tup, isiTl]
  refine h1 ?_
  refine h2 ?_
  show E c none (tidy S .non S)
  rw [tidy_self rfl]
  exact q
/-- the defs that check stand in the program -/
structure Chk (P : Prg) (iw ik is ifa g ifs ic cf cc : Nat) : Prop where
  B : Bas P iw ik is ifa g
  fs : P.fn ifs = some (fFacts ifa)
  c : P.fn ic = some (fClaim is ifa)
  cf : P.fn cf = some (fChk ifs 2)
  cc : P.fn cc = some (fChk ic 1)
variable {iw ik is ifa g ifs ic cf cc : Nat}
theorem Chk.facts (H : Chk P iw ik is ifa g ifs ic cf cc) {d : D} (hu : d.und S.length = true) (hp : ∀ ds, d = .tup ds → Pl d ∧ D.deps ds ≤ 20) {k : Nat} (hk : 30 ≤ k) {Q : D → Sto → Prop} (q : if factsB 20 d then Q .non S else E 2 none S) : wp (P.call k cf [d]) S Q E := by
  obtain ⟨k, rfl⟩ : ∃ k', k = (k' + 4) + 1 := ⟨k - 5, by omega⟩
  exact wp_chk H.cf (fun {E Q} h => wp_facts H.B H.fs 20 k hu hp (by omega) h) q
theorem Chk.claim (H : Chk P iw ik is ifa g ifs ic cf cc) {d : D} (hu : d.und S.length = true) (hd : d.dep ≤ 20) (hp : isTupD d = true → Pl d) {k : Nat} (hk : 30 ≤ k) {Q : D → Sto → Prop} (q : if claimB 20 d then Q .non S else E 1 none S) : wp (P.call k cc [d]) S Q E := by
  obtain ⟨k, rfl⟩ : ∃ k', k = (k' + 4) + 1 := ⟨k - 5, by omega⟩
  exact wp_chk H.cc (fun {E Q} h => wp_claim H.B H.c 20 k hd (by omega) hu hp h) q
end
theorem Fc.ok20 {d : D} (h : Fc d) : factB 20 d = true := by
  cases h with
  | is_ hp hq => simp [factB, hp.ok, kindN_le (show 8 ≤ 20 by omega) hq.ok]
  | to_ hp hr hq => simp [factB, hp.ok, hq.ok, hr.ok, ne_to_is]
theorem Cl.ok20 {d : D} (h : Cl d) : claimB 20 d = true := by
  cases h with
  | below hp hq => simp [claimB, sayB, kindN_le (show 8 ≤ 20 by omega) hp.ok, kindN_le (show 8 ≤ 20 by omega) hq.ok]
  | role hp hq => simp [claimB, sayB, hp.ok, hq.ok, ne_role_below]
  | chain hp hr hq => simp [claimB, sayB, hp.ok, hq.ok, hr.ok, ne_chain_below, ne_chain_role]
  | fact h => simp [claimB, h.ok20]
theorem Fs.ok20 {fs : List D} (h : Fs fs) : factsB 20 (.tup fs) = true := by
  simp only [factsB, List.all_eq_true]
  exact fun d hd => (h.fc d hd).ok20
section
variable {P : Prg} {S : Sto} {E : EQ} {iw ik is ifa g ifs ic cf cc : Nat}
theorem Chk.factsOk (H : Chk P iw ik is ifa g ifs ic cf cc) {fs : List D} (F : Fs fs) {k : Nat} (hk : 30 ≤ k) {Q : D → Sto → Prop} (q : Q .non S) : wp (P.call k cf [.tup fs]) S Q E :=
  H.facts (F.pl.und _) (fun ds e => by cases e; exact ⟨F.pl, Nat.le_trans F.dp (by omega)⟩) hk (by rw [F.ok20]; exact q)
theorem Chk.claimOk (H : Chk P iw ik is ifa g ifs ic cf cc) {c : D} (h : Cl c) {k : Nat} (hk : 30 ≤ k) {Q : D → Sto → Prop} (q : Q .non S) : wp (P.call k cc [c]) S Q E :=
  H.claim (h.pl.und _) (Nat.le_trans h.dp (by omega)) (fun _ => h.pl) hk (by rw [h.ok20]; exact q)
def fRefused (ia ig : Nat) : Fn := ⟨3, 4, 
  [.set 3 .cnon,
  .try_ [.set 3 (.ite (.cmp .eq (.var 0) (.cint 0)) (.tup [(.call ia [(.var 1), (.var 2)])]) (.tup [(.call ig [(.var 1), (.var 2)])]))] [(2, none), (1, none)] [[.set 3 (.cstr "facts")], [.set 3 (.cstr "saying")]],
  .ret (.var 3)]⟩
/-- a try statement whose body raises -/
theorem xs_try {C : Ctx} {up : Nat → Nat → Bool} {ρ : Env} {Q : Fl × Env → Sto → Prop} {body : List St} {cs : List (Nat × Option Nat)} {hs : List (List St)} {ss : List St} {c i : Nat} {S1 : Sto}
    (h : wp (exL C up body ρ) S (fun _ _ => False) (fun c' d S' => c' = c ∧ S' = S1)) (hc : catch_ up c cs 0 = some (i, none)) (q : wp (exH C up hs i ρ) S1 (seqQ C up ss Q E) fun _ _ _ => False) : wp (exL C up (.try_ body cs hs :: ss) ρ) S Q E := by
  rw [xs_cons]
  unfold wp at h
  split at h
  · exact h.elim
  · rename_i c' d S' e
    obtain ⟨rfl, rfl⟩ := h
    have := wp_calm (E := E) q
    unfold wp at this ⊢
    simp only [exS, e, hc]
    exact this
  · exact h.elim
theorem refused_ok {f ia ig k c : Nat} (hf : P.fn f = some (fRefused ia ig)) (hu : P.up 2 2 = true ∧ P.up 1 1 = true ∧ P.up 1 2 = false) (hk : 1 ≤ k) {w : Int} {a b : D} {v : Str} (hv : v.length ≤ 100) (hc : (c = 2 ∧ v = "facts") ∨ (c = 1 ∧ v = "saying"))
    (h1 : ∀ {E : EQ} {Q : D → Sto → Prop}, E c none S → wp (P.call (k - 1) ia [a, b]) S Q E) (h2 : ∀ {E : EQ} {Q : D → Sto → Prop}, E c none S → wp (P.call (k - 1) ig [a, b]) S Q E) {Q : D → Sto → Prop} (q : Q (.str v) S) : wp (P.call k f [.int w, a, b]) S Q E := by
  refine wp_def hf hk rfl ?_
  have hb : wp (exL ⟨P.call (k - 1), P.gl⟩ P.up [.set 3 (.ite (.cmp .eq (.var 0) (.cint 0)) (.tup [(.call ia [(.var 1), (.var 2)])]) (.tup [(.call ig [(.var 1), (.var 2)])]))] [some (.int w), some a, some b, some .non]) S (fun _ _ => False) (fun c' d S' => c' = c ∧ S' = S) := by
    simp only [ev_var, ev_glb, ev_isV, ev_cint, ev_cstr, ev_cnon, ev_cbl, ev_tup, ev_lst, ev_dct0, ev_bin, ev_notf, ev_nott, ev_and, ev_or, ev_cmp, ev_chn, ev_ite, ev_call, ev_blt, ev_mth, ev_idx, ev_slc, ev_frc, ev_lc, ev_callk, ev_neg, varX, glX, List.getElem?_cons_succ, List.getElem?_cons_zero, evs, evx, evc, asTf, asTt, wp_bind, wp_pure, wp_ite, if_true, if_false, wp_theB, Bool.not_true, Bool.not_false, Bool.not_not, wp_force, wp_forceT, wp_push, cmpX, Bool.false_eq_true, List.map_cons, List.map_nil, List.replicate, List.cons_append, List.nil_append, List.set_cons_zero, List.set_cons_succ, bindT_nm, bindT2, wipeE, partX, xs_nil, xs_set, xs_setT, xs_par, xs_sub, xs_exp, xs_if, xs_for, xs_ret, xs_ret0, xs_rai0, xs_pass, seqQ_nx, seqQ_ret, retQ_ret, retQ_nx, wp_tru_bl, wp_tru_tup, wp_tru_tl, wp_tru_int, wp_tru_non, wp_eq_str, wp_eq_int, wp_eq_bl, wp_lt_int, wp_len_tup, wp_len_tl, wp_items_tup, wp_items_tl, wp_litems_tl, wp_walk_tup, wp_walk_tl, wp_idx_tup (at0 _ _), wp_idx_tup (at1 _ _ _), wp_idx_tup (at2 _ _ _ _), wp_idx_tup (at3 _ _ _ _ _), cut1, decide_eq_true_eq, wp_tuple, wp_list_tup, wp_int, wp_addi, wp_subi, setAll, wp_unpack_tup, isiStr_str, isiTup_tup, isiTl]
    split
    · exact h1 ⟨rfl, rfl⟩
    · exact h2 ⟨rfl, rfl⟩
  obtain ⟨u1, u2, u3⟩ := hu
  have e : (fRefused ia ig).body = [.set 3 .cnon, .try_ [.set 3 (.ite (.cmp .eq (.var 0) (.cint 0)) (.tup [(.call ia [(.var 1), (.var 2)])]) (.tup [(.call ig [(.var 1), (.var 2)])]))] [(2, none), (1, none)] [[.set 3 (.cstr "facts")], [.set 3 (.cstr "saying")]], .ret (.var 3)] := rfl
  have e2 : (fRefused ia ig).nl - (fRefused ia ig).np = 1 := rfl
  rw [e, e2, xs_set]
  simp only [ev_var, ev_glb, ev_isV, ev_cint, ev_cstr, ev_cnon, ev_cbl, ev_tup, ev_lst, ev_dct0, ev_bin, ev_notf, ev_nott, ev_and, ev_or, ev_cmp, ev_chn, ev_ite, ev_call, ev_blt, ev_mth, ev_idx, ev_slc, ev_frc, ev_lc, ev_callk, ev_neg, varX, glX, List.getElem?_cons_succ, List.getElem?_cons_zero, evs, evx, evc, asTf, asTt, wp_bind, wp_pure, wp_ite, if_true, if_false, wp_theB, Bool.not_true, Bool.not_false, Bool.not_not, wp_force, wp_forceT, wp_push, cmpX, Bool.false_eq_true, List.map_cons, List.map_nil, List.replicate, List.cons_append, List.nil_append, List.set_cons_zero, List.set_cons_succ, bindT_nm, bindT2, wipeE, partX, wp_tru_bl, wp_tru_tup, wp_tru_tl, wp_tru_int, wp_tru_non, wp_eq_str, wp_eq_int, wp_eq_bl, wp_lt_int, wp_len_tup, wp_len_tl, wp_items_tup, wp_items_tl, wp_litems_tl, wp_walk_tup, wp_walk_tl, wp_idx_tup (at0 _ _), wp_idx_tup (at1 _ _ _), wp_idx_tup (at2 _ _ _ _), wp_idx_tup (at3 _ _ _ _ _), cut1, decide_eq_true_eq, wp_tuple, wp_list_tup, wp_int, wp_addi, wp_subi, setAll, wp_unpack_tup, isiStr_str, isiTup_tup, isiTl]
  rcases hc with ⟨rfl, rfl⟩ | ⟨rfl, rfl⟩
  · refine xs_try hb (i := 0) (by simp [catch_, u1]) ?_
    simp only [exH, ev_var, ev_glb, ev_isV, ev_cint, ev_cstr, ev_cnon, ev_cbl, ev_tup, ev_lst, ev_dct0, ev_bin, ev_notf, ev_nott, ev_and, ev_or, ev_cmp, ev_chn, ev_ite, ev_call, ev_blt, ev_mth, ev_idx, ev_slc, ev_frc, ev_lc, ev_callk, ev_neg, varX, glX, List.getElem?_cons_succ, List.getElem?_cons_zero, evs, evx, evc, asTf, asTt, wp_bind, wp_pure, wp_ite, if_true, if_false, wp_theB, Bool.not_true, Bool.not_false, Bool.not_not, wp_force, wp_forceT, wp_push, cmpX, Bool.false_eq_true, List.map_cons, List.map_nil, List.replicate, List.cons_append, List.nil_append, List.set_cons_zero, List.set_cons_succ, bindT_nm, bindT2, wipeE, partX, xs_nil, xs_set, xs_setT, xs_par, xs_sub, xs_exp, xs_if, xs_for, xs_ret, xs_ret0, xs_rai0, xs_pass, seqQ_nx, seqQ_ret, retQ_ret, retQ_nx, wp_tru_bl, wp_tru_tup, wp_tru_tl, wp_tru_int, wp_tru_non, wp_eq_str, wp_eq_int, wp_eq_bl, wp_lt_int, wp_len_tup, wp_len_tl, wp_items_tup, wp_items_tl, wp_litems_tl, wp_walk_tup, wp_walk_tl, wp_idx_tup (at0 _ _), wp_idx_tup (at1 _ _ _), wp_idx_tup (at2 _ _ _ _), wp_idx_tup (at3 _ _ _ _ _), cut1, decide_eq_true_eq, wp_tuple, wp_list_tup, wp_int, wp_addi, wp_subi, setAll, wp_unpack_tup, isiStr_str, isiTup_tup, isiTl]
    rw [tidy_self rfl]
    exact q
  · refine xs_try hb (i := 1) (by simp [catch_, u2, u3]) ?_
    simp only [exH, ev_var, ev_glb, ev_isV, ev_cint, ev_cstr, ev_cnon, ev_cbl, ev_tup, ev_lst, ev_dct0, ev_bin, ev_notf, ev_nott, ev_and, ev_or, ev_cmp, ev_chn, ev_ite, ev_call, ev_blt, ev_mth, ev_idx, ev_slc, ev_frc, ev_lc, ev_callk, ev_neg, varX, glX, List.getElem?_cons_succ, List.getElem?_cons_zero, evs, evx, evc, asTf, asTt, wp_bind, wp_pure, wp_ite, if_true, if_false, wp_theB, Bool.not_true, Bool.not_false, Bool.not_not, wp_force, wp_forceT, wp_push, cmpX, Bool.false_eq_true, List.map_cons, List.map_nil, List.replicate, List.cons_append, List.nil_append, List.set_cons_zero, List.set_cons_succ, bindT_nm, bindT2, wipeE, partX, xs_nil, xs_set, xs_setT, xs_par, xs_sub, xs_exp, xs_if, xs_for, xs_ret, xs_ret0, xs_rai0, xs_pass, seqQ_nx, seqQ_ret, retQ_ret, retQ_nx, wp_tru_bl, wp_tru_tup, wp_tru_tl, wp_tru_int, wp_tru_non, wp_eq_str, wp_eq_int, wp_eq_bl, wp_lt_int, wp_len_tup, wp_len_tl, wp_items_tup, wp_items_tl, wp_litems_tl, wp_walk_tup, wp_walk_tl, wp_idx_tup (at0 _ _), wp_idx_tup (at1 _ _ _), wp_idx_tup (at2 _ _ _ _), wp_idx_tup (at3 _ _ _ _ _), cut1, decide_eq_true_eq, wp_tuple, wp_list_tup, wp_int, wp_addi, wp_subi, setAll, wp_unpack_tup, isiStr_str, isiTup_tup, isiTl]
    rw [tidy_self rfl]
    exact q
end
end Kd
/-! The law of k11. -/
namespace Kd
open PySem
theorem app_all {p : D → Prop} {a b : List D} (ha : ∀ d ∈ a, p d) (hb : ∀ d ∈ b, p d) : ∀ d ∈ a ++ b, p d := fun d hd => (List.mem_append.mp hd).elim (ha d) (hb d)
theorem one_all {p : D → Prop} {a : D} (ha : p a) : ∀ d ∈ [a], p d := fun d hd => by rw [List.mem_singleton.mp hd]; exact ha
theorem two_all {p : D → Prop} {a b : D} (ha : p a) (hb : p b) : ∀ d ∈ [a, b], p d := fun d hd => by
  simp only [List.mem_cons, List.not_mem_nil, or_false] at hd
  rcases hd with rfl | rfl <;> assumption
theorem nil_all {p : D → Prop} : ∀ d ∈ ([] : List D), p d := fun d hd => by simp at hd
theorem askD_dp {fs : List D} (F : Fs fs) {x y z : Str} {c : D} (h : Cl c) : (D.tup (askD fs (.str x) (.str y) (.str z) c)).dep ≤ 20 := by
  have h0 : ∀ d ∈ fs, d.dep ≤ 8 := fun d hd => (F.fc d hd).dp
  have ht : ∀ {a b c : D}, a.dep ≤ 5 → b.dep ≤ 5 → c.dep ≤ 5 → (tTo a b c).dep ≤ 8 := fun h1 h2 h3 => by simp only [tTo, D.dep, D.deps]; omega
  have hi : ∀ {p : D}, p.dep = 0 → (isAny p).dep ≤ 8 := fun h => by simp only [isAny, D.dep, D.deps, h]; omega
  have hs : ∀ x : Str, (D.str x).dep ≤ 5 := fun _ => by simp [D.dep]
  have hw : ∀ {d : D}, WOk d → d.dep ≤ 5 := fun h => by rw [h.dp]; omega
  have hall : ∀ d ∈ askD fs (.str x) (.str y) (.str z) c, d.dep ≤ 8 := by
    cases h with
    | below hp hq => simp only [askD, ne_below_role, ne_below_is, if_false]; exact h0
    | role hp hq => simp only [askD, if_true]; exact app_all h0 (one_all (ht (hs _) (hw hp) (hs _)))
    | chain hp hr hq => simp only [askD, if_true]; exact app_all h0 (two_all (ht (hs _) (hw hp) (hs _)) (ht (hs _) (hw hr) (hs _)))
    | fact h =>
      cases h with
      | is_ hp hq =>
        simp only [askD, ne_is_role, if_false, if_true]
        split
        · exact h0
        · exact app_all h0 (one_all (hi hp.dp))
      | to_ hp hr hq =>
        simp only [askD, ne_to_chain, if_false]
        refine app_all h0 ?_
        split
        · split
          · exact nil_all
          · exact one_all (hi hq.dp)
        · split
          · exact one_all (hi hp.dp)
          · exact two_all (hi hp.dp) (hi hq.dp)
  have := deps_le hall
  simp only [D.dep]
  omega
theorem goalD_dp {x y z : Str} {c : D} (h : Cl c) : (goalD (.str x) (.str y) (.str z) c).dep ≤ 20 := by
  cases h with
  | below h1 h2 => have := h1.dp; have := h2.dp; simp only [goalD, if_true, D.dep, D.deps]; omega
  | role h1 h2 => simp only [goalD, ne_role_below, ne_role_is, if_false, perD, D.dep, D.deps, h2.dp]; omega
  | chain h1 h2 h3 => simp only [goalD, ne_chain_to, if_false, perD, D.dep, D.deps, h3.dp]; omega
  | fact h =>
    cases h with
    | is_ h1 h2 => have := h2.dp; simp only [goalD, ne_is_below, if_false, if_true, perD, D.dep, D.deps, h1.dp]; omega
    | to_ h1 h2 h3 => simp only [goalD, if_true, perD, D.dep, D.deps, h1.dp, h2.dp, h3.dp]; omega
def fLaw11 : Fn := ⟨1, 14, 
  [.for_ (.nm 1) .range [(.blt .max [(.cint 1), (.blt .min [(.blt .len [(.var 0)]), (.cint 10)])])]
    [.set 2 (.call 15 [(.var 0), (.var 1)]),
    .setT [10, 11, 12] (.call 21 [(.var 2)]),
    .set 3 (.bin .add (.lc (.bin .add (.cstr "n") (.idx (.cstr "abcdefghijklmnopqrstuvwxyz") (.call 16 [(.var 2), (.cint 7)]))) (.nm 13) .range [(.cint 5)] [] [13]) (.var 12)),
    .set 4 (.blt .tuple [(.lc (.call 20 [(.var 2), (.var 10), (.var 11), (.slc (.var 3) [] [(.cint 6)]), (.cint 2)]) (.nm 13) .range [(.call 16 [(.var 2), (.cint 6)])] [] [13])]),
    .set 5 (.lc (.call 19 [(.var 2), (.var 10), (.var 11), (.cint 2)]) (.nm 13) .range [(.cint 4)] [] [13]),
    .set 5 (.bin .add (.var 5) (.lc (.call 20 [(.var 2), (.var 10), (.var 11), (.bin .add (.var 3) (.lst [(.cstr "eve")])), (.cint 2)]) (.nm 13) .range [(.cint 4)] [] [13])),
    .set 5 (.bin .add (.var 5) (.lst [(.tup [(.cstr "to"), (.cstr "eve"), (.idx (.var 11) (.cint 0)), (.cstr "eve")]), (.tup [(.cstr "role"), (.idx (.var 11) (.cint 0)), (.idx (.var 11) (.neg (.cint 1)))]), (.tup [(.cstr "chain"), (.idx (.var 11) (.cint 0)), (.idx (.var 11) (.neg (.cint 1))), (.idx (.var 11) (.cint 0))])])),
    .for_ (.nm 6) .seq [(.var 5)]
      [.if_ (.not_ (.call 17 [(.call 13 [(.var 4), (.var 6)]), (.call 26 [(.var 4), (.var 6)])]))
        [.ret (.cbl false)]
        [],
      .if_ (.not_ (.call 17 [(.callk 14 [] [(.var 6), (.var 4)] [1, 0]), (.call 27 [(.var 4), (.var 6)])]))
        [.ret (.cbl false)]
        []],
    .set 7 (.call 16 [(.var 2), (.cint 2)]),
    .set 8 (.idx (.lst [.cnon, (.tup []), (.blt .list [(.idx (.var 5) (.cint 0))]), (.slc (.idx (.var 5) (.cint 0)) [(.cint 1)] []), (.tup [(.cstr "is"), (.cstr "ann"), (.cstr "a")]), (.var 5)]) (.call 16 [(.var 2), (.cint 6)])),
    .set 9 (.idx (.lst [.cnon, (.blt .list [(.var 4)]), (.bin .add (.var 4) (.tup [(.slc (.idx (.var 5) (.cint 8)) [] [(.cint 3)])])), (.tup [(.tup [(.cstr "below"), (.tup [(.cstr "any")]), (.tup [(.cstr "any")])])]), (.cstr "ann")]) (.call 16 [(.var 2), (.cint 5)])),
    .if_ (.or_ (.cmp .ne (.call 28 [(.var 7), (.var 4), (.var 8)]) (.cstr "saying")) (.cmp .ne (.call 28 [(.var 7), (.var 9), (.var 8)]) (.cstr "facts")))
      [.ret (.cbl false)]
      []],
  .ret (.cbl true)]⟩
structure K11 (P : Prg) : Prop where
  H : Chk P 0 1 2 3 0 4 5 6 7
  f8 : P.fn 8 = some fPer
  f9 : P.fn 9 = some (fPin 8)
  f10 : P.fn 10 = some (fFresh 9 0)
  f11 : P.fn 11 = some (fAskF 10 8 9 1)
  f12 : P.fn 12 = some (fGoalO 10)
  f13 : P.fn 13 = some (fAG 6 7 11)
  f14 : P.fn 14 = some (fAG 6 7 12)
  f15 : P.fn 15 = some fPool
  f16 : P.fn 16 = some fPull
  f17 : P.fn 17 = some (fSame 17)
  f18 : P.fn 18 = some (fLKind 16 18)
  f19 : P.fn 19 = some (fLSay 16 18)
  f20 : P.fn 20 = some (fLFact 16 18)
  f21 : P.fn 21 = some (fWords 16)
  f24 : P.fn 24 = some fLPers
  f25 : P.fn 25 = some (fLFresh 24)
  f26 : P.fn 26 = some (fLAsk 25 24)
  f27 : P.fn 27 = some (fLGoal 25)
  f28 : P.fn 28 = some (fRefused 13 14)
  f29 : P.fn 29 = some fLaw11
  any : P.gl 1 = some (.tup [.str "any"])
  up : P.up 2 2 = true ∧ P.up 1 1 = true ∧ P.up 1 2 = false
section
variable {P : Prg} {S : Sto} {E : EQ}
/-- what is asked is what the law says -/
theorem ask_same (K : K11 P) {fs : List D} (F : Fs fs) (hl : fs.length ≤ 8) {c : D} (h : Cl c) : ∃ v w, Pl v ∧ v.dep ≤ 20 ∧ Pl w ∧ w.dep ≤ 20 ∧ Ret P 32 13 [.tup fs, c] v ∧ Ret P 32 26 [.tup fs, c] v ∧ Ret P 32 14 [.tup fs, c] w ∧ Ret P 32 27 [.tup fs, c] w := by
  have hps : (pers fs).length ≤ 20 := by have := F.pers_len; omega
  obtain ⟨x, y, z, e, hx, hy, hz⟩ := fresh3 hps
  obtain ⟨p1, p2⟩ := askD_pl (x := .str x) (y := .str y) (z := .str z) F (.s (by omega)) (.s (by omega)) (.s (by omega)) h
  have pv := Pl.tup p1 (by omega)
  have pw := goalD_pl (x := .str x) (y := .str y) (z := .str z) (.s (by omega)) (.s (by omega)) (.s (by omega)) h
  refine ⟨_, _, pv, askD_dp F h, pw, goalD_dp h, ?_, ?_, ?_, ?_⟩
  · exact fun k S E Q hk q => ag_ok K.f13 (by omega) (fun q => K.H.factsOk F (by omega) q) (fun q => K.H.claimOk h (by omega) q) (fun q => askF_ok K.f11 K.f10 K.f9 K.f8 K.H.B.g K.any F h e hx hy hz _ _ _ _ (by omega) q) pv q
  · exact fun k S E Q hk q => lask_ok K.f26 K.f25 K.f24 F hl h e hx hy hz _ _ _ _ (by omega) q
  · exact fun k S E Q hk q => ag_ok K.f14 (by omega) (fun q => K.H.factsOk F (by omega) q) (fun q => K.H.claimOk h (by omega) q) (fun q => goalO_ok K.f12 K.f10 K.f9 K.f8 K.H.B.g F h e hx hy hz _ _ _ _ (by omega) q) pw q
  · exact fun k S E Q hk q => lgoal_ok K.f27 K.f25 K.f24 F h e hx hy hz _ _ _ _ (by omega) q
structure Odd (S : Sto) (d : D) : Prop where
  u : d.und S.length = true
  dp : d.dep ≤ 20
  pl : isTupD d = true → Pl d
  no : claimB 20 d = false
structure BadF (S : Sto) (d : D) : Prop where
  u : d.und S.length = true
  pl : ∀ ds, d = .tup ds → Pl d ∧ D.deps ds ≤ 20
  no : factsB 20 d = false
theorem ref_saying (K : K11 P) {fs : List D} (F : Fs fs) {o : D} (O : Odd S o) {k : Nat} (hk : 40 ≤ k) (w : Int) {Q : D → Sto → Prop} (q : Q (.str "saying") S) : wp (P.call k 28 [.int w, .tup fs, o]) S Q E := by
  refine refused_ok K.f28 K.up (by omega) (c := 1) (by decide) (.inr ⟨rfl, rfl⟩) (fun q => ?_) (fun q => ?_) q
  · exact ag_bad2 K.f13 (by omega) (fun q => K.H.factsOk F (by omega) q) (fun q => K.H.claim O.u O.dp O.pl (by omega) (by rw [O.no]; exact q)) q
  · exact ag_bad2 K.f14 (by omega) (fun q => K.H.factsOk F (by omega) q) (fun q => K.H.claim O.u O.dp O.pl (by omega) (by rw [O.no]; exact q)) q
theorem ref_facts (K : K11 P) {b o : D} (B : BadF S b) {k : Nat} (hk : 40 ≤ k) (w : Int) {Q : D → Sto → Prop} (q : Q (.str "facts") S) : wp (P.call k 28 [.int w, b, o]) S Q E := by
  refine refused_ok K.f28 K.up (by omega) (c := 2) (by decide) (.inl ⟨rfl, rfl⟩) (fun q => ?_) (fun q => ?_) q
  · exact ag_bad1 K.f13 (by omega) (fun q => K.H.facts B.u B.pl (by omega) (by rw [B.no]; exact q)) q
  · exact ag_bad1 K.f14 (by omega) (fun q => K.H.facts B.u B.pl (by omega) (by rw [B.no]; exact q)) q
end
end Kd
/-! The law of k11 gives True. -/
namespace Kd
open PySem
section
variable {P : Prg} {S : Sto} {E : EQ}
theorem wp_maxi (i j : Int) (Q : X → Sto → Prop) : wp (bltX .max [.dv (.int i), .dv (.int j)]) S Q E = Q (.dv (.int (if i < j then j else i))) S := rfl
theorem wp_mini (i j : Int) (Q : X → Sto → Prop) : wp (bltX .min [.dv (.int i), .dv (.int j)]) S Q E = Q (.dv (.int (if j < i then j else i))) S := rfl
theorem abc7 : ∀ n : Nat, n < 7 → (at_ abc.cps.toList (n : Int)).any (fun c => wordR (.str (nWord c))) = true := by decide +kernel
theorem wp_idx_abc {r : Int} (h0 : 0 ≤ r) (h1 : r < 7) {Q : X → Sto → Prop} (next : ∀ c, WOk (.str (nWord c)) → Q (.dv (.str ⟨#[c]⟩)) S) : wp (idxX (.dv (.str abc)) (.dv (.int r))) S Q E := by
  obtain ⟨n, rfl⟩ : ∃ n : Nat, r = n := ⟨r.toNat, by omega⟩
  have := abc7 n (by omega)
  rw [Option.any_eq_true] at this
  obtain ⟨c, e, h⟩ := this
  unfold wp
  simp only [idxX, isDct, seqIx, e, if_pos abc_len, M.pure]
  exact next c (.of h)
theorem set_eq {A : Sto} {o : Ob} : A ++ [o] = (A ++ [o]).set A.length o := by simp
theorem WL.new {A : Sto} {l : Nat} (hl : l < A.length) {ws : List D} (ok : ∀ w ∈ ws, WOk w) (pos : 0 < ws.length) (few : ws.length < 900) : WL (A ++ [.lst ws]) l A.length ws := ⟨by omega, by simp, ok, pos, few⟩
theorem WL.first {A : Sto} {l a : Nat} {ws : List D} (W : WL A l a ws) : ∃ w, at_ ws 0 = some w ∧ WOk w := W.pick (by omega) (by have := W.pos; omega)
theorem WL.last {A : Sto} {l a : Nat} {ws : List D} (W : WL A l a ws) : ∃ w, at_ ws (-1) = some w ∧ WOk w := by
  have hp := W.pos
  have hn : ws.length - 1 < ws.length := by omega
  refine ⟨ws[ws.length - 1], ?_, W.ok _ (List.getElem_mem hn)⟩
  unfold at_ ixAt
  rw [if_neg (by omega), if_pos (by omega)]
  have : ((-1 : Int) + (ws.length : Int)).toNat = ws.length - 1 := by omega
  simp only [Option.bind_some, this, List.getElem?_eq_getElem hn]
theorem at_ok {ds : List D} {r : Int} (h0 : 0 ≤ r) (h1 : r < ds.length) : ∃ d, at_ ds r = some d ∧ d ∈ ds := by
  obtain ⟨n, rfl⟩ : ∃ n : Nat, r = n := ⟨r.toNat, by omega⟩
  have hn : n < ds.length := by omega
  exact ⟨ds[n], by rw [at_nat _ _ hn, List.getElem?_eq_getElem hn], List.getElem_mem hn⟩
theorem kind_tup {d : D} (h : KOk d) : ∃ ds, d = .tup ds := by
  have := h.ok
  cases d with
  | tup ds => exact ⟨ds, rfl⟩
  | _ => simp [kindN] at this
/-- a saying without its first member is no claim -/
theorem first_ok {y : D} (h : Cl y) (hn : ¬ Fc y) : ∃ x r, y = .tup (x :: r) ∧ Pl (.tup r) ∧ (D.tup r).dep ≤ 20 ∧ claimB 20 (.tup r) = false := by
  have hd := h.dp
  cases h with
  | fact h => exact absurd h hn
  | below hp hq =>
    refine ⟨_, _, rfl, .t2 hp.pl hq.pl, by have := hp.dp; have := hq.dp; simp only [D.dep, D.deps]; omega, ?_⟩
    obtain ⟨ds, rfl⟩ := kind_tup hp
    rfl
  | role hp hq =>
    refine ⟨_, _, rfl, .t2 hp.pl hq.pl, by simp only [D.dep, D.deps, hp.dp, hq.dp]; omega, ?_⟩
    obtain ⟨x, rfl, _⟩ := hp.ex
    simp [claimB, sayB, factB]
  | chain hp hr hq =>
    refine ⟨_, _, rfl, .t3 hp.pl hr.pl hq.pl, by simp only [D.dep, D.deps, hp.dp, hr.dp, hq.dp]; omega, ?_⟩
    obtain ⟨x, rfl, _⟩ := hp.ex
    obtain ⟨y, rfl, _⟩ := hr.ex
    obtain ⟨z, rfl, _⟩ := hq.ex
    have : x ≠ "role" := fun e => hp.nr (by rw [e])
    have k1 : ∀ z, kindN 20 (.str z) = false := fun _ => rfl
    simp only [claimB, sayB, factB, this, if_false, k1, Bool.and_false, Bool.or_eq_false_iff]
    constructor
    · split <;> simp
    · split <;> simp
theorem wp_negi (i : Int) (Q : X → Sto → Prop) : wp (match X.dv (D.int i) with
    | .dv (.int i) => M.pure (.dv (.int (-i)))
    | _ => M.bad) S Q E = Q (.dv (.int (-i))) S := rfl
theorem perm2 (a b : D) : List.mapM (m := Option) (fun i => [a, b][i]?) [1, 0] = some [b, a] := rfl
theorem ann_no : claimB 20 (.tup [.str "is", .str "ann", .str "a"]) = false := by decide +kernel
theorem below_no : factsB 20 (.tup [.tup [.str "below", .tup [.str "any"], .tup [.str "any"]]]) = false := by decide +kernel
theorem law11_ok (K : K11 P) {ns : List Int} (hl : ns.length ≤ 63) (hb : ∀ z ∈ ns, Builtin.Int.intBits z ≤ 1048576) {k : Nat} (hk : 50 ≤ k) : wp (P.call k 29 [.rol ns]) S (fun d _ => d = .bl true) E := by
  refine wp_def K.f29 (by omega) rfl ?_
  simp only [fLaw11, List.map_cons, List.map_nil, List.replicate, List.cons_append, List.nil_append]
  rw [xs_for]
  simp only [ev_var, ev_glb, ev_isV, ev_cint, ev_cstr, ev_cnon, ev_cbl, ev_tup, ev_lst, ev_dct0, ev_bin, ev_notf, ev_nott, ev_and, ev_or, ev_cmp, ev_chn, ev_ite, ev_call, ev_blt, ev_mth, ev_idx, ev_slc, ev_frc, ev_lc, ev_callk, ev_neg, varX, glX, List.getElem?_cons_succ, List.getElem?_cons_zero, evs, evx, evc, asTf, asTt, wp_bind, wp_pure, wp_ite, if_true, if_false, wp_theB, Bool.not_true, Bool.not_false, Bool.not_not, wp_force, wp_forceT, wp_push, cmpX, Bool.false_eq_true, List.map_cons, List.map_nil, List.replicate, List.cons_append, List.nil_append, List.set_cons_zero, List.set_cons_succ, bindT_nm, bindT2, wipeE, partX, wp_tru_bl, wp_tru_tup, wp_tru_tl, wp_tru_int, wp_tru_non, wp_eq_str, wp_eq_int, wp_eq_bl, wp_lt_int, wp_len_tup, wp_len_tl, wp_items_tup, wp_items_tl, wp_litems_tl, wp_walk_tup, wp_walk_tl, wp_idx_tup (at0 _ _), wp_idx_tup (at1 _ _ _), wp_idx_tup (at2 _ _ _ _), wp_idx_tup (at3 _ _ _ _ _), cut1, decide_eq_true_eq, wp_tuple, wp_list_tup, wp_int, wp_addi, wp_subi, setAll, wp_unpack_tup, isiStr_str, isiTup_tup, isiTl, wp_len_rol, wp_mini, wp_maxi]
  rw [wp_range (by unfold sizeLine; repeat' split <;> omega)]
  refine wp_forRun_inv (fun ds ρ S1 => ∃ x1 x2 x3 x4 x5 x6 x7 x8 x9 x10 x11 x12 x13, ρ = [some (.rol ns), x1, x2, x3, x4, x5, x6, x7, x8, x9, x10, x11, x12, x13] ∧ ∀ d ∈ ds, ∃ n : Nat, d = .int n ∧ n < 1000) (fun _ _ _ _ => rfl) ?_ ?_ _ _ _ ⟨none, none, none, none, none, none, none, none, none, none, none, none, none, rfl, fun d hd => ?_⟩
  · rintro d ds ρ S1 ⟨x1, x2, x3, x4, x5, x6, x7, x8, x9, x10, x11, x12, x13, rfl, hds⟩
    obtain ⟨n, rfl, hn⟩ := hds d (by simp)
    have hds : ∀ d ∈ ds, ∃ n : Nat, d = .int n ∧ n < 1000 := fun d hd => hds d (List.mem_cons_of_mem _ hd)
    try simp only [ev_var, ev_glb, ev_isV, ev_cint, ev_cstr, ev_cnon, ev_cbl, ev_tup, ev_lst, ev_dct0, ev_bin, ev_notf, ev_nott, ev_and, ev_or, ev_cmp, ev_chn, ev_ite, ev_call, ev_blt, ev_mth, ev_idx, ev_slc, ev_frc, ev_lc, ev_callk, ev_neg, varX, glX, List.getElem?_cons_succ, List.getElem?_cons_zero, evs, evx, evc, asTf, asTt, wp_bind, wp_pure, wp_ite, if_true, if_false, wp_theB, Bool.not_true, Bool.not_false, Bool.not_not, wp_force, wp_forceT, wp_push, cmpX, Bool.false_eq_true, List.map_cons, List.map_nil, List.replicate, List.cons_append, List.nil_append, List.set_cons_zero, List.set_cons_succ, bindT_nm, bindT2, wipeE, partX, wp_tru_bl, wp_tru_tup, wp_tru_tl, wp_tru_int, wp_tru_non, wp_eq_str, wp_eq_int, wp_eq_bl, wp_lt_int, wp_len_tup, wp_len_tl, wp_items_tup, wp_items_tl, wp_litems_tl, wp_walk_tup, wp_walk_tl, wp_idx_tup (at0 _ _), wp_idx_tup (at1 _ _ _), wp_idx_tup (at2 _ _ _ _), wp_idx_tup (at3 _ _ _ _ _), cut1, decide_eq_true_eq, wp_tuple, wp_list_tup, wp_int, wp_addi, wp_subi, setAll, wp_unpack_tup, isiStr_str, isiTup_tup, isiTl]
    -- pool
    rw [xs_set]
    try simp only [ev_var, ev_glb, ev_isV, ev_cint, ev_cstr, ev_cnon, ev_cbl, ev_tup, ev_lst, ev_dct0, ev_bin, ev_notf, ev_nott, ev_and, ev_or, ev_cmp, ev_chn, ev_ite, ev_call, ev_blt, ev_mth, ev_idx, ev_slc, ev_frc, ev_lc, ev_callk, ev_neg, varX, glX, List.getElem?_cons_succ, List.getElem?_cons_zero, evs, evx, evc, asTf, asTt, wp_bind, wp_pure, wp_ite, if_true, if_false, wp_theB, Bool.not_true, Bool.not_false, Bool.not_not, wp_force, wp_forceT, wp_push, cmpX, Bool.false_eq_true, List.map_cons, List.map_nil, List.replicate, List.cons_append, List.nil_append, List.set_cons_zero, List.set_cons_succ, bindT_nm, bindT2, wipeE, partX, wp_tru_bl, wp_tru_tup, wp_tru_tl, wp_tru_int, wp_tru_non, wp_eq_str, wp_eq_int, wp_eq_bl, wp_lt_int, wp_len_tup, wp_len_tl, wp_items_tup, wp_items_tl, wp_litems_tl, wp_walk_tup, wp_walk_tl, wp_idx_tup (at0 _ _), wp_idx_tup (at1 _ _ _), wp_idx_tup (at2 _ _ _ _), wp_idx_tup (at3 _ _ _ _ _), cut1, decide_eq_true_eq, wp_tuple, wp_list_tup, wp_int, wp_addi, wp_subi, setAll, wp_unpack_tup, isiStr_str, isiTup_tup, isiTl]
    refine pool_ok K.f15 hl hb hn (by omega) fun c m q h => ?_
    rw [set_eq]
    have hlA : S1.length < (S1 ++ [pOb c m q]).length := by simp
    generalize (S1 ++ [pOb c m q]) = A at hlA ⊢
    generalize S1.length = l at hlA ⊢
    try simp only [ev_var, ev_glb, ev_isV, ev_cint, ev_cstr, ev_cnon, ev_cbl, ev_tup, ev_lst, ev_dct0, ev_bin, ev_notf, ev_nott, ev_and, ev_or, ev_cmp, ev_chn, ev_ite, ev_call, ev_blt, ev_mth, ev_idx, ev_slc, ev_frc, ev_lc, ev_callk, ev_neg, varX, glX, List.getElem?_cons_succ, List.getElem?_cons_zero, evs, evx, evc, asTf, asTt, wp_bind, wp_pure, wp_ite, if_true, if_false, wp_theB, Bool.not_true, Bool.not_false, Bool.not_not, wp_force, wp_forceT, wp_push, cmpX, Bool.false_eq_true, List.map_cons, List.map_nil, List.replicate, List.cons_append, List.nil_append, List.set_cons_zero, List.set_cons_succ, bindT_nm, bindT2, wipeE, partX, wp_tru_bl, wp_tru_tup, wp_tru_tl, wp_tru_int, wp_tru_non, wp_eq_str, wp_eq_int, wp_eq_bl, wp_lt_int, wp_len_tup, wp_len_tl, wp_items_tup, wp_items_tl, wp_litems_tl, wp_walk_tup, wp_walk_tl, wp_idx_tup (at0 _ _), wp_idx_tup (at1 _ _ _), wp_idx_tup (at2 _ _ _ _), wp_idx_tup (at3 _ _ _ _ _), cut1, decide_eq_true_eq, wp_tuple, wp_list_tup, wp_int, wp_addi, wp_subi, setAll, wp_unpack_tup, isiStr_str, isiTup_tup, isiTl]
    -- words
    rw [xs_setT]
    try simp only [ev_var, ev_glb, ev_isV, ev_cint, ev_cstr, ev_cnon, ev_cbl, ev_tup, ev_lst, ev_dct0, ev_bin, ev_notf, ev_nott, ev_and, ev_or, ev_cmp, ev_chn, ev_ite, ev_call, ev_blt, ev_mth, ev_idx, ev_slc, ev_frc, ev_lc, ev_callk, ev_neg, varX, glX, List.getElem?_cons_succ, List.getElem?_cons_zero, evs, evx, evc, asTf, asTt, wp_bind, wp_pure, wp_ite, if_true, if_false, wp_theB, Bool.not_true, Bool.not_false, Bool.not_not, wp_force, wp_forceT, wp_push, cmpX, Bool.false_eq_true, List.map_cons, List.map_nil, List.replicate, List.cons_append, List.nil_append, List.set_cons_zero, List.set_cons_succ, bindT_nm, bindT2, wipeE, partX, wp_tru_bl, wp_tru_tup, wp_tru_tl, wp_tru_int, wp_tru_non, wp_eq_str, wp_eq_int, wp_eq_bl, wp_lt_int, wp_len_tup, wp_len_tl, wp_items_tup, wp_items_tl, wp_litems_tl, wp_walk_tup, wp_walk_tl, wp_idx_tup (at0 _ _), wp_idx_tup (at1 _ _ _), wp_idx_tup (at2 _ _ _ _), wp_idx_tup (at3 _ _ _ _ _), cut1, decide_eq_true_eq, wp_tuple, wp_list_tup, wp_int, wp_addi, wp_subi, setAll, wp_unpack_tup, isiStr_str, isiTup_tup, isiTl]
    refine words_ok K.f16 K.f21 hlA (b := 999999997) h (by omega) fun T a1 a2 a3 w1 w2 w3 c m q W1 W2 W3 L1 L2 L3 h => ?_
    have hl2 : l < (A ++ T).length := by simp; omega
    generalize A ++ T = A at hl2 W1 W2 W3 ⊢
    clear hlA
    -- people
    rw [wp_unpack_tup, if_pos (by rfl)]
    try simp only [ev_var, ev_glb, ev_isV, ev_cint, ev_cstr, ev_cnon, ev_cbl, ev_tup, ev_lst, ev_dct0, ev_bin, ev_notf, ev_nott, ev_and, ev_or, ev_cmp, ev_chn, ev_ite, ev_call, ev_blt, ev_mth, ev_idx, ev_slc, ev_frc, ev_lc, ev_callk, ev_neg, varX, glX, List.getElem?_cons_succ, List.getElem?_cons_zero, evs, evx, evc, asTf, asTt, wp_bind, wp_pure, wp_ite, if_true, if_false, wp_theB, Bool.not_true, Bool.not_false, Bool.not_not, wp_force, wp_forceT, wp_push, cmpX, Bool.false_eq_true, List.map_cons, List.map_nil, List.replicate, List.cons_append, List.nil_append, List.set_cons_zero, List.set_cons_succ, bindT_nm, bindT2, wipeE, partX, wp_tru_bl, wp_tru_tup, wp_tru_tl, wp_tru_int, wp_tru_non, wp_eq_str, wp_eq_int, wp_eq_bl, wp_lt_int, wp_len_tup, wp_len_tl, wp_items_tup, wp_items_tl, wp_litems_tl, wp_walk_tup, wp_walk_tl, wp_idx_tup (at0 _ _), wp_idx_tup (at1 _ _ _), wp_idx_tup (at2 _ _ _ _), wp_idx_tup (at3 _ _ _ _ _), cut1, decide_eq_true_eq, wp_tuple, wp_list_tup, wp_int, wp_addi, wp_subi, setAll, wp_unpack_tup, isiStr_str, isiTup_tup, isiTl]
    rw [xs_set]
    try simp only [ev_var, ev_glb, ev_isV, ev_cint, ev_cstr, ev_cnon, ev_cbl, ev_tup, ev_lst, ev_dct0, ev_bin, ev_notf, ev_nott, ev_and, ev_or, ev_cmp, ev_chn, ev_ite, ev_call, ev_blt, ev_mth, ev_idx, ev_slc, ev_frc, ev_lc, ev_callk, ev_neg, varX, glX, List.getElem?_cons_succ, List.getElem?_cons_zero, evs, evx, evc, asTf, asTt, wp_bind, wp_pure, wp_ite, if_true, if_false, wp_theB, Bool.not_true, Bool.not_false, Bool.not_not, wp_force, wp_forceT, wp_push, cmpX, Bool.false_eq_true, List.map_cons, List.map_nil, List.replicate, List.cons_append, List.nil_append, List.set_cons_zero, List.set_cons_succ, bindT_nm, bindT2, wipeE, partX, wp_tru_bl, wp_tru_tup, wp_tru_tl, wp_tru_int, wp_tru_non, wp_eq_str, wp_eq_int, wp_eq_bl, wp_lt_int, wp_len_tup, wp_len_tl, wp_items_tup, wp_items_tl, wp_litems_tl, wp_walk_tup, wp_walk_tl, wp_idx_tup (at0 _ _), wp_idx_tup (at1 _ _ _), wp_idx_tup (at2 _ _ _ _), wp_idx_tup (at3 _ _ _ _ _), cut1, decide_eq_true_eq, wp_tuple, wp_list_tup, wp_int, wp_addi, wp_subi, setAll, wp_unpack_tup, isiStr_str, isiTup_tup, isiTl]
    rw [wp_range (by unfold sizeLine; omega)]
    refine wp_calm (wp_lcRun_all (p := WOk) (fun n S1 => ∃ c m q, S1 = A.set l (pOb c m q) ∧ PS (999000000 + n) c m q) ?_ ⟨c, m, q, rfl, h.less (by simp)⟩ ?_)
    · rintro d hd n S1 hn ⟨c, m, q, rfl, h⟩
      try simp only [ev_var, ev_glb, ev_isV, ev_cint, ev_cstr, ev_cnon, ev_cbl, ev_tup, ev_lst, ev_dct0, ev_bin, ev_notf, ev_nott, ev_and, ev_or, ev_cmp, ev_chn, ev_ite, ev_call, ev_blt, ev_mth, ev_idx, ev_slc, ev_frc, ev_lc, ev_callk, ev_neg, varX, glX, List.getElem?_cons_succ, List.getElem?_cons_zero, evs, evx, evc, asTf, asTt, wp_bind, wp_pure, wp_ite, if_true, if_false, wp_theB, Bool.not_true, Bool.not_false, Bool.not_not, wp_force, wp_forceT, wp_push, cmpX, Bool.false_eq_true, List.map_cons, List.map_nil, List.replicate, List.cons_append, List.nil_append, List.set_cons_zero, List.set_cons_succ, bindT_nm, bindT2, wipeE, partX, wp_tru_bl, wp_tru_tup, wp_tru_tl, wp_tru_int, wp_tru_non, wp_eq_str, wp_eq_int, wp_eq_bl, wp_lt_int, wp_len_tup, wp_len_tl, wp_items_tup, wp_items_tl, wp_litems_tl, wp_walk_tup, wp_walk_tl, wp_idx_tup (at0 _ _), wp_idx_tup (at1 _ _ _), wp_idx_tup (at2 _ _ _ _), wp_idx_tup (at3 _ _ _ _ _), cut1, decide_eq_true_eq, wp_tuple, wp_list_tup, wp_int, wp_addi, wp_subi, setAll, wp_unpack_tup, isiStr_str, isiTup_tup, isiTl]
      refine pull_ok K.f16 hl2 (b := 999000000 + n) h (by omega) (by omega) (by omega) fun r c m q r0 r1 h => ?_
      refine wp_idx_abc r0 r1 fun ch hw => ?_
      rw [wp_adds (nW_len _), wp_force]
      exact ⟨hw, _, _, _, rfl, h⟩
    rintro ys S1 hy hys ⟨c, m, q, rfl, h⟩
    have hy : ys.length = 5 := by simpa using hy
    rw [List.reverse_nil, List.nil_append]
    try simp only [ev_var, ev_glb, ev_isV, ev_cint, ev_cstr, ev_cnon, ev_cbl, ev_tup, ev_lst, ev_dct0, ev_bin, ev_notf, ev_nott, ev_and, ev_or, ev_cmp, ev_chn, ev_ite, ev_call, ev_blt, ev_mth, ev_idx, ev_slc, ev_frc, ev_lc, ev_callk, ev_neg, varX, glX, List.getElem?_cons_succ, List.getElem?_cons_zero, evs, evx, evc, asTf, asTt, wp_bind, wp_pure, wp_ite, if_true, if_false, wp_theB, Bool.not_true, Bool.not_false, Bool.not_not, wp_force, wp_forceT, wp_push, cmpX, Bool.false_eq_true, List.map_cons, List.map_nil, List.replicate, List.cons_append, List.nil_append, List.set_cons_zero, List.set_cons_succ, bindT_nm, bindT2, wipeE, partX, wp_tru_bl, wp_tru_tup, wp_tru_tl, wp_tru_int, wp_tru_non, wp_eq_str, wp_eq_int, wp_eq_bl, wp_lt_int, wp_len_tup, wp_len_tl, wp_items_tup, wp_items_tl, wp_litems_tl, wp_walk_tup, wp_walk_tl, wp_idx_tup (at0 _ _), wp_idx_tup (at1 _ _ _), wp_idx_tup (at2 _ _ _ _), wp_idx_tup (at3 _ _ _ _ _), cut1, decide_eq_true_eq, wp_tuple, wp_list_tup, wp_int, wp_addi, wp_subi, setAll, wp_unpack_tup, isiStr_str, isiTup_tup, isiTl]
    rw [wp_addlo (W3.get _) (by unfold sizeLine; omega)]
    try simp only [ev_var, ev_glb, ev_isV, ev_cint, ev_cstr, ev_cnon, ev_cbl, ev_tup, ev_lst, ev_dct0, ev_bin, ev_notf, ev_nott, ev_and, ev_or, ev_cmp, ev_chn, ev_ite, ev_call, ev_blt, ev_mth, ev_idx, ev_slc, ev_frc, ev_lc, ev_callk, ev_neg, varX, glX, List.getElem?_cons_succ, List.getElem?_cons_zero, evs, evx, evc, asTf, asTt, wp_bind, wp_pure, wp_ite, if_true, if_false, wp_theB, Bool.not_true, Bool.not_false, Bool.not_not, wp_force, wp_forceT, wp_push, cmpX, Bool.false_eq_true, List.map_cons, List.map_nil, List.replicate, List.cons_append, List.nil_append, List.set_cons_zero, List.set_cons_succ, bindT_nm, bindT2, wipeE, partX, wp_tru_bl, wp_tru_tup, wp_tru_tl, wp_tru_int, wp_tru_non, wp_eq_str, wp_eq_int, wp_eq_bl, wp_lt_int, wp_len_tup, wp_len_tl, wp_items_tup, wp_items_tl, wp_litems_tl, wp_walk_tup, wp_walk_tl, wp_idx_tup (at0 _ _), wp_idx_tup (at1 _ _ _), wp_idx_tup (at2 _ _ _ _), wp_idx_tup (at3 _ _ _ _ _), cut1, decide_eq_true_eq, wp_tuple, wp_list_tup, wp_int, wp_addi, wp_subi, setAll, wp_unpack_tup, isiStr_str, isiTup_tup, isiTl]
    rw [set_app hl2, List.length_set]
    have W4 : WL (A ++ [.lst (ys ++ w3)]) l A.length (ys ++ w3) := .new hl2 (app_all hys W3.ok) (by simp; omega) (by simp; omega)
    replace W1 := W1.more [.lst (ys ++ w3)]
    replace W2 := W2.more [.lst (ys ++ w3)]
    have hl3 : l < (A ++ [Ob.lst (ys ++ w3)]).length := by simp; omega
    have hpp : (ys ++ w3).length ≤ 14 := by simp; omega
    generalize A ++ [Ob.lst (ys ++ w3)] = A2 at W1 W2 W4 hl3 ⊢
    generalize A.length = a4 at W4 ⊢
    generalize ys ++ w3 = pp at W4 hpp ⊢
    clear W3 hl2 hy hys
    -- facts
    rw [xs_set]
    try simp only [ev_var, ev_glb, ev_isV, ev_cint, ev_cstr, ev_cnon, ev_cbl, ev_tup, ev_lst, ev_dct0, ev_bin, ev_notf, ev_nott, ev_and, ev_or, ev_cmp, ev_chn, ev_ite, ev_call, ev_blt, ev_mth, ev_idx, ev_slc, ev_frc, ev_lc, ev_callk, ev_neg, varX, glX, List.getElem?_cons_succ, List.getElem?_cons_zero, evs, evx, evc, asTf, asTt, wp_bind, wp_pure, wp_ite, if_true, if_false, wp_theB, Bool.not_true, Bool.not_false, Bool.not_not, wp_force, wp_forceT, wp_push, cmpX, Bool.false_eq_true, List.map_cons, List.map_nil, List.replicate, List.cons_append, List.nil_append, List.set_cons_zero, List.set_cons_succ, bindT_nm, bindT2, wipeE, partX, wp_tru_bl, wp_tru_tup, wp_tru_tl, wp_tru_int, wp_tru_non, wp_eq_str, wp_eq_int, wp_eq_bl, wp_lt_int, wp_len_tup, wp_len_tl, wp_items_tup, wp_items_tl, wp_litems_tl, wp_walk_tup, wp_walk_tl, wp_idx_tup (at0 _ _), wp_idx_tup (at1 _ _ _), wp_idx_tup (at2 _ _ _ _), wp_idx_tup (at3 _ _ _ _ _), cut1, decide_eq_true_eq, wp_tuple, wp_list_tup, wp_int, wp_addi, wp_subi, setAll, wp_unpack_tup, isiStr_str, isiTup_tup, isiTl]
    refine pull_ok K.f16 hl3 (b := 998000000) (h.less (by omega)) (by omega) (by omega) (by omega) fun r c m q r0 r1 h => ?_
    try simp only [ev_var, ev_glb, ev_isV, ev_cint, ev_cstr, ev_cnon, ev_cbl, ev_tup, ev_lst, ev_dct0, ev_bin, ev_notf, ev_nott, ev_and, ev_or, ev_cmp, ev_chn, ev_ite, ev_call, ev_blt, ev_mth, ev_idx, ev_slc, ev_frc, ev_lc, ev_callk, ev_neg, varX, glX, List.getElem?_cons_succ, List.getElem?_cons_zero, evs, evx, evc, asTf, asTt, wp_bind, wp_pure, wp_ite, if_true, if_false, wp_theB, Bool.not_true, Bool.not_false, Bool.not_not, wp_force, wp_forceT, wp_push, cmpX, Bool.false_eq_true, List.map_cons, List.map_nil, List.replicate, List.cons_append, List.nil_append, List.set_cons_zero, List.set_cons_succ, bindT_nm, bindT2, wipeE, partX, wp_tru_bl, wp_tru_tup, wp_tru_tl, wp_tru_int, wp_tru_non, wp_eq_str, wp_eq_int, wp_eq_bl, wp_lt_int, wp_len_tup, wp_len_tl, wp_items_tup, wp_items_tl, wp_litems_tl, wp_walk_tup, wp_walk_tl, wp_idx_tup (at0 _ _), wp_idx_tup (at1 _ _ _), wp_idx_tup (at2 _ _ _ _), wp_idx_tup (at3 _ _ _ _ _), cut1, decide_eq_true_eq, wp_tuple, wp_list_tup, wp_int, wp_addi, wp_subi, setAll, wp_unpack_tup, isiStr_str, isiTup_tup, isiTl]
    rw [wp_range (by unfold sizeLine; omega)]
    have ht6 : cutD pp none (some 6) = pp.take 6 := cutTo _ 6
    refine wp_calm (wp_lcRun_all (p := Fc) (fun n S1 => ∃ T c m q, S1 = (A2 ++ T).set l (pOb c m q) ∧ PS (990000000 + 20 * n) c m q) ?_ ⟨[], c, m, q, by rw [List.append_nil], h.less (by simp; omega)⟩ ?_)
    · rintro d hd n S1 hn ⟨T, c, m, q, rfl, h⟩
      have hlT : l < (A2 ++ T).length := by simp; omega
      try simp only [ev_var, ev_glb, ev_isV, ev_cint, ev_cstr, ev_cnon, ev_cbl, ev_tup, ev_lst, ev_dct0, ev_bin, ev_notf, ev_nott, ev_and, ev_or, ev_cmp, ev_chn, ev_ite, ev_call, ev_blt, ev_mth, ev_idx, ev_slc, ev_frc, ev_lc, ev_callk, ev_neg, varX, glX, List.getElem?_cons_succ, List.getElem?_cons_zero, evs, evx, evc, asTf, asTt, wp_bind, wp_pure, wp_ite, if_true, if_false, wp_theB, Bool.not_true, Bool.not_false, Bool.not_not, wp_force, wp_forceT, wp_push, cmpX, Bool.false_eq_true, List.map_cons, List.map_nil, List.replicate, List.cons_append, List.nil_append, List.set_cons_zero, List.set_cons_succ, bindT_nm, bindT2, wipeE, partX, wp_tru_bl, wp_tru_tup, wp_tru_tl, wp_tru_int, wp_tru_non, wp_eq_str, wp_eq_int, wp_eq_bl, wp_lt_int, wp_len_tup, wp_len_tl, wp_items_tup, wp_items_tl, wp_litems_tl, wp_walk_tup, wp_walk_tl, wp_idx_tup (at0 _ _), wp_idx_tup (at1 _ _ _), wp_idx_tup (at2 _ _ _ _), wp_idx_tup (at3 _ _ _ _ _), cut1, decide_eq_true_eq, wp_tuple, wp_list_tup, wp_int, wp_addi, wp_subi, setAll, wp_unpack_tup, isiStr_str, isiTup_tup, isiTl]
      rw [wp_slc_loc ((W4.more T).get _)]
      try simp only [ev_var, ev_glb, ev_isV, ev_cint, ev_cstr, ev_cnon, ev_cbl, ev_tup, ev_lst, ev_dct0, ev_bin, ev_notf, ev_nott, ev_and, ev_or, ev_cmp, ev_chn, ev_ite, ev_call, ev_blt, ev_mth, ev_idx, ev_slc, ev_frc, ev_lc, ev_callk, ev_neg, varX, glX, List.getElem?_cons_succ, List.getElem?_cons_zero, evs, evx, evc, asTf, asTt, wp_bind, wp_pure, wp_ite, if_true, if_false, wp_theB, Bool.not_true, Bool.not_false, Bool.not_not, wp_force, wp_forceT, wp_push, cmpX, Bool.false_eq_true, List.map_cons, List.map_nil, List.replicate, List.cons_append, List.nil_append, List.set_cons_zero, List.set_cons_succ, bindT_nm, bindT2, wipeE, partX, wp_tru_bl, wp_tru_tup, wp_tru_tl, wp_tru_int, wp_tru_non, wp_eq_str, wp_eq_int, wp_eq_bl, wp_lt_int, wp_len_tup, wp_len_tl, wp_items_tup, wp_items_tl, wp_litems_tl, wp_walk_tup, wp_walk_tl, wp_idx_tup (at0 _ _), wp_idx_tup (at1 _ _ _), wp_idx_tup (at2 _ _ _ _), wp_idx_tup (at3 _ _ _ _ _), cut1, decide_eq_true_eq, wp_tuple, wp_list_tup, wp_int, wp_addi, wp_subi, setAll, wp_unpack_tup, isiStr_str, isiTup_tup, isiTl]
      rw [set_app hlT, List.length_set, ht6]
      refine lfact_ok K.f16 K.f18 K.f20 (by simp; omega) ((W1.more T).more _) ((W2.more T).more _) (.new hlT (fun w hw => W4.ok w (List.mem_of_mem_take hw)) (by have := W4.pos; rw [List.length_take]; omega) (by rw [List.length_take]; omega)) (b := 990000000 + 20 * n) (h.less (by omega)) (by omega) fun d c m q hd h => ?_
      try simp only [ev_var, ev_glb, ev_isV, ev_cint, ev_cstr, ev_cnon, ev_cbl, ev_tup, ev_lst, ev_dct0, ev_bin, ev_notf, ev_nott, ev_and, ev_or, ev_cmp, ev_chn, ev_ite, ev_call, ev_blt, ev_mth, ev_idx, ev_slc, ev_frc, ev_lc, ev_callk, ev_neg, varX, glX, List.getElem?_cons_succ, List.getElem?_cons_zero, evs, evx, evc, asTf, asTt, wp_bind, wp_pure, wp_ite, if_true, if_false, wp_theB, Bool.not_true, Bool.not_false, Bool.not_not, wp_force, wp_forceT, wp_push, cmpX, Bool.false_eq_true, List.map_cons, List.map_nil, List.replicate, List.cons_append, List.nil_append, List.set_cons_zero, List.set_cons_succ, bindT_nm, bindT2, wipeE, partX, wp_tru_bl, wp_tru_tup, wp_tru_tl, wp_tru_int, wp_tru_non, wp_eq_str, wp_eq_int, wp_eq_bl, wp_lt_int, wp_len_tup, wp_len_tl, wp_items_tup, wp_items_tl, wp_litems_tl, wp_walk_tup, wp_walk_tl, wp_idx_tup (at0 _ _), wp_idx_tup (at1 _ _ _), wp_idx_tup (at2 _ _ _ _), wp_idx_tup (at3 _ _ _ _ _), cut1, decide_eq_true_eq, wp_tuple, wp_list_tup, wp_int, wp_addi, wp_subi, setAll, wp_unpack_tup, isiStr_str, isiTup_tup, isiTl]
      exact ⟨hd, T ++ [_], _, _, _, by rw [List.append_assoc], h⟩
    rintro fs S1 hy hfs ⟨T, c, m, q, rfl, h⟩
    have hfl : fs.length ≤ 5 := by rw [hy]; simp; omega
    have F : Fs fs := ⟨hfs, by omega⟩
    rw [List.reverse_nil, List.nil_append]
    try simp only [ev_var, ev_glb, ev_isV, ev_cint, ev_cstr, ev_cnon, ev_cbl, ev_tup, ev_lst, ev_dct0, ev_bin, ev_notf, ev_nott, ev_and, ev_or, ev_cmp, ev_chn, ev_ite, ev_call, ev_blt, ev_mth, ev_idx, ev_slc, ev_frc, ev_lc, ev_callk, ev_neg, varX, glX, List.getElem?_cons_succ, List.getElem?_cons_zero, evs, evx, evc, asTf, asTt, wp_bind, wp_pure, wp_ite, if_true, if_false, wp_theB, Bool.not_true, Bool.not_false, Bool.not_not, wp_force, wp_forceT, wp_push, cmpX, Bool.false_eq_true, List.map_cons, List.map_nil, List.replicate, List.cons_append, List.nil_append, List.set_cons_zero, List.set_cons_succ, bindT_nm, bindT2, wipeE, partX, wp_tru_bl, wp_tru_tup, wp_tru_tl, wp_tru_int, wp_tru_non, wp_eq_str, wp_eq_int, wp_eq_bl, wp_lt_int, wp_len_tup, wp_len_tl, wp_items_tup, wp_items_tl, wp_litems_tl, wp_walk_tup, wp_walk_tl, wp_idx_tup (at0 _ _), wp_idx_tup (at1 _ _ _), wp_idx_tup (at2 _ _ _ _), wp_idx_tup (at3 _ _ _ _ _), cut1, decide_eq_true_eq, wp_tuple, wp_list_tup, wp_int, wp_addi, wp_subi, setAll, wp_unpack_tup, isiStr_str, isiTup_tup, isiTl]
    replace W1 := W1.more T
    replace W2 := W2.more T
    replace W4 := W4.more T
    have hl4 : l < (A2 ++ T).length := by simp; omega
    generalize A2 ++ T = A3 at W1 W2 W4 hl4 ⊢
    clear hl3 hy
    -- claims: sayings
    rw [xs_set]
    try simp only [ev_var, ev_glb, ev_isV, ev_cint, ev_cstr, ev_cnon, ev_cbl, ev_tup, ev_lst, ev_dct0, ev_bin, ev_notf, ev_nott, ev_and, ev_or, ev_cmp, ev_chn, ev_ite, ev_call, ev_blt, ev_mth, ev_idx, ev_slc, ev_frc, ev_lc, ev_callk, ev_neg, varX, glX, List.getElem?_cons_succ, List.getElem?_cons_zero, evs, evx, evc, asTf, asTt, wp_bind, wp_pure, wp_ite, if_true, if_false, wp_theB, Bool.not_true, Bool.not_false, Bool.not_not, wp_force, wp_forceT, wp_push, cmpX, Bool.false_eq_true, List.map_cons, List.map_nil, List.replicate, List.cons_append, List.nil_append, List.set_cons_zero, List.set_cons_succ, bindT_nm, bindT2, wipeE, partX, wp_tru_bl, wp_tru_tup, wp_tru_tl, wp_tru_int, wp_tru_non, wp_eq_str, wp_eq_int, wp_eq_bl, wp_lt_int, wp_len_tup, wp_len_tl, wp_items_tup, wp_items_tl, wp_litems_tl, wp_walk_tup, wp_walk_tl, wp_idx_tup (at0 _ _), wp_idx_tup (at1 _ _ _), wp_idx_tup (at2 _ _ _ _), wp_idx_tup (at3 _ _ _ _ _), cut1, decide_eq_true_eq, wp_tuple, wp_list_tup, wp_int, wp_addi, wp_subi, setAll, wp_unpack_tup, isiStr_str, isiTup_tup, isiTl]
    rw [wp_range (by unfold sizeLine; omega)]
    refine wp_calm (wp_lcRun_all (p := fun d => Cl d ∧ ¬ Fc d) (fun n S1 => ∃ c m q, S1 = A3.set l (pOb c m q) ∧ PS (980000000 + 40 * n) c m q) ?_ ⟨c, m, q, rfl, h.less (by simp)⟩ ?_)
    · rintro d hd n S1 hn ⟨c, m, q, rfl, h⟩
      try simp only [ev_var, ev_glb, ev_isV, ev_cint, ev_cstr, ev_cnon, ev_cbl, ev_tup, ev_lst, ev_dct0, ev_bin, ev_notf, ev_nott, ev_and, ev_or, ev_cmp, ev_chn, ev_ite, ev_call, ev_blt, ev_mth, ev_idx, ev_slc, ev_frc, ev_lc, ev_callk, ev_neg, varX, glX, List.getElem?_cons_succ, List.getElem?_cons_zero, evs, evx, evc, asTf, asTt, wp_bind, wp_pure, wp_ite, if_true, if_false, wp_theB, Bool.not_true, Bool.not_false, Bool.not_not, wp_force, wp_forceT, wp_push, cmpX, Bool.false_eq_true, List.map_cons, List.map_nil, List.replicate, List.cons_append, List.nil_append, List.set_cons_zero, List.set_cons_succ, bindT_nm, bindT2, wipeE, partX, wp_tru_bl, wp_tru_tup, wp_tru_tl, wp_tru_int, wp_tru_non, wp_eq_str, wp_eq_int, wp_eq_bl, wp_lt_int, wp_len_tup, wp_len_tl, wp_items_tup, wp_items_tl, wp_litems_tl, wp_walk_tup, wp_walk_tl, wp_idx_tup (at0 _ _), wp_idx_tup (at1 _ _ _), wp_idx_tup (at2 _ _ _ _), wp_idx_tup (at3 _ _ _ _ _), cut1, decide_eq_true_eq, wp_tuple, wp_list_tup, wp_int, wp_addi, wp_subi, setAll, wp_unpack_tup, isiStr_str, isiTup_tup, isiTl]
      refine lsay_ok K.f16 K.f18 K.f19 hl4 W1 W2 (b := 980000000 + 40 * n) (h.less (by omega)) (by omega) fun d c m q hd hd2 h => ?_
      try simp only [ev_var, ev_glb, ev_isV, ev_cint, ev_cstr, ev_cnon, ev_cbl, ev_tup, ev_lst, ev_dct0, ev_bin, ev_notf, ev_nott, ev_and, ev_or, ev_cmp, ev_chn, ev_ite, ev_call, ev_blt, ev_mth, ev_idx, ev_slc, ev_frc, ev_lc, ev_callk, ev_neg, varX, glX, List.getElem?_cons_succ, List.getElem?_cons_zero, evs, evx, evc, asTf, asTt, wp_bind, wp_pure, wp_ite, if_true, if_false, wp_theB, Bool.not_true, Bool.not_false, Bool.not_not, wp_force, wp_forceT, wp_push, cmpX, Bool.false_eq_true, List.map_cons, List.map_nil, List.replicate, List.cons_append, List.nil_append, List.set_cons_zero, List.set_cons_succ, bindT_nm, bindT2, wipeE, partX, wp_tru_bl, wp_tru_tup, wp_tru_tl, wp_tru_int, wp_tru_non, wp_eq_str, wp_eq_int, wp_eq_bl, wp_lt_int, wp_len_tup, wp_len_tl, wp_items_tup, wp_items_tl, wp_litems_tl, wp_walk_tup, wp_walk_tl, wp_idx_tup (at0 _ _), wp_idx_tup (at1 _ _ _), wp_idx_tup (at2 _ _ _ _), wp_idx_tup (at3 _ _ _ _ _), cut1, decide_eq_true_eq, wp_tuple, wp_list_tup, wp_int, wp_addi, wp_subi, setAll, wp_unpack_tup, isiStr_str, isiTup_tup, isiTl]
      exact ⟨⟨hd, hd2⟩, _, _, _, rfl, h⟩
    rintro ss S1 hs hss ⟨c, m, q, rfl, h⟩
    have hs : ss.length = 4 := by simpa using hs
    rw [List.reverse_nil, List.nil_append]
    try simp only [ev_var, ev_glb, ev_isV, ev_cint, ev_cstr, ev_cnon, ev_cbl, ev_tup, ev_lst, ev_dct0, ev_bin, ev_notf, ev_nott, ev_and, ev_or, ev_cmp, ev_chn, ev_ite, ev_call, ev_blt, ev_mth, ev_idx, ev_slc, ev_frc, ev_lc, ev_callk, ev_neg, varX, glX, List.getElem?_cons_succ, List.getElem?_cons_zero, evs, evx, evc, asTf, asTt, wp_bind, wp_pure, wp_ite, if_true, if_false, wp_theB, Bool.not_true, Bool.not_false, Bool.not_not, wp_force, wp_forceT, wp_push, cmpX, Bool.false_eq_true, List.map_cons, List.map_nil, List.replicate, List.cons_append, List.nil_append, List.set_cons_zero, List.set_cons_succ, bindT_nm, bindT2, wipeE, partX, wp_tru_bl, wp_tru_tup, wp_tru_tl, wp_tru_int, wp_tru_non, wp_eq_str, wp_eq_int, wp_eq_bl, wp_lt_int, wp_len_tup, wp_len_tl, wp_items_tup, wp_items_tl, wp_litems_tl, wp_walk_tup, wp_walk_tl, wp_idx_tup (at0 _ _), wp_idx_tup (at1 _ _ _), wp_idx_tup (at2 _ _ _ _), wp_idx_tup (at3 _ _ _ _ _), cut1, decide_eq_true_eq, wp_tuple, wp_list_tup, wp_int, wp_addi, wp_subi, setAll, wp_unpack_tup, isiStr_str, isiTup_tup, isiTl]
    rw [set_app hl4, List.length_set]
    have g5 : (A3 ++ [Ob.lst ss])[A3.length]? = some (.lst ss) := by simp
    have n5 : l ≠ A3.length := by omega
    replace W1 := W1.more [Ob.lst ss]
    replace W2 := W2.more [Ob.lst ss]
    replace W4 := W4.more [Ob.lst ss]
    have hl5 : l < (A3 ++ [Ob.lst ss]).length := by simp; omega
    generalize A3 ++ [Ob.lst ss] = A4 at W1 W2 W4 hl5 g5 ⊢
    generalize A3.length = a5 at g5 n5 ⊢
    clear hl4
    have gt : ∀ (T : Sto) (o : Ob), ((A4 ++ T).set l o)[a5]? = some (.lst ss) := fun T o => by
      rw [List.getElem?_set_ne n5, List.getElem?_append_left (List.getElem?_eq_some_iff.mp g5).1]
      exact g5
    -- claims: facts
    rw [xs_set]
    try simp only [ev_var, ev_glb, ev_isV, ev_cint, ev_cstr, ev_cnon, ev_cbl, ev_tup, ev_lst, ev_dct0, ev_bin, ev_notf, ev_nott, ev_and, ev_or, ev_cmp, ev_chn, ev_ite, ev_call, ev_blt, ev_mth, ev_idx, ev_slc, ev_frc, ev_lc, ev_callk, ev_neg, varX, glX, List.getElem?_cons_succ, List.getElem?_cons_zero, evs, evx, evc, asTf, asTt, wp_bind, wp_pure, wp_ite, if_true, if_false, wp_theB, Bool.not_true, Bool.not_false, Bool.not_not, wp_force, wp_forceT, wp_push, cmpX, Bool.false_eq_true, List.map_cons, List.map_nil, List.replicate, List.cons_append, List.nil_append, List.set_cons_zero, List.set_cons_succ, bindT_nm, bindT2, wipeE, partX, wp_tru_bl, wp_tru_tup, wp_tru_tl, wp_tru_int, wp_tru_non, wp_eq_str, wp_eq_int, wp_eq_bl, wp_lt_int, wp_len_tup, wp_len_tl, wp_items_tup, wp_items_tl, wp_litems_tl, wp_walk_tup, wp_walk_tl, wp_idx_tup (at0 _ _), wp_idx_tup (at1 _ _ _), wp_idx_tup (at2 _ _ _ _), wp_idx_tup (at3 _ _ _ _ _), cut1, decide_eq_true_eq, wp_tuple, wp_list_tup, wp_int, wp_addi, wp_subi, setAll, wp_unpack_tup, isiStr_str, isiTup_tup, isiTl]
    rw [wp_range (by unfold sizeLine; omega)]
    refine wp_calm (wp_lcRun_all (p := Fc) (fun n S1 => ∃ T c m q, S1 = (A4 ++ T).set l (pOb c m q) ∧ PS (970000000 + 20 * n) c m q) ?_ ⟨[], c, m, q, by rw [List.append_nil], h.less (by simp)⟩ ?_)
    · rintro d hd n S1 hn ⟨T, c, m, q, rfl, h⟩
      have hlT : l < (A4 ++ T).length := by simp; omega
      try simp only [ev_var, ev_glb, ev_isV, ev_cint, ev_cstr, ev_cnon, ev_cbl, ev_tup, ev_lst, ev_dct0, ev_bin, ev_notf, ev_nott, ev_and, ev_or, ev_cmp, ev_chn, ev_ite, ev_call, ev_blt, ev_mth, ev_idx, ev_slc, ev_frc, ev_lc, ev_callk, ev_neg, varX, glX, List.getElem?_cons_succ, List.getElem?_cons_zero, evs, evx, evc, asTf, asTt, wp_bind, wp_pure, wp_ite, if_true, if_false, wp_theB, Bool.not_true, Bool.not_false, Bool.not_not, wp_force, wp_forceT, wp_push, cmpX, Bool.false_eq_true, List.map_cons, List.map_nil, List.replicate, List.cons_append, List.nil_append, List.set_cons_zero, List.set_cons_succ, bindT_nm, bindT2, wipeE, partX, wp_tru_bl, wp_tru_tup, wp_tru_tl, wp_tru_int, wp_tru_non, wp_eq_str, wp_eq_int, wp_eq_bl, wp_lt_int, wp_len_tup, wp_len_tl, wp_items_tup, wp_items_tl, wp_litems_tl, wp_walk_tup, wp_walk_tl, wp_idx_tup (at0 _ _), wp_idx_tup (at1 _ _ _), wp_idx_tup (at2 _ _ _ _), wp_idx_tup (at3 _ _ _ _ _), cut1, decide_eq_true_eq, wp_tuple, wp_list_tup, wp_int, wp_addi, wp_subi, setAll, wp_unpack_tup, isiStr_str, isiTup_tup, isiTl]
      rw [wp_addol ((W4.more T).get _) (by unfold sizeLine; simp; omega)]
      try simp only [ev_var, ev_glb, ev_isV, ev_cint, ev_cstr, ev_cnon, ev_cbl, ev_tup, ev_lst, ev_dct0, ev_bin, ev_notf, ev_nott, ev_and, ev_or, ev_cmp, ev_chn, ev_ite, ev_call, ev_blt, ev_mth, ev_idx, ev_slc, ev_frc, ev_lc, ev_callk, ev_neg, varX, glX, List.getElem?_cons_succ, List.getElem?_cons_zero, evs, evx, evc, asTf, asTt, wp_bind, wp_pure, wp_ite, if_true, if_false, wp_theB, Bool.not_true, Bool.not_false, Bool.not_not, wp_force, wp_forceT, wp_push, cmpX, Bool.false_eq_true, List.map_cons, List.map_nil, List.replicate, List.cons_append, List.nil_append, List.set_cons_zero, List.set_cons_succ, bindT_nm, bindT2, wipeE, partX, wp_tru_bl, wp_tru_tup, wp_tru_tl, wp_tru_int, wp_tru_non, wp_eq_str, wp_eq_int, wp_eq_bl, wp_lt_int, wp_len_tup, wp_len_tl, wp_items_tup, wp_items_tl, wp_litems_tl, wp_walk_tup, wp_walk_tl, wp_idx_tup (at0 _ _), wp_idx_tup (at1 _ _ _), wp_idx_tup (at2 _ _ _ _), wp_idx_tup (at3 _ _ _ _ _), cut1, decide_eq_true_eq, wp_tuple, wp_list_tup, wp_int, wp_addi, wp_subi, setAll, wp_unpack_tup, isiStr_str, isiTup_tup, isiTl]
      rw [set_app hlT, List.length_set]
      refine lfact_ok K.f16 K.f18 K.f20 (by simp; omega) ((W1.more T).more _) ((W2.more T).more _) (.new hlT (app_all W4.ok (wOk_list (by decide +kernel))) (by simp) (by simp; omega)) (b := 970000000 + 20 * n) (h.less (by omega)) (by omega) fun d c m q hd h => ?_
      try simp only [ev_var, ev_glb, ev_isV, ev_cint, ev_cstr, ev_cnon, ev_cbl, ev_tup, ev_lst, ev_dct0, ev_bin, ev_notf, ev_nott, ev_and, ev_or, ev_cmp, ev_chn, ev_ite, ev_call, ev_blt, ev_mth, ev_idx, ev_slc, ev_frc, ev_lc, ev_callk, ev_neg, varX, glX, List.getElem?_cons_succ, List.getElem?_cons_zero, evs, evx, evc, asTf, asTt, wp_bind, wp_pure, wp_ite, if_true, if_false, wp_theB, Bool.not_true, Bool.not_false, Bool.not_not, wp_force, wp_forceT, wp_push, cmpX, Bool.false_eq_true, List.map_cons, List.map_nil, List.replicate, List.cons_append, List.nil_append, List.set_cons_zero, List.set_cons_succ, bindT_nm, bindT2, wipeE, partX, wp_tru_bl, wp_tru_tup, wp_tru_tl, wp_tru_int, wp_tru_non, wp_eq_str, wp_eq_int, wp_eq_bl, wp_lt_int, wp_len_tup, wp_len_tl, wp_items_tup, wp_items_tl, wp_litems_tl, wp_walk_tup, wp_walk_tl, wp_idx_tup (at0 _ _), wp_idx_tup (at1 _ _ _), wp_idx_tup (at2 _ _ _ _), wp_idx_tup (at3 _ _ _ _ _), cut1, decide_eq_true_eq, wp_tuple, wp_list_tup, wp_int, wp_addi, wp_subi, setAll, wp_unpack_tup, isiStr_str, isiTup_tup, isiTl]
      exact ⟨hd, T ++ [_], _, _, _, by rw [List.append_assoc], h⟩
    rintro cs S1 hcl hcs ⟨T, c, m, q, rfl, h⟩
    have hcl : cs.length = 4 := by simpa using hcl
    rw [List.reverse_nil, List.nil_append]
    try simp only [ev_var, ev_glb, ev_isV, ev_cint, ev_cstr, ev_cnon, ev_cbl, ev_tup, ev_lst, ev_dct0, ev_bin, ev_notf, ev_nott, ev_and, ev_or, ev_cmp, ev_chn, ev_ite, ev_call, ev_blt, ev_mth, ev_idx, ev_slc, ev_frc, ev_lc, ev_callk, ev_neg, varX, glX, List.getElem?_cons_succ, List.getElem?_cons_zero, evs, evx, evc, asTf, asTt, wp_bind, wp_pure, wp_ite, if_true, if_false, wp_theB, Bool.not_true, Bool.not_false, Bool.not_not, wp_force, wp_forceT, wp_push, cmpX, Bool.false_eq_true, List.map_cons, List.map_nil, List.replicate, List.cons_append, List.nil_append, List.set_cons_zero, List.set_cons_succ, bindT_nm, bindT2, wipeE, partX, wp_tru_bl, wp_tru_tup, wp_tru_tl, wp_tru_int, wp_tru_non, wp_eq_str, wp_eq_int, wp_eq_bl, wp_lt_int, wp_len_tup, wp_len_tl, wp_items_tup, wp_items_tl, wp_litems_tl, wp_walk_tup, wp_walk_tl, wp_idx_tup (at0 _ _), wp_idx_tup (at1 _ _ _), wp_idx_tup (at2 _ _ _ _), wp_idx_tup (at3 _ _ _ _ _), cut1, decide_eq_true_eq, wp_tuple, wp_list_tup, wp_int, wp_addi, wp_subi, setAll, wp_unpack_tup, isiStr_str, isiTup_tup, isiTl]
    rw [wp_addol (gt T _) (by unfold sizeLine; omega)]
    try simp only [ev_var, ev_glb, ev_isV, ev_cint, ev_cstr, ev_cnon, ev_cbl, ev_tup, ev_lst, ev_dct0, ev_bin, ev_notf, ev_nott, ev_and, ev_or, ev_cmp, ev_chn, ev_ite, ev_call, ev_blt, ev_mth, ev_idx, ev_slc, ev_frc, ev_lc, ev_callk, ev_neg, varX, glX, List.getElem?_cons_succ, List.getElem?_cons_zero, evs, evx, evc, asTf, asTt, wp_bind, wp_pure, wp_ite, if_true, if_false, wp_theB, Bool.not_true, Bool.not_false, Bool.not_not, wp_force, wp_forceT, wp_push, cmpX, Bool.false_eq_true, List.map_cons, List.map_nil, List.replicate, List.cons_append, List.nil_append, List.set_cons_zero, List.set_cons_succ, bindT_nm, bindT2, wipeE, partX, wp_tru_bl, wp_tru_tup, wp_tru_tl, wp_tru_int, wp_tru_non, wp_eq_str, wp_eq_int, wp_eq_bl, wp_lt_int, wp_len_tup, wp_len_tl, wp_items_tup, wp_items_tl, wp_litems_tl, wp_walk_tup, wp_walk_tl, wp_idx_tup (at0 _ _), wp_idx_tup (at1 _ _ _), wp_idx_tup (at2 _ _ _ _), wp_idx_tup (at3 _ _ _ _ _), cut1, decide_eq_true_eq, wp_tuple, wp_list_tup, wp_int, wp_addi, wp_subi, setAll, wp_unpack_tup, isiStr_str, isiTup_tup, isiTl]
    have hlT : l < (A4 ++ T).length := by simp; omega
    rw [set_app hlT, List.length_set]
    have g6 : (A4 ++ T ++ [Ob.lst (ss ++ cs)])[(A4 ++ T).length]? = some (.lst (ss ++ cs)) := by simp
    have n6 : l ≠ (A4 ++ T).length := by omega
    replace W2 := (W2.more T).more [Ob.lst (ss ++ cs)]
    have hl6 : l < (A4 ++ T ++ [Ob.lst (ss ++ cs)]).length := by simp; omega
    generalize A4 ++ T ++ [Ob.lst (ss ++ cs)] = A5 at W2 hl6 g6 ⊢
    generalize (A4 ++ T).length = a6 at g6 n6 ⊢
    clear hl5 W1 W4 g5 gt hlT
    -- claims: three more
    obtain ⟨u, eu, hu⟩ := W2.first
    obtain ⟨v, ev, hv⟩ := W2.last
    have heve : WOk (.str "eve") := .of (by decide +kernel)
    rw [xs_set]
    try simp only [ev_var, ev_glb, ev_isV, ev_cint, ev_cstr, ev_cnon, ev_cbl, ev_tup, ev_lst, ev_dct0, ev_bin, ev_notf, ev_nott, ev_and, ev_or, ev_cmp, ev_chn, ev_ite, ev_call, ev_blt, ev_mth, ev_idx, ev_slc, ev_frc, ev_lc, ev_callk, ev_neg, varX, glX, List.getElem?_cons_succ, List.getElem?_cons_zero, evs, evx, evc, asTf, asTt, wp_bind, wp_pure, wp_ite, if_true, if_false, wp_theB, Bool.not_true, Bool.not_false, Bool.not_not, wp_force, wp_forceT, wp_push, cmpX, Bool.false_eq_true, List.map_cons, List.map_nil, List.replicate, List.cons_append, List.nil_append, List.set_cons_zero, List.set_cons_succ, bindT_nm, bindT2, wipeE, partX, wp_tru_bl, wp_tru_tup, wp_tru_tl, wp_tru_int, wp_tru_non, wp_eq_str, wp_eq_int, wp_eq_bl, wp_lt_int, wp_len_tup, wp_len_tl, wp_items_tup, wp_items_tl, wp_litems_tl, wp_walk_tup, wp_walk_tl, wp_idx_tup (at0 _ _), wp_idx_tup (at1 _ _ _), wp_idx_tup (at2 _ _ _ _), wp_idx_tup (at3 _ _ _ _ _), cut1, decide_eq_true_eq, wp_tuple, wp_list_tup, wp_int, wp_addi, wp_subi, setAll, wp_unpack_tup, isiStr_str, isiTup_tup, isiTl]
    have g7 : ∀ o : Ob, (A5.set l o)[a6]? = some (.lst (ss ++ cs)) := fun o => by rw [List.getElem?_set_ne n6]; exact g6
    simp only [wp_idx_loc (W2.get _) eu, wp_idx_loc (W2.get _) ev, wp_negi, ev_var, ev_glb, ev_isV, ev_cint, ev_cstr, ev_cnon, ev_cbl, ev_tup, ev_lst, ev_dct0, ev_bin, ev_notf, ev_nott, ev_and, ev_or, ev_cmp, ev_chn, ev_ite, ev_call, ev_blt, ev_mth, ev_idx, ev_slc, ev_frc, ev_lc, ev_callk, ev_neg, varX, glX, List.getElem?_cons_succ, List.getElem?_cons_zero, evs, evx, evc, asTf, asTt, wp_bind, wp_pure, wp_ite, if_true, if_false, wp_theB, Bool.not_true, Bool.not_false, Bool.not_not, wp_force, wp_forceT, wp_push, cmpX, Bool.false_eq_true, List.map_cons, List.map_nil, List.replicate, List.cons_append, List.nil_append, List.set_cons_zero, List.set_cons_succ, bindT_nm, bindT2, wipeE, partX, wp_tru_bl, wp_tru_tup, wp_tru_tl, wp_tru_int, wp_tru_non, wp_eq_str, wp_eq_int, wp_eq_bl, wp_lt_int, wp_len_tup, wp_len_tl, wp_items_tup, wp_items_tl, wp_litems_tl, wp_walk_tup, wp_walk_tl, wp_idx_tup (at0 _ _), wp_idx_tup (at1 _ _ _), wp_idx_tup (at2 _ _ _ _), wp_idx_tup (at3 _ _ _ _ _), cut1, decide_eq_true_eq, wp_tuple, wp_list_tup, wp_int, wp_addi, wp_subi, setAll, wp_unpack_tup, isiStr_str, isiTup_tup, isiTl]
    rw [wp_addol (g7 _) (by unfold sizeLine; simp; omega)]
    try simp only [ev_var, ev_glb, ev_isV, ev_cint, ev_cstr, ev_cnon, ev_cbl, ev_tup, ev_lst, ev_dct0, ev_bin, ev_notf, ev_nott, ev_and, ev_or, ev_cmp, ev_chn, ev_ite, ev_call, ev_blt, ev_mth, ev_idx, ev_slc, ev_frc, ev_lc, ev_callk, ev_neg, varX, glX, List.getElem?_cons_succ, List.getElem?_cons_zero, evs, evx, evc, asTf, asTt, wp_bind, wp_pure, wp_ite, if_true, if_false, wp_theB, Bool.not_true, Bool.not_false, Bool.not_not, wp_force, wp_forceT, wp_push, cmpX, Bool.false_eq_true, List.map_cons, List.map_nil, List.replicate, List.cons_append, List.nil_append, List.set_cons_zero, List.set_cons_succ, bindT_nm, bindT2, wipeE, partX, wp_tru_bl, wp_tru_tup, wp_tru_tl, wp_tru_int, wp_tru_non, wp_eq_str, wp_eq_int, wp_eq_bl, wp_lt_int, wp_len_tup, wp_len_tl, wp_items_tup, wp_items_tl, wp_litems_tl, wp_walk_tup, wp_walk_tl, wp_idx_tup (at0 _ _), wp_idx_tup (at1 _ _ _), wp_idx_tup (at2 _ _ _ _), wp_idx_tup (at3 _ _ _ _ _), cut1, decide_eq_true_eq, wp_tuple, wp_list_tup, wp_int, wp_addi, wp_subi, setAll, wp_unpack_tup, isiStr_str, isiTup_tup, isiTl]
    rw [set_app hl6, List.length_set]
    have hc0 : ∀ d ∈ ss ++ cs, Cl d := app_all (fun d hd => (hss d hd).1) fun d hd => .fact (hcs d hd)
    have hcl : ∀ d ∈ ss ++ cs ++ [D.tup [.str "to", .str "eve", u, .str "eve"], .tup [.str "role", u, v], .tup [.str "chain", u, v, u]], Cl d := app_all hc0 fun d hd => by
      simp only [List.mem_cons, List.not_mem_nil, or_false] at hd
      rcases hd with rfl | rfl | rfl
      · exact .fact (.to_ heve hu heve)
      · exact .role hu hv
      · exact .chain hu hv hu
    have at8 : at_ (ss ++ cs ++ [D.tup [.str "to", .str "eve", u, .str "eve"], .tup [.str "role", u, v], .tup [.str "chain", u, v, u]]) 8 = some (.tup [.str "to", .str "eve", u, .str "eve"]) := by
      have : at_ (ss ++ cs ++ [D.tup [.str "to", .str "eve", u, .str "eve"], .tup [.str "role", u, v], .tup [.str "chain", u, v, u]]) ((8 : Nat) : Int) = _ := at_nat _ 8 (by simp; omega)
      rw [List.getElem?_append_right (by simp; omega)] at this
      have e8 : 8 - (ss ++ cs).length = 0 := by simp; omega
      rw [e8] at this
      exact this
    have at00 : ∃ y, at_ (ss ++ cs ++ [D.tup [.str "to", .str "eve", u, .str "eve"], .tup [.str "role", u, v], .tup [.str "chain", u, v, u]]) 0 = some y ∧ Cl y ∧ ¬ Fc y := by
      rcases ss with _ | ⟨y, ss⟩
      · simp at hs
      · exact ⟨y, at0 _ _, hss y (by simp)⟩
    obtain ⟨y, at00, hy1, hy2⟩ := at00
    have g8 : (A5 ++ [Ob.lst (ss ++ cs ++ [D.tup [.str "to", .str "eve", u, .str "eve"], .tup [.str "role", u, v], .tup [.str "chain", u, v, u]])])[A5.length]? = some (.lst (ss ++ cs ++ [D.tup [.str "to", .str "eve", u, .str "eve"], .tup [.str "role", u, v], .tup [.str "chain", u, v, u]])) := by simp
    have n8 : l ≠ A5.length := by omega
    have hl8 : l < (A5 ++ [Ob.lst (ss ++ cs ++ [D.tup [.str "to", .str "eve", u, .str "eve"], .tup [.str "role", u, v], .tup [.str "chain", u, v, u]])]).length := by simp; omega
    generalize A5 ++ [Ob.lst (ss ++ cs ++ [D.tup [.str "to", .str "eve", u, .str "eve"], .tup [.str "role", u, v], .tup [.str "chain", u, v, u]])] = A6 at hl8 g8 ⊢
    generalize A5.length = a8 at g8 n8 ⊢
    generalize ss ++ cs ++ [D.tup [.str "to", .str "eve", u, .str "eve"], .tup [.str "role", u, v], .tup [.str "chain", u, v, u]] = cl at hcl at8 at00 g8 ⊢
    have g9 : ∀ o : Ob, (A6.set l o)[a8]? = some (.lst cl) := fun o => by rw [List.getElem?_set_ne n8]; exact g8
    clear g6 g7 g8 hl6 hc0 W2
    -- each claim
    rw [xs_for]
    try simp only [ev_var, ev_glb, ev_isV, ev_cint, ev_cstr, ev_cnon, ev_cbl, ev_tup, ev_lst, ev_dct0, ev_bin, ev_notf, ev_nott, ev_and, ev_or, ev_cmp, ev_chn, ev_ite, ev_call, ev_blt, ev_mth, ev_idx, ev_slc, ev_frc, ev_lc, ev_callk, ev_neg, varX, glX, List.getElem?_cons_succ, List.getElem?_cons_zero, evs, evx, evc, asTf, asTt, wp_bind, wp_pure, wp_ite, if_true, if_false, wp_theB, Bool.not_true, Bool.not_false, Bool.not_not, wp_force, wp_forceT, wp_push, cmpX, Bool.false_eq_true, List.map_cons, List.map_nil, List.replicate, List.cons_append, List.nil_append, List.set_cons_zero, List.set_cons_succ, bindT_nm, bindT2, wipeE, partX, wp_tru_bl, wp_tru_tup, wp_tru_tl, wp_tru_int, wp_tru_non, wp_eq_str, wp_eq_int, wp_eq_bl, wp_lt_int, wp_len_tup, wp_len_tl, wp_items_tup, wp_items_tl, wp_litems_tl, wp_walk_tup, wp_walk_tl, wp_idx_tup (at0 _ _), wp_idx_tup (at1 _ _ _), wp_idx_tup (at2 _ _ _ _), wp_idx_tup (at3 _ _ _ _ _), cut1, decide_eq_true_eq, wp_tuple, wp_list_tup, wp_int, wp_addi, wp_subi, setAll, wp_unpack_tup, isiStr_str, isiTup_tup, isiTl]
    rw [wp_walk_loc (g9 _)]
    try simp only [ev_var, ev_glb, ev_isV, ev_cint, ev_cstr, ev_cnon, ev_cbl, ev_tup, ev_lst, ev_dct0, ev_bin, ev_notf, ev_nott, ev_and, ev_or, ev_cmp, ev_chn, ev_ite, ev_call, ev_blt, ev_mth, ev_idx, ev_slc, ev_frc, ev_lc, ev_callk, ev_neg, varX, glX, List.getElem?_cons_succ, List.getElem?_cons_zero, evs, evx, evc, asTf, asTt, wp_bind, wp_pure, wp_ite, if_true, if_false, wp_theB, Bool.not_true, Bool.not_false, Bool.not_not, wp_force, wp_forceT, wp_push, cmpX, Bool.false_eq_true, List.map_cons, List.map_nil, List.replicate, List.cons_append, List.nil_append, List.set_cons_zero, List.set_cons_succ, bindT_nm, bindT2, wipeE, partX, wp_tru_bl, wp_tru_tup, wp_tru_tl, wp_tru_int, wp_tru_non, wp_eq_str, wp_eq_int, wp_eq_bl, wp_lt_int, wp_len_tup, wp_len_tl, wp_items_tup, wp_items_tl, wp_litems_tl, wp_walk_tup, wp_walk_tl, wp_idx_tup (at0 _ _), wp_idx_tup (at1 _ _ _), wp_idx_tup (at2 _ _ _ _), wp_idx_tup (at3 _ _ _ _ _), cut1, decide_eq_true_eq, wp_tuple, wp_list_tup, wp_int, wp_addi, wp_subi, setAll, wp_unpack_tup, isiStr_str, isiTup_tup, isiTl]
    have hst : still [(a8, cl)] (A6.set l (pOb c m q)) = true := by simp [still, g9]
    refine wp_forRun_inv (fun es ρ S1 => S1 = A6.set l (pOb c m q) ∧ (∀ d ∈ es, Cl d) ∧ ∃ x6, ρ = [some (.rol ns), some (.int n), some (.loc l), some (.loc a4), some (.tup fs), some (.loc a8), x6, x7, x8, x9, some (.loc a1), some (.loc a2), some (.loc a3), x13]) (fun _ _ _ h => by rw [h.1]; exact hst) ?_ ?_ _ _ _ ⟨rfl, hcl, x6, rfl⟩
    · rintro d es ρ S1 ⟨rfl, hes, x6, rfl⟩
      obtain ⟨v, w, pv, dv, pw, dw, r1, r2, r3, r4⟩ := ask_same K F (by omega) (hes d (by simp))
      simp only [ev_var, ev_glb, ev_isV, ev_cint, ev_cstr, ev_cnon, ev_cbl, ev_tup, ev_lst, ev_dct0, ev_bin, ev_notf, ev_nott, ev_and, ev_or, ev_cmp, ev_chn, ev_ite, ev_call, ev_blt, ev_mth, ev_idx, ev_slc, ev_frc, ev_lc, ev_callk, ev_neg, varX, glX, List.getElem?_cons_succ, List.getElem?_cons_zero, evs, evx, evc, asTf, asTt, wp_bind, wp_pure, wp_ite, if_true, if_false, wp_theB, Bool.not_true, Bool.not_false, Bool.not_not, wp_force, wp_forceT, wp_push, cmpX, Bool.false_eq_true, List.map_cons, List.map_nil, List.replicate, List.cons_append, List.nil_append, List.set_cons_zero, List.set_cons_succ, bindT_nm, bindT2, wipeE, partX, xs_nil, xs_set, xs_setT, xs_par, xs_sub, xs_exp, xs_if, xs_for, xs_ret, xs_ret0, xs_rai0, xs_pass, seqQ_nx, seqQ_ret, retQ_ret, retQ_nx, wp_tru_bl, wp_tru_tup, wp_tru_tl, wp_tru_int, wp_tru_non, wp_eq_str, wp_eq_int, wp_eq_bl, wp_lt_int, wp_len_tup, wp_len_tl, wp_items_tup, wp_items_tl, wp_litems_tl, wp_walk_tup, wp_walk_tl, wp_idx_tup (at0 _ _), wp_idx_tup (at1 _ _ _), wp_idx_tup (at2 _ _ _ _), wp_idx_tup (at3 _ _ _ _ _), cut1, decide_eq_true_eq, wp_tuple, wp_list_tup, wp_int, wp_addi, wp_subi, setAll, wp_unpack_tup, isiStr_str, isiTup_tup, isiTl, perm2]
      refine r1 _ _ _ _ (by omega) ?_
      refine r2 _ _ _ _ (by omega) ?_
      refine same_ok K.f17 20 dv (by omega) pv ?_
      simp only [ev_var, ev_glb, ev_isV, ev_cint, ev_cstr, ev_cnon, ev_cbl, ev_tup, ev_lst, ev_dct0, ev_bin, ev_notf, ev_nott, ev_and, ev_or, ev_cmp, ev_chn, ev_ite, ev_call, ev_blt, ev_mth, ev_idx, ev_slc, ev_frc, ev_lc, ev_callk, ev_neg, varX, glX, List.getElem?_cons_succ, List.getElem?_cons_zero, evs, evx, evc, asTf, asTt, wp_bind, wp_pure, wp_ite, if_true, if_false, wp_theB, Bool.not_true, Bool.not_false, Bool.not_not, wp_force, wp_forceT, wp_push, cmpX, Bool.false_eq_true, List.map_cons, List.map_nil, List.replicate, List.cons_append, List.nil_append, List.set_cons_zero, List.set_cons_succ, bindT_nm, bindT2, wipeE, partX, xs_nil, xs_set, xs_setT, xs_par, xs_sub, xs_exp, xs_if, xs_for, xs_ret, xs_ret0, xs_rai0, xs_pass, seqQ_nx, seqQ_ret, retQ_ret, retQ_nx, wp_tru_bl, wp_tru_tup, wp_tru_tl, wp_tru_int, wp_tru_non, wp_eq_str, wp_eq_int, wp_eq_bl, wp_lt_int, wp_len_tup, wp_len_tl, wp_items_tup, wp_items_tl, wp_litems_tl, wp_walk_tup, wp_walk_tl, wp_idx_tup (at0 _ _), wp_idx_tup (at1 _ _ _), wp_idx_tup (at2 _ _ _ _), wp_idx_tup (at3 _ _ _ _ _), cut1, decide_eq_true_eq, wp_tuple, wp_list_tup, wp_int, wp_addi, wp_subi, setAll, wp_unpack_tup, isiStr_str, isiTup_tup, isiTl, perm2]
      refine r3 _ _ _ _ (by omega) ?_
      refine r4 _ _ _ _ (by omega) ?_
      refine same_ok K.f17 20 dw (by omega) pw ?_
      simp only [ev_var, ev_glb, ev_isV, ev_cint, ev_cstr, ev_cnon, ev_cbl, ev_tup, ev_lst, ev_dct0, ev_bin, ev_notf, ev_nott, ev_and, ev_or, ev_cmp, ev_chn, ev_ite, ev_call, ev_blt, ev_mth, ev_idx, ev_slc, ev_frc, ev_lc, ev_callk, ev_neg, varX, glX, List.getElem?_cons_succ, List.getElem?_cons_zero, evs, evx, evc, asTf, asTt, wp_bind, wp_pure, wp_ite, if_true, if_false, wp_theB, Bool.not_true, Bool.not_false, Bool.not_not, wp_force, wp_forceT, wp_push, cmpX, Bool.false_eq_true, List.map_cons, List.map_nil, List.replicate, List.cons_append, List.nil_append, List.set_cons_zero, List.set_cons_succ, bindT_nm, bindT2, wipeE, partX, xs_nil, xs_set, xs_setT, xs_par, xs_sub, xs_exp, xs_if, xs_for, xs_ret, xs_ret0, xs_rai0, xs_pass, seqQ_nx, seqQ_ret, retQ_ret, retQ_nx, wp_tru_bl, wp_tru_tup, wp_tru_tl, wp_tru_int, wp_tru_non, wp_eq_str, wp_eq_int, wp_eq_bl, wp_lt_int, wp_len_tup, wp_len_tl, wp_items_tup, wp_items_tl, wp_litems_tl, wp_walk_tup, wp_walk_tl, wp_idx_tup (at0 _ _), wp_idx_tup (at1 _ _ _), wp_idx_tup (at2 _ _ _ _), wp_idx_tup (at3 _ _ _ _ _), cut1, decide_eq_true_eq, wp_tuple, wp_list_tup, wp_int, wp_addi, wp_subi, setAll, wp_unpack_tup, isiStr_str, isiTup_tup, isiTl]
      exact ⟨trivial, fun x hx => hes x (List.mem_cons_of_mem _ hx), _, rfl⟩
    rintro ρ S1 ⟨rfl, _, x6', rfl⟩
    rw [seqQ_nx]
    obtain ⟨hx, r0, rfl, pr, dr, cr⟩ := first_ok hy1 hy2
    have g10 : ∀ (o : Ob) (T : Sto), (A6.set l o ++ T)[a8]? = some (.lst cl) := fun o T => by
      rw [List.getElem?_append_left (List.getElem?_eq_some_iff.mp (g9 o)).1]
      exact g9 o
    -- which
    rw [xs_set]
    try simp only [ev_var, ev_glb, ev_isV, ev_cint, ev_cstr, ev_cnon, ev_cbl, ev_tup, ev_lst, ev_dct0, ev_bin, ev_notf, ev_nott, ev_and, ev_or, ev_cmp, ev_chn, ev_ite, ev_call, ev_blt, ev_mth, ev_idx, ev_slc, ev_frc, ev_lc, ev_callk, ev_neg, varX, glX, List.getElem?_cons_succ, List.getElem?_cons_zero, evs, evx, evc, asTf, asTt, wp_bind, wp_pure, wp_ite, if_true, if_false, wp_theB, Bool.not_true, Bool.not_false, Bool.not_not, wp_force, wp_forceT, wp_push, cmpX, Bool.false_eq_true, List.map_cons, List.map_nil, List.replicate, List.cons_append, List.nil_append, List.set_cons_zero, List.set_cons_succ, bindT_nm, bindT2, wipeE, partX, wp_tru_bl, wp_tru_tup, wp_tru_tl, wp_tru_int, wp_tru_non, wp_eq_str, wp_eq_int, wp_eq_bl, wp_lt_int, wp_len_tup, wp_len_tl, wp_items_tup, wp_items_tl, wp_litems_tl, wp_walk_tup, wp_walk_tl, wp_idx_tup (at0 _ _), wp_idx_tup (at1 _ _ _), wp_idx_tup (at2 _ _ _ _), wp_idx_tup (at3 _ _ _ _ _), cut1, decide_eq_true_eq, wp_tuple, wp_list_tup, wp_int, wp_addi, wp_subi, setAll, wp_unpack_tup, isiStr_str, isiTup_tup, isiTl]
    refine pull_ok K.f16 hl8 (b := 960000000) (h.less (by omega)) (by omega) (by omega) (by omega) fun wh c m q _ _ h => ?_
    try simp only [ev_var, ev_glb, ev_isV, ev_cint, ev_cstr, ev_cnon, ev_cbl, ev_tup, ev_lst, ev_dct0, ev_bin, ev_notf, ev_nott, ev_and, ev_or, ev_cmp, ev_chn, ev_ite, ev_call, ev_blt, ev_mth, ev_idx, ev_slc, ev_frc, ev_lc, ev_callk, ev_neg, varX, glX, List.getElem?_cons_succ, List.getElem?_cons_zero, evs, evx, evc, asTf, asTt, wp_bind, wp_pure, wp_ite, if_true, if_false, wp_theB, Bool.not_true, Bool.not_false, Bool.not_not, wp_force, wp_forceT, wp_push, cmpX, Bool.false_eq_true, List.map_cons, List.map_nil, List.replicate, List.cons_append, List.nil_append, List.set_cons_zero, List.set_cons_succ, bindT_nm, bindT2, wipeE, partX, wp_tru_bl, wp_tru_tup, wp_tru_tl, wp_tru_int, wp_tru_non, wp_eq_str, wp_eq_int, wp_eq_bl, wp_lt_int, wp_len_tup, wp_len_tl, wp_items_tup, wp_items_tl, wp_litems_tl, wp_walk_tup, wp_walk_tl, wp_idx_tup (at0 _ _), wp_idx_tup (at1 _ _ _), wp_idx_tup (at2 _ _ _ _), wp_idx_tup (at3 _ _ _ _ _), cut1, decide_eq_true_eq, wp_tuple, wp_list_tup, wp_int, wp_addi, wp_subi, setAll, wp_unpack_tup, isiStr_str, isiTup_tup, isiTl]
    -- odd
    rw [xs_set]
    simp only [ev_var, ev_glb, ev_isV, ev_cint, ev_cstr, ev_cnon, ev_cbl, ev_tup, ev_lst, ev_dct0, ev_bin, ev_notf, ev_nott, ev_and, ev_or, ev_cmp, ev_chn, ev_ite, ev_call, ev_blt, ev_mth, ev_idx, ev_slc, ev_frc, ev_lc, ev_callk, ev_neg, varX, glX, List.getElem?_cons_succ, List.getElem?_cons_zero, evs, evx, evc, asTf, asTt, wp_bind, wp_pure, wp_ite, if_true, if_false, wp_theB, Bool.not_true, Bool.not_false, Bool.not_not, wp_force, wp_forceT, wp_push, cmpX, Bool.false_eq_true, List.map_cons, List.map_nil, List.replicate, List.cons_append, List.nil_append, List.set_cons_zero, List.set_cons_succ, bindT_nm, bindT2, wipeE, partX, wp_tru_bl, wp_tru_tup, wp_tru_tl, wp_tru_int, wp_tru_non, wp_eq_str, wp_eq_int, wp_eq_bl, wp_lt_int, wp_len_tup, wp_len_tl, wp_items_tup, wp_items_tl, wp_litems_tl, wp_walk_tup, wp_walk_tl, wp_idx_tup (at0 _ _), wp_idx_tup (at1 _ _ _), wp_idx_tup (at2 _ _ _ _), wp_idx_tup (at3 _ _ _ _ _), cut1, decide_eq_true_eq, wp_tuple, wp_list_tup, wp_int, wp_addi, wp_subi, setAll, wp_unpack_tup, isiStr_str, isiTup_tup, isiTl, wp_idx_loc (g9 _) at00, wp_idx_loc (g10 _ _) at00, List.length_set]
    rw [set_app hl8]
    have hl9 : l < (A6 ++ [Ob.lst (hx :: r0)]).length := by simp; omega
    refine pull_ok K.f16 hl9 (b := 950000000) (h.less (by omega)) (by omega) (by omega) (by omega) fun r6 c m q r60 r61 h => ?_
    obtain ⟨o, eo, ho⟩ := at_ok (ds := [.non, .tup [], .loc A6.length, .tup r0, .tup [.str "is", .str "ann", .str "a"], .loc a8]) r60 (by simp; omega)
    have a8l : a8 < A6.length := by
      have := (List.getElem?_eq_some_iff.mp (g9 (pOb 0 0 0))).1
      simpa using this
    have pann : Pl (.tup [.str "is", .str "ann", .str "a"]) := .t3 (.s (by decide)) (.s (by decide)) (.s (by decide))
    have hodd : ∀ S : Sto, A6.length + 1 ≤ S.length → Odd S o := fun S hS => by
      simp only [List.mem_cons, List.not_mem_nil, or_false] at ho
      rcases ho with rfl | rfl | rfl | rfl | rfl | rfl
      · exact ⟨rfl, by simp [D.dep], by simp [isTupD], rfl⟩
      · exact ⟨rfl, by simp [D.dep, D.deps], fun _ => .tup nil_all, rfl⟩
      · exact ⟨by simp only [D.und, decide_eq_true_eq]; omega, by simp [D.dep], by simp [isTupD], rfl⟩
      · exact ⟨pr.und _, dr, fun _ => pr, cr⟩
      · exact ⟨pann.und _, by simp [D.dep, D.deps], fun _ => pann, ann_no⟩
      · exact ⟨by simp only [D.und, decide_eq_true_eq]; omega, by simp [D.dep], by simp [isTupD], rfl⟩
    rw [wp_idx_tl eo]
    have g11 : ∀ (o : Ob) (T : Sto), ((A6 ++ [Ob.lst (hx :: r0)]).set l o ++ T)[a8]? = some (.lst cl) := fun o T => by
      rw [← set_app hl8, List.append_assoc]
      exact g10 _ _
    have c3 : ∀ a b c d : D, cutD [a, b, c, d] none (some 3) = [a, b, c] := fun a b c d => cutTo _ 3
    try simp only [ev_var, ev_glb, ev_isV, ev_cint, ev_cstr, ev_cnon, ev_cbl, ev_tup, ev_lst, ev_dct0, ev_bin, ev_notf, ev_nott, ev_and, ev_or, ev_cmp, ev_chn, ev_ite, ev_call, ev_blt, ev_mth, ev_idx, ev_slc, ev_frc, ev_lc, ev_callk, ev_neg, varX, glX, List.getElem?_cons_succ, List.getElem?_cons_zero, evs, evx, evc, asTf, asTt, wp_bind, wp_pure, wp_ite, if_true, if_false, wp_theB, Bool.not_true, Bool.not_false, Bool.not_not, wp_force, wp_forceT, wp_push, cmpX, Bool.false_eq_true, List.map_cons, List.map_nil, List.replicate, List.cons_append, List.nil_append, List.set_cons_zero, List.set_cons_succ, bindT_nm, bindT2, wipeE, partX, wp_tru_bl, wp_tru_tup, wp_tru_tl, wp_tru_int, wp_tru_non, wp_eq_str, wp_eq_int, wp_eq_bl, wp_lt_int, wp_len_tup, wp_len_tl, wp_items_tup, wp_items_tl, wp_litems_tl, wp_walk_tup, wp_walk_tl, wp_idx_tup (at0 _ _), wp_idx_tup (at1 _ _ _), wp_idx_tup (at2 _ _ _ _), wp_idx_tup (at3 _ _ _ _ _), cut1, decide_eq_true_eq, wp_tuple, wp_list_tup, wp_int, wp_addi, wp_subi, setAll, wp_unpack_tup, isiStr_str, isiTup_tup, isiTl]
    clear ho eo
    -- bad
    rw [xs_set]
    simp only [ev_var, ev_glb, ev_isV, ev_cint, ev_cstr, ev_cnon, ev_cbl, ev_tup, ev_lst, ev_dct0, ev_bin, ev_notf, ev_nott, ev_and, ev_or, ev_cmp, ev_chn, ev_ite, ev_call, ev_blt, ev_mth, ev_idx, ev_slc, ev_frc, ev_lc, ev_callk, ev_neg, varX, glX, List.getElem?_cons_succ, List.getElem?_cons_zero, evs, evx, evc, asTf, asTt, wp_bind, wp_pure, wp_ite, if_true, if_false, wp_theB, Bool.not_true, Bool.not_false, Bool.not_not, wp_force, wp_forceT, wp_push, cmpX, Bool.false_eq_true, List.map_cons, List.map_nil, List.replicate, List.cons_append, List.nil_append, List.set_cons_zero, List.set_cons_succ, bindT_nm, bindT2, wipeE, partX, wp_tru_bl, wp_tru_tup, wp_tru_tl, wp_tru_int, wp_tru_non, wp_eq_str, wp_eq_int, wp_eq_bl, wp_lt_int, wp_len_tup, wp_len_tl, wp_items_tup, wp_items_tl, wp_litems_tl, wp_walk_tup, wp_walk_tl, wp_idx_tup (at0 _ _), wp_idx_tup (at1 _ _ _), wp_idx_tup (at2 _ _ _ _), wp_idx_tup (at3 _ _ _ _ _), cut1, decide_eq_true_eq, wp_tuple, wp_list_tup, wp_int, wp_addi, wp_subi, setAll, wp_unpack_tup, isiStr_str, isiTup_tup, isiTl, wp_idx_loc (g11 _ _) at8, wp_slc_tup, c3, wp_addt (show fs.length + [D.tup [.str "to", .str "eve", u]].length ≤ sizeLine by unfold sizeLine; simp; omega), List.length_set]
    rw [set_app hl9]
    have hl10 : l < (A6 ++ [Ob.lst (hx :: r0)] ++ [Ob.lst fs]).length := by simp; omega
    refine pull_ok K.f16 hl10 (b := 940000000) (h.less (by omega)) (by omega) (by omega) (by omega) fun r5 c m q r50 r51 h => ?_
    obtain ⟨bd, eb, hbd⟩ := at_ok (ds := [.non, .loc (A6 ++ [Ob.lst (hx :: r0)]).length, .tup (fs ++ [.tup [.str "to", .str "eve", u]]), .tup [.tup [.str "below", .tup [.str "any"], .tup [.str "any"]]], .str "ann"]) r50 (by simp; omega)
    have pteu : Pl (.tup [.str "to", .str "eve", u]) := .t3 (.s (by decide)) (.s (by decide)) hu.pl
    have pbel : Pl (.tup [.tup [.str "below", .tup [.str "any"], .tup [.str "any"]]]) := .tup (one_all (.t3 (.s (by decide)) anyK.pl anyK.pl))
    have hbad : BadF ((A6 ++ [Ob.lst (hx :: r0)] ++ [Ob.lst fs]).set l (pOb c m q)) bd := by
      simp only [List.mem_cons, List.not_mem_nil, or_false] at hbd
      rcases hbd with rfl | rfl | rfl | rfl | rfl
      · exact ⟨rfl, fun ds e => (by cases e), rfl⟩
      · exact ⟨by simp [D.und], fun ds e => (by cases e), rfl⟩
      · have pl : Pl (.tup (fs ++ [.tup [.str "to", .str "eve", u]])) := .tup (app_all (fun d hd => (F.fc d hd).pl) (one_all pteu)) (by simp; omega)
        refine ⟨pl.und _, fun ds e => ?_, ?_⟩
        · cases e
          exact ⟨pl, deps_le (app_all (fun d hd => Nat.le_trans (F.fc d hd).dp (by omega)) (one_all (by simp only [D.dep, D.deps, hu.dp]; omega)))⟩
        · simp [factsB, factB, ne_to_is]
      · refine ⟨pbel.und _, fun ds e => ?_, below_no⟩
        cases e
        exact ⟨pbel, by simp [D.deps, D.dep]⟩
      · exact ⟨rfl, fun ds e => (by cases e), rfl⟩
    rw [wp_idx_tl eb]
    try simp only [ev_var, ev_glb, ev_isV, ev_cint, ev_cstr, ev_cnon, ev_cbl, ev_tup, ev_lst, ev_dct0, ev_bin, ev_notf, ev_nott, ev_and, ev_or, ev_cmp, ev_chn, ev_ite, ev_call, ev_blt, ev_mth, ev_idx, ev_slc, ev_frc, ev_lc, ev_callk, ev_neg, varX, glX, List.getElem?_cons_succ, List.getElem?_cons_zero, evs, evx, evc, asTf, asTt, wp_bind, wp_pure, wp_ite, if_true, if_false, wp_theB, Bool.not_true, Bool.not_false, Bool.not_not, wp_force, wp_forceT, wp_push, cmpX, Bool.false_eq_true, List.map_cons, List.map_nil, List.replicate, List.cons_append, List.nil_append, List.set_cons_zero, List.set_cons_succ, bindT_nm, bindT2, wipeE, partX, wp_tru_bl, wp_tru_tup, wp_tru_tl, wp_tru_int, wp_tru_non, wp_eq_str, wp_eq_int, wp_eq_bl, wp_lt_int, wp_len_tup, wp_len_tl, wp_items_tup, wp_items_tl, wp_litems_tl, wp_walk_tup, wp_walk_tl, wp_idx_tup (at0 _ _), wp_idx_tup (at1 _ _ _), wp_idx_tup (at2 _ _ _ _), wp_idx_tup (at3 _ _ _ _ _), cut1, decide_eq_true_eq, wp_tuple, wp_list_tup, wp_int, wp_addi, wp_subi, setAll, wp_unpack_tup, isiStr_str, isiTup_tup, isiTl]
    rw [xs_if]
    try simp only [ev_var, ev_glb, ev_isV, ev_cint, ev_cstr, ev_cnon, ev_cbl, ev_tup, ev_lst, ev_dct0, ev_bin, ev_notf, ev_nott, ev_and, ev_or, ev_cmp, ev_chn, ev_ite, ev_call, ev_blt, ev_mth, ev_idx, ev_slc, ev_frc, ev_lc, ev_callk, ev_neg, varX, glX, List.getElem?_cons_succ, List.getElem?_cons_zero, evs, evx, evc, asTf, asTt, wp_bind, wp_pure, wp_ite, if_true, if_false, wp_theB, Bool.not_true, Bool.not_false, Bool.not_not, wp_force, wp_forceT, wp_push, cmpX, Bool.false_eq_true, List.map_cons, List.map_nil, List.replicate, List.cons_append, List.nil_append, List.set_cons_zero, List.set_cons_succ, bindT_nm, bindT2, wipeE, partX, wp_tru_bl, wp_tru_tup, wp_tru_tl, wp_tru_int, wp_tru_non, wp_eq_str, wp_eq_int, wp_eq_bl, wp_lt_int, wp_len_tup, wp_len_tl, wp_items_tup, wp_items_tl, wp_litems_tl, wp_walk_tup, wp_walk_tl, wp_idx_tup (at0 _ _), wp_idx_tup (at1 _ _ _), wp_idx_tup (at2 _ _ _ _), wp_idx_tup (at3 _ _ _ _ _), cut1, decide_eq_true_eq, wp_tuple, wp_list_tup, wp_int, wp_addi, wp_subi, setAll, wp_unpack_tup, isiStr_str, isiTup_tup, isiTl]
    refine ref_saying K F (hodd _ (by simp)) (by omega) wh ?_
    simp only [ev_var, ev_glb, ev_isV, ev_cint, ev_cstr, ev_cnon, ev_cbl, ev_tup, ev_lst, ev_dct0, ev_bin, ev_notf, ev_nott, ev_and, ev_or, ev_cmp, ev_chn, ev_ite, ev_call, ev_blt, ev_mth, ev_idx, ev_slc, ev_frc, ev_lc, ev_callk, ev_neg, varX, glX, List.getElem?_cons_succ, List.getElem?_cons_zero, evs, evx, evc, asTf, asTt, wp_bind, wp_pure, wp_ite, if_true, if_false, wp_theB, Bool.not_true, Bool.not_false, Bool.not_not, wp_force, wp_forceT, wp_push, cmpX, Bool.false_eq_true, List.map_cons, List.map_nil, List.replicate, List.cons_append, List.nil_append, List.set_cons_zero, List.set_cons_succ, bindT_nm, bindT2, wipeE, partX, wp_tru_bl, wp_tru_tup, wp_tru_tl, wp_tru_int, wp_tru_non, wp_eq_str, wp_eq_int, wp_eq_bl, wp_lt_int, wp_len_tup, wp_len_tl, wp_items_tup, wp_items_tl, wp_litems_tl, wp_walk_tup, wp_walk_tl, wp_idx_tup (at0 _ _), wp_idx_tup (at1 _ _ _), wp_idx_tup (at2 _ _ _ _), wp_idx_tup (at3 _ _ _ _ _), cut1, decide_eq_true_eq, wp_tuple, wp_list_tup, wp_int, wp_addi, wp_subi, setAll, wp_unpack_tup, isiStr_str, isiTup_tup, isiTl, not_true_eq_false, decide_true]
    refine ref_facts K hbad (by omega) wh ?_
    simp only [ev_var, ev_glb, ev_isV, ev_cint, ev_cstr, ev_cnon, ev_cbl, ev_tup, ev_lst, ev_dct0, ev_bin, ev_notf, ev_nott, ev_and, ev_or, ev_cmp, ev_chn, ev_ite, ev_call, ev_blt, ev_mth, ev_idx, ev_slc, ev_frc, ev_lc, ev_callk, ev_neg, varX, glX, List.getElem?_cons_succ, List.getElem?_cons_zero, evs, evx, evc, asTf, asTt, wp_bind, wp_pure, wp_ite, if_true, if_false, wp_theB, Bool.not_true, Bool.not_false, Bool.not_not, wp_force, wp_forceT, wp_push, cmpX, Bool.false_eq_true, List.map_cons, List.map_nil, List.replicate, List.cons_append, List.nil_append, List.set_cons_zero, List.set_cons_succ, bindT_nm, bindT2, wipeE, partX, xs_nil, xs_set, xs_setT, xs_par, xs_sub, xs_exp, xs_if, xs_for, xs_ret, xs_ret0, xs_rai0, xs_pass, seqQ_nx, seqQ_ret, retQ_ret, retQ_nx, wp_tru_bl, wp_tru_tup, wp_tru_tl, wp_tru_int, wp_tru_non, wp_eq_str, wp_eq_int, wp_eq_bl, wp_lt_int, wp_len_tup, wp_len_tl, wp_items_tup, wp_items_tl, wp_litems_tl, wp_walk_tup, wp_walk_tl, wp_idx_tup (at0 _ _), wp_idx_tup (at1 _ _ _), wp_idx_tup (at2 _ _ _ _), wp_idx_tup (at3 _ _ _ _ _), cut1, decide_eq_true_eq, wp_tuple, wp_list_tup, wp_int, wp_addi, wp_subi, setAll, wp_unpack_tup, isiStr_str, isiTup_tup, isiTl, not_true_eq_false, decide_true]
    exact ⟨_, _, _, _, _, _, _, _, _, _, _, _, _, rfl, hds⟩
  · rintro ρ S1 ⟨x1, x2, x3, x4, x5, x6, x7, x8, x9, x10, x11, x12, x13, rfl, hds⟩
    simp only [ev_var, ev_glb, ev_isV, ev_cint, ev_cstr, ev_cnon, ev_cbl, ev_tup, ev_lst, ev_dct0, ev_bin, ev_notf, ev_nott, ev_and, ev_or, ev_cmp, ev_chn, ev_ite, ev_call, ev_blt, ev_mth, ev_idx, ev_slc, ev_frc, ev_lc, ev_callk, ev_neg, varX, glX, List.getElem?_cons_succ, List.getElem?_cons_zero, evs, evx, evc, asTf, asTt, wp_bind, wp_pure, wp_ite, if_true, if_false, wp_theB, Bool.not_true, Bool.not_false, Bool.not_not, wp_force, wp_forceT, wp_push, cmpX, Bool.false_eq_true, List.map_cons, List.map_nil, List.replicate, List.cons_append, List.nil_append, List.set_cons_zero, List.set_cons_succ, bindT_nm, bindT2, wipeE, partX, xs_nil, xs_set, xs_setT, xs_par, xs_sub, xs_exp, xs_if, xs_for, xs_ret, xs_ret0, xs_rai0, xs_pass, seqQ_nx, seqQ_ret, retQ_ret, retQ_nx, wp_tru_bl, wp_tru_tup, wp_tru_tl, wp_tru_int, wp_tru_non, wp_eq_str, wp_eq_int, wp_eq_bl, wp_lt_int, wp_len_tup, wp_len_tl, wp_items_tup, wp_items_tl, wp_litems_tl, wp_walk_tup, wp_walk_tl, wp_idx_tup (at0 _ _), wp_idx_tup (at1 _ _ _), wp_idx_tup (at2 _ _ _ _), wp_idx_tup (at3 _ _ _ _ _), cut1, decide_eq_true_eq, wp_tuple, wp_list_tup, wp_int, wp_addi, wp_subi, setAll, wp_unpack_tup, isiStr_str, isiTup_tup, isiTl]
  · obtain ⟨i, hi, rfl⟩ := List.mem_map.mp hd
    rw [List.mem_range] at hi
    refine ⟨i, rfl, ?_⟩
    have : (if 1 < (if (10 : Int) < ns.length then (10 : Int) else ns.length) then (if (10 : Int) < ns.length then (10 : Int) else ns.length) else 1).toNat ≤ 10 := by repeat' split <;> omega
    omega
end
end Kd
namespace Kd.L
open PySem PySem.Spec PyProof.Rows L2
/-- is_word -/
def f0 : Fn := ⟨1, 2, 
  [.if_ (.or_ (.not_ (.isi (.var 0) .str)) (.not_ (.chn .le .le (.cint 1) (.blt .len [(.var 0)]) (.cint 8))))
    [.ret (.cbl false)]
    [],
  .ret (.blt .all [(.lc (.cmp .in_ (.var 1) (.glb 0)) (.nm 1) .seq [(.var 0)] [] [1])])]⟩
def n0 : List Str := ["value", "char"]
/-- is_kind -/
def f1 : Fn := ⟨1, 2, 
  [.if_ (.or_ (.not_ (.isi (.var 0) .tuple)) (.or_ (.not_ (.var 0)) (.not_ (.isi (.idx (.var 0) (.cint 0)) .str))))
    [.ret (.cbl false)]
    [],
  .if_ (.or_ (.cmp .eq (.idx (.var 0) (.cint 0)) (.cstr "any")) (.cmp .eq (.idx (.var 0) (.cint 0)) (.cstr "none")))
    [.ret (.cmp .eq (.blt .len [(.var 0)]) (.cint 1))]
    [],
  .if_ (.cmp .eq (.idx (.var 0) (.cint 0)) (.cstr "name"))
    [.ret (.and_ (.cmp .eq (.blt .len [(.var 0)]) (.cint 2)) (.call 0 [(.idx (.var 0) (.cint 1))]))]
    [],
  .if_ (.cmp .eq (.idx (.var 0) (.cint 0)) (.cstr "some"))
    [.ret (.and_ (.cmp .eq (.blt .len [(.var 0)]) (.cint 3)) (.and_ (.call 0 [(.idx (.var 0) (.cint 1))]) (.call 1 [(.idx (.var 0) (.cint 2))])))]
    [],
  .if_ (.or_ (.cmp .ne (.idx (.var 0) (.cint 0)) (.cstr "and")) (.or_ (.cmp .ne (.blt .len [(.var 0)]) (.cint 2)) (.or_ (.not_ (.isi (.idx (.var 0) (.cint 1)) .tuple)) (.cmp .lt (.blt .len [(.idx (.var 0) (.cint 1))]) (.cint 2)))))
    [.ret (.cbl false)]
    [],
  .ret (.blt .all [(.lc (.call 1 [(.var 1)]) (.nm 1) .seq [(.idx (.var 0) (.cint 1))] [] [1])])]⟩
def n1 : List Str := ["value", "kind"]
/-- is_saying -/
def f2 : Fn := ⟨1, 2, 
  [.if_ (.or_ (.not_ (.isi (.var 0) .tuple)) (.or_ (.not_ (.var 0)) (.not_ (.isi (.idx (.var 0) (.cint 0)) .str))))
    [.ret (.cbl false)]
    [],
  .if_ (.cmp .eq (.idx (.var 0) (.cint 0)) (.cstr "below"))
    [.ret (.and_ (.cmp .eq (.blt .len [(.var 0)]) (.cint 3)) (.and_ (.call 1 [(.idx (.var 0) (.cint 1))]) (.call 1 [(.idx (.var 0) (.cint 2))])))]
    [],
  .if_ (.cmp .eq (.idx (.var 0) (.cint 0)) (.cstr "role"))
    [.ret (.and_ (.cmp .eq (.blt .len [(.var 0)]) (.cint 3)) (.and_ (.call 0 [(.idx (.var 0) (.cint 1))]) (.call 0 [(.idx (.var 0) (.cint 2))])))]
    [],
  .ret (.and_ (.cmp .eq (.idx (.var 0) (.cint 0)) (.cstr "chain")) (.and_ (.cmp .eq (.blt .len [(.var 0)]) (.cint 4)) (.blt .all [(.lc (.call 0 [(.var 1)]) (.nm 1) .seq [(.slc (.var 0) [(.cint 1)] [])] [] [1])])))]⟩
def n2 : List Str := ["value", "word"]
/-- is_fact -/
def f3 : Fn := ⟨1, 2, 
  [.if_ (.or_ (.not_ (.isi (.var 0) .tuple)) (.or_ (.not_ (.var 0)) (.not_ (.isi (.idx (.var 0) (.cint 0)) .str))))
    [.ret (.cbl false)]
    [],
  .if_ (.cmp .eq (.idx (.var 0) (.cint 0)) (.cstr "is"))
    [.ret (.and_ (.cmp .eq (.blt .len [(.var 0)]) (.cint 3)) (.and_ (.call 0 [(.idx (.var 0) (.cint 1))]) (.call 1 [(.idx (.var 0) (.cint 2))])))]
    [],
  .ret (.and_ (.cmp .eq (.idx (.var 0) (.cint 0)) (.cstr "to")) (.and_ (.cmp .eq (.blt .len [(.var 0)]) (.cint 4)) (.blt .all [(.lc (.call 0 [(.var 1)]) (.nm 1) .seq [(.slc (.var 0) [(.cint 1)] [])] [] [1])])))]⟩
def n3 : List Str := ["value", "word"]
/-- is_facts -/
def f4 : Fn := ⟨1, 2, 
  [.ret (.and_ (.isi (.var 0) .tuple) (.blt .all [(.lc (.call 3 [(.var 1)]) (.nm 1) .seq [(.var 0)] [] [1])]))]⟩
def n4 : List Str := ["value", "fact"]
/-- is_claim -/
def f5 : Fn := ⟨1, 1, 
  [.ret (.or_ (.call 2 [(.var 0)]) (.call 3 [(.var 0)]))]⟩
def n5 : List Str := ["value"]
/-- check_facts -/
def f6 : Fn := ⟨1, 1, 
  [.if_ (.not_ (.call 4 [(.var 0)]))
    [.rai 2 []]
    []]⟩
def n6 : List Str := ["facts"]
/-- check_claim -/
def f7 : Fn := ⟨1, 1, 
  [.if_ (.not_ (.call 5 [(.var 0)]))
    [.rai 1 []]
    []]⟩
def n7 : List Str := ["claim"]
/-- persons_of_claim -/
def f8 : Fn := ⟨1, 1, 
  [.if_ (.cmp .eq (.idx (.var 0) (.cint 0)) (.cstr "is"))
    [.ret (.tup [(.idx (.var 0) (.cint 1))])]
    [],
  .if_ (.cmp .eq (.idx (.var 0) (.cint 0)) (.cstr "to"))
    [.ret (.tup [(.idx (.var 0) (.cint 1)), (.idx (.var 0) (.cint 3))])]
    [],
  .ret (.tup [])]⟩
def n8 : List Str := ["claim"]
/-- persons_in -/
def f9 : Fn := ⟨1, 4, 
  [.set 1 .dct0,
  .for_ (.nm 2) .seq [(.var 0)]
    [.for_ (.nm 3) .seq [(.call 8 [(.var 2)])]
      [.sub (.var 1) (.var 3) (.cbl true)]],
  .ret (.blt .tuple [(.blt .sorted [(.var 1)])])]⟩
def n9 : List Str := ["facts", "found", "fact", "person"]
/-- fresh_persons -/
def f10 : Fn := ⟨1, 4, 
  [.set 1 (.call 9 [(.var 0)]),
  .ret (.slc (.lc (.var 2) (.nm 2) .seq [(.lc (.bin .add (.cstr "n") (.var 3)) (.nm 3) .seq [(.glb 0)] [] [3])] [(.cmp .nin (.var 2) (.var 1))] [2]) [] [(.cint 3)])]⟩
def n10 : List Str := ["facts", "persons", "word", "char"]
/-- asked_facts -/
def f11 : Fn := ⟨2, 7, 
  [.setT [4, 5, 6] (.call 10 [(.var 0)]),
  .if_ (.cmp .eq (.idx (.var 1) (.cint 0)) (.cstr "role"))
    [.ret (.bin .add (.var 0) (.tup [(.tup [(.cstr "to"), (.var 4), (.idx (.var 1) (.cint 1)), (.var 5)])]))]
    [],
  .if_ (.cmp .eq (.idx (.var 1) (.cint 0)) (.cstr "chain"))
    [.ret (.bin .add (.var 0) (.tup [(.tup [(.cstr "to"), (.var 4), (.idx (.var 1) (.cint 1)), (.var 5)]), (.tup [(.cstr "to"), (.var 5), (.idx (.var 1) (.cint 2)), (.var 6)])]))]
    [],
  .set 2 (.lst []),
  .for_ (.nm 3) .seq [(.call 8 [(.var 1)])]
    [.if_ (.and_ (.cmp .nin (.var 3) (.call 9 [(.var 0)])) (.cmp .nin (.tup [(.cstr "is"), (.var 3), (.glb 1)]) (.var 2)))
      [.exp (.mth .append (.var 2) [(.tup [(.cstr "is"), (.var 3), (.glb 1)])])]
      []],
  .ret (.bin .add (.var 0) (.blt .tuple [(.var 2)]))]⟩
def n11 : List Str := ["facts", "claim", "more", "person", "first", "second", "third"]
/-- goal_of -/
def f12 : Fn := ⟨2, 6, 
  [.setT [2, 3, 4] (.lc (.tup [(.cstr "person"), (.var 5)]) (.nm 5) .seq [(.call 10 [(.var 0)])] [] [5]),
  .if_ (.cmp .eq (.idx (.var 1) (.cint 0)) (.cstr "below"))
    [.ret (.var 1)]
    [],
  .if_ (.cmp .eq (.idx (.var 1) (.cint 0)) (.cstr "is"))
    [.ret (.tup [(.cstr "below"), (.tup [(.cstr "person"), (.idx (.var 1) (.cint 1))]), (.idx (.var 1) (.cint 2))])]
    [],
  .if_ (.cmp .eq (.idx (.var 1) (.cint 0)) (.cstr "to"))
    [.ret (.tup [(.cstr "link"), (.tup [(.cstr "person"), (.idx (.var 1) (.cint 1))]), (.idx (.var 1) (.cint 2)), (.tup [(.cstr "person"), (.idx (.var 1) (.cint 3))])])]
    [],
  .if_ (.cmp .eq (.idx (.var 1) (.cint 0)) (.cstr "role"))
    [.ret (.tup [(.cstr "link"), (.var 2), (.idx (.var 1) (.cint 2)), (.var 3)])]
    [],
  .ret (.tup [(.cstr "link"), (.var 2), (.idx (.var 1) (.cint 3)), (.var 4)])]⟩
def n12 : List Str := ["facts", "claim", "first", "second", "third", "word"]
/-- asked -/
def f13 : Fn := ⟨2, 2, 
  [.exp (.call 6 [(.var 0)]),
  .exp (.call 7 [(.var 1)]),
  .ret (.call 11 [(.var 0), (.var 1)])]⟩
def n13 : List Str := ["facts", "claim"]
/-- goal -/
def f14 : Fn := ⟨2, 2, 
  [.exp (.call 6 [(.var 0)]),
  .exp (.call 7 [(.var 1)]),
  .ret (.call 12 [(.var 0), (.var 1)])]⟩
def n14 : List Str := ["facts", "claim"]
/-- _law_pool -/
def f15 : Fn := ⟨2, 6, 
  [.set 2 (.cint 1),
  .for_ (.tp [5, 3]) .enum [(.slc (.var 0) [] [(.cint 63)])]
    [.set 2 (.bin .mod (.blt .int [(.bin .add (.bin .add (.bin .mul (.var 2) (.cint 31)) (.bin .mul (.var 3) (.bin .add (.bin .mul (.cint 2) (.var 5)) (.cint 3)))) (.var 5))]) (.cint 2147483587))],
  .set 3 (.bin .add (.bin .mul (.var 2) (.cint 7)) (.var 1)),
  .if_ (.cmp .lt (.var 1) (.blt .len [(.var 0)]))
    [.set 3 (.blt .abs [(.idx (.var 0) (.var 1))])]
    [],
  .set 4 (.bin .mod (.blt .int [(.bin .add (.bin .add (.bin .add (.bin .mul (.var 3) (.cint 48271)) (.bin .mul (.var 2) (.cint 69621))) (.bin .mul (.var 1) (.cint 7919))) (.cint 5))]) (.cint 2147483647)),
  .if_ (.cmp .lt (.var 3) (.bin .pow (.cint 10) (.cint 18)))
    [.set 3 (.cint 0)]
    [],
  .ret (.lst [(.var 3), (.var 4), (.var 1)])]⟩
def n15 : List Str := ["script", "k", "total", "cell", "mixed", "at"]
/-- _law_pull -/
def f16 : Fn := ⟨2, 3, 
  [.sub (.var 0) (.cint 2) (.bin .add (.idx (.var 0) (.cint 2)) (.cint 1)),
  .if_ (.cmp .gt (.idx (.var 0) (.cint 0)) (.cint 0))
    [.set 2 (.bin .mod (.blt .int [(.idx (.var 0) (.cint 0))]) (.var 1)),
    .sub (.var 0) (.cint 0) (.bin .fdiv (.blt .int [(.idx (.var 0) (.cint 0))]) (.var 1)),
    .ret (.var 2)]
    [],
  .sub (.var 0) (.cint 1) (.bin .mod (.blt .int [(.bin .add (.bin .add (.bin .mul (.idx (.var 0) (.cint 1)) (.cint 16807)) (.bin .mul (.bin .mul (.idx (.var 0) (.cint 2)) (.idx (.var 0) (.cint 2))) (.cint 40692))) (.cint 977))]) (.cint 2147483629)),
  .ret (.bin .mod (.bin .fdiv (.blt .int [(.bin .mod (.bin .mul (.idx (.var 0) (.cint 1)) (.cint 1583458089)) (.cint 2147483587))]) (.cint 11)) (.var 1))]⟩
def n16 : List Str := ["pool", "limit", "drawn"]
/-- _law_same -/
def f17 : Fn := ⟨2, 4, 
  [.if_ (.or_ (.isi (.var 1) .tuple) (.isi (.var 1) .list))
    [.if_ (.or_ (.cmp .ne (.isi (.var 1) .tuple) (.isi (.var 0) .tuple)) (.cmp .ne (.isi (.var 1) .list) (.isi (.var 0) .list)))
      [.ret (.cbl false)]
      [],
    .if_ (.cmp .ne (.blt .len [(.var 0)]) (.blt .len [(.var 1)]))
      [.ret (.cbl false)]
      [],
    .for_ (.tp [2, 3]) .zip [(.var 0), (.var 1)]
      [.if_ (.not_ (.call 17 [(.var 2), (.var 3)]))
        [.ret (.cbl false)]
        []],
    .ret (.cbl true)]
    [],
  .if_ (.cmp .is_ (.var 1) .cnon)
    [.ret (.cmp .is_ (.var 0) .cnon)]
    [],
  .if_ (.isi (.var 1) .bool)
    [.ret (.and_ (.isi (.var 0) .bool) (.cmp .eq (.var 0) (.var 1)))]
    [],
  .if_ (.isi (.var 1) .int)
    [.ret (.and_ (.isi (.var 0) .int) (.and_ (.not_ (.isi (.var 0) .bool)) (.cmp .eq (.var 0) (.var 1))))]
    [],
  .ret (.and_ (.isi (.var 0) .str) (.cmp .eq (.var 0) (.var 1)))]⟩
def n17 : List Str := ["told", "due", "one", "other"]
/-- _law_kind -/
def f18 : Fn := ⟨4, 5, 
  [.set 4 (.call 16 [(.var 0), (.cint 9)]),
  .if_ (.cmp .eq (.var 4) (.cint 0))
    [.ret (.tup [(.cstr "any")])]
    [],
  .if_ (.and_ (.cmp .eq (.var 4) (.cint 1)) (.cmp .eq (.call 16 [(.var 0), (.cint 3)]) (.cint 0)))
    [.ret (.tup [(.cstr "none")])]
    [],
  .if_ (.and_ (.cmp .gt (.var 4) (.cint 5)) (.cmp .gt (.var 3) (.cint 0)))
    [.ret (.tup [(.cstr "some"), (.idx (.var 2) (.call 16 [(.var 0), (.blt .len [(.var 2)])])), (.call 18 [(.var 0), (.var 1), (.var 2), (.bin .sub (.var 3) (.cint 1))])])]
    [],
  .if_ (.and_ (.cmp .gt (.var 4) (.cint 3)) (.cmp .gt (.var 3) (.cint 0)))
    [.ret (.tup [(.cstr "and"), (.tup [(.call 18 [(.var 0), (.var 1), (.var 2), (.cint 0)]), (.call 18 [(.var 0), (.var 1), (.var 2), (.bin .sub (.var 3) (.cint 1))])])])]
    [],
  .ret (.tup [(.cstr "name"), (.idx (.var 1) (.call 16 [(.var 0), (.blt .len [(.var 1)])]))])]⟩
def n18 : List Str := ["pool", "names", "roles", "deep", "choice"]
/-- _law_saying -/
def f19 : Fn := ⟨4, 8, 
  [.set 4 (.call 16 [(.var 0), (.cint 8)]),
  .if_ (.cmp .eq (.var 4) (.cint 0))
    [.ret (.tup [(.cstr "role"), (.idx (.var 2) (.call 16 [(.var 0), (.blt .len [(.var 2)])])), (.idx (.var 2) (.call 16 [(.var 0), (.blt .len [(.var 2)])]))])]
    [],
  .if_ (.cmp .eq (.var 4) (.cint 1))
    [.ret (.bin .add (.tup [(.cstr "chain")]) (.blt .tuple [(.lc (.idx (.var 2) (.call 16 [(.var 0), (.blt .len [(.var 2)])])) (.nm 7) .range [(.cint 3)] [] [7])]))]
    [],
  .set 5 (.call 18 [(.var 0), (.var 1), (.var 2), (.var 3)]),
  .if_ (.cmp .lt (.var 4) (.cint 5))
    [.set 5 (.tup [(.cstr "name"), (.idx (.var 1) (.call 16 [(.var 0), (.blt .len [(.var 1)])]))])]
    [],
  .set 6 (.call 18 [(.var 0), (.var 1), (.var 2), (.var 3)]),
  .if_ (.and_ (.cmp .eq (.var 6) (.tup [(.cstr "none")])) (.cmp .eq (.call 16 [(.var 0), (.cint 2)]) (.cint 0)))
    [.set 6 (.tup [(.cstr "name"), (.idx (.var 1) (.call 16 [(.var 0), (.blt .len [(.var 1)])]))])]
    [],
  .ret (.tup [(.cstr "below"), (.var 5), (.var 6)])]⟩
def n19 : List Str := ["pool", "names", "roles", "deep", "choice", "left", "right", "k"]
/-- _law_fact -/
def f20 : Fn := ⟨5, 6, 
  [.set 5 (.idx (.var 3) (.call 16 [(.var 0), (.blt .len [(.var 3)])])),
  .if_ (.cmp .eq (.call 16 [(.var 0), (.cint 2)]) (.cint 0))
    [.ret (.tup [(.cstr "is"), (.var 5), (.call 18 [(.var 0), (.var 1), (.var 2), (.var 4)])])]
    [],
  .ret (.tup [(.cstr "to"), (.var 5), (.idx (.var 2) (.call 16 [(.var 0), (.blt .len [(.var 2)])])), (.idx (.var 3) (.call 16 [(.var 0), (.blt .len [(.var 3)])]))])]⟩
def n20 : List Str := ["pool", "names", "roles", "persons", "deep", "one"]
/-- _law_words -/
def f21 : Fn := ⟨1, 4, 
  [.set 1 (.idx (.lst [(.lst [(.cstr "a"), (.cstr "b"), (.cstr "c")]), (.lst [(.cstr "nurse"), (.cstr "carer"), (.cstr "robot"), (.cstr "a")]), (.lst [(.cstr "x"), (.cstr "y")])]) (.call 16 [(.var 0), (.cint 3)])),
  .set 2 (.idx (.lst [(.lst [(.cstr "r"), (.cstr "s")]), (.lst [(.cstr "child"), (.cstr "kin"), (.cstr "part")]), (.lst [(.cstr "r")])]) (.call 16 [(.var 0), (.cint 3)])),
  .set 3 (.idx (.lst [(.lst [(.cstr "ann"), (.cstr "bob")]), (.lst [(.cstr "p"), (.cstr "q"), (.cstr "na")]), (.lst [(.cstr "nb"), (.cstr "na"), (.cstr "nc"), (.cstr "ann")])]) (.call 16 [(.var 0), (.cint 3)])),
  .ret (.tup [(.var 1), (.var 2), (.var 3)])]⟩
def n21 : List Str := ["pool", "names", "roles", "persons"]
/-- _law_parts -/
def f22 : Fn := ⟨1, 3, 
  [.set 1 (.lst [(.var 0)]),
  .if_ (.cmp .eq (.idx (.var 0) (.cint 0)) (.cstr "and"))
    [.for_ (.nm 2) .seq [(.idx (.var 0) (.cint 1))]
      [.set 1 (.bin .add (.var 1) (.call 22 [(.var 2)]))]]
    [],
  .if_ (.cmp .eq (.idx (.var 0) (.cint 0)) (.cstr "some"))
    [.set 1 (.bin .add (.var 1) (.call 22 [(.idx (.var 0) (.cint 2))]))]
    [],
  .ret (.var 1)]⟩
def n22 : List Str := ["kind", "found", "part"]
/-- _law_kinds_in -/
def f23 : Fn := ⟨3, 7, 
  [.set 3 (.lst [(.tup [(.cstr "any")]), (.tup [(.cstr "none")])]),
  .for_ (.nm 4) .seq [(.var 0)]
    [.if_ (.cmp .eq (.idx (.var 4) (.cint 0)) (.cstr "below"))
      [.set 3 (.bin .add (.bin .add (.var 3) (.call 22 [(.idx (.var 4) (.cint 1))])) (.call 22 [(.idx (.var 4) (.cint 2))]))]
      []],
  .for_ (.nm 5) .seq [(.var 1)]
    [.if_ (.cmp .eq (.idx (.var 5) (.cint 0)) (.cstr "is"))
      [.set 3 (.bin .add (.var 3) (.call 22 [(.idx (.var 5) (.cint 2))]))]
      []],
  .for_ (.nm 6) .seq [(.var 2)]
    [.set 3 (.bin .add (.var 3) (.call 22 [(.var 6)]))],
  .ret (.blt .sortset [(.var 3)])]⟩
def n23 : List Str := ["book", "facts", "kinds", "found", "saying", "fact", "kind"]
/-- _law_persons -/
def f24 : Fn := ⟨1, 3, 
  [.set 1 (.lst []),
  .for_ (.nm 2) .seq [(.var 0)]
    [.exp (.mth .append (.var 1) [(.idx (.var 2) (.cint 1))]),
    .if_ (.cmp .eq (.idx (.var 2) (.cint 0)) (.cstr "to"))
      [.exp (.mth .append (.var 1) [(.idx (.var 2) (.cint 3))])]
      []],
  .ret (.blt .sortset [(.var 1)])]⟩
def n24 : List Str := ["facts", "found", "fact"]
/-- _law_fresh -/
def f25 : Fn := ⟨1, 4, 
  [.set 1 (.call 24 [(.var 0)]),
  .ret (.slc (.lc (.var 2) (.nm 2) .seq [(.lc (.bin .add (.cstr "n") (.var 3)) (.nm 3) .seq [(.cstr "abcdefghijklmnopqrstuvwxyz")] [] [3])] [(.cmp .nin (.var 2) (.var 1))] [2]) [] [(.cint 3)])]⟩
def n25 : List Str := ["facts", "persons", "word", "sign"]
/-- _law_asked -/
def f26 : Fn := ⟨2, 7, 
  [.setT [4, 5, 6] (.call 25 [(.var 0)]),
  .if_ (.cmp .eq (.idx (.var 1) (.cint 0)) (.cstr "below"))
    [.ret (.var 0)]
    [],
  .if_ (.cmp .eq (.idx (.var 1) (.cint 0)) (.cstr "role"))
    [.ret (.bin .add (.var 0) (.tup [(.tup [(.cstr "to"), (.var 4), (.idx (.var 1) (.cint 1)), (.var 5)])]))]
    [],
  .if_ (.cmp .eq (.idx (.var 1) (.cint 0)) (.cstr "chain"))
    [.ret (.bin .add (.var 0) (.tup [(.tup [(.cstr "to"), (.var 4), (.idx (.var 1) (.cint 1)), (.var 5)]), (.tup [(.cstr "to"), (.var 5), (.idx (.var 1) (.cint 2)), (.var 6)])]))]
    [],
  .set 2 (.var 0),
  .for_ (.nm 3) .seq [(.bin .add (.lst [(.idx (.var 1) (.cint 1))]) (.ite (.cmp .eq (.idx (.var 1) (.cint 0)) (.cstr "to")) (.lst [(.idx (.var 1) (.cint 3))]) (.lst [])))]
    [.if_ (.cmp .nin (.var 3) (.call 24 [(.var 2)]))
      [.set 2 (.bin .add (.var 2) (.tup [(.tup [(.cstr "is"), (.var 3), (.tup [(.cstr "any")])])]))]
      []],
  .ret (.var 2)]⟩
def n26 : List Str := ["facts", "claim", "found", "word", "x", "y", "z"]
/-- _law_goal -/
def f27 : Fn := ⟨2, 5, 
  [.setT [2, 3, 4] (.call 25 [(.var 0)]),
  .if_ (.cmp .eq (.idx (.var 1) (.cint 0)) (.cstr "below"))
    [.ret (.var 1)]
    [],
  .if_ (.cmp .eq (.idx (.var 1) (.cint 0)) (.cstr "is"))
    [.ret (.tup [(.cstr "below"), (.tup [(.cstr "person"), (.idx (.var 1) (.cint 1))]), (.idx (.var 1) (.cint 2))])]
    [],
  .if_ (.cmp .eq (.idx (.var 1) (.cint 0)) (.cstr "to"))
    [.ret (.tup [(.cstr "link"), (.tup [(.cstr "person"), (.idx (.var 1) (.cint 1))]), (.idx (.var 1) (.cint 2)), (.tup [(.cstr "person"), (.idx (.var 1) (.cint 3))])])]
    [],
  .if_ (.cmp .eq (.idx (.var 1) (.cint 0)) (.cstr "role"))
    [.ret (.tup [(.cstr "link"), (.tup [(.cstr "person"), (.var 2)]), (.idx (.var 1) (.cint 2)), (.tup [(.cstr "person"), (.var 3)])])]
    [],
  .ret (.tup [(.cstr "link"), (.tup [(.cstr "person"), (.var 2)]), (.idx (.var 1) (.cint 3)), (.tup [(.cstr "person"), (.var 4)])])]⟩
def n27 : List Str := ["facts", "claim", "x", "y", "z"]
/-- _law_refused -/
def f28 : Fn := ⟨3, 4, 
  [.set 3 .cnon,
  .try_ [.set 3 (.ite (.cmp .eq (.var 0) (.cint 0)) (.tup [(.call 13 [(.var 1), (.var 2)])]) (.tup [(.call 14 [(.var 1), (.var 2)])]))] [(2, none), (1, none)] [[.set 3 (.cstr "facts")], [.set 3 (.cstr "saying")]],
  .ret (.var 3)]⟩
def n28 : List Str := ["which", "facts", "claim", "told"]
/-- law -/
def f29 : Fn := ⟨1, 14, 
  [.for_ (.nm 1) .range [(.blt .max [(.cint 1), (.blt .min [(.blt .len [(.var 0)]), (.cint 10)])])]
    [.set 2 (.call 15 [(.var 0), (.var 1)]),
    .setT [10, 11, 12] (.call 21 [(.var 2)]),
    .set 3 (.bin .add (.lc (.bin .add (.cstr "n") (.idx (.cstr "abcdefghijklmnopqrstuvwxyz") (.call 16 [(.var 2), (.cint 7)]))) (.nm 13) .range [(.cint 5)] [] [13]) (.var 12)),
    .set 4 (.blt .tuple [(.lc (.call 20 [(.var 2), (.var 10), (.var 11), (.slc (.var 3) [] [(.cint 6)]), (.cint 2)]) (.nm 13) .range [(.call 16 [(.var 2), (.cint 6)])] [] [13])]),
    .set 5 (.lc (.call 19 [(.var 2), (.var 10), (.var 11), (.cint 2)]) (.nm 13) .range [(.cint 4)] [] [13]),
    .set 5 (.bin .add (.var 5) (.lc (.call 20 [(.var 2), (.var 10), (.var 11), (.bin .add (.var 3) (.lst [(.cstr "eve")])), (.cint 2)]) (.nm 13) .range [(.cint 4)] [] [13])),
    .set 5 (.bin .add (.var 5) (.lst [(.tup [(.cstr "to"), (.cstr "eve"), (.idx (.var 11) (.cint 0)), (.cstr "eve")]), (.tup [(.cstr "role"), (.idx (.var 11) (.cint 0)), (.idx (.var 11) (.neg (.cint 1)))]), (.tup [(.cstr "chain"), (.idx (.var 11) (.cint 0)), (.idx (.var 11) (.neg (.cint 1))), (.idx (.var 11) (.cint 0))])])),
    .for_ (.nm 6) .seq [(.var 5)]
      [.if_ (.not_ (.call 17 [(.call 13 [(.var 4), (.var 6)]), (.call 26 [(.var 4), (.var 6)])]))
        [.ret (.cbl false)]
        [],
      .if_ (.not_ (.call 17 [(.callk 14 [] [(.var 6), (.var 4)] [1, 0]), (.call 27 [(.var 4), (.var 6)])]))
        [.ret (.cbl false)]
        []],
    .set 7 (.call 16 [(.var 2), (.cint 2)]),
    .set 8 (.idx (.lst [.cnon, (.tup []), (.blt .list [(.idx (.var 5) (.cint 0))]), (.slc (.idx (.var 5) (.cint 0)) [(.cint 1)] []), (.tup [(.cstr "is"), (.cstr "ann"), (.cstr "a")]), (.var 5)]) (.call 16 [(.var 2), (.cint 6)])),
    .set 9 (.idx (.lst [.cnon, (.blt .list [(.var 4)]), (.bin .add (.var 4) (.tup [(.slc (.idx (.var 5) (.cint 8)) [] [(.cint 3)])])), (.tup [(.tup [(.cstr "below"), (.tup [(.cstr "any")]), (.tup [(.cstr "any")])])]), (.cstr "ann")]) (.call 16 [(.var 2), (.cint 5)])),
    .if_ (.or_ (.cmp .ne (.call 28 [(.var 7), (.var 4), (.var 8)]) (.cstr "saying")) (.cmp .ne (.call 28 [(.var 7), (.var 9), (.var 8)]) (.cstr "facts")))
      [.ret (.cbl false)]
      []],
  .ret (.cbl true)]⟩
def n29 : List Str := ["script", "k", "pool", "people", "facts", "claims", "claim", "which", "odd", "bad", "names", "roles", "persons", "turn"]
def fns : List Fn := [f0, f1, f2, f3, f4, f5, f6, f7, f8, f9, f10, f11, f12, f13, f14, f15, f16, f17, f18, f19, f20, f21, f22, f23, f24, f25, f26, f27, f28, f29]
def lk : Lk := ⟨[("is_word", 0), ("is_kind", 1), ("is_saying", 2), ("is_fact", 3), ("is_facts", 4), ("is_claim", 5), ("check_facts", 6), ("check_claim", 7), ("persons_of_claim", 8), ("persons_in", 9), ("fresh_persons", 10), ("asked_facts", 11), ("goal_of", 12), ("asked", 13), ("goal", 14), ("_law_pool", 15), ("_law_pull", 16), ("_law_same", 17), ("_law_kind", 18), ("_law_saying", 19), ("_law_fact", 20), ("_law_words", 21), ("_law_parts", 22), ("_law_kinds_in", 23), ("_law_persons", 24), ("_law_fresh", 25), ("_law_asked", 26), ("_law_goal", 27), ("_law_refused", 28), ("law", 29)], [("LETTERS", 0), ("ANY", 1)], [("LoreError", 0), ("InvalidSaying", 1), ("InvalidFacts", 2)], [(14, 0, ["claim", "facts"], [1, 0])]⟩
def tops : List Nat := [6, 9, 11, 13, 14, 15, 16, 17, 18, 19, 20, 21, 22, 23, 24, 26, 27, 28, 29, 30, 31, 32, 33, 34, 35, 36, 37, 38, 39, 40]
def top (i : Nat) : Stmt := PySem.Challenge.pw_kindlore_k11_asked_facts_and_goals.main.body.getD i (.Pass ⟨0, 0, 0, 0⟩)
def di (x : Str) (i : Nat) : DefI := ⟨x, defArgs (top i), defBody (top i), defScope (top i)⟩
theorem c0 : ckF lk (di "is_word" 6) n0 f0 = true := by decide +kernel
theorem c1 : ckF lk (di "is_kind" 9) n1 f1 = true := by decide +kernel
theorem c2 : ckF lk (di "is_saying" 11) n2 f2 = true := by decide +kernel
theorem c3 : ckF lk (di "is_fact" 13) n3 f3 = true := by decide +kernel
theorem c4 : ckF lk (di "is_facts" 14) n4 f4 = true := by decide +kernel
theorem c5 : ckF lk (di "is_claim" 15) n5 f5 = true := by decide +kernel
theorem c6 : ckF lk (di "check_facts" 16) n6 f6 = true := by decide +kernel
theorem c7 : ckF lk (di "check_claim" 17) n7 f7 = true := by decide +kernel
theorem c8 : ckF lk (di "persons_of_claim" 18) n8 f8 = true := by decide +kernel
theorem c9 : ckF lk (di "persons_in" 19) n9 f9 = true := by decide +kernel
theorem c10 : ckF lk (di "fresh_persons" 20) n10 f10 = true := by decide +kernel
theorem c11 : ckF lk (di "asked_facts" 21) n11 f11 = true := by decide +kernel
theorem c12 : ckF lk (di "goal_of" 22) n12 f12 = true := by decide +kernel
theorem c13 : ckF lk (di "asked" 23) n13 f13 = true := by decide +kernel
theorem c14 : ckF lk (di "goal" 24) n14 f14 = true := by decide +kernel
theorem c15 : ckF lk (di "_law_pool" 26) n15 f15 = true := by decide +kernel
theorem c16 : ckF lk (di "_law_pull" 27) n16 f16 = true := by decide +kernel
theorem c17 : ckF lk (di "_law_same" 28) n17 f17 = true := by decide +kernel
theorem c18 : ckF lk (di "_law_kind" 29) n18 f18 = true := by decide +kernel
theorem c19 : ckF lk (di "_law_saying" 30) n19 f19 = true := by decide +kernel
theorem c20 : ckF lk (di "_law_fact" 31) n20 f20 = true := by decide +kernel
theorem c21 : ckF lk (di "_law_words" 32) n21 f21 = true := by decide +kernel
theorem c22 : ckF lk (di "_law_parts" 33) n22 f22 = true := by decide +kernel
theorem c23 : ckF lk (di "_law_kinds_in" 34) n23 f23 = true := by decide +kernel
theorem c24 : ckF lk (di "_law_persons" 35) n24 f24 = true := by decide +kernel
theorem c25 : ckF lk (di "_law_fresh" 36) n25 f25 = true := by decide +kernel
theorem c26 : ckF lk (di "_law_asked" 37) n26 f26 = true := by decide +kernel
theorem c27 : ckF lk (di "_law_goal" 38) n27 f27 = true := by decide +kernel
theorem c28 : ckF lk (di "_law_refused" 39) n28 f28 = true := by decide +kernel
theorem c29 : ckF lk (di "law" 40) n29 f29 = true := by decide +kernel
end Kd.L
namespace Kd.L
open PySem PySem.Spec PyProof.Rows L2
theorem b0 : BdOk (di "is_word" 6) := fun _ _ _ _ _ _ us hl => match us, hl with | [_], _ => rfl
theorem b1 : BdOk (di "is_kind" 9) := fun _ _ _ _ _ _ us hl => match us, hl with | [_], _ => rfl
theorem b2 : BdOk (di "is_saying" 11) := fun _ _ _ _ _ _ us hl => match us, hl with | [_], _ => rfl
theorem b3 : BdOk (di "is_fact" 13) := fun _ _ _ _ _ _ us hl => match us, hl with | [_], _ => rfl
theorem b4 : BdOk (di "is_facts" 14) := fun _ _ _ _ _ _ us hl => match us, hl with | [_], _ => rfl
theorem b5 : BdOk (di "is_claim" 15) := fun _ _ _ _ _ _ us hl => match us, hl with | [_], _ => rfl
theorem b6 : BdOk (di "check_facts" 16) := fun _ _ _ _ _ _ us hl => match us, hl with | [_], _ => rfl
theorem b7 : BdOk (di "check_claim" 17) := fun _ _ _ _ _ _ us hl => match us, hl with | [_], _ => rfl
theorem b8 : BdOk (di "persons_of_claim" 18) := fun _ _ _ _ _ _ us hl => match us, hl with | [_], _ => rfl
theorem b9 : BdOk (di "persons_in" 19) := fun _ _ _ _ _ _ us hl => match us, hl with | [_], _ => rfl
theorem b10 : BdOk (di "fresh_persons" 20) := fun _ _ _ _ _ _ us hl => match us, hl with | [_], _ => rfl
theorem b11 : BdOk (di "asked_facts" 21) := fun _ _ _ _ _ _ us hl => match us, hl with | [_, _], _ => rfl
theorem b12 : BdOk (di "goal_of" 22) := fun _ _ _ _ _ _ us hl => match us, hl with | [_, _], _ => rfl
theorem b13 : BdOk (di "asked" 23) := fun _ _ _ _ _ _ us hl => match us, hl with | [_, _], _ => rfl
theorem b14 : BdOk (di "goal" 24) := fun _ _ _ _ _ _ us hl => match us, hl with | [_, _], _ => rfl
theorem b15 : BdOk (di "_law_pool" 26) := fun _ _ _ _ _ _ us hl => match us, hl with | [_, _], _ => rfl
theorem b16 : BdOk (di "_law_pull" 27) := fun _ _ _ _ _ _ us hl => match us, hl with | [_, _], _ => rfl
theorem b17 : BdOk (di "_law_same" 28) := fun _ _ _ _ _ _ us hl => match us, hl with | [_, _], _ => rfl
theorem b18 : BdOk (di "_law_kind" 29) := fun _ _ _ _ _ _ us hl => match us, hl with | [_, _, _, _], _ => rfl
theorem b19 : BdOk (di "_law_saying" 30) := fun _ _ _ _ _ _ us hl => match us, hl with | [_, _, _, _], _ => rfl
theorem b20 : BdOk (di "_law_fact" 31) := fun _ _ _ _ _ _ us hl => match us, hl with | [_, _, _, _, _], _ => rfl
theorem b21 : BdOk (di "_law_words" 32) := fun _ _ _ _ _ _ us hl => match us, hl with | [_], _ => rfl
theorem b22 : BdOk (di "_law_parts" 33) := fun _ _ _ _ _ _ us hl => match us, hl with | [_], _ => rfl
theorem b23 : BdOk (di "_law_kinds_in" 34) := fun _ _ _ _ _ _ us hl => match us, hl with | [_, _, _], _ => rfl
theorem b24 : BdOk (di "_law_persons" 35) := fun _ _ _ _ _ _ us hl => match us, hl with | [_], _ => rfl
theorem b25 : BdOk (di "_law_fresh" 36) := fun _ _ _ _ _ _ us hl => match us, hl with | [_], _ => rfl
theorem b26 : BdOk (di "_law_asked" 37) := fun _ _ _ _ _ _ us hl => match us, hl with | [_, _], _ => rfl
theorem b27 : BdOk (di "_law_goal" 38) := fun _ _ _ _ _ _ us hl => match us, hl with | [_, _], _ => rfl
theorem b28 : BdOk (di "_law_refused" 39) := fun _ _ _ _ _ _ us hl => match us, hl with | [_, _, _], _ => rfl
theorem b29 : BdOk (di "law" 40) := fun _ _ _ _ _ _ us hl => match us, hl with | [_], _ => rfl
def mo : Mo := ⟨[di "is_word" 6, di "is_kind" 9, di "is_saying" 11, di "is_fact" 13, di "is_facts" 14, di "is_claim" 15, di "check_facts" 16, di "check_claim" 17, di "persons_of_claim" 18, di "persons_in" 19, di "fresh_persons" 20, di "asked_facts" 21, di "goal_of" 22, di "asked" 23, di "goal" 24, di "_law_pool" 26, di "_law_pull" 27, di "_law_same" 28, di "_law_kind" 29, di "_law_saying" 30, di "_law_fact" 31, di "_law_words" 32, di "_law_parts" 33, di "_law_kinds_in" 34, di "_law_persons" 35, di "_law_fresh" 36, di "_law_asked" 37, di "_law_goal" 38, di "_law_refused" 39, di "law" 40], ["LoreError", "InvalidSaying", "InvalidFacts"], [[true, false, false], [true, true, false], [true, false, true]], [("LETTERS", .str "abcdefghijklmnopqrstuvwxyz"), ("ANY", .tup [.str "any"])]⟩
theorem ck : CkAll lk mo.ds fns := .cons _ c0 b0 (.cons _ c1 b1 (.cons _ c2 b2 (.cons _ c3 b3 (.cons _ c4 b4 (.cons _ c5 b5 (.cons _ c6 b6 (.cons _ c7 b7 (.cons _ c8 b8 (.cons _ c9 b9 (.cons _ c10 b10 (.cons _ c11 b11 (.cons _ c12 b12 (.cons _ c13 b13 (.cons _ c14 b14 (.cons _ c15 b15 (.cons _ c16 b16 (.cons _ c17 b17 (.cons _ c18 b18 (.cons _ c19 b19 (.cons _ c20 b20 (.cons _ c21 b21 (.cons _ c22 b22 (.cons _ c23 b23 (.cons _ c24 b24 (.cons _ c25 b25 (.cons _ c26 b26 (.cons _ c27 b27 (.cons _ c28 b28 (.cons _ c29 b29 (.nil))))))))))))))))))))))))))))))
theorem kw0 : BkOk (di "goal" 24) 0 ["claim", "facts"] [1, 0] := ⟨rfl, by decide, fun _ _ _ _ _ _ us ws hl hw => match us, ws, hl, hw with | [], [_, _], _, _ => rfl⟩
theorem kwAll : ∀ q ∈ lk.kws, ∃ d, mo.ds[q.1]? = some d ∧ BkOk d q.2.1 q.2.2.1 q.2.2.2 := by
  intro q hq
  simp only [lk, List.mem_cons, List.not_mem_nil, or_false] at hq
  subst hq
  exact ⟨_, rfl, kw0⟩
theorem lok : lkOk mo lk = true := by decide +kernel
abbrev R : PySem.W.OpenRow := PySem.W.OpenLaw.row PySem.Challenge.rw_kindlore_k11_asked_facts_and_goals
abbrev hk : PySem.W.Hook := hookK 4 mo.fa mo.fn mo.ex
def ob (s : PySem.W.SharedT) : AlK := obsK 4 mo.fa mo.fn mo.ex (HandSHeadRun.getT s)
theorem ob_eq (s : PySem.W.SharedT) : ob s = hk.obs s.abs := obsK_eq (HandSHeadRun.getT_eq s)
def loose : List Str := (["LoreError", "InvalidSaying", "InvalidFacts", "is_word", "is_kind", "is_saying", "is_fact", "is_facts", "is_claim", "check_facts", "check_claim", "persons_of_claim"] : List Str) ++ (["persons_in", "fresh_persons", "asked_facts", "goal_of", "asked", "goal", "_law_pool", "_law_pull", "_law_same", "_law_kind", "_law_saying", "_law_fact"] : List Str) ++ (["_law_words", "_law_parts", "_law_kinds_in", "_law_persons", "_law_fresh", "_law_asked", "_law_goal", "_law_refused", "LETTERS", "ANY"] : List Str)
theorem run (w : World) : HandSHeadRun.RunEq R (PySem.W.view R.prog [40]) hk ob 1600 loose w := by
  intro os
  kernel_rfl
end Kd.L
open PySem PySem.W PySem.Calls PyProof.Rows
theorem mathK : ∀ ns : List Int, ns.length ≤ 63 → (∀ z ∈ ns, PySem.Builtin.Int.intBits z ≤ 1048576) → ∃ S, (Kd.L.mo.prg Kd.L.fns).call 60 29 [.rol ns] [] = .ok (.bl true) S := fun ns hl hb => by
  have K : Kd.K11 (Kd.L.mo.prg Kd.L.fns) := ⟨⟨⟨rfl, rfl, rfl, rfl, rfl⟩, rfl, rfl, rfl, rfl⟩, rfl, rfl, rfl, rfl, rfl, rfl, rfl, rfl, rfl, rfl, rfl, rfl, rfl, rfl, rfl, rfl, rfl, rfl, rfl, rfl, rfl, ⟨rfl, rfl, rfl⟩⟩
  obtain ⟨d, S, e, hd⟩ := Kd.wp_ok (Kd.law11_ok K hl hb (S := []) (k := 60) (by omega))
  exact ⟨S, by rw [e, hd]⟩
theorem PySem.Challenge.cw_kindlore_k11_asked_facts_and_goals_holds : PySem.Challenge.rw_kindlore_k11_asked_facts_and_goals.Holds := by
  w_on; o_law
  refine HandSHeadRun.head_any (r := OpenLaw.row PySem.Challenge.rw_kindlore_k11_asked_facts_and_goals) (q := view (OpenLaw.row PySem.Challenge.rw_kindlore_k11_asked_facts_and_goals).prog [40]) (H := Kd.L.hk) (ob := Kd.L.ob) (M := 1600) (loose := Kd.L.loose) (d := HandSHeadRun.topDef (OpenLaw.row PySem.Challenge.rw_kindlore_k11_asked_facts_and_goals).prog 40) (kwd := []) Kd.L.ob_eq
    (by kernel_rfl) (fun s => by kernel_rfl) Kd.L.run (by kernel_rfl) (by kernel_rfl) (by kernel_rfl) (by rfl) (by first | assumption | decide +kernel) (by decide +kernel) ⟨rfl, rfl, rfl, rfl, rfl, by decide +kernel⟩ ?hw ?hc
  case hw => w_witness2
  case hc =>
    exact Kd.walk_K (l := PySem.Challenge.rw_kindlore_k11_asked_facts_and_goals) (n := 63) (k := 60) (nh := 4) (i := 29) (L := Kd.L.lk) (fs := Kd.L.fns) (x := "script") rfl (by decide) (by kernel_rfl) ⟨rfl, by decide, by decide⟩ (by kernel_rfl) (by kernel_rfl) Kd.L.lok Kd.L.ck Kd.L.kwAll mathK
